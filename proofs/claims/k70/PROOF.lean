import PyProof.Rows.All
import PyProof.StrBlock2
import Wide.All
import Wide.FinOn
import OpenK.AllK
import HandS.ForMost
import HandS.ForExc
import HandS.IsInst
import HandS.Deep
import HandS.Conv
import HandS.Walk
import KE.KDictKeyed
import HandS.Style
import HandS.Zip
import HandS.TupAny
import HandS.Text
import HandS.WordsExc
import HandS.TryOnly
import HandS.ExcIs
import HandS.ExcValue
import HandS.HeadHook1
import HandS.HeadHook2
import KE.KDictZip
import HandS.Strs
import HandS.ExcInit
import HandS.ExcField
import KE.DataCmp
import KE.SortData
import KE.KEqDict
import KE.KDictWalk
import KE.KDictCopyH
import KE.KDictDisplayH
import HandS.MapSum
import HandS.TupMul
import KE.KDictItemsList
import HandS.ListItems
import KE.KDictPairs
import HandS.Rev
import HandS.TupLen
import HandS.More
import HandS.DictEq
import HandS.SetFor
import KE.GoesRev
import KE.GoesEnum
import PySem.Challenge.RW_pickruns_k70_put_behind
import KE.KStateDown
import Lean
import HandS.Head0
import HandS.Head1
import HandS.Head2
import HandS.HeadEnd
import HandS.HeadNt
section
set_option Elab.async false
set_option linter.all false
set_option maxRecDepth 100000
namespace Pk
open PySem PySem.Spec PyProof.Rows L2
/-- what the layer leans on: the pinned objects and the world (the hashes of texts) -/
structure Kw where
  K : PySem.W.Frag
  w : World
instance : CoeOut Kw PySem.W.Frag := ⟨Kw.K⟩

abbrev Le (F H : Hp) : Prop := ∀ a o, F a = some o → H a = some o
theorem Le.rfl' {F : Hp} : Le F F := fun _ _ h => h
theorem Le.tr {F G H : Hp} (a : Le F G) (b : Le G H) : Le F H := fun x o h => b x o (a x o h)
theorem Le.nn {F H : Hp} (e : Le F H) {a : Addr} (h : H a = none) : F a = none := by
  cases q : F a with
  | none => rfl
  | some o => rw [e a o q] at h; cases h
theorem Le.new {F H : Hp} (e : Le F H) {p : Addr} {o : HO} (h : F p = none) : Le F (upd H p o) := fun a u q => by
  rw [upd_ne (ne_of_none q h)]; exact e a u q
theorem Le.both {F H : Hp} (e : Le F H) {p : Addr} {o : HO} : Le (upd F p o) (upd H p o) := fun a u q => by
  by_cases hp : a = p
  · subst hp; rw [upd_same] at q ⊢; exact q
  · rw [upd_ne hp] at q ⊢; exact e a u q
theorem Le.up {F : Hp} {p : Addr} {o : HO} (h : F p = none) : Le F (upd F p o) := Le.new Le.rfl' h
theorem Le.lay {F H : Hp} (e : Le F H) {p : Addr} {o : HO} (h : H p = some o) : Le (upd F p o) H := fun a u q => by
  by_cases hp : a = p
  · subst hp; rw [upd_same] at q; rw [← q]; exact h
  · rw [upd_ne hp] at q; exact e a u q

theorem sqT_le {K : PySem.W.Frag} {F F' : Hp} {a : Addr} {xs : List V} (e : Le F F') (h : SqT K F a xs) : SqT K F' a xs := by
  rcases h with (h | ⟨o, h⟩) | h
  · exact .inl (.inl (e _ _ h))
  · exact .inl (.inr ⟨o, e _ _ h⟩)
  · exact .inr h
/-- flat dicts as data -/
def kD : Key → PyData
  | .inl i => .int i
  | .inr x => .str x
def vD : V → PyData
  | .int i => .int i
  | .str x => .str x
  | .bl b => .bool b
  | .non => .none
  | _ => .list []
def kvD (p : Key × V) : PyData × PyData := (kD p.1, vD p.2)
def flD : PyData → Bool
  | .none => true
  | .bool _ => true
  | .int _ => true
  | .str _ => true
  | _ => false
def isMk : List (PyData × PyData) → Bool
  | (.none, .none) :: _ => true
  | (.none, .bool true) :: _ => true
  | (.none, .bool false) :: _ => true
  | _ => false
def flatDs (ds : List (PyData × PyData)) : Bool := isMk ds || ds.all fun z => flD z.2
/-- the entries of a dict with tuple keys -/
abbrev NEs := List (NestedKey × Addr × V)
def nEntry (w : World) (x : NestedKey × Addr × Value) : DictEntry := ⟨x.1.hash w, .ref x.2.1, x.2.2⟩
/-- a dict whose keys are tuples, nested or not -/
def dN (w : World) (a : Addr) (ep : Nat) (kvs : NEs) : HO := .ext fun h => kvs.length ≤ sizeLine ∧ (a == sysModules) = false ∧ (∀ x ∈ kvs, x.1.depth ≤ 8) ∧ ∃ xs : List (NestedKey × Addr × Value),
  Paired (fun (p : NestedKey × Addr × V) (q : NestedKey × Addr × Value) => p.1 = q.1 ∧ p.2.1 = q.2.1 ∧ RelV p.2.2 q.2.2) kvs xs ∧
  ∃ o es, h.get? a = some o ∧ o.ExactDict ∧ o.data = .dict es ep ∧ es.toList = xs.map (nEntry w) ∧ (xs.map (·.1)).Nodup
abbrev NDs := List (NestedKey × PyData)
abbrev dictN (ds : NDs) : PyData := .dict ((.none, .none) :: ds.map fun x => (x.1.data, x.2))
/-- a dict whose keys are numbers and texts -/
def dF (w : World) (a : Addr) (ep : Nat) (kvs : List (Key × V)) : HO := .ext fun h => kvs.length ≤ sizeLine ∧ (a == sysModules) = false ∧ ∃ vs : List (Key × Value), KV kvs vs ∧ ∃ P : Program,
  ∃ o es, h.get? a = some o ∧ o.ExactDict ∧ o.data = .dict es ep ∧ KeysOf (mixKind P w) es ∧ Pairs (mixKind P w) es.toList vs ∧ (vs.map (·.1)).Nodup
/-- such a dict as data -/
abbrev FDs := List (Key × PyData)
abbrev dictF (fs : FDs) : PyData := .dict ((.none, .bool true) :: fs.map fun x => (kD x.1, x.2))
/-- a list whose address is told -/
abbrev listAt (a : Addr) (ds : List PyData) : PyData := .dict [(.none, .bool false), (.int a, .list ds)]
mutual
inductive Rp (K : Kw) (F : Hp) : V → PyData → Prop
  | non : Rp K F .non .none
  | bl (b : Bool) : Rp K F (.bl b) (.bool b)
  | int (i : Int) : Rp K F (.int i) (.int i)
  | str (x : Str) : Rp K F (.str x) (.str x)
  | lst {a : Addr} {xs : List V} {ds : List PyData} : F a = some (.lst xs) → RpA K F xs ds → Rp K F (.ref a) (.list ds)
  | tup {a : Addr} {xs : List V} {ds : List PyData} : SqT K F a xs → RpA K F xs ds → Rp K F (.ref a) (.tuple ds)
  /-- a dict: what is in it is told where that is flat -/
  | dct {a : Addr} {kvs : List (Key × V)} {ds : List (PyData × PyData)} : F a = some (.dK kvs) → (flatDs ds = true → kvs.map kvD = ds) → Rp K F (.ref a) (.dict ds)
  /-- a dict with tuple keys -/
  | dcn {a : Addr} {ep : Nat} {es : NEs} {ds : NDs} : F a = some (dN K.w a ep es) → RpD K F es ds → Rp K F (.ref a) (.dict ((.none, .none) :: ds.map fun x => (x.1.data, x.2)))
  /-- a dict with numbers and texts as keys -/
  | dcf {a : Addr} {ep : Nat} {kvs : List (Key × V)} {fs : FDs} : F a = some (dF K.w a ep kvs) → kvs.map (·.1) = fs.map (·.1) → RpA K F (kvs.map (·.2)) (fs.map (·.2)) → Rp K F (.ref a) (.dict ((.none, .bool true) :: fs.map fun x => (kD x.1, x.2)))
  /-- a list, its address told -/
  | lid {a : Addr} {xs : List V} {ds : List PyData} : F a = some (.lst xs) → RpA K F xs ds → Rp K F (.ref a) (.dict [(.none, .bool false), (.int a, .list ds)])
inductive RpA (K : Kw) (F : Hp) : List V → List PyData → Prop
  | nil : RpA K F [] []
  | cons {v : V} {vs : List V} {d : PyData} {ds : List PyData} : Rp K F v d → RpA K F vs ds → RpA K F (v :: vs) (d :: ds)
inductive RpD (K : Kw) (F : Hp) : NEs → NDs → Prop
  | nil : RpD K F [] []
  | cons {k : NestedKey} {b : Addr} {v : V} {d : PyData} {es : NEs} {ds : NDs} : Rp K F (.ref b) k.data → Rp K F v d → RpD K F es ds → RpD K F ((k, b, v) :: es) ((k, d) :: ds)
end
section
variable {K : Kw} {F F' H : Hp}
theorem Rp.le (e : Le F F') (d : PyData) {v : V} (h : Rp K F v d) : Rp K F' v d :=
  Rp.rec (motive_1 := fun v d _ => Rp K F' v d) (motive_2 := fun vs ds _ => RpA K F' vs ds) (motive_3 := fun es ds _ => RpD K F' es ds) .non .bl .int .str (fun h _ ih => .lst (e _ _ h) ih) (fun h _ ih => .tup (sqT_le e h) ih) (fun h t => .dct (e _ _ h) t) (fun h _ ih => .dcn (e _ _ h) ih) (fun h k _ ih => .dcf (e _ _ h) k ih) (fun h _ ih => .lid (e _ _ h) ih) .nil (fun _ _ a b => .cons a b) .nil (fun _ _ _ a b c => .cons a b c) h
theorem RpA.le (e : Le F F') (ds : List PyData) {vs : List V} (h : RpA K F vs ds) : RpA K F' vs ds :=
  RpA.rec (motive_1 := fun v d _ => Rp K F' v d) (motive_2 := fun vs ds _ => RpA K F' vs ds) (motive_3 := fun es ds _ => RpD K F' es ds) .non .bl .int .str (fun h _ ih => .lst (e _ _ h) ih) (fun h _ ih => .tup (sqT_le e h) ih) (fun h t => .dct (e _ _ h) t) (fun h _ ih => .dcn (e _ _ h) ih) (fun h k _ ih => .dcf (e _ _ h) k ih) (fun h _ ih => .lid (e _ _ h) ih) .nil (fun _ _ a b => .cons a b) .nil (fun _ _ _ a b c => .cons a b c) h
theorem RpD.mono {es : NEs} {ds : NDs} (h : RpD K F es ds) (e : Le F F') : RpD K F' es ds :=
  RpD.rec (motive_1 := fun v d _ => Rp K F' v d) (motive_2 := fun vs ds _ => RpA K F' vs ds) (motive_3 := fun es ds _ => RpD K F' es ds) .non .bl .int .str (fun h _ ih => .lst (e _ _ h) ih) (fun h _ ih => .tup (sqT_le e h) ih) (fun h t => .dct (e _ _ h) t) (fun h _ ih => .dcn (e _ _ h) ih) (fun h k _ ih => .dcf (e _ _ h) k ih) (fun h _ ih => .lid (e _ _ h) ih) .nil (fun _ _ a b => .cons a b) .nil (fun _ _ _ a b c => .cons a b c) h
theorem Rp.dict_inv {v : V} {ds : List (PyData × PyData)} (h : Rp K F v (.dict ds)) : (∃ a kvs, v = .ref a ∧ F a = some (.dK kvs) ∧ (flatDs ds = true → kvs.map kvD = ds)) ∨ (∃ a ep es ds', v = .ref a ∧ ds = (.none, .none) :: ds'.map (fun x => (x.1.data, x.2)) ∧ F a = some (dN K.w a ep es) ∧ RpD K F es ds') ∨ (∃ a ep kvs, ∃ fs : FDs, v = .ref a ∧ ds = (.none, .bool true) :: fs.map (fun x => (kD x.1, x.2)) ∧ F a = some (dF K.w a ep kvs) ∧ kvs.map (·.1) = fs.map (·.1) ∧ RpA K F (kvs.map (·.2)) (fs.map (·.2))) ∨ ∃ a xs es, v = .ref a ∧ ds = [(.none, .bool false), (.int a, .list es)] ∧ F a = some (.lst xs) ∧ RpA K F xs es := by
  cases h with
  | dct a t => exact .inl ⟨_, _, rfl, a, t⟩
  | dcn a r => exact .inr (.inl ⟨_, _, _, _, rfl, rfl, a, r⟩)
  | dcf a k r => exact .inr (.inr (.inl ⟨_, _, _, _, rfl, rfl, a, k, r⟩))
  | lid a r => exact .inr (.inr (.inr ⟨_, _, _, rfl, rfl, a, r⟩))
theorem Rp.mono {v : V} {d : PyData} (h : Rp K F v d) (e : Le F F') : Rp K F' v d := Rp.le e d h
theorem RpA.mono {vs : List V} {ds : List PyData} (h : RpA K F vs ds) (e : Le F F') : RpA K F' vs ds := RpA.le e ds h
mutual
theorem Rp.dp : ∀ (d : PyData) {v : V}, d.canLay0 = true → Rp K F v d → Dp K F v d
  | .none, _, _, h => by cases h; exact .non
  | .bool _, _, _, h => by cases h; exact .bl _
  | .int _, _, _, h => by cases h; exact .int _
  | .str _, _, _, h => by cases h; exact .str _
  | .list ds, _, c, h => by
    cases h with
    | lst a b => exact .lst (SqL.of a) (RpA.dp ds (by simpa [PyData.canLay0] using c) b)
  | .tuple ds, _, c, h => by
    cases h with
    | tup a b => exact .tup a (RpA.dp ds (by simpa [PyData.canLay0] using c) b)
  | .dict _, _, c, _ => by simp [PyData.canLay0] at c
theorem RpA.dp : ∀ (ds : List PyData) {vs : List V}, PyData.canLayAll0 ds = true → RpA K F vs ds → DpAll K F vs ds
  | [], _, _, h => by cases h; exact .nil
  | d :: ds, _, c, h => by
    have c' : d.canLay0 = true ∧ PyData.canLayAll0 ds = true := by simpa [PyData.canLayAll0] using c
    cases h with
    | cons a b => exact .cons (Rp.dp d c'.1 a) (RpA.dp ds c'.2 b)
end
theorem RpA.length : ∀ {vs : List V} {ds : List PyData}, RpA K F vs ds → vs.length = ds.length
  | [], [], _ => rfl
  | _ :: _, [], h => by cases h
  | [], _ :: _, h => by cases h
  | _ :: vs, _ :: ds, h => by
    cases h with
    | cons _ b => simp [RpA.length b]
theorem RpA.get : ∀ {vs : List V} {ds : List PyData} {i : Nat} {d : PyData}, RpA K F vs ds → ds[i]? = some d → ∃ v, vs[i]? = some v ∧ Rp K F v d
  | [], [], i, d, _, e => by simp at e
  | _ :: _, [], _, _, h, _ => by cases h
  | [], _ :: _, _, _, h, _ => by cases h
  | v :: vs, x :: ds, 0, d, h, e => by
    cases h with
    | cons a b => simp at e; subst e; exact ⟨v, rfl, a⟩
  | v :: vs, x :: ds, i + 1, d, h, e => by
    cases h with
    | cons a b =>
      obtain ⟨u, h1, h2⟩ := RpA.get (i := i) (d := d) b (by simpa using e)
      exact ⟨u, by simpa using h1, h2⟩
theorem RpA.getV : ∀ {vs : List V} {ds : List PyData} {i : Nat} {v : V}, RpA K F vs ds → vs[i]? = some v → ∃ d, ds[i]? = some d ∧ Rp K F v d
  | [], [], i, d, _, e => by simp at e
  | _ :: _, [], _, _, h, _ => by cases h
  | [], _ :: _, _, _, h, _ => by cases h
  | v :: vs, x :: ds, 0, d, h, e => by
    cases h with
    | cons a b => simp at e; subst e; exact ⟨x, rfl, a⟩
  | v :: vs, x :: ds, i + 1, d, h, e => by
    cases h with
    | cons a b =>
      obtain ⟨u, h1, h2⟩ := RpA.getV (i := i) (v := d) b (by simpa using e)
      exact ⟨u, by simpa using h1, h2⟩
theorem RpA.append : ∀ {vs us : List V} {ds es : List PyData}, RpA K F vs ds → RpA K F us es → RpA K F (vs ++ us) (ds ++ es)
  | [], _, [], _, _, h => h
  | _ :: _, _, [], _, h, _ => by cases h
  | [], _, _ :: _, _, h, _ => by cases h
  | _ :: _, _, _ :: _, _, h, k => by
    cases h with
    | cons a b => exact .cons a (RpA.append b k)
theorem RpA.take : ∀ {vs : List V} {ds : List PyData} (n : Nat), RpA K F vs ds → RpA K F (vs.take n) (ds.take n)
  | [], [], n, _ => by simp; exact .nil
  | _ :: _, [], _, h => by cases h
  | [], _ :: _, _, h => by cases h
  | _ :: _, _ :: _, 0, _ => .nil
  | _ :: _, _ :: _, n + 1, h => by
    cases h with
    | cons a b => exact .cons a (RpA.take n b)
theorem RpA.drop : ∀ {vs : List V} {ds : List PyData} (n : Nat), RpA K F vs ds → RpA K F (vs.drop n) (ds.drop n)
  | [], [], n, _ => by simp; exact .nil
  | _ :: _, [], _, h => by cases h
  | [], _ :: _, _, h => by cases h
  | _ :: _, _ :: _, 0, h => h
  | _ :: _, _ :: _, n + 1, h => by
    cases h with
    | cons a b => exact RpA.drop n b
theorem RpA.set : ∀ {vs : List V} {ds : List PyData} {v : V} {d : PyData} (n : Nat), RpA K F vs ds → Rp K F v d → RpA K F (vs.set n v) (ds.set n d)
  | [], [], _, _, n, _, _ => by simp; exact .nil
  | _ :: _, [], _, _, _, h, _ => by cases h
  | [], _ :: _, _, _, _, h, _ => by cases h
  | _ :: _, _ :: _, _, _, 0, h, k => by
    cases h with
    | cons a b => exact .cons k b
  | _ :: _, _ :: _, _, _, n + 1, h, k => by
    cases h with
    | cons a b => exact .cons a (RpA.set n b k)
theorem RpA.reverse : ∀ {vs : List V} {ds : List PyData}, RpA K F vs ds → RpA K F vs.reverse ds.reverse
  | [], [], _ => .nil
  | _ :: _, [], h => by cases h
  | [], _ :: _, h => by cases h
  | _ :: _, _ :: _, h => by
    cases h with
    | cons a b => simp only [List.reverse_cons]; exact (RpA.reverse b).append (.cons a .nil)
theorem RpA.one {v : V} {d : PyData} (h : Rp K F v d) : RpA K F [v] [d] := .cons h .nil
/-- a scalar stands in any heap -/
def flat : PyData → Bool
  | .none => true | .bool _ => true | .int _ => true | .str _ => true | _ => false
theorem Rp.flat {v : V} {d : PyData} (h : Rp K F v d) (f : flat d = true) : Rp K F' v d := by
  cases h with
  | non => exact .non
  | bl b => exact .bl b
  | int i => exact .int i
  | str x => exact .str x
  | lst _ _ => cases f
  | tup _ _ => cases f
  | dct _ _ => cases f
  | dcn _ _ => cases f
  | dcf _ _ _ => cases f
  | lid _ _ => cases f
end

mutual
def lf : PyData → Bool
  | .list _ => false
  | .dict _ => false
  | .tuple xs => lfA xs
  | _ => true
def lfA : List PyData → Bool
  | [] => true
  | x :: xs => lf x && lfA xs
end
def TupLe (K : PySem.W.Frag) (F F' : Hp) : Prop := (∀ a xs, SqT K F a xs → SqT K F' a xs) ∧ ∀ a fs, F a = some (.xd fs) → F' a = some (.xd fs)
theorem Le.tup {K : PySem.W.Frag} {F F' : Hp} (e : Le F F') : TupLe K F F' := ⟨fun _ _ h => sqT_le e h, fun a _ h => e a _ h⟩
section
variable {K : Kw} {F F' : Hp}
mutual
theorem Rp.lfree (e : TupLe K F F') : ∀ (d : PyData) {v : V}, lf d = true → Rp K F v d → Rp K F' v d
  | .none, _, _, h => by cases h; exact .non
  | .bool _, _, _, h => by cases h; exact .bl _
  | .int _, _, _, h => by cases h; exact .int _
  | .str _, _, _, h => by cases h; exact .str _
  | .list ds, _, z, h => by simp [lf] at z
  | .tuple ds, _, z, h => by
    cases h with
    | tup a b => exact .tup (e.1 _ _ a) (RpA.lfree e ds (by simpa [lf] using z) b)
  | .dict _, _, z, h => by simp [lf] at z
theorem RpA.lfree (e : TupLe K F F') : ∀ (ds : List PyData) {vs : List V}, lfA ds = true → RpA K F vs ds → RpA K F' vs ds
  | [], _, _, h => by cases h; exact .nil
  | d :: ds, _, z, h => by
    have z' : lf d = true ∧ lfA ds = true := by simpa [lfA] using z
    cases h with
    | cons a b => exact .cons (Rp.lfree e d z'.1 a) (RpA.lfree e ds z'.2 b)
end
end
open Classical in
/-- F without the lists of N -/
noncomputable def cutN (N : Addr → Prop) (F : Hp) : Hp := fun a => match F a with
  | some (.lst xs) => if N a then none else some (.lst xs)
  | o => o
theorem cutN_le (N : Addr → Prop) (F : Hp) : Le (cutN N F) F := fun a o h => by
  unfold cutN at h
  split at h
  · rename_i xs e
    split at h
    · cases h
    · rw [e]; exact h
  · exact h
theorem cutN_at {N : Addr → Prop} {F : Hp} {a : Addr} (h : ¬ N a) : cutN N F a = F a := by
  unfold cutN
  split
  · rename_i xs e
    rw [if_neg h, e]
  · rfl
theorem cutN_lst {N : Addr → Prop} {F : Hp} {a : Addr} {xs : List V} (h : cutN N F a = some (.lst xs)) : ¬ N a ∧ F a = some (.lst xs) := by
  refine ⟨fun n => ?_, cutN_le N F a _ h⟩
  have e := cutN_le N F a _ h
  unfold cutN at h
  rw [e] at h
  simp [n] at h
theorem cutN_mono {N N' : Addr → Prop} {F F' : Hp} (hN : ∀ a, N' a → N a) (e : Le F F') : Le (cutN N F) (cutN N' F') := fun a o h => by
  cases o with
  | lst xs =>
    obtain ⟨n, q⟩ := cutN_lst h
    rw [cutN_at fun z => n (hN a z)]
    exact e _ _ q
  | _ =>
    have q := e _ _ (cutN_le N F a _ h)
    unfold cutN
    rw [q]
theorem cutN_tup {K : PySem.W.Frag} {N : Addr → Prop} {F : Hp} : TupLe K F (cutN N F) := by
  refine ⟨fun a xs h => ?_, fun a fs h => by unfold cutN; rw [h]⟩
  rcases h with (h | ⟨o, h⟩) | h
  · refine .inl (.inl ?_)
    unfold cutN
    rw [h]
  · refine .inl (.inr ⟨o, ?_⟩)
    unfold cutN
    rw [h]
  · exact .inr h

/-- what a def's environment leans on: the heap at the entry, what of it is frozen, what of it may be changed -/
structure Bs where
  K : Kw
  F0 : Hp
  H0 : Hp
  S0 : Addr → Prop
  N : Addr → Prop
def Bs.own (X : Bs) (a : Addr) : Prop := X.H0 a = none ∨ X.S0 a
/-- the frozen part, all of it, or without the lists that stood before -/
noncomputable def Bs.ff (X : Bs) (F : Hp) : Bool → Hp
  | true => cutN X.N F
  | false => F
theorem Bs.ff_le (X : Bs) (F : Hp) (m : Bool) : Le (X.ff F m) F := by
  cases m with
  | true => exact cutN_le X.N F
  | false => exact Le.rfl'
theorem Bs.ff_mono {X : Bs} {F F' : Hp} (e : Le F F') (m : Bool) : Le (X.ff F m) (X.ff F' m) := by
  cases m with
  | true => exact cutN_mono (fun _ h => h) e
  | false => exact e
theorem Bs.ff_at {X : Bs} {F : Hp} {m : Bool} {a : Addr} (h : ¬ X.N a) : X.ff F m a = F a := by
  cases m with
  | true => exact cutN_at h
  | false => rfl
theorem Bs.ff_tup {X : Bs} {F : Hp} {m : Bool} {K : PySem.W.Frag} : TupLe K F (X.ff F m) := by
  cases m with
  | true => exact cutN_tup
  | false => exact ⟨fun _ _ h => h, fun _ _ h => h⟩
/-- another's new is new to me -/
theorem Bs.ff_to {X X' : Bs} {F : Hp} (hN : ∀ a, X'.N a → X.N a) (m : Bool) : Le (X.ff F m) (X'.ff F m) := by
  cases m with
  | true => exact cutN_mono hN Le.rfl'
  | false => exact Le.rfl'
open Classical in
/-- F with what stands in H at S -/
noncomputable def lay (S : Addr → Prop) (H F : Hp) : Hp := fun a => if S a then H a else F a
/-- what may be of one's own -/
def Mo : HO → Bool
  | .lst _ => true
  | .ext _ => true
  | _ => false
/-- a thing of one's own that may change, by what holds of it; vw: as which data it may be read -/
structure Own where
  K : Kw
  p : Hp → Hp → V → (Addr → Prop) → Prop
  vw : Option PyData
  keep : ∀ {F F' H H' : Hp} {v : V} {S : Addr → Prop}, p F H v S → Le F F' → (∀ a, S a → H' a = H a) → p F' H' v S
  /-- what is read as no data bears the loss of frozen lists -/
  keepT : vw = none → ∀ {F F' H H' : Hp} {v : V} {S : Addr → Prop}, p F H v S → TupLe K F F' → (∀ a, S a → H' a = H a) → p F' H' v S
  view : ∀ {F H : Hp} {v : V} {S : Addr → Prop} {d : PyData}, Le F H → p F H v S → vw = some d → Rp K (lay S H F) v d ∧ ∀ a, S a → ∃ o, H a = some o ∧ Mo o = true
inductive Sl where
  | no
  | dat (m : Bool) (d : PyData)
  | ml (m : Bool) (l : Addr) (ds : List PyData)
  | ex (v : V) (Φ : Own)
def SlOk (X : Bs) (F H : Hp) (ov : Option V) (S : Addr → Prop) : Sl → Prop
  | .no => ∀ a, ¬ S a
  | .dat m d => (∃ v, ov = some v ∧ Rp X.K (X.ff F m) v d) ∧ ∀ a, ¬ S a
  | .ml m l ds => ∃ xs, ov = some (.ref l) ∧ (∀ a, S a ↔ a = l) ∧ H l = some (.lst xs) ∧ RpA X.K (X.ff F m) xs ds ∧ (m = true → ¬ X.N l)
  | .ex v Φ => ov = some v ∧ Φ.K = X.K ∧ Φ.p F H v S
theorem SlOk.mono {X : Bs} {F F' H H' : Hp} {ov : Option V} {S : Addr → Prop} : ∀ {s : Sl}, SlOk X F H ov S s → Le F F' → (∀ a, S a → H' a = H a) → SlOk X F' H' ov S s
  | .no, h, _, _ => h
  | .dat m _, ⟨⟨v, e, r⟩, n⟩, le, _ => ⟨⟨v, e, r.mono (Bs.ff_mono le m)⟩, n⟩
  | .ml m l ds, ⟨xs, e, hS, hl, r, nl⟩, le, k => ⟨xs, e, hS, (k l ((hS l).mpr rfl)).trans hl, r.mono (Bs.ff_mono le m), nl⟩
  | .ex _ Φ, ⟨e, hk, q⟩, le, k => ⟨e, hk, Φ.keep q le k⟩
/-- the same over another base -/
theorem SlOk.to {X X' : Bs} {F H : Hp} {ov : Option V} {S : Addr → Prop} (hK : X.K = X'.K) (hN : ∀ a, X'.N a → X.N a) : ∀ {s : Sl}, SlOk X F H ov S s → SlOk X' F H ov S s
  | .no, h => h
  | .dat m _, ⟨⟨v, e, r⟩, n⟩ => ⟨⟨v, e, by rw [← hK]; exact r.mono (Bs.ff_to hN m)⟩, n⟩
  | .ml m l ds, ⟨xs, e, hS, hl, r, nl⟩ => ⟨xs, e, hS, hl, by rw [← hK]; exact r.mono (Bs.ff_to hN m), fun z n => nl z (hN l n)⟩
  | .ex _ Φ, ⟨e, hk, q⟩ => ⟨e, hk.trans hK, q⟩
structure En (X : Bs) (F H : Hp) (σ : L2.St) (Γ : List Sl) : Prop where
  le : Le F H
  len : σ.length = Γ.length
  sl : ∃ S : Nat → Addr → Prop, (∀ i s, Γ[i]? = some s → SlOk X F H (σ.getD i none) (S i) s) ∧ (∀ i j a, S i a → S j a → i = j) ∧ (∀ i a, S i a → F a = none ∧ H a ≠ none ∧ X.own a)
  fr : ∀ a o, X.H0 a = some o → ¬ X.S0 a → H a = some o ∧ F a = X.F0 a
  f0 : Le X.F0 F
  nn : ∀ a, X.N a → H a ≠ none
section
variable {X : Bs} {F F' H H' : Hp} {σ : L2.St} {Γ : List Sl}
theorem En.ownN (E : En X F H σ Γ) {p : Addr} (h : H p = none) : X.own p := by
  by_cases hs : X.S0 p
  · exact .inr hs
  · refine .inl ?_
    cases q : X.H0 p with
    | none => rfl
    | some o => rw [(E.fr p o q hs).1] at h; cases h
theorem En.dat (E : En X F H σ Γ) {i : Nat} {m : Bool} {d : PyData} (h : Γ[i]? = some (.dat m d)) : ∃ v, σ[i]? = some (some v) ∧ Rp X.K (X.ff F m) v d := by
  obtain ⟨S, hs, _⟩ := E.sl
  obtain ⟨⟨v, e, r⟩, _⟩ := hs i _ h
  refine ⟨v, ?_, r⟩
  have hi : i < σ.length := by rw [E.len]; exact (List.getElem?_eq_some_iff.mp h).1
  simp only [List.getD_eq_getElem?_getD, List.getElem?_eq_getElem hi, Option.getD_some] at e
  rw [List.getElem?_eq_getElem hi, e]
theorem En.at {i : Nat} {s : Sl} {v : V} (E : En X F H σ Γ) (h : Γ[i]? = some s) (e : σ.getD i none = some v) : σ[i]? = some (some v) := by
  have hi : i < σ.length := by rw [E.len]; exact (List.getElem?_eq_some_iff.mp h).1
  simp only [List.getD_eq_getElem?_getD, List.getElem?_eq_getElem hi, Option.getD_some] at e
  rw [List.getElem?_eq_getElem hi, e]
theorem En.ml (E : En X F H σ Γ) {i : Nat} {m : Bool} {l : Addr} {ds : List PyData} (h : Γ[i]? = some (.ml m l ds)) : ∃ xs, σ[i]? = some (some (.ref l)) ∧ H l = some (.lst xs) ∧ F l = none ∧ RpA X.K (X.ff F m) xs ds := by
  obtain ⟨S, hs, _, ho⟩ := E.sl
  obtain ⟨xs, e, hS, hl, r, _⟩ := hs i _ h
  exact ⟨xs, E.at h e, hl, (ho i l ((hS l).mpr rfl)).1, r⟩
theorem En.ex (E : En X F H σ Γ) {i : Nat} {v : V} {Φ : Own} (h : Γ[i]? = some (.ex v Φ)) : σ[i]? = some (some v) := by
  obtain ⟨S, hs, _⟩ := E.sl
  obtain ⟨e, _⟩ := hs i _ h
  exact E.at h e
/-- more is frozen, what stands apart may change -/
theorem En.grow (E : En X F H σ Γ) (lf : Le F F') (le : Le F' H') (hh : ∀ a o, H a = some o → H' a = some o) (hn : ∀ a o, H a = some o → F' a = F a) : En X F' H' σ Γ := by
  have hnn : ∀ a, X.N a → H' a ≠ none := fun a n => by
    cases q : H a with
    | none => exact absurd q (E.nn a n)
    | some o => rw [hh a o q]; simp
  obtain ⟨S, hs, hd, ho⟩ := E.sl
  refine ⟨le, E.len, ⟨S, fun i s e => (hs i s e).mono lf fun a sa => ?_, hd, fun i a sa => ?_⟩, fun a o e n => ?_, E.f0.tr lf, hnn⟩
  · obtain ⟨_, h1, _⟩ := ho i a sa
    cases q : H a with
    | none => exact absurd q h1
    | some o => exact hh a o q
  · obtain ⟨h0, h1, h2⟩ := ho i a sa
    cases q : H a with
    | none => exact absurd q h1
    | some o => exact ⟨(hn a o q).trans h0, by rw [hh a o q]; simp, h2⟩
  · obtain ⟨h1, h2⟩ := E.fr a o e n
    exact ⟨hh a o h1, (hn a o h1).trans h2⟩
/-- a new frozen object -/
theorem En.alloc (E : En X F H σ Γ) {p : Addr} {o : HO} (h : H p = none) : En X (upd F p o) (upd H p o) σ Γ :=
  E.grow (Le.up (E.le.nn h)) E.le.both (fun a u q => by rw [upd_ne (ne_of_none q h)]; exact q) (fun a u q => by rw [upd_ne (ne_of_none q h)])
/-- a new object that is not frozen, held by nobody -/
theorem En.free (E : En X F H σ Γ) {p : Addr} {o : HO} (h : H p = none) : En X F (upd H p o) σ Γ :=
  E.grow Le.rfl' (E.le.new (E.le.nn h)) (fun a u q => by rw [upd_ne (ne_of_none q h)]; exact q) (fun _ _ _ => rfl)
theorem getD_app {α : Type} {l : List α} {x d : α} {i : Nat} (h : i < l.length) : (l ++ [x]).getD i d = l.getD i d := by
  simp [List.getD_eq_getElem?_getD, List.getElem?_append_left h]
theorem getD_last {α : Type} {l : List α} {x d : α} : (l ++ [x]).getD l.length d = x := by
  simp [List.getD_eq_getElem?_getD]
/-- one more slot, of a new thing or of data -/
theorem En.pushG (E : En X F H σ Γ) {ov : Option V} {s : Sl} {T : Addr → Prop} (lf : Le F F') (le : Le F' H') (hh : ∀ a o, H a = some o → H' a = some o) (hn : ∀ a o, H a = some o → F' a = F a)
    (h : SlOk X F' H' ov T s) (hT : ∀ a, T a → H a = none ∧ F' a = none ∧ H' a ≠ none) : En X F' H' (σ ++ [ov]) (Γ ++ [s]) := by
  have hown : ∀ a, T a → X.own a := fun a ta => E.ownN (hT a ta).1
  have hdis : ∀ (S : Nat → Addr → Prop), (∀ i a, S i a → F a = none ∧ H a ≠ none ∧ X.own a) → ∀ i a, S i a → ¬ T a := fun S ho i a sa ta => (ho i a sa).2.1 (hT a ta).1
  have E' := E.grow lf le hh hn
  obtain ⟨S, hs, hdj, ho⟩ := E.sl
  have hkeep : ∀ i a, S i a → F' a = none ∧ H' a ≠ none ∧ X.own a := fun i a sa => by
    obtain ⟨h0, h1, h2⟩ := ho i a sa
    cases q : H a with
    | none => exact absurd q h1
    | some o => exact ⟨(hn a o q).trans h0, by rw [hh a o q]; simp, h2⟩
  have hs' : ∀ i s, Γ[i]? = some s → SlOk X F' H' (σ.getD i none) (S i) s := fun i s e => (hs i s e).mono lf fun a sa => by
    obtain ⟨_, h1, _⟩ := ho i a sa
    cases q : H a with
    | none => exact absurd q h1
    | some o => exact hh a o q
  refine ⟨E'.le, by simp [E.len], ⟨fun i a => (i < Γ.length ∧ S i a) ∨ (i = Γ.length ∧ T a), fun i u e => ?_, fun i j a h1 h2 => ?_, fun i a h1 => ?_⟩, E'.fr, E'.f0, E'.nn⟩
  · have hi : i < (Γ ++ [s]).length := (List.getElem?_eq_some_iff.mp e).1
    simp only [List.length_append, List.length_cons, List.length_nil] at hi
    by_cases hlt : i < Γ.length
    · rw [List.getElem?_append_left hlt] at e
      rw [getD_app (by rw [E.len]; exact hlt)]
      have eS : (fun a => (i < Γ.length ∧ S i a) ∨ (i = Γ.length ∧ T a)) = S i := by
        funext a
        apply propext
        constructor
        · rintro (⟨_, q⟩ | ⟨q, _⟩)
          · exact q
          · omega
        · intro q; exact .inl ⟨hlt, q⟩
      show SlOk X F' H' _ (fun a => (i < Γ.length ∧ S i a) ∨ (i = Γ.length ∧ T a)) u
      rw [eS]
      exact hs' i u e
    · have hie : i = Γ.length := by omega
      subst hie
      simp at e; subst e
      have eS : (fun a => (Γ.length < Γ.length ∧ S Γ.length a) ∨ (Γ.length = Γ.length ∧ T a)) = T := by
        funext a
        apply propext
        constructor
        · rintro (⟨q, _⟩ | ⟨_, q⟩)
          · omega
          · exact q
        · intro q; exact .inr ⟨rfl, q⟩
      show SlOk X F' H' _ (fun a => (Γ.length < Γ.length ∧ S Γ.length a) ∨ (Γ.length = Γ.length ∧ T a)) s
      rw [eS, ← E.len, getD_last]
      exact h
  · rcases h1 with ⟨a1, b1⟩ | ⟨a1, b1⟩ <;> rcases h2 with ⟨a2, b2⟩ | ⟨a2, b2⟩
    · exact hdj i j a b1 b2
    · exact absurd b2 (hdis S ho i a b1)
    · exact absurd b1 (hdis S ho j a b2)
    · omega
  · rcases h1 with ⟨a1, b1⟩ | ⟨a1, b1⟩
    · exact hkeep i a b1
    · exact ⟨(hT a b1).2.1, (hT a b1).2.2, hown a b1⟩
theorem En.noN (E : En X F H σ Γ) {p : Addr} (h : H p = none) : ¬ X.N p := fun n => E.nn p n h
theorem En.pushD (E : En X F H σ Γ) {v : V} {m : Bool} {d : PyData} (r : Rp X.K (X.ff F m) v d) : En X F H (σ ++ [some v]) (Γ ++ [.dat m d]) :=
  E.pushG (T := fun _ => False) Le.rfl' E.le (fun _ _ q => q) (fun _ _ _ => rfl) ⟨⟨v, rfl, r⟩, fun _ z => z⟩ (fun _ z => z.elim)
/-- a new list of one's own -/
theorem En.pushM (E : En X F H σ Γ) {p : Addr} {xs : List V} {m : Bool} {ds : List PyData} (h : H p = none) (r : RpA X.K (X.ff F m) xs ds) : En X F (upd H p (.lst xs)) (σ ++ [some (.ref p)]) (Γ ++ [.ml m p ds]) :=
  E.pushG (T := fun a => a = p) Le.rfl' (E.le.new (E.le.nn h)) (fun a u q => by rw [upd_ne (ne_of_none q h)]; exact q) (fun _ _ _ => rfl)
    ⟨xs, rfl, fun _ => Iff.rfl, upd_same, r, fun _ => E.noN h⟩ (fun a e => by subst e; exact ⟨h, E.le.nn h, by rw [upd_same]; simp⟩)
theorem En.drop {ov : Option V} {s : Sl} (E : En X F H (σ ++ [ov]) (Γ ++ [s])) : En X F H σ Γ := by
  have hl : σ.length = Γ.length := by
    have := E.len
    simp at this
    exact this
  obtain ⟨S, hs, hdj, ho⟩ := E.sl
  refine ⟨E.le, hl, ⟨S, fun i u e => ?_, hdj, ho⟩, E.fr, E.f0, E.nn⟩
  have hi : i < Γ.length := (List.getElem?_eq_some_iff.mp e).1
  have q := hs i u (by rw [List.getElem?_append_left hi]; exact e)
  rw [getD_app (by rw [hl]; exact hi)] at q
  exact q
/-- the value that came last is put into a slot -/
theorem En.put {ov : Option V} {s : Sl} (E : En X F H (σ ++ [ov]) (Γ ++ [s])) (i : Nat) : En X F H (σ.set i ov) (Γ.set i s) := by
  have hl : σ.length = Γ.length := by
    have := E.len
    simp at this
    exact this
  obtain ⟨S, hs, hdj, ho⟩ := E.sl
  by_cases hi : i < Γ.length
  · refine ⟨E.le, by simp [hl], ⟨fun j a => if j = i then S Γ.length a else if j = Γ.length then False else S j a, fun j u e => ?_, fun j k a h1 h2 => ?_, fun j a h1 => ?_⟩, E.fr, E.f0, E.nn⟩
    · by_cases hj : j = i
      · subst hj
        rw [List.getElem?_set_self hi] at e
        cases e
        have q := hs Γ.length s (by simp)
        rw [← hl, getD_last, hl] at q
        have : (σ.set j ov).getD j none = ov := by simp [List.getD_eq_getElem?_getD, hl, hi]
        rw [this]
        simpa using q
      · rw [List.getElem?_set_ne (Ne.symm hj)] at e
        have hj' : j < Γ.length := (List.getElem?_eq_some_iff.mp e).1
        have q := hs j u (by rw [List.getElem?_append_left hj']; exact e)
        rw [getD_app (by rw [hl]; exact hj')] at q
        have : (σ.set i ov).getD j none = σ.getD j none := by simp [List.getD_eq_getElem?_getD, List.getElem?_set_ne (Ne.symm hj)]
        rw [this]
        have hne : j ≠ Γ.length := by omega
        simpa [hj, hne] using q
    · by_cases a1 : j = i
      · by_cases a2 : k = i
        · omega
        · simp only [if_pos a1, if_neg a2] at h1 h2
          by_cases a3 : k = Γ.length
          · simp [a3] at h2
          · simp only [if_neg a3] at h2
            have := hdj _ _ _ h1 h2
            omega
      · simp only [if_neg a1] at h1
        by_cases a4 : j = Γ.length
        · simp [a4] at h1
        · simp only [if_neg a4] at h1
          by_cases a2 : k = i
          · simp only [if_pos a2] at h2
            have := hdj _ _ _ h1 h2
            omega
          · simp only [if_neg a2] at h2
            by_cases a3 : k = Γ.length
            · simp [a3] at h2
            · simp only [if_neg a3] at h2
              exact hdj _ _ _ h1 h2
    · by_cases a1 : j = i
      · simp only [if_pos a1] at h1; exact ho _ a h1
      · simp only [if_neg a1] at h1
        by_cases a4 : j = Γ.length
        · simp [a4] at h1
        · simp only [if_neg a4] at h1; exact ho _ a h1
  · have e1 : σ.set i ov = σ := List.set_eq_of_length_le (by omega)
    have e2 : Γ.set i s = Γ := List.set_eq_of_length_le (by omega)
    rw [e1, e2]
    exact E.drop
/-- a slot is told otherwise, over the same addresses (or fewer) -/
theorem En.retell (E : En X F H σ Γ) (lf : Le F F') (le : Le F' H) (hf : ∀ a o, X.H0 a = some o → ¬ X.S0 a → F' a = F a) {i : Nat} {s s' : Sl} (hi : Γ[i]? = some s)
    (h : ∀ S : Addr → Prop, (∀ a, S a → F a = none ∧ H a ≠ none) → SlOk X F H (σ.getD i none) S s → ∃ S' : Addr → Prop, SlOk X F' H (σ.getD i none) S' s' ∧ (∀ a, S' a → S a ∧ F' a = none) ∧ ∀ a, F' a ≠ F a → S a) : En X F' H σ (Γ.set i s') := by
  obtain ⟨S, hs, hdj, ho⟩ := E.sl
  have hil : i < Γ.length := (List.getElem?_eq_some_iff.mp hi).1
  obtain ⟨S', q, hsub, hch⟩ := h (S i) (fun a sa => ⟨(ho i a sa).1, (ho i a sa).2.1⟩) (hs i s hi)
  have hother : ∀ j a, j ≠ i → S j a → F' a = F a := fun j a hj sa => by
    by_cases e : F' a = F a
    · exact e
    · exact absurd (hdj j i a sa (hch a e)) hj
  refine ⟨le, by simp [E.len], ⟨fun j a => if j = i then S' a else S j a, fun j u e => ?_, fun j k a h1 h2 => ?_, fun j a h1 => ?_⟩, fun a o e n => ?_, E.f0.tr lf, E.nn⟩
  · by_cases hj : j = i
    · subst hj
      rw [List.getElem?_set_self hil] at e
      cases e
      simpa using q
    · rw [List.getElem?_set_ne (Ne.symm hj)] at e
      have := (hs j u e).mono lf (H' := H) fun _ _ => rfl
      simpa [hj] using this
  · by_cases a1 : j = i <;> by_cases a2 : k = i
    · omega
    · simp only [if_pos a1, if_neg a2] at h1 h2
      have := hdj _ _ _ (hsub a h1).1 h2
      omega
    · simp only [if_neg a1, if_pos a2] at h1 h2
      have := hdj _ _ _ h1 (hsub a h2).1
      omega
    · simp only [if_neg a1, if_neg a2] at h1 h2
      exact hdj _ _ _ h1 h2
  · by_cases a1 : j = i
    · simp only [if_pos a1] at h1
      obtain ⟨sa, fn⟩ := hsub a h1
      exact ⟨fn, (ho i a sa).2.1, (ho i a sa).2.2⟩
    · simp only [if_neg a1] at h1
      exact ⟨(hother j a a1 h1).trans (ho j a h1).1, (ho j a h1).2⟩
  · exact ⟨(E.fr a o e n).1, (hf a o e n).trans (E.fr a o e n).2⟩
/-- a list of one's own is frozen -/
theorem En.freeze (E : En X F H σ Γ) {i : Nat} {m : Bool} {l : Addr} {ds : List PyData} (hi : Γ[i]? = some (.ml m l ds)) : ∃ F', Le F F' ∧ En X F' H σ (Γ.set i (.dat m (.list ds))) := by
  obtain ⟨xs, e1, hl, fl, r⟩ := E.ml hi
  obtain ⟨S, hs, hdj, ho⟩ := id E.sl
  have own : X.own l ∧ (m = true → ¬ X.N l) := by
    obtain ⟨_, _, hS, _, _, nl⟩ := hs i _ hi
    exact ⟨(ho i l ((hS l).mpr rfl)).2.2, nl⟩
  obtain ⟨own, nl⟩ := own
  have fl' : ∀ {F : Hp}, F l = some (.lst xs) → X.ff F m l = some (.lst xs) := fun {F} h => by
    cases m with
    | false => exact h
    | true => rw [Bs.ff_at (nl rfl)]; exact h
  refine ⟨upd F l (.lst xs), Le.up fl, E.retell (Le.up fl) (E.le.lay hl) (fun a o e n => ?_) hi fun S hS q => ?_⟩
  · refine upd_ne fun z => ?_
    subst z
    rcases own with w | w
    · rw [w] at e; cases e
    · exact n w
  · obtain ⟨ys, e, hS', hl', r', _⟩ := q
    rw [hl] at hl'; cases hl'
    refine ⟨fun _ => False, ⟨⟨.ref l, e, .lst (fl' upd_same) (r.mono (Bs.ff_mono (Le.up fl) m))⟩, fun _ z => z⟩, fun _ z => z.elim, fun a ha => ?_⟩
    refine (hS' a).mpr ?_
    by_cases z : a = l
    · exact z
    · exact absurd (upd_ne z) ha
theorem En.forget (E : En X F H σ Γ) {i : Nat} {s : Sl} (hi : Γ[i]? = some s) : En X F H σ (Γ.set i .no) :=
  E.retell Le.rfl' E.le (fun _ _ _ _ => rfl) hi fun S _ _ => ⟨fun _ => False, fun _ z => z, fun _ z => z.elim, fun _ h => absurd rfl h⟩
end
end Pk
end
section
set_option Elab.async false
set_option linter.all false
set_option maxRecDepth 100000
namespace Pk
open PySem PySem.Spec PyProof.Rows L2

/-- one slot stands aside while the others work -/
theorem En.frame {X : Bs} {F H : Hp} {σ : L2.St} {Γ : List Sl} {ov : Option V} {s : Sl} (E : En X F H (σ ++ [ov]) (Γ ++ [s])) :
    ∃ X' : Bs, X'.K = X.K ∧ X'.N = X.N ∧ En X' F H σ Γ ∧ ∀ F' H' σ' Γ', Γ'.length = Γ.length → Le F F' → En X' F' H' σ' Γ' → En X F' H' (σ' ++ [ov]) (Γ' ++ [s]) := by
  have hl : σ.length = Γ.length := by
    have := E.len
    simp at this
    exact this
  have own0 : ∀ p, H p = none → X.own p := fun p h => E.ownN h
  obtain ⟨S, hs, hdj, ho⟩ := id E.sl
  refine ⟨⟨X.K, F, H, fun a => ∃ i, i < Γ.length ∧ S i a, X.N⟩, rfl, rfl, ⟨E.le, hl, ⟨fun i a => i < Γ.length ∧ S i a, fun i u e => ?_, fun i j a h1 h2 => hdj i j a h1.2 h2.2, fun i a h1 => ⟨(ho i a h1.2).1, (ho i a h1.2).2.1, .inr ⟨i, h1⟩⟩⟩, fun a o e _ => ⟨e, rfl⟩, Le.rfl', E.nn⟩, fun F' H' σ' Γ' hlen lf E' => ?_⟩
  · have hi : i < Γ.length := (List.getElem?_eq_some_iff.mp e).1
    have q := hs i u (by rw [List.getElem?_append_left hi]; exact e)
    rw [getD_app (by rw [hl]; exact hi)] at q
    have eS : (fun a => i < Γ.length ∧ S i a) = S i := by
      funext a
      exact propext ⟨fun z => z.2, fun z => ⟨hi, z⟩⟩
    show SlOk _ F H _ (fun a => i < Γ.length ∧ S i a) u
    rw [eS]
    exact q.to rfl fun _ h => h
  · obtain ⟨S', hs', hdj', ho'⟩ := id E'.sl
    have notS : ∀ a, S Γ.length a → ¬ ∃ i, i < Γ.length ∧ S i a := fun a sa ⟨i, hi, si⟩ => by
      have := hdj i _ a si sa
      omega
    have keepS : ∀ a, S Γ.length a → H' a = H a ∧ F' a = F a := fun a sa => by
      obtain ⟨_, h1, _⟩ := ho _ a sa
      cases q : H a with
      | none => exact absurd q h1
      | some o => exact E'.fr a o q (notS a sa)
    have disS : ∀ i a, S' i a → ¬ S Γ.length a := fun i a h1 h2 => by
      rcases (ho' i a h1).2.2 with w | w
      · exact (ho _ a h2).2.1 w
      · exact notS a h2 w
    have hl' : σ'.length = Γ'.length := E'.len
    refine ⟨E'.le, by simp [hl'], ⟨fun i a => (i < Γ'.length ∧ S' i a) ∨ (i = Γ'.length ∧ S Γ.length a), fun i u e => ?_, fun i j a h1 h2 => ?_, fun i a h1 => ?_⟩, fun a o e n => ?_, E.f0.tr lf, E'.nn⟩
    · have hi : i < (Γ' ++ [s]).length := (List.getElem?_eq_some_iff.mp e).1
      simp only [List.length_append, List.length_cons, List.length_nil] at hi
      by_cases hlt : i < Γ'.length
      · rw [List.getElem?_append_left hlt] at e
        rw [getD_app (by rw [hl']; exact hlt)]
        have eS : (fun a => (i < Γ'.length ∧ S' i a) ∨ (i = Γ'.length ∧ S Γ.length a)) = S' i := by
          funext a
          apply propext
          constructor
          · rintro (⟨_, q⟩ | ⟨q, _⟩)
            · exact q
            · omega
          · intro q; exact .inl ⟨hlt, q⟩
        show SlOk X F' H' _ (fun a => (i < Γ'.length ∧ S' i a) ∨ (i = Γ'.length ∧ S Γ.length a)) u
        rw [eS]
        exact (hs' i u e).to rfl fun _ h => h
      · have hie : i = Γ'.length := by omega
        subst hie
        simp at e; subst e
        have eS : (fun a => (Γ'.length < Γ'.length ∧ S' Γ'.length a) ∨ (Γ'.length = Γ'.length ∧ S Γ.length a)) = S Γ.length := by
          funext a
          apply propext
          constructor
          · rintro (⟨q, _⟩ | ⟨_, q⟩)
            · omega
            · exact q
          · intro q; exact .inr ⟨rfl, q⟩
        show SlOk X F' H' _ (fun a => (Γ'.length < Γ'.length ∧ S' Γ'.length a) ∨ (Γ'.length = Γ'.length ∧ S Γ.length a)) s
        rw [eS, ← hl', getD_last]
        have q := hs Γ.length s (by simp)
        rw [← hl, getD_last, hl] at q
        exact q.mono lf fun a sa => (keepS a sa).1
    · rcases h1 with ⟨a1, b1⟩ | ⟨a1, b1⟩ <;> rcases h2 with ⟨a2, b2⟩ | ⟨a2, b2⟩
      · exact hdj' i j a b1 b2
      · exact absurd b2 (disS i a b1)
      · exact absurd b1 (disS j a b2)
      · omega
    · rcases h1 with ⟨a1, b1⟩ | ⟨a1, b1⟩
      · refine ⟨(ho' i a b1).1, (ho' i a b1).2.1, ?_⟩
        rcases (ho' i a b1).2.2 with w | ⟨j, _, w⟩
        · exact own0 a w
        · exact (ho j a w).2.2
      · obtain ⟨k1, k2⟩ := keepS a b1
        exact ⟨k2.trans (ho _ a b1).1, by rw [k1]; exact (ho _ a b1).2.1, (ho _ a b1).2.2⟩
    · obtain ⟨q1, q2⟩ := E.fr a o e n
      have nS : ¬ ∃ i, i < Γ.length ∧ S i a := fun ⟨i, _, si⟩ => by
        rcases (ho i a si).2.2 with w | w
        · rw [w] at e; cases e
        · exact n w
      obtain ⟨r1, r2⟩ := E'.fr a o q1 nS
      exact ⟨r1, r2.trans q2⟩
theorem En.rebase {X : Bs} {F H : Hp} {σ : L2.St} {Γ : List Sl} (E : En X F H σ Γ) :
    ∃ X' : Bs, X'.K = X.K ∧ X'.N = X.N ∧ X'.F0 = F ∧ X'.H0 = H ∧ En X' F H σ Γ ∧ ∀ F' H' σ' Γ', En X' F' H' σ' Γ' → En X F' H' σ' Γ' := by
  obtain ⟨S, hs, hdj, ho⟩ := id E.sl
  refine ⟨⟨X.K, F, H, fun a => ∃ i, S i a, X.N⟩, rfl, rfl, rfl, rfl, ⟨E.le, E.len, ⟨S, fun i s e => (hs i s e).to rfl fun _ h => h, hdj, fun i a h1 => ⟨(ho i a h1).1, (ho i a h1).2.1, .inr ⟨i, h1⟩⟩⟩, fun a o e _ => ⟨e, rfl⟩, Le.rfl', E.nn⟩, fun F' H' σ' Γ' E' => ?_⟩
  have lf : Le F F' := E'.f0
  obtain ⟨S', hs', hdj', ho'⟩ := id E'.sl
  refine ⟨E'.le, E'.len, ⟨S', fun i s e => (hs' i s e).to rfl fun _ h => h, hdj', fun i a h1 => ⟨(ho' i a h1).1, (ho' i a h1).2.1, ?_⟩⟩, fun a o e n => ?_, E.f0.tr lf, E'.nn⟩
  · rcases (ho' i a h1).2.2 with w | ⟨j, w⟩
    · exact E.ownN w
    · exact (ho j a w).2.2
  · obtain ⟨q1, q2⟩ := E.fr a o e n
    have nS : ¬ ∃ i, S i a := fun ⟨i, si⟩ => by
      rcases (ho i a si).2.2 with w | w
      · rw [w] at e; cases e
      · exact n w
    obtain ⟨r1, r2⟩ := E'.fr a o q1 nS
    exact ⟨r1, r2.trans q2⟩

/-- the reading t gives data, of which Q holds; m: its lists are new -/
def WD (K : Kw) (m : Bool) (Γ : List Sl) (t : TE) (Q : PyData → Prop) : Prop := ∀ X : Bs, X.K = K → ∀ F H σ, En X F H σ Γ → ∀ C : VK,
  (∀ v F' H' d, Le F F' → En X F' H' σ Γ → Rp K (X.ff F' m) v d → Q d → C v H') → t σ H C
/-- .. or a new thing of one's own -/
def WX (K : Kw) (Γ : List Sl) (t : TE) (Q : Sl → Prop) : Prop := ∀ X : Bs, X.K = K → ∀ F H σ, En X F H σ Γ → ∀ C : VK,
  (∀ v F' H' s, Le F F' → En X F' H' (σ ++ [some v]) (Γ ++ [s]) → Q s → C v H') → t σ H C
def WT (K : Kw) (Γ : List Sl) (t : TT) (Q : Bool → Prop) : Prop := ∀ X : Bs, X.K = K → ∀ F H σ, En X F H σ Γ → ∀ C : Bool → Hp → Prop,
  (∀ b F' H', Le F F' → En X F' H' σ Γ → Q b → C b H') → t σ H C
/-- an argument: data, or one's own in a slot -/
inductive Ag where
  | d (x : PyData)
  | o (i : Nat)
def Ag.ix : Ag → Option Nat
  | .d _ => none
  | .o i => some i
def Ag.sl (Γ : List Sl) : Ag → Sl
  | .d x => .dat false x
  | .o i => Γ.getD i .no
def AgOk (X : Bs) (m : Bool) (F : Hp) (σ : L2.St) : V → Ag → Prop
  | v, .d x => Rp X.K (X.ff F m) v x
  | v, .o i => σ[i]? = some (some v)
inductive AgsOk (X : Bs) (m : Bool) (F : Hp) (σ : L2.St) : List V → List Ag → Prop
  | nil : AgsOk X m F σ [] []
  | cons {v vs a as} : AgOk X m F σ v a → AgsOk X m F σ vs as → AgsOk X m F σ (v :: vs) (a :: as)
def WA (K : Kw) (m : Bool) (Γ : List Sl) (t : TA) (Q : List Ag → Prop) : Prop := ∀ X : Bs, X.K = K → ∀ F H σ, En X F H σ Γ → ∀ C : List V → Hp → Prop,
  (∀ vs F' H' as, Le F F' → En X F' H' σ Γ → AgsOk X m F' σ vs as → Q as → C vs H') → t σ H C
/-- operations on values -/
def RD (K : Kw) (m : Bool) (Γ : List Sl) (r : R2) (x y : PyData) (Q : PyData → Prop) : Prop := ∀ X : Bs, X.K = K → ∀ F H σ, En X F H σ Γ → ∀ v u, Rp K (X.ff F m) v x → Rp K (X.ff F m) u y → ∀ C : VK,
  (∀ z F' H' d, Le F F' → En X F' H' σ Γ → Rp K (X.ff F' m) z d → Q d → C z H') → r v u H C
def RX (K : Kw) (m : Bool) (Γ : List Sl) (r : R2) (x y : PyData) (Q : Sl → Prop) : Prop := ∀ X : Bs, X.K = K → ∀ F H σ, En X F H σ Γ → ∀ v u, Rp K (X.ff F m) v x → Rp K (X.ff F m) u y → ∀ C : VK,
  (∀ z F' H' s, Le F F' → En X F' H' (σ ++ [some z]) (Γ ++ [s]) → Q s → C z H') → r v u H C
def RU (K : Kw) (m : Bool) (Γ : List Sl) (r : V → Hp → VK → Prop) (x : PyData) (Q : PyData → Prop) : Prop := ∀ X : Bs, X.K = K → ∀ F H σ, En X F H σ Γ → ∀ v, Rp K (X.ff F m) v x → ∀ C : VK,
  (∀ z F' H' d, Le F F' → En X F' H' σ Γ → Rp K (X.ff F' m) z d → Q d → C z H') → r v H C
def RC (K : Kw) (m : Bool) (Γ : List Sl) (r : List V → Hp → VK → Prop) (xs : List PyData) (Q : PyData → Prop) : Prop := ∀ X : Bs, X.K = K → ∀ F H σ, En X F H σ Γ → ∀ vs, RpA K (X.ff F m) vs xs → ∀ C : VK,
  (∀ z F' H' d, Le F F' → En X F' H' σ Γ → Rp K (X.ff F' m) z d → Q d → C z H') → r vs H C
def RCX (K : Kw) (m : Bool) (Γ : List Sl) (r : List V → Hp → VK → Prop) (xs : List PyData) (Q : Sl → Prop) : Prop := ∀ X : Bs, X.K = K → ∀ F H σ, En X F H σ Γ → ∀ vs, RpA K (X.ff F m) vs xs → ∀ C : VK,
  (∀ z F' H' s, Le F F' → En X F' H' (σ ++ [some z]) (Γ ++ [s]) → Q s → C z H') → r vs H C

/-- a slot as data -/
def Sl.toD (m : Bool) : Sl → Option PyData
  | .dat m' d => if m = true ∧ m' = false then none else some d
  | .ml m' _ ds => if m = true ∧ m' = false then none else some (.list ds)
  | .ex _ Φ => if m = true then none else Φ.vw
  | .no => none
/-- what is new may be taken as any -/
theorem Bs.ff_any {X : Bs} {F : Hp} {m m' : Bool} (h : ¬ (m = true ∧ m' = false)) : Le (X.ff F m') (X.ff F m) := by
  cases m with
  | false => exact X.ff_le F m'
  | true =>
    cases m' with
    | true => exact Le.rfl'
    | false => exact absurd ⟨rfl, rfl⟩ h
section
variable {K : Kw} {m : Bool} {Γ : List Sl} {t ta tb : TE} {Q : PyData → Prop} {QX : Sl → Prop}
theorem lastFreeze {X : Bs} {F H : Hp} {σ : L2.St} {v : V} {s : Sl} {d : PyData} (hs : s.toD m = some d) (E : En X F H (σ ++ [some v]) (Γ ++ [s])) : ∃ F', Le F F' ∧ En X F' H σ Γ ∧ Rp X.K (X.ff F' m) v d := by
  have hl : σ.length = Γ.length := by
    have := E.len
    simp at this
    exact this
  cases s with
  | no => cases hs
  | ex u Φ =>
    cases m with
    | true => simp [Sl.toD] at hs
    | false =>
      have hv : Φ.vw = some d := by simpa [Sl.toD] using hs
      obtain ⟨S, h1, hdj, ho⟩ := id E.sl
      obtain ⟨e, hk, p⟩ := h1 Γ.length (.ex u Φ) (by simp)
      rw [← hl, getD_last] at e
      cases e
      obtain ⟨rv, hL⟩ := Φ.view E.le p hv
      have lf : Le F (lay (S Γ.length) H F) := fun a o q => by
        unfold lay
        rw [if_neg fun sa => by rw [(ho _ a sa).1] at q; cases q]
        exact q
      have ln : ∀ a, ¬ S Γ.length a → lay (S Γ.length) H F a = F a := fun a h => by unfold lay; rw [if_neg h]
      have Ed := E.drop
      refine ⟨lay (S Γ.length) H F, lf, ⟨fun a o q => ?_, hl, ⟨fun i a => i < Γ.length ∧ S i a, fun i w q => ?_, fun i j a q1 q2 => hdj i j a q1.2 q2.2, fun i a q => ⟨?_, (ho i a q.2).2⟩⟩, fun a o q n => ⟨(E.fr a o q n).1, ?_⟩, E.f0.tr lf, E.nn⟩, by rw [← hk]; exact rv⟩
      · unfold lay at q
        split at q
        · exact q
        · exact E.le a o q
      · have hi : i < Γ.length := (List.getElem?_eq_some_iff.mp q).1
        have z := h1 i w (by rw [List.getElem?_append_left hi]; exact q)
        rw [getD_app (by rw [hl]; exact hi)] at z
        have eS : (fun a => i < Γ.length ∧ S i a) = S i := by
          funext a
          exact propext ⟨fun z => z.2, fun z => ⟨hi, z⟩⟩
        show SlOk X _ H _ (fun a => i < Γ.length ∧ S i a) w
        rw [eS]
        exact z.mono lf fun _ _ => rfl
      · rw [ln a fun sa => by have := hdj _ _ a sa q.2; omega]
        exact (ho i a q.2).1
      · rw [ln a fun sa => ?_]
        · exact (E.fr a o q n).2
        · rcases (ho _ a sa).2.2 with z | z
          · rw [z] at q; cases q
          · exact n z
  | dat m' x =>
    simp only [Sl.toD] at hs
    split at hs
    · cases hs
    · rename_i hm
      cases hs
      obtain ⟨u, e, r⟩ := E.dat (i := Γ.length) (m := m') (d := d) (by simp)
      rw [← hl] at e
      simp at e
      subst e
      exact ⟨F, Le.rfl', E.drop, r.mono (Bs.ff_any hm)⟩
  | ml m' l ds =>
    simp only [Sl.toD] at hs
    split at hs
    · cases hs
    · rename_i hm
      cases hs
      obtain ⟨F', lf, E'⟩ := E.freeze (i := Γ.length) (m := m') (l := l) (ds := ds) (by simp)
      have e2 : (Γ ++ [Sl.ml m' l ds]).set Γ.length (.dat m' (.list ds)) = Γ ++ [.dat m' (.list ds)] := by simp
      rw [e2] at E'
      obtain ⟨u, e, r⟩ := E'.dat (i := Γ.length) (m := m') (d := .list ds) (by simp)
      rw [← hl] at e
      simp at e
      subst e
      exact ⟨F', lf, E'.drop, r.mono (Bs.ff_any hm)⟩
theorem toD_dat {d : PyData} : (Sl.dat m d).toD m = some d := by cases m <;> simp [Sl.toD]
theorem toD_ml {l : Addr} {ds : List PyData} : (Sl.ml m l ds).toD m = some (.list ds) := by cases m <;> simp [Sl.toD]
theorem WD.ofX (h : WX K Γ t fun s => ∃ d, s.toD m = some d ∧ Q d) : WD K m Γ t Q := fun X hK F H σ E C k =>
  h X hK F H σ E C fun v F' H' s lf E' ⟨d, hs, q⟩ => by
    obtain ⟨F2, l2, E2, r⟩ := lastFreeze hs E'
    subst hK
    exact k v F2 H' d (lf.tr l2) E2 r q
theorem WX.ofD (h : WD K m Γ t fun d => QX (.dat m d)) : WX K Γ t QX := fun X hK F H σ E C k =>
  h X hK F H σ E C fun v F' H' d lf E' r q => k v F' H' _ lf (E'.pushD (by rw [hK]; exact r)) q
theorem RD.ofX {r : R2} {x y : PyData} (h : RX K m Γ r x y fun s => ∃ d, s.toD m = some d ∧ Q d) : RD K m Γ r x y Q := fun X hK F H σ E v u rv ru C k =>
  h X hK F H σ E v u rv ru C fun z F' H' s lf E' ⟨d, hs, q⟩ => by
    obtain ⟨F2, l2, E2, r⟩ := lastFreeze hs E'
    subst hK
    exact k z F2 H' d (lf.tr l2) E2 r q
theorem RC.ofX {r : List V → Hp → VK → Prop} {xs : List PyData} (h : RCX K m Γ r xs fun s => ∃ d, s.toD m = some d ∧ Q d) : RC K m Γ r xs Q := fun X hK F H σ E vs rv C k =>
  h X hK F H σ E vs rv C fun z F' H' s lf E' ⟨d, hs, q⟩ => by
    obtain ⟨F2, l2, E2, r⟩ := lastFreeze hs E'
    subst hK
    exact k z F2 H' d (lf.tr l2) E2 r q
theorem WD.mono {Q' : PyData → Prop} (h : WD K m Γ t Q) (k : ∀ d, Q d → Q' d) : WD K m Γ t Q' := fun X hK F H σ E C c => h X hK F H σ E C fun v F' H' d lf E' r q => c v F' H' d lf E' r (k d q)
theorem WX.mono {Q' : Sl → Prop} (h : WX K Γ t QX) (k : ∀ s, QX s → Q' s) : WX K Γ t Q' := fun X hK F H σ E C c => h X hK F H σ E C fun v F' H' d lf E' q => c v F' H' d lf E' (k d q)
theorem WT.mono {tt : TT} {Q Q' : Bool → Prop} (h : WT K Γ tt Q) (k : ∀ b, Q b → Q' b) : WT K Γ tt Q' := fun X hK F H σ E C c => h X hK F H σ E C fun v F' H' lf E' q => c v F' H' lf E' (k v q)
/-- what holds no list is new -/
theorem wd_lf (h : WD K false Γ t fun d => lf d = true ∧ Q d) : WD K m Γ t Q := fun X hK F H σ E C k =>
  h X hK F H σ E C fun v F' H' d l E' r ⟨z, q⟩ => k v F' H' d l E' (Rp.lfree Bs.ff_tup d z r) q
/-- what is new is data -/
theorem wd_new (h : WD K true Γ t Q) : WD K false Γ t Q := fun X hK F H σ E C k =>
  h X hK F H σ E C fun v F' H' d l E' r q => k v F' H' d l E' (r.mono (X.ff_le F' true)) q

theorem wd_var {i : Nat} {d : PyData} (h : Γ[i]? = some (.dat m d)) (q : Q d) : WD K m Γ (tVar i) Q := fun X hK F H σ E C k => by
  obtain ⟨v, e, r⟩ := E.dat h
  subst hK
  exact ⟨v, e, k v F H d Le.rfl' E r q⟩
theorem wd_varN {i : Nat} {d : PyData} (h : Γ[i]? = some (.dat true d)) (q : Q d) : WD K m Γ (tVar i) Q := by
  cases m with
  | true => exact wd_var h q
  | false => exact wd_new (wd_var h q)
theorem wd_c {v : V} {d : PyData} (h : ∀ F, Rp K F v d) (q : Q d) : WD K m Γ (tC v) Q := fun X hK F H σ E C k => k v F H d Le.rfl' E (h _) q
theorem wd_int {i : Int} (q : Q (.int i)) : WD K m Γ (tC (.int i)) Q := wd_c (fun _ => .int i) q
theorem wd_bl {b : Bool} (q : Q (.bool b)) : WD K m Γ (tC (.bl b)) Q := wd_c (fun _ => .bl b) q
theorem wd_str {x : Str} (q : Q (.str x)) : WD K m Γ (tC (.str x)) Q := wd_c (fun _ => .str x) q
theorem wd_non (q : Q .none) : WD K m Γ (tC .non) Q := wd_c (fun _ => .non) q
theorem Bs.mo {X : Bs} {F F' : Hp} {v : V} {d : PyData} (r : Rp K (X.ff F m) v d) (l : Le F F') : Rp K (X.ff F' m) v d := r.mono (Bs.ff_mono l m)
theorem Bs.moA {X : Bs} {F F' : Hp} {v : List V} {d : List PyData} (r : RpA K (X.ff F m) v d) (l : Le F F') : RpA K (X.ff F' m) v d := r.mono (Bs.ff_mono l m)
theorem wd_op {r : R2} (h : WD K m Γ ta fun x => WD K m Γ tb fun y => RD K m Γ r x y Q) : WD K m Γ (tOp r ta tb) Q := fun X hK F H σ E C k =>
  h X hK F H σ E _ fun v F1 H1 x l1 E1 r1 h1 => h1 X hK F1 H1 σ E1 _ fun u F2 H2 y l2 E2 r2 h2 =>
    h2 X hK F2 H2 σ E2 v u (Bs.mo r1 l2) r2 C fun z F3 H3 d l3 E3 r3 q => k z F3 H3 d (l1.tr (l2.tr l3)) E3 r3 q
theorem wx_op {r : R2} (m : Bool) (h : WD K m Γ ta fun x => WD K m Γ tb fun y => RX K m Γ r x y QX) : WX K Γ (tOp r ta tb) QX := fun X hK F H σ E C k =>
  h X hK F H σ E _ fun v F1 H1 x l1 E1 r1 h1 => h1 X hK F1 H1 σ E1 _ fun u F2 H2 y l2 E2 r2 h2 =>
    h2 X hK F2 H2 σ E2 v u (Bs.mo r1 l2) r2 C fun z F3 H3 d l3 E3 q => k z F3 H3 d (l1.tr (l2.tr l3)) E3 q
theorem wd_un {r : V → Hp → VK → Prop} (h : WD K m Γ ta fun x => RU K m Γ r x Q) : WD K m Γ (tUn r ta) Q := fun X hK F H σ E C k =>
  h X hK F H σ E _ fun v F1 H1 x l1 E1 r1 h1 => h1 X hK F1 H1 σ E1 v r1 C fun z F3 H3 d l3 E3 r3 q => k z F3 H3 d (l1.tr l3) E3 r3 q
theorem En.lef {X : Bs} {F H : Hp} {σ : L2.St} (E : En X F H σ Γ) (m : Bool) : Le (X.ff F m) H := (X.ff_le F m).tr E.le
/-- a plain value: no new object -/
theorem rd_plain {r : R2} {x y d : PyData} (h : ∀ (F H : Hp) v u (C : VK), Le F H → Rp K F v x → Rp K F u y → (∀ z, Rp K F z d → C z H) → r v u H C) (q : Q d) : RD K m Γ r x y Q := fun X hK F H σ E v u rv ru C k =>
  h (X.ff F m) H v u C (E.lef m) rv ru fun z rz => k z F H d Le.rfl' E rz q
theorem rc_plain {r : List V → Hp → VK → Prop} {xs : List PyData} {d : PyData} (h : ∀ (F H : Hp) vs (C : VK), Le F H → RpA K F vs xs → (∀ z, Rp K F z d → C z H) → r vs H C) (q : Q d) : RC K m Γ r xs Q := fun X hK F H σ E vs rv C k =>
  h (X.ff F m) H vs C (E.lef m) rv fun z rz => k z F H d Le.rfl' E rz q
theorem ru_plain {r : V → Hp → VK → Prop} {x d : PyData} (h : ∀ (F H : Hp) v (C : VK), Le F H → Rp K F v x → (∀ z, Rp K F z d → C z H) → r v H C) (q : Q d) : RU K m Γ r x Q := fun X hK F H σ E v rv C k =>
  h (X.ff F m) H v C (E.lef m) rv fun z rz => k z F H d Le.rfl' E rz q
/-- a new list -/
theorem rx_list {r : R2} {x y : PyData} {ds : List PyData} (h : ∀ (F H : Hp) v u (C : VK), Le F H → Rp K F v x → Rp K F u y → (∀ p xs, H p = none → RpA K F xs ds → C (.ref p) (upd H p (.lst xs))) → r v u H C) (q : ∀ l, QX (.ml m l ds)) : RX K m Γ r x y QX := fun X hK F H σ E v u rv ru C k =>
  h (X.ff F m) H v u C (E.lef m) rv ru fun p xs hp rx => k (.ref p) F _ _ Le.rfl' (E.pushM hp (by rw [hK]; exact rx)) (q p)
theorem rcx_list {r : List V → Hp → VK → Prop} {xs ds : List PyData} (h : ∀ (F H : Hp) vs (C : VK), Le F H → RpA K F vs xs → (∀ p ys, H p = none → RpA K F ys ds → C (.ref p) (upd H p (.lst ys))) → r vs H C) (q : ∀ l, QX (.ml m l ds)) : RCX K m Γ r xs QX := fun X hK F H σ E vs rv C k =>
  h (X.ff F m) H vs C (E.lef m) rv fun p xs hp rx => k (.ref p) F _ _ Le.rfl' (E.pushM hp (by rw [hK]; exact rx)) (q p)
/-- a new tuple -/
theorem En.newT {X : Bs} (hK : X.K = K) {F H : Hp} {σ : L2.St} (E : En X F H σ Γ) {p : Addr} {xs : List V} {ds : List PyData} (hp : H p = none) (rx : RpA K (X.ff F m) xs ds) : Le F (upd F p (.tup xs)) ∧ En X (upd F p (.tup xs)) (upd H p (.tup xs)) σ Γ ∧ Rp K (X.ff (upd F p (.tup xs)) m) (.ref p) (.tuple ds) :=
  ⟨Le.up (E.le.nn hp), E.alloc hp, .tup (Bs.ff_tup.1 _ _ (SqT.of upd_same)) (Bs.moA rx (Le.up (E.le.nn hp)))⟩
theorem rc_tuple {r : List V → Hp → VK → Prop} {xs ds : List PyData} (h : ∀ (F H : Hp) vs (C : VK), Le F H → RpA K F vs xs → (∀ p ys, H p = none → RpA K F ys ds → C (.ref p) (upd H p (.tup ys))) → r vs H C) (q : Q (.tuple ds)) : RC K m Γ r xs Q := fun X hK F H σ E vs rv C k =>
  h (X.ff F m) H vs C (E.lef m) rv fun p xs hp rx => let ⟨a, b, c⟩ := E.newT hK hp rx; k (.ref p) _ _ _ a b c q

variable {tt tu : TT} {QT : Bool → Prop}
theorem wt_test (h : WD K false Γ t fun d => ∃ b, d = .bool b ∧ QT b) : WT K Γ (tTest t) QT := fun X hK F H σ E C k =>
  h X hK F H σ E _ fun v F1 H1 x l1 E1 r1 ⟨b, e, q⟩ => by
    subst e
    cases r1
    exact ⟨b, rfl, k b F1 H1 l1 E1 q⟩
theorem wt_B (h : WD K false Γ t fun d => ∃ b, d = .bool b ∧ QT b) : WT K Γ (tB t) QT := fun X hK F H σ E C k =>
  h X hK F H σ E _ fun v F1 H1 x l1 E1 r1 ⟨b, e, q⟩ => by
    subst e
    cases r1
    exact ⟨b, rfl, k b F1 H1 l1 E1 q⟩
theorem wt_not (h : WT K Γ tt fun b => QT (!b)) : WT K Γ (tNot tt) QT := fun X hK F H σ E C k => h X hK F H σ E _ fun b F1 H1 l1 E1 q => k _ F1 H1 l1 E1 q
theorem wt_and (h : WT K Γ tt fun b => if b = true then WT K Γ tu QT else QT false) : WT K Γ (tAnd tt tu) QT := fun X hK F H σ E C k =>
  h X hK F H σ E _ fun b F1 H1 l1 E1 q => by
    cases b with
    | true => exact q X hK F1 H1 σ E1 C fun b F2 H2 l2 E2 q2 => k b F2 H2 (l1.tr l2) E2 q2
    | false => exact k false F1 H1 l1 E1 q
theorem wt_or (h : WT K Γ tt fun b => if b = true then QT true else WT K Γ tu QT) : WT K Γ (tOr tt tu) QT := fun X hK F H σ E C k =>
  h X hK F H σ E _ fun b F1 H1 l1 E1 q => by
    cases b with
    | false => exact q X hK F1 H1 σ E1 C fun b F2 H2 l2 E2 q2 => k b F2 H2 (l1.tr l2) E2 q2
    | true => exact k true F1 H1 l1 E1 q
theorem wt_yes (q : QT true) : WT K Γ tYes QT := fun X hK F H σ E C k => k true F H Le.rfl' E q
theorem wd_andV (h : WD K false Γ ta fun d => ∃ b, d = .bool b ∧ if b = true then WD K m Γ tb Q else Q (.bool false)) : WD K m Γ (tAndV ta tb) Q := fun X hK F H σ E C k =>
  h X hK F H σ E _ fun v F1 H1 x l1 E1 r1 ⟨b, e, q⟩ => by
    subst e
    cases r1
    refine ⟨b, rfl, ?_⟩
    cases b with
    | true => exact q X hK F1 H1 σ E1 C fun v F2 H2 d l2 E2 r q2 => k v F2 H2 d (l1.tr l2) E2 r q2
    | false => exact k _ F1 H1 _ l1 E1 (.bl false) q
theorem wd_orV (h : WD K false Γ ta fun d => ∃ b, d = .bool b ∧ if b = true then Q (.bool true) else WD K m Γ tb Q) : WD K m Γ (tOrV ta tb) Q := fun X hK F H σ E C k =>
  h X hK F H σ E _ fun v F1 H1 x l1 E1 r1 ⟨b, e, q⟩ => by
    subst e
    cases r1
    refine ⟨b, rfl, ?_⟩
    cases b with
    | false => exact q X hK F1 H1 σ E1 C fun v F2 H2 d l2 E2 r q2 => k v F2 H2 d (l1.tr l2) E2 r q2
    | true => exact k _ F1 H1 _ l1 E1 (.bl true) q
theorem wd_notV (h : WD K false Γ ta fun d => ∃ b, d = .bool b ∧ Q (.bool (!b))) : WD K m Γ (tNotV ta) Q := fun X hK F H σ E C k =>
  h X hK F H σ E _ fun v F1 H1 x l1 E1 r1 ⟨b, e, q⟩ => by
    subst e
    cases r1
    exact ⟨b, rfl, k _ F1 H1 _ l1 E1 (.bl _) q⟩
theorem wd_if (h : WT K Γ tt fun b => if b = true then WD K m Γ ta Q else WD K m Γ tb Q) : WD K m Γ (tIf tt ta tb) Q := fun X hK F H σ E C k =>
  h X hK F H σ E _ fun b F1 H1 l1 E1 q => by
    cases b with
    | true => exact q X hK F1 H1 σ E1 C fun v F2 H2 d l2 E2 r q2 => k v F2 H2 d (l1.tr l2) E2 r q2
    | false => exact q X hK F1 H1 σ E1 C fun v F2 H2 d l2 E2 r q2 => k v F2 H2 d (l1.tr l2) E2 r q2
theorem wd_chain {tc : TE} {r r' : R2} (h : WD K false Γ ta fun x => WD K false Γ tb fun y => RD K false Γ r x y fun z => ∃ b, z = .bool b ∧ if b = true then WD K false Γ tc fun w => RD K false Γ r' y w fun z => ∃ b, z = .bool b ∧ Q (.bool b) else Q (.bool false)) : WD K m Γ (tChain r r' ta tb tc) Q := fun X hK F H σ E C k =>
  h X hK F H σ E _ fun v F1 H1 x l1 E1 r1 h1 => h1 X hK F1 H1 σ E1 _ fun u F2 H2 y l2 E2 r2 h2 =>
    h2 X hK F2 H2 σ E2 v u (r1.mono l2) r2 _ fun z F3 H3 d l3 E3 r3 ⟨b, e, q⟩ => by
      subst e
      cases r3
      refine ⟨b, rfl, ?_⟩
      cases b with
      | true =>
        exact q X hK F3 H3 σ E3 _ fun w' F4 H4 d4 l4 E4 r4 q4 => q4 X hK F4 H4 σ E4 u w' (r2.mono (l3.tr l4)) r4 C fun z F5 H5 d5 l5 E5 r5 ⟨b, e, q5⟩ => by
          subst e
          cases r5
          exact k _ F5 H5 _ (l1.tr (l2.tr (l3.tr (l4.tr l5)))) E5 (.bl _) q5
      | false => exact k _ F3 H3 _ (l1.tr (l2.tr l3)) E3 (.bl false) q

theorem AgsOk.mono {X : Bs} {F F' : Hp} {σ : L2.St} (l : Le F F') : ∀ {vs : List V} {as : List Ag}, AgsOk X m F σ vs as → AgsOk X m F' σ vs as
  | _, _, .nil => .nil
  | _, _, .cons (a := .d x) h t => .cons (a := .d x) (Bs.mo h l) (AgsOk.mono l t)
  | _, _, .cons (a := .o i) h t => .cons (a := .o i) h (AgsOk.mono l t)
variable {tr : TA} {QA : List Ag → Prop}
theorem wa_nil (q : QA []) : WA K m Γ tNil QA := fun X hK F H σ E C k => k [] F H [] Le.rfl' E .nil q
theorem wa_d (h : WD K m Γ ta fun d => WA K m Γ tr fun as => QA (.d d :: as)) : WA K m Γ (tCons ta tr) QA := fun X hK F H σ E C k =>
  h X hK F H σ E _ fun v F1 H1 x l1 E1 r1 h1 => h1 X hK F1 H1 σ E1 _ fun vs F2 H2 as l2 E2 r2 q => k (v :: vs) F2 H2 _ (l1.tr l2) E2 (.cons (a := .d x) (by subst hK; exact Bs.mo r1 l2) r2) q
theorem wa_o {i : Nat} {v : V} {Φ : Own} (hi : Γ[i]? = some (.ex v Φ)) (h : WA K m Γ tr fun as => QA (.o i :: as)) : WA K m Γ (tCons (tVar i) tr) QA := fun X hK F H σ E C k =>
  ⟨v, E.ex hi, h X hK F H σ E _ fun vs F2 H2 as l2 E2 r2 q => k (v :: vs) F2 H2 _ l2 E2 (.cons (a := .o i) (E2.ex hi) r2) q⟩
/-- all arguments are data -/
def allD : List Ag → Option (List PyData)
  | [] => some []
  | .d x :: r => (allD r).map (x :: ·)
  | .o _ :: _ => none
theorem AgsOk.all {X : Bs} {F : Hp} {σ : L2.St} : ∀ {vs : List V} {as : List Ag} {ds : List PyData}, AgsOk X m F σ vs as → allD as = some ds → RpA X.K (X.ff F m) vs ds
  | _, _, ds, .nil, e => by cases e; exact .nil
  | _, _, ds, .cons (a := .d x) (as := as) h t, e => by
    cases q : allD as with
    | none => rw [allD, q] at e; cases e
    | some es => rw [allD, q] at e; cases e; exact .cons h (AgsOk.all t q)
  | _, _, ds, .cons (a := .o i) h t, e => by cases e
theorem WA.mono {QA' : List Ag → Prop} (h : WA K m Γ tr QA) (k : ∀ as, QA as → QA' as) : WA K m Γ tr QA' := fun X hK F H σ E C c => h X hK F H σ E C fun vs F' H' as l E' r q => c vs F' H' as l E' r (k as q)
theorem wd_tup (h : WA K m Γ tr fun as => ∃ ds, allD as = some ds ∧ ds.length ≤ 100000 ∧ Q (.tuple ds)) : WD K m Γ (tTup tr) Q := fun X hK F H σ E C k =>
  h X hK F H σ E _ fun vs F1 H1 as l1 E1 r1 ⟨ds, e, hz, q⟩ => by
    have rv := r1.all e
    refine ⟨Nat.le_trans (by rw [rv.length]; exact hz) (by decide), fun p hp => ?_⟩
    obtain ⟨a, b, c⟩ := E1.newT hK hp (by rw [← hK]; exact rv)
    exact k (.ref p) _ _ _ (l1.tr a) b c q
theorem wx_lst (m : Bool) (h : WA K m Γ tr fun as => ∃ ds, allD as = some ds ∧ ds.length ≤ 100000 ∧ ∀ l, QX (.ml m l ds)) : WX K Γ (tLst tr) QX := fun X hK F H σ E C k =>
  h X hK F H σ E _ fun vs F1 H1 as l1 E1 r1 ⟨ds, e, hz, q⟩ => by
    have rv := r1.all e
    refine ⟨Nat.le_trans (by rw [rv.length]; exact hz) (by decide), fun p hp => ?_⟩
    exact k (.ref p) _ _ _ l1 (E1.pushM hp rv) (q p)
theorem wd_lst (h : WA K m Γ tr fun as => ∃ ds, allD as = some ds ∧ ds.length ≤ 100000 ∧ Q (.list ds)) : WD K m Γ (tLst tr) Q :=
  .ofX (wx_lst m (h.mono fun as ⟨ds, e, hz, q⟩ => ⟨ds, e, hz, fun _ => ⟨_, toD_ml, q⟩⟩))
theorem wd_cb {r : List V → Hp → VK → Prop} (h : WA K m Γ tr fun as => ∃ ds, allD as = some ds ∧ RC K m Γ r ds Q) : WD K m Γ (tCB r tr) Q := fun X hK F H σ E C k =>
  h X hK F H σ E _ fun vs F1 H1 as l1 E1 r1 ⟨ds, e, q⟩ => q X hK F1 H1 σ E1 vs (by rw [← hK]; exact r1.all e) C fun z F2 H2 d l2 E2 r2 q2 => k z F2 H2 d (l1.tr l2) E2 r2 q2
theorem wx_cb {r : List V → Hp → VK → Prop} (m : Bool) (h : WA K m Γ tr fun as => ∃ ds, allD as = some ds ∧ RCX K m Γ r ds QX) : WX K Γ (tCB r tr) QX := fun X hK F H σ E C k =>
  h X hK F H σ E _ fun vs F1 H1 as l1 E1 r1 ⟨ds, e, q⟩ => q X hK F1 H1 σ E1 vs (by rw [← hK]; exact r1.all e) C fun z F2 H2 d l2 E2 q2 => k z F2 H2 d (l1.tr l2) E2 q2
end
end Pk
end
section
set_option Elab.async false
set_option linter.all false
set_option maxRecDepth 100000
namespace Pk
open PySem PySem.Spec PyProof.Rows L2

/-- a promise over data: T tells of the arguments what is wanted of the result -/
def spG (K : Kw) (T : List Sl → (Sl → Prop) → Prop) : Sp := fun vs H Q _ => ∃ (X : Bs) (F : Hp) (Γ : List Sl) (Qr : Sl → Prop), X.K = K ∧ X.F0 = F ∧ X.H0 = H ∧ (∀ a, X.N a ↔ H a ≠ none) ∧ En X F H (vs.map some) Γ ∧ T Γ Qr ∧
  ∀ F' H' v s, Le F F' → En X F' H' (vs.map some ++ [some v]) (Γ ++ [s]) → Qr s → Q v H'
/-- the arguments of one's own are unlike slots -/
def AgsGood (Γ : List Sl) (as : List Ag) : Prop := (as.filterMap Ag.ix).Nodup ∧ ∀ i ∈ as.filterMap Ag.ix, ∃ v Φ, Γ[i]? = some (.ex v Φ)
theorem ix_mem {as : List Ag} {k i : Nat} (h : as[k]? = some (.o i)) : i ∈ as.filterMap Ag.ix := List.mem_filterMap.mpr ⟨.o i, List.mem_of_getElem? h, rfl⟩
theorem ix_inj : ∀ {as : List Ag} {k k' i : Nat}, (as.filterMap Ag.ix).Nodup → as[k]? = some (.o i) → as[k']? = some (.o i) → k = k'
  | [], k, k', i, _, h, _ => by simp at h
  | a :: as, 0, 0, i, _, _, _ => rfl
  | a :: as, 0, k' + 1, i, nd, h, h' => by
    simp at h h'
    subst h
    simp [Ag.ix] at nd
    exact absurd h' (fun z => nd.1 _ (List.mem_of_getElem? z) rfl)
  | a :: as, k + 1, 0, i, nd, h, h' => by
    simp at h h'
    subst h'
    simp [Ag.ix] at nd
    exact absurd h (fun z => nd.1 _ (List.mem_of_getElem? z) rfl)
  | a :: as, k + 1, k' + 1, i, nd, h, h' => by
    simp at h h'
    have nd' : (as.filterMap Ag.ix).Nodup := by
      cases a with
      | d x => exact nd
      | o j => simp [Ag.ix] at nd; exact nd.2
    rw [ix_inj nd' h h']
theorem AgsOk.len {X : Bs} {m : Bool} {F : Hp} {σ : L2.St} : ∀ {vs : List V} {as : List Ag}, AgsOk X m F σ vs as → vs.length = as.length
  | _, _, .nil => rfl
  | _, _, .cons _ t => by simp [AgsOk.len t]
theorem AgsOk.at {X : Bs} {m : Bool} {F : Hp} {σ : L2.St} : ∀ {vs : List V} {as : List Ag} {k : Nat} {a : Ag}, AgsOk X m F σ vs as → as[k]? = some a → ∃ v, vs[k]? = some v ∧ AgOk X m F σ v a
  | _, _, _, _, .nil, e => by simp at e
  | _, _, 0, _, .cons h _, e => by simp at e; subst e; exact ⟨_, rfl, h⟩
  | _, _, k + 1, a, .cons _ t, e => by
    obtain ⟨v, h1, h2⟩ := AgsOk.at (k := k) (a := a) t (by simpa using e)
    exact ⟨v, by simpa using h1, h2⟩
theorem map_some_getD {vs : List V} {k : Nat} {v : V} (h : vs[k]? = some v) : (vs.map some).getD k none = some v := by
  simp [List.getD_eq_getElem?_getD, h]
/-- THE CALL over data: what the called sees, and how its end is ours -/
theorem call_sp {K : Kw} {Γ : List Sl} {X : Bs} (hK : X.K = K) {F H : Hp} {σ : L2.St} (E : En X F H σ Γ) {vs : List V} {as : List Ag} (ra : AgsOk X false F σ vs as) (hg : AgsGood Γ as) :
    ∃ X1 : Bs, X1.K = K ∧ X1.F0 = F ∧ X1.H0 = H ∧ (∀ a, X1.N a ↔ H a ≠ none) ∧ En X1 F H (vs.map some) (as.map (Ag.sl Γ)) ∧ ∀ F' H' v s, Le F F' → En X1 F' H' (vs.map some ++ [some v]) (as.map (Ag.sl Γ) ++ [s]) → En X F' H' (σ ++ [some v]) (Γ ++ [s]) := by
  subst hK
  obtain ⟨S, hs, hdj, ho⟩ := id E.sl
  obtain ⟨nd, hex⟩ := hg
  have exv : ∀ {k i : Nat}, as[k]? = some (.o i) → ∃ v Φ, Γ[i]? = some (.ex v Φ) ∧ vs[k]? = some v ∧ σ.getD i none = some v ∧ Φ.K = X.K ∧ Φ.p F H v (S i) := fun {k i} h => by
    obtain ⟨v, Φ, hΓ⟩ := hex i (ix_mem h)
    obtain ⟨e, hk, q⟩ := hs i _ hΓ
    obtain ⟨u, hu, hv⟩ := ra.at h
    have e2 : σ[i]? = some (some v) := E.ex hΓ
    have e3 : σ[i]? = some (some u) := hv
    rw [e2] at e3
    cases e3
    exact ⟨v, Φ, hΓ, hu, e, hk, q⟩
  refine ⟨⟨X.K, F, H, fun a => ∃ (k i : Nat), as[k]? = some (.o i) ∧ S i a, fun a => H a ≠ none⟩, rfl, rfl, rfl, fun _ => Iff.rfl, ⟨E.le, by simp [ra.len], ⟨fun k a => ∃ (i : Nat), as[k]? = some (.o i) ∧ S i a, fun k s e => ?_, fun k k' a h1 h2 => ?_, fun k a h1 => ?_⟩, fun a o e _ => ⟨e, rfl⟩, Le.rfl', fun _ h => h⟩, fun F' H' v s lf E' => ?_⟩
  · rw [List.getElem?_map] at e
    cases ha : as[k]? with
    | none => rw [ha] at e; cases e
    | some a =>
      rw [ha] at e
      cases e
      cases a with
      | d x =>
        obtain ⟨u, hu, hv⟩ := ra.at ha
        exact ⟨⟨u, map_some_getD hu, hv⟩, fun a ⟨i, z, _⟩ => by rw [ha] at z; cases z⟩
      | o i =>
        obtain ⟨u, Φ, hΓ, hu, _, hk, q⟩ := exv ha
        have e1 : Ag.sl Γ (.o i) = .ex u Φ := by simp [Ag.sl, List.getD_eq_getElem?_getD, hΓ]
        rw [e1]
        have eS : (fun a => ∃ (j : Nat), as[k]? = some (.o j) ∧ S j a) = S i := by
          funext a
          apply propext
          constructor
          · rintro ⟨j, e, z⟩
            rw [ha] at e
            cases e
            exact z
          · intro z; exact ⟨i, ha, z⟩
        show SlOk _ F H _ (fun a => ∃ (j : Nat), as[k]? = some (.o j) ∧ S j a) _
        rw [eS]
        exact ⟨map_some_getD hu, hk, q⟩
  · obtain ⟨i, e1, s1⟩ := h1
    obtain ⟨j, e2, s2⟩ := h2
    have := hdj i j a s1 s2
    subst this
    exact ix_inj nd e1 e2
  · obtain ⟨i, e1, s1⟩ := h1
    exact ⟨(ho i a s1).1, (ho i a s1).2.1, .inr ⟨k, i, e1, s1⟩⟩
  · -- behind the call
    obtain ⟨S', hs', hdj', ho'⟩ := id E'.sl
    have hlen : (vs.map some).length = (as.map (Ag.sl Γ)).length := by simp [ra.len]
    have notP : ∀ j a, S j a → (∀ (k : Nat), as[k]? ≠ some (.o j)) → ¬ ∃ (k i : Nat), as[k]? = some (.o i) ∧ S i a := fun j a sj hn ⟨k, i, e, si⟩ => by
      have := hdj i j a si sj
      subst this
      exact hn k e
    have keepP : ∀ j a, S j a → (∀ (k : Nat), as[k]? ≠ some (.o j)) → H' a = H a ∧ F' a = F a := fun j a sj hn => by
      obtain ⟨_, h1, _⟩ := ho j a sj
      cases z : H a with
      | none => exact absurd z h1
      | some o => exact E'.fr a o z (notP j a sj hn)
    have disP : ∀ k j a, S' k a → S j a → (∀ (k : Nat), as[k]? ≠ some (.o j)) → False := fun k j a h1 sj hn => by
      rcases (ho' k a h1).2.2 with w | w
      · exact (ho j a sj).2.1 w
      · exact notP j a sj hn w
    have ownX : ∀ k a, S' k a → X.own a := fun k a h1 => by
      rcases (ho' k a h1).2.2 with w | ⟨k', i, _, w⟩
      · exact E.ownN w
      · exact (ho i a w).2.2
    have kl : ∀ {k i : Nat}, as[k]? = some (.o i) → k < as.length := fun h => (List.getElem?_eq_some_iff.mp h).1
    refine ⟨E'.le, by simp [E.len], ⟨fun j a => (j < Γ.length ∧ ((∃ (k : Nat), as[k]? = some (.o j) ∧ S' k a) ∨ ((∀ (k : Nat), as[k]? ≠ some (.o j)) ∧ S j a))) ∨ (j = Γ.length ∧ S' as.length a), fun j u e => ?_, fun j j' a h1 h2 => ?_, fun j a h1 => ?_⟩, fun a o e n => ?_, E.f0.tr lf, fun a n => E'.nn a (E.nn a n)⟩
    · have hj : j < (Γ ++ [s]).length := (List.getElem?_eq_some_iff.mp e).1
      simp only [List.length_append, List.length_cons, List.length_nil] at hj
      by_cases hlt : j < Γ.length
      · rw [List.getElem?_append_left hlt] at e
        rw [getD_app (by rw [E.len]; exact hlt)]
        by_cases hp : ∃ (k : Nat), as[k]? = some (.o j)
        · obtain ⟨k, hk⟩ := hp
          obtain ⟨u0, Φ, hΓ, hu, e0, hkk, _⟩ := exv hk
          rw [hΓ] at e
          cases e
          have eS : (fun a => (j < Γ.length ∧ ((∃ (k : Nat), as[k]? = some (.o j) ∧ S' k a) ∨ ((∀ (k : Nat), as[k]? ≠ some (.o j)) ∧ S j a))) ∨ (j = Γ.length ∧ S' as.length a)) = S' k := by
            funext a
            apply propext
            constructor
            · rintro (⟨_, ⟨k', e', z⟩ | ⟨z, _⟩⟩ | ⟨z, _⟩)
              · rw [ix_inj nd hk e']; exact z
              · exact absurd hk (z k)
              · omega
            · intro z; exact .inl ⟨hlt, .inl ⟨k, hk, z⟩⟩
          show SlOk X F' H' _ (fun a => (j < Γ.length ∧ ((∃ (k : Nat), as[k]? = some (.o j) ∧ S' k a) ∨ ((∀ (k : Nat), as[k]? ≠ some (.o j)) ∧ S j a))) ∨ (j = Γ.length ∧ S' as.length a)) _
          rw [eS]
          have hk' : k < as.length := kl hk
          have q1 := hs' k (.ex u0 Φ) (by
            rw [List.getElem?_append_left (by simpa using hk'), List.getElem?_map, hk]
            simp [Ag.sl, List.getD_eq_getElem?_getD, hΓ])
          exact ⟨e0, hkk, q1.2.2⟩
        · have hn : ∀ (k : Nat), as[k]? ≠ some (.o j) := fun k z => hp ⟨k, z⟩
          have eS : (fun a => (j < Γ.length ∧ ((∃ (k : Nat), as[k]? = some (.o j) ∧ S' k a) ∨ ((∀ (k : Nat), as[k]? ≠ some (.o j)) ∧ S j a))) ∨ (j = Γ.length ∧ S' as.length a)) = S j := by
            funext a
            apply propext
            constructor
            · rintro (⟨_, ⟨k', e', z⟩ | ⟨_, z⟩⟩ | ⟨z, _⟩)
              · exact absurd e' (hn k')
              · exact z
              · omega
            · intro z; exact .inl ⟨hlt, .inr ⟨hn, z⟩⟩
          show SlOk X F' H' _ (fun a => (j < Γ.length ∧ ((∃ (k : Nat), as[k]? = some (.o j) ∧ S' k a) ∨ ((∀ (k : Nat), as[k]? ≠ some (.o j)) ∧ S j a))) ∨ (j = Γ.length ∧ S' as.length a)) _
          rw [eS]
          exact (hs j u e).mono lf fun a sa => (keepP j a sa hn).1
      · have hje : j = Γ.length := by omega
        subst hje
        simp at e
        subst e
        have eS : (fun a => (Γ.length < Γ.length ∧ ((∃ (k : Nat), as[k]? = some (.o Γ.length) ∧ S' k a) ∨ ((∀ (k : Nat), as[k]? ≠ some (.o Γ.length)) ∧ S Γ.length a))) ∨ (Γ.length = Γ.length ∧ S' as.length a)) = S' as.length := by
          funext a
          apply propext
          constructor
          · rintro (⟨z, _⟩ | ⟨_, z⟩)
            · omega
            · exact z
          · intro z; exact .inr ⟨rfl, z⟩
        show SlOk X F' H' _ (fun a => (Γ.length < Γ.length ∧ ((∃ (k : Nat), as[k]? = some (.o Γ.length) ∧ S' k a) ∨ ((∀ (k : Nat), as[k]? ≠ some (.o Γ.length)) ∧ S Γ.length a))) ∨ (Γ.length = Γ.length ∧ S' as.length a)) _
        rw [eS, ← E.len, getD_last]
        have q1 := hs' as.length s (by
          have : as.length = (as.map (Ag.sl Γ)).length := by simp
          rw [this]
          simp)
        have e4 : (vs.map some ++ [some v]).getD as.length none = some v := by
          have : as.length = (vs.map some).length := by simp [ra.len]
          rw [this, getD_last]
        rw [e4] at q1
        refine SlOk.to ?_ ?_ q1
        · rfl
        · exact fun a n => E.nn a n
    · rcases h1 with ⟨a1, ⟨k1, e1, z1⟩ | ⟨n1, z1⟩⟩ | ⟨a1, z1⟩ <;> rcases h2 with ⟨a2, ⟨k2, e2, z2⟩ | ⟨n2, z2⟩⟩ | ⟨a2, z2⟩
      · have := hdj' k1 k2 a z1 z2
        subst this
        rw [e1] at e2
        cases e2
        rfl
      · exact (disP k1 j' a z1 z2 n2).elim
      · have := hdj' k1 as.length a z1 z2
        have := kl e1
        omega
      · exact (disP k2 j a z2 z1 n1).elim
      · exact hdj j j' a z1 z2
      · exact (disP _ j a z2 z1 n1).elim
      · have := hdj' k2 as.length a z2 z1
        have := kl e2
        omega
      · exact (disP _ j' a z1 z2 n2).elim
      · omega
    · rcases h1 with ⟨a1, ⟨k1, e1, z1⟩ | ⟨n1, z1⟩⟩ | ⟨a1, z1⟩
      · exact ⟨(ho' k1 a z1).1, (ho' k1 a z1).2.1, ownX k1 a z1⟩
      · obtain ⟨q1, q2⟩ := keepP j a z1 n1
        exact ⟨q2.trans (ho j a z1).1, by rw [q1]; exact (ho j a z1).2.1, (ho j a z1).2.2⟩
      · exact ⟨(ho' _ a z1).1, (ho' _ a z1).2.1, ownX _ a z1⟩
    · obtain ⟨q1, q2⟩ := E.fr a o e n
      have nS : ¬ ∃ (k i : Nat), as[k]? = some (.o i) ∧ S i a := fun ⟨k, i, _, si⟩ => by
        rcases (ho i a si).2.2 with w | w
        · rw [w] at e; cases e
        · exact n w
      obtain ⟨r1, r2⟩ := E'.fr a o q1 nS
      exact ⟨r1, r2.trans q2⟩
theorem call_g {K : Kw} {Γ : List Sl} {T : List Sl → (Sl → Prop) → Prop} {X : Bs} (hK : X.K = K) {F H : Hp} {σ : L2.St} (E : En X F H σ Γ) {vs : List V} {as : List Ag} (ra : AgsOk X false F σ vs as) (hg : AgsGood Γ as) {Qr : Sl → Prop} (hT : T (as.map (Ag.sl Γ)) Qr) {C : VK} {EE : XK}
    (k : ∀ v F' H' s, Le F F' → En X F' H' (σ ++ [some v]) (Γ ++ [s]) → Qr s → C v H') : spG K T vs H C EE := by
  obtain ⟨X1, a, b, c, d, e, f⟩ := call_sp hK E ra hg
  exact ⟨X1, F, _, Qr, a, b, c, d, e, hT, fun F' H' v s lf E' q => k v F' H' s lf (f F' H' v s lf E') q⟩
section
variable {K : Kw} {Γ : List Sl} {T : List Sl → (Sl → Prop) → Prop} {EE : XK} {tr : TA}
theorem wx_call {QX : Sl → Prop} (h : WA K false Γ tr fun as => AgsGood Γ as ∧ T (as.map (Ag.sl Γ)) QX) : WX K Γ (tCall (spG K T) [] EE tr) QX := fun X hK F H σ E C k =>
  h X hK F H σ E _ fun vs F1 H1 as l1 E1 r1 ⟨hg, hT⟩ => by
    rw [List.append_nil]
    exact call_g hK E1 r1 hg hT fun v F' H' s lf E' q => k v F' H' s (l1.tr lf) E' q
theorem wd_call {m : Bool} {Q : PyData → Prop} (h : WA K false Γ tr fun as => AgsGood Γ as ∧ T (as.map (Ag.sl Γ)) fun s => ∃ d, s.toD m = some d ∧ Q d) : WD K m Γ (tCall (spG K T) [] EE tr) Q := .ofX (wx_call h)
/-- arguments that are data alone -/
theorem agsGood_d {as : List Ag} {ds : List PyData} (h : allD as = some ds) : AgsGood Γ as := by
  have e : as.filterMap Ag.ix = [] := by
    induction as generalizing ds with
    | nil => rfl
    | cons a as ih =>
      cases a with
      | o i => cases h
      | d x =>
        cases q : allD as with
        | none => rw [allD, q] at h; cases h
        | some es => simpa [Ag.ix] using ih q
  exact ⟨by rw [e]; exact List.nodup_nil, fun i hi => by rw [e] at hi; cases hi⟩
theorem agsGood_1 {i : Nat} {v : V} {Φ : Own} {as : List Ag} {ds : List PyData} (hi : Γ[i]? = some (.ex v Φ)) (h : allD as = some ds) : AgsGood Γ (.o i :: as) := by
  have e : as.filterMap Ag.ix = [] := by
    induction as generalizing ds with
    | nil => rfl
    | cons a as ih =>
      cases a with
      | o i => cases h
      | d x =>
        cases q : allD as with
        | none => rw [allD, q] at h; cases h
        | some es => simpa [Ag.ix] using ih q
  have e' : (Ag.o i :: as).filterMap Ag.ix = [i] := by simp [Ag.ix, e]
  refine ⟨by rw [e']; simp, fun j hj => ?_⟩
  rw [e'] at hj
  simp at hj
  subst hj
  exact ⟨v, Φ, hi⟩
end

/-- the fields of an exception; where they stand -/
abbrev Fs := List (Str × V)
def FsAt (F : Hp) : Option Fs → Option Addr → Prop
  | none, d => d = none
  | some fs, d => ∃ a, d = some a ∧ F a = some (.xd fs)
structure Po where
  nx : List Sl → Prop
  rt : Sl → List Sl → Prop
  bk : List Sl → Prop := fun _ => False
  ct : List Sl → Prop := fun _ => False
  /-- what an exception is let out to, and what is told of it -/
  W : Value → Option Addr → L2.St → Hp → Prop := fun _ _ _ _ => False
  ex : Value → Option Fs → List Sl → Prop := fun _ _ _ => False
structure Meets (X : Bs) (P : Po) (D : Ends) : Prop where
  nx : ∀ F H σ Γ, En X F H σ Γ → P.nx Γ → D.nx σ H
  rt : ∀ F H σ Γ v s, En X F H (σ ++ [some v]) (Γ ++ [s]) → P.rt s Γ → D.rt v H
  bk : ∀ F H σ Γ, En X F H σ Γ → P.bk Γ → D.bk σ H
  ct : ∀ F H σ Γ, En X F H σ Γ → P.ct Γ → D.ct σ H
  xc : ∀ F H σ Γ cls o d, En X F H σ Γ → FsAt F o d → P.ex cls o Γ → P.W cls d σ H
def SJ (K : Kw) (Γ : List Sl) (ts : TS) (P : Po) : Prop := ∀ X : Bs, X.K = K → ∀ F H σ, En X F H σ Γ → ∀ D : Ends, Meets X P D → ts D σ H

/-- the def's own base, not a loop's -/
def Bs.Top (X : Bs) : Prop := (∀ a, X.N a ↔ X.H0 a ≠ none) ∧ Le X.F0 X.H0
/-- .. at the def's own level -/
def SJt (K : Kw) (Γ : List Sl) (ts : TS) (P : Po) : Prop := ∀ X : Bs, X.K = K → X.Top → ∀ F H σ, En X F H σ Γ → ∀ D : Ends, Meets X P D → ts D σ H
theorem SJ.t {K : Kw} {Γ : List Sl} {ts : TS} {P : Po} (h : SJ K Γ ts P) : SJt K Γ ts P := fun X hK _ F H σ E D hD => h X hK F H σ E D hD
theorem sjt_seq {K : Kw} {Γ : List Sl} {t u : TS} {P : Po} (h : SJt K Γ t { P with nx := fun Γ' => SJt K Γ' u P }) : SJt K Γ (tSeq t u) P := fun X hK hT F H σ E D hD =>
  h X hK hT F H σ E _ ⟨fun F' H' σ' Γ' E' q => q X hK hT F' H' σ' E' D hD, hD.rt, hD.bk, hD.ct, hD.xc⟩
theorem sjt_cut {K : Kw} {Γ : List Sl} {t u : TS} {P : Po} (M : List Sl → Prop) (h : SJt K Γ t { P with nx := M }) (k : ∀ Γ', M Γ' → SJt K Γ' u P) : SJt K Γ (tSeq t u) P := fun X hK hT F H σ E D hD =>
  h X hK hT F H σ E _ ⟨fun F' H' σ' Γ' E' q => k Γ' q X hK hT F' H' σ' E' D hD, hD.rt, hD.bk, hD.ct, hD.xc⟩
/-- what the def keeps of the arguments of others -/
def Keep (Γ Γ' : List Sl) : Prop := ∀ (i : Nat) (v : V) (Φ : Own), Γ[i]? = some (.ex v Φ) → Γ'[i]? = some (.ex v Φ)
theorem keep_nil {Γ' : List Sl} : Keep [] Γ' := fun i v Φ h => by simp at h
theorem keep_ex {v : V} {Φ : Own} {Γ Γ' : List Sl} (h : Keep Γ Γ') : Keep (.ex v Φ :: Γ) (.ex v Φ :: Γ') := fun i u Ψ e => by
  cases i with
  | zero => simpa using e
  | succ i => simp at e ⊢; exact h i u Ψ e
theorem keep_dat {m : Bool} {d : PyData} {s : Sl} {Γ Γ' : List Sl} (h : Keep Γ Γ') : Keep (.dat m d :: Γ) (s :: Γ') := fun i u Ψ e => by
  cases i with
  | zero => simp at e
  | succ i => simp at e ⊢; exact h i u Ψ e
/-- no lists of one's own among arguments -/
def NoMl (Γ : List Sl) : Prop := ∀ (i : Nat) (m : Bool) (l : Addr) (ds : List PyData), Γ[i]? ≠ some (.ml m l ds)
theorem noMl_nil : NoMl [] := fun i m l ds h => by simp at h
theorem noMl_dat {m : Bool} {d : PyData} {Γ : List Sl} (h : NoMl Γ) : NoMl (.dat m d :: Γ) := fun i m l ds e => by
  cases i with
  | zero => simp at e
  | succ i => simp at e; exact h i m l ds e
theorem noMl_ex {v : V} {Φ : Own} {Γ : List Sl} (h : NoMl Γ) : NoMl (.ex v Φ :: Γ) := fun i m l ds e => by
  cases i with
  | zero => simp at e
  | succ i => simp at e; exact h i m l ds e
theorem En.pad {X : Bs} {F H : Hp} {σ : L2.St} {Γ : List Sl} (E : En X F H σ Γ) (n : Nat) : En X F H (σ ++ List.replicate n none) (Γ ++ List.replicate n .no) := by
  induction n with
  | zero => simpa using E
  | succ n ih =>
    rw [List.replicate_succ', List.replicate_succ', ← List.append_assoc, ← List.append_assoc]
    exact ih.pushG (T := fun _ => False) Le.rfl' E.le (fun _ _ q => q) (fun _ _ _ => rfl) (fun _ z => z) (fun _ z => z.elim)
/-- the arguments as they stand at the end -/
theorem En.back {X : Bs} {F H F' H' : Hp} {σ' : L2.St} {Γ Γ' : List Sl} {vs : List V} {ov : Option V} {s : Sl} (E0 : En X F H (vs.map some) Γ) (hF : X.F0 = F) (nm : NoMl Γ) (kp : Keep Γ Γ') (E : En X F' H' (σ' ++ [ov]) (Γ' ++ [s])) : En X F' H' (vs.map some ++ [ov]) (Γ ++ [s]) := by
  have lf : Le F F' := by rw [← hF]; exact E.f0
  have hl : σ'.length = Γ'.length := by
    have := E.len
    simp at this
    exact this
  obtain ⟨S0, hs0, _, _⟩ := id E0.sl
  obtain ⟨S, hs, hdj, ho⟩ := id E.sl
  refine ⟨E.le, by simp [← E0.len], ⟨fun i a => (i < Γ.length ∧ (∃ v Φ, Γ[i]? = some (.ex v Φ)) ∧ S i a) ∨ (i = Γ.length ∧ S Γ'.length a), fun i u e => ?_, fun i j a h1 h2 => ?_, fun i a h1 => ?_⟩, E.fr, E.f0, E.nn⟩
  · have hi : i < (Γ ++ [s]).length := (List.getElem?_eq_some_iff.mp e).1
    simp only [List.length_append, List.length_cons, List.length_nil] at hi
    by_cases hlt : i < Γ.length
    · rw [List.getElem?_append_left hlt] at e
      rw [getD_app (by rw [E0.len]; exact hlt)]
      cases u with
      | no =>
        intro a z
        rcases z with ⟨_, ⟨v, Φ, z⟩, _⟩ | ⟨z, _⟩
        · rw [e] at z; cases z
        · omega
      | dat m d =>
        obtain ⟨⟨v, ev, r⟩, _⟩ := hs0 i _ e
        refine ⟨⟨v, ev, Bs.mo r lf⟩, fun a z => ?_⟩
        rcases z with ⟨_, ⟨v, Φ, z⟩, _⟩ | ⟨z, _⟩
        · rw [e] at z; cases z
        · omega
      | ml m l ds => exact absurd e (nm i m l ds)
      | ex v Φ =>
        have e' := kp i v Φ e
        have hi' : i < Γ'.length := (List.getElem?_eq_some_iff.mp e').1
        have q := hs i _ (by rw [List.getElem?_append_left hi']; exact e')
        obtain ⟨ev, hk, _⟩ := hs0 i _ e
        have eS : (fun a => (i < Γ.length ∧ (∃ v Φ, Γ[i]? = some (.ex v Φ)) ∧ S i a) ∨ (i = Γ.length ∧ S Γ'.length a)) = S i := by
          funext a
          apply propext
          constructor
          · rintro (⟨_, _, z⟩ | ⟨z, _⟩)
            · exact z
            · omega
          · intro z; exact .inl ⟨hlt, ⟨v, Φ, e⟩, z⟩
        show SlOk X F' H' _ (fun a => (i < Γ.length ∧ (∃ v Φ, Γ[i]? = some (.ex v Φ)) ∧ S i a) ∨ (i = Γ.length ∧ S Γ'.length a)) _
        rw [eS]
        exact ⟨ev, hk, q.2.2⟩
    · have hie : i = Γ.length := by omega
      subst hie
      simp at e
      subst e
      have eS : (fun a => (Γ.length < Γ.length ∧ (∃ v Φ, Γ[Γ.length]? = some (.ex v Φ)) ∧ S Γ.length a) ∨ (Γ.length = Γ.length ∧ S Γ'.length a)) = S Γ'.length := by
        funext a
        apply propext
        constructor
        · rintro (⟨z, _⟩ | ⟨_, z⟩)
          · omega
          · exact z
        · intro z; exact .inr ⟨rfl, z⟩
      show SlOk X F' H' _ (fun a => (Γ.length < Γ.length ∧ (∃ v Φ, Γ[Γ.length]? = some (.ex v Φ)) ∧ S Γ.length a) ∨ (Γ.length = Γ.length ∧ S Γ'.length a)) _
      rw [eS, ← E0.len, getD_last]
      have q := hs Γ'.length s (by simp)
      rw [← hl, getD_last, hl] at q
      exact q
  · have le : ∀ {i : Nat}, (∃ v Φ, Γ[i]? = some (Sl.ex v Φ)) → i < Γ'.length := fun {i} ⟨v, Φ, z⟩ => (List.getElem?_eq_some_iff.mp (kp i v Φ z)).1
    rcases h1 with ⟨a1, b1, c1⟩ | ⟨a1, c1⟩ <;> rcases h2 with ⟨a2, b2, c2⟩ | ⟨a2, c2⟩
    · exact hdj i j a c1 c2
    · have := hdj _ _ a c1 c2
      have := le b1
      omega
    · have := hdj _ _ a c1 c2
      have := le b2
      omega
    · omega
  · rcases h1 with ⟨a1, b1, c1⟩ | ⟨a1, c1⟩
    · exact ho i a c1
    · exact ho _ a c1
/-- what is wanted of a def's body -/
def retP (Γ : List Sl) (Qr : Sl → Prop) : Po := { nx := fun Γ' => Keep Γ Γ' ∧ Qr (.dat true .none), rt := fun s Γ' => Keep Γ Γ' ∧ Qr s }
section
variable {P : Program} {K : Kw} {mg : Str → Option Value} {base : Heap}
/-- a body keeps its promise -/
theorem body_g {N : List Str} {T : List Sl → (Sl → Prop) → Prop} {vs : List V} {H : Hp} {Q : VK} {E : XK} {t : TS} (h : spG K T vs H Q E) (hn : ∀ Γ Qr, T Γ Qr → NoMl Γ) (hj : ∀ Γ Qr, T Γ Qr → SJt K (Γ ++ List.replicate (N.length - Γ.length) .no) t (retP Γ Qr)) : t { nx := fun _ H' => Q .non H', rt := Q } (L2.start N vs) H := by
  obtain ⟨X, F, Γ, Qr, hK, hF, hH, hNN, E0, hT, k⟩ := h
  have hl : vs.length = Γ.length := by simpa using E0.len
  have Ep := E0.pad (N.length - Γ.length)
  have es : L2.start N vs = vs.map some ++ List.replicate (N.length - Γ.length) none := by rw [L2.start, hl]
  rw [es]
  refine hj Γ Qr hT X hK ⟨fun a => by rw [hH]; exact hNN a, by rw [hF, hH]; exact E0.le⟩ F H _ Ep _ ⟨fun F' H' σ' Γ' E' ⟨kp, q⟩ => ?_, fun F' H' σ' Γ' v s E' ⟨kp, q⟩ => ?_, fun _ _ _ _ _ z => z, fun _ _ _ _ _ z => z, fun _ _ _ _ _ _ _ _ _ z => z⟩
  · exact k F' H' .non (.dat true .none) (by rw [← hF]; exact E'.f0) (E0.back hF (hn Γ Qr hT) kp (E'.pushD .non)) q
  · exact k F' H' v s (by rw [← hF]; exact E'.drop.f0) (E0.back hF (hn Γ Qr hT) kp E') q
theorem len_g {T : List Sl → (Sl → Prop) → Prop} {n : Nat} (hl : ∀ Γ Qr, T Γ Qr → Γ.length = n) : ∀ vs H Q E, spG K T vs H Q E → vs.length = n := fun vs H Q E h => by
  obtain ⟨X, F, Γ, Qr, hK, hF, hH, hNN, E0, hT, k⟩ := h
  have := E0.len
  rw [List.length_map] at this
  rw [this]
  exact hl Γ Qr hT
/-- a def that calls what it calls, as others call it -/
structure Cal (P : Program) (w : World) (K : PySem.W.Frag) (mg : Str → Option Value) (base : Heap) (CX : CXT) (k : Nat) (x : Str) (ps : List Str) (sp : Sp) : Prop where
  ex : ∃ f fd, mg x = some (.ref f) ∧ PySem.W.keepIn K (.ref f) = true ∧ Binds K fd ps [] ∧ FnOk P w K mg base CX k f fd ps sp
/-- where a def stands, and how it is called -/
structure Def (K : PySem.W.Frag) (mg : Str → Option Value) (x : Str) (st : Stmt) (ps : List Str) : Prop where
  ex : ∃ f fd, mg x = some (.ref f) ∧ Fun K x x st f fd ∧ Binds K fd ps []
theorem Cal.mono {CX : CXT} {j k : Nat} {x : Str} {ps : List Str} {sp : Sp} (c : Cal P K.w K mg base CX j x ps sp) (h : j ≤ k) : Cal P K.w K mg base CX k x ps sp :=
  let ⟨f, fd, a, b, d, e⟩ := c.ex
  ⟨f, fd, a, b, d, e.mono h⟩
theorem Cal.imp {CX : CXT} {k : Nat} {x : Str} {ps : List Str} {sp sp' : Sp} (c : Cal P K.w K mg base CX k x ps sp) (h : ∀ vs H Q E, sp' vs H Q E → sp vs H Q E) : Cal P K.w K mg base CX k x ps sp' :=
  let ⟨f, fd, a, b, d, e⟩ := c.ex
  ⟨f, fd, a, b, d, e.imp h⟩
/-- THE RULE for a def over data that raises nothing -/
theorem cal_g {x : Str} {st : Stmt} {N ps : List Str} {k : Nat} {T : List Sl → (Sl → Prop) → Prop} (D : Def K mg x st ps) (S : FnScope N ps (defScope st)) (hT : ∀ Γ Qr, T Γ Qr → Γ.length = ps.length ∧ NoMl Γ)
    (hb : ∀ (f : Addr) (cdv : Value) (A : Around) (outer : List Env) (s : Shared) (H : Hp) (E : XK), Room k (A.deeper (envOfC x (defScope st) s.heap.objs.size f cdv)) →
      ∃ t, PSs (cxOf CX0 P K.w K mg base N x (defScope st) f cdv A outer s H E).nox (defBody st) t ∧ ∀ Γ Qr, T Γ Qr → SJ K (Γ ++ List.replicate (N.length - Γ.length) .no) t (retP Γ Qr)) : Cal P K.w K mg base CX0 (k + 1) x ps (spG K T) := by
  obtain ⟨f, fd, a, F, b⟩ := D.ex
  refine ⟨f, fd, a, F.kp, b, F.ok S (len_g fun Γ Qr h => (hT Γ Qr h).1) fun cdv A outer s H vs Q E hr h => ?_⟩
  obtain ⟨t, ht, hj⟩ := hb f cdv A outer s H E hr
  exact ⟨t, ht, body_g h (fun Γ Qr z => (hT Γ Qr z).2) fun Γ Qr z => (hj Γ Qr z).t⟩
/-- .. whose body is told at its own level -/
theorem cal_t {x : Str} {st : Stmt} {N ps : List Str} {k : Nat} {T : List Sl → (Sl → Prop) → Prop} (D : Def K mg x st ps) (S : FnScope N ps (defScope st)) (hT : ∀ Γ Qr, T Γ Qr → Γ.length = ps.length ∧ NoMl Γ)
    (hb : ∀ (f : Addr) (cdv : Value) (A : Around) (outer : List Env) (s : Shared) (H : Hp) (E : XK), Room k (A.deeper (envOfC x (defScope st) s.heap.objs.size f cdv)) →
      ∃ t, PSs (cxOf CX0 P K.w K mg base N x (defScope st) f cdv A outer s H E).nox (defBody st) t ∧ ∀ Γ Qr, T Γ Qr → SJt K (Γ ++ List.replicate (N.length - Γ.length) .no) t (retP Γ Qr)) : Cal P K.w K mg base CX0 (k + 1) x ps (spG K T) := by
  obtain ⟨f, fd, a, F, b⟩ := D.ex
  refine ⟨f, fd, a, F.kp, b, F.ok S (len_g fun Γ Qr h => (hT Γ Qr h).1) fun cdv A outer s H vs Q E hr h => ?_⟩
  obtain ⟨t, ht, hj⟩ := hb f cdv A outer s H E hr
  exact ⟨t, ht, body_g h (fun Γ Qr z => (hT Γ Qr z).2) hj⟩
/-- a def of which nothing is asked -/
theorem cal_no {x : Str} {st : Stmt} {ps : List Str} {k : Nat} (D : Def K mg x st ps) : Cal P K.w K mg base CX0 k x ps (fun _ _ _ _ => False) := by
  obtain ⟨f, fd, a, F, b⟩ := D.ex
  exact ⟨f, fd, a, F.kp, b, ⟨fun _ _ _ _ h => h.elim, fun _ _ _ _ _ _ _ _ _ _ _ _ _ h => h.elim⟩⟩
end
section
variable {X : Cx} {k : Nat} {x : Str} {ps : List Str} {sp : Sp} {p pos : Pos} {e : Expr} {es : List Expr} {t : TA}
/-- f(e, ..) -/
theorem pe_c (c : Cal X.prog X.w X.K X.mg X.base CX0 k x ps sp) (hr : Room k X.A) (hg : Gl X x) (ha : PA X (e :: es) t) (hdb : (x == ("__debug__" : Str)) = false := by decide) (he : starEach (e :: es) X.env = (false, eval e X.env) :: starEach es X.env := by rfl) (hpl : ((backTo pos (starEach es X.env)).any fun x => x.fst) = false := by rfl) : PE X (.Call (.Name x p) (e :: es) [] pos) (tCall sp [] E0 t) := by
  obtain ⟨f, fd, a, b, d, F⟩ := c.ex
  exact pe_call F hr hg a b d .nil pass0 ha hdb he hpl
end
end Pk
end
section
set_option Elab.async false
set_option linter.all false
set_option maxRecDepth 100000
namespace Pk
open PySem PySem.Spec PyProof.Rows L2

section
variable {X : Bs} {F H : Hp} {σ : L2.St} {Γ : List Sl}
/-- a list of one's own changes -/
theorem En.mut (E : En X F H σ Γ) {i : Nat} {m : Bool} {l : Addr} {ds es : List PyData} {ys : List V} (hi : Γ[i]? = some (.ml m l ds)) (r : RpA X.K (X.ff F m) ys es) : En X F (upd H l (.lst ys)) σ (Γ.set i (.ml m l es)) := by
  obtain ⟨S, hs, hdj, ho⟩ := id E.sl
  have hil : i < Γ.length := (List.getElem?_eq_some_iff.mp hi).1
  obtain ⟨xs, e, hS, hl, _, nl⟩ := hs i _ hi
  have sl : S i l := (hS l).mpr rfl
  refine ⟨E.le.new (ho i l sl).1, by simp [E.len], ⟨S, fun j u q => ?_, hdj, fun j a sa => ⟨(ho j a sa).1, ?_, (ho j a sa).2.2⟩⟩, fun a o q n => ?_, E.f0, fun a n => ?_⟩
  · by_cases hj : j = i
    · subst hj
      rw [List.getElem?_set_self hil] at q
      cases q
      exact ⟨ys, e, hS, upd_same, r, nl⟩
    · rw [List.getElem?_set_ne (Ne.symm hj)] at q
      exact (hs j u q).mono Le.rfl' fun a sa => upd_ne fun z => hj (by subst z; exact hdj j i a sa sl)
  · by_cases z : a = l
    · subst z; rw [upd_same]; simp
    · rw [upd_ne z]; exact (ho j a sa).2.1
  · obtain ⟨q1, q2⟩ := E.fr a o q n
    refine ⟨?_, q2⟩
    rw [upd_ne]
    · exact q1
    · intro z
      subst z
      rcases (ho i a sl).2.2 with w | w
      · rw [w] at q; cases q
      · exact n w
  · by_cases z : a = l
    · subst z; rw [upd_same]; simp
    · rw [upd_ne z]; exact E.nn a n
def wipeG (Γ : List Sl) : List Nat → List Sl
  | [] => Γ
  | v :: vs => (wipeG Γ vs).set v .no
theorem wipeG_length (Γ : List Sl) : ∀ vs : List Nat, (wipeG Γ vs).length = Γ.length
  | [] => rfl
  | v :: vs => by simp [wipeG, wipeG_length Γ vs]
theorem wipeG_out {i : Nat} : ∀ {vs : List Nat}, i ∉ vs → (wipeG Γ vs)[i]? = Γ[i]?
  | [], _ => rfl
  | v :: vs, h => by
    rw [wipeG, List.getElem?_set_ne (by intro z; subst z; exact h List.mem_cons_self)]
    exact wipeG_out fun z => h (List.mem_cons_of_mem _ z)
theorem wipeG_in {i : Nat} (hl : i < Γ.length) : ∀ {vs : List Nat}, i ∈ vs → (wipeG Γ vs)[i]? = some .no
  | [], h => by cases h
  | v :: vs, h => by
    rw [wipeG]
    by_cases z : v = i
    · subst z
      rw [List.getElem?_set_self (by rw [wipeG_length]; exact hl)]
    · rw [List.getElem?_set_ne z]
      rcases List.mem_cons.mp h with w | w
      · exact absurd w.symm z
      · exact wipeG_in hl w
theorem En.set_no (E : En X F H σ Γ) (i : Nat) (ov : Option V) : En X F H (σ.set i ov) (Γ.set i .no) := by
  have h := E.pushG (ov := ov) (s := .no) (T := fun _ => False) Le.rfl' E.le (fun _ _ q => q) (fun _ _ _ => rfl) (fun _ z => z) (fun _ z => z.elim)
  exact h.put i
theorem En.wipe (E : En X F H σ Γ) : ∀ vs : List Nat, En X F H (L2.wipe σ vs) (wipeG Γ vs)
  | [] => E
  | v :: vs => (En.wipe E vs).set_no v none
/-- slots that a comprehension may use as its own -/
def wipeOk (Γ : List Sl) (vs : List Nat) : Prop := ∀ i ∈ vs, ∀ s, Γ[i]? = some s → s = .no ∨ ∃ m d, s = .dat m d
theorem wipeOk_nil : wipeOk Γ [] := fun _ h => by cases h
theorem wipeOk_no {i : Nat} {vs : List Nat} (h : Γ[i]? = some .no) (r : wipeOk Γ vs) : wipeOk Γ (i :: vs) := fun j hj s e => by
  rcases List.mem_cons.mp hj with z | z
  · subst z; rw [h] at e; cases e; exact .inl rfl
  · exact r j z s e
theorem En.unwipe {X0 : Bs} {F0 H0 : Hp} {ov : Option V} {s : Sl} {vs : List Nat} (E0 : En X0 F0 H0 σ Γ) (hK : X0.K = X.K) (hN : X0.N = X.N) (lf : Le F0 F) (hv : wipeOk Γ vs) (E : En X F H (L2.wipe σ vs ++ [ov]) (wipeG Γ vs ++ [s])) : En X F H (σ ++ [ov]) (Γ ++ [s]) := by
  obtain ⟨S0, hs0, _, _⟩ := id E0.sl
  obtain ⟨S, hs, hdj, ho⟩ := id E.sl
  have hl : σ.length = Γ.length := E0.len
  refine ⟨E.le, by simp [hl], ⟨S, fun i u e => ?_, hdj, ho⟩, E.fr, E.f0, E.nn⟩
  have hi : i < (Γ ++ [s]).length := (List.getElem?_eq_some_iff.mp e).1
  simp only [List.length_append, List.length_cons, List.length_nil] at hi
  by_cases hlt : i < Γ.length
  · rw [List.getElem?_append_left hlt] at e
    rw [getD_app (by rw [hl]; exact hlt)]
    by_cases hin : i ∈ vs
    · have q := hs i .no (by rw [List.getElem?_append_left (by rw [wipeG_length]; exact hlt)]; exact wipeG_in hlt hin)
      rcases hv i hin u e with z | ⟨m, d, z⟩
      · subst z; exact q
      · subst z
        obtain ⟨⟨v, ev, r⟩, _⟩ := hs0 i _ e
        refine ⟨⟨v, ev, ?_⟩, q⟩
        rw [← hK]
        exact (Bs.mo r lf).mono (Bs.ff_to (fun a h => by rw [hN]; exact h) m)
    · have q := hs i u (by rw [List.getElem?_append_left (by rw [wipeG_length]; exact hlt), wipeG_out hin]; exact e)
      rw [getD_app (by rw [wipe_length, hl]; exact hlt)] at q
      have : (L2.wipe σ vs).getD i none = σ.getD i none := by simp [List.getD_eq_getElem?_getD, wipe_out hin]
      rw [this] at q
      exact q
  · have hie : i = Γ.length := by omega
    subst hie
    simp at e
    subst e
    rw [← hl, getD_last, hl]
    have q := hs Γ.length s (by rw [← wipeG_length Γ vs]; simp)
    have : (L2.wipe σ vs ++ [ov]).getD Γ.length none = ov := by
      rw [← hl, ← wipe_length σ vs, getD_last]
    rw [this] at q
    exact q
end

def GJ (K : Kw) (m : Bool) (Γ : List Sl) (g : TG) (d : PyData) (N : List Sl → Prop) : Prop := ∀ X : Bs, X.K = K → ∀ F H σ, En X F H σ Γ → ∀ v, Rp K (X.ff F m) v d → ∀ C : L2.St → Hp → Prop,
  (∀ F' H' σ' Γ', Le F F' → En X F' H' σ' Γ' → N Γ' → C σ' H') → g v σ H C
def GJs (K : Kw) (m : Bool) (Γ : List Sl) (g : TGs) (ds : List PyData) (N : List Sl → Prop) : Prop := ∀ X : Bs, X.K = K → ∀ F H σ, En X F H σ Γ → ∀ vs, RpA K (X.ff F m) vs ds → ∀ C : L2.St → Hp → Prop,
  (∀ F' H' σ' Γ', Le F F' → En X F' H' σ' Γ' → N Γ' → C σ' H') → g vs σ H C
section
variable {K : Kw} {m : Bool} {Γ : List Sl} {N : List Sl → Prop}
theorem gj_name {i : Nat} {d : PyData} (q : N (Γ.set i (.dat m d))) : GJ K m Γ (gName i) d N := fun X hK F H σ E v r C k => by
  subst hK
  exact k F H _ _ Le.rfl' ((E.pushD r).put i) q
theorem gj_tup {n : Nat} {gs : TGs} {ds : List PyData} (hn : ds.length = n) (h : GJs K m Γ gs ds N) : GJ K m Γ (gTup K n gs) (.tuple ds) N := fun X hK F H σ E v r C k => by
  cases r with
  | tup a b => exact ⟨_, _, rfl, sqT_le (E.lef m) a, by rw [b.length]; exact hn, h X hK F H σ E _ b C k⟩
theorem gjs_nil (q : N Γ) : GJs K m Γ gNil [] N := fun X hK F H σ E vs r C k => by
  cases r
  exact ⟨rfl, k F H σ Γ Le.rfl' E q⟩
theorem gjs_cons {g : TG} {gs : TGs} {d : PyData} {ds : List PyData} (h : GJ K m Γ g d fun Γ' => GJs K m Γ' gs ds N) : GJs K m Γ (gCons g gs) (d :: ds) N := fun X hK F H σ E vs r C k => by
  cases r with
  | cons a b => exact ⟨_, _, rfl, h X hK F H σ E _ a _ fun F' H' σ' Γ' lf E' h' => h' X hK F' H' σ' E' _ (Bs.moA b lf) C fun F2 H2 σ2 Γ2 l2 E2 q => k F2 H2 σ2 Γ2 (lf.tr l2) E2 q⟩
end
/-- a target that stores into the comprehension's own slots alone -/
def Gw (g : TG) (vs : List Nat) : Prop := ∀ v σ H (C C' : L2.St → Hp → Prop) σ0, L2.wipe σ vs = L2.wipe σ0 vs → (∀ σ2 H2, L2.wipe σ2 vs = L2.wipe σ0 vs → C σ2 H2 → C' σ2 H2) → g v σ H C → g v σ H C'
def Gws (g : TGs) (vs : List Nat) : Prop := ∀ us σ H (C C' : L2.St → Hp → Prop) σ0, L2.wipe σ vs = L2.wipe σ0 vs → (∀ σ2 H2, L2.wipe σ2 vs = L2.wipe σ0 vs → C σ2 H2 → C' σ2 H2) → g us σ H C → g us σ H C'
theorem wipe_in {σ : L2.St} {i : Nat} (hl : i < σ.length) : ∀ {vs : List Nat}, i ∈ vs → (L2.wipe σ vs)[i]? = some none
  | [], h => by cases h
  | v :: vs, h => by
    rw [L2.wipe]
    by_cases z : v = i
    · subst z
      rw [List.getElem?_set_self (by rw [wipe_length]; exact hl)]
    · rw [List.getElem?_set_ne z]
      rcases List.mem_cons.mp h with w | w
      · exact absurd w.symm z
      · exact wipe_in hl w
theorem wipe_eq {σ σ' : L2.St} {vs : List Nat} (hl : σ.length = σ'.length) (h : ∀ i, i ∉ vs → σ[i]? = σ'[i]?) : L2.wipe σ vs = L2.wipe σ' vs := by
  apply List.ext_getElem?
  intro i
  by_cases hin : i ∈ vs
  · by_cases hlt : i < σ.length
    · rw [wipe_in hlt hin, wipe_in (by rw [← hl]; exact hlt) hin]
    · rw [List.getElem?_eq_none (by rw [wipe_length]; omega), List.getElem?_eq_none (by rw [wipe_length]; omega)]
  · rw [wipe_out hin, wipe_out hin]
    exact h i hin
theorem wipe_set {σ : L2.St} {i : Nat} {ov : Option V} {vs : List Nat} (h : i ∈ vs) : L2.wipe (σ.set i ov) vs = L2.wipe σ vs := wipe_eq (by simp) fun j hj => by
  rw [List.getElem?_set_ne]
  intro z
  subst z
  exact hj h
theorem wipe_wipe {σ : L2.St} {vs : List Nat} : L2.wipe (L2.wipe σ vs) vs = L2.wipe σ vs := wipe_eq (wipe_length σ vs) fun j hj => wipe_out hj
theorem gw_name {i : Nat} {vs : List Nat} (h : i ∈ vs) : Gw (gName i) vs := fun v σ H C C' σ0 e k q => k _ _ ((wipe_set h).trans e) q
theorem gw_tup {K : PySem.W.Frag} {n : Nat} {gs : TGs} {vs : List Nat} (h : Gws gs vs) : Gw (gTup K n gs) vs := fun v σ H C C' σ0 e k q => by
  obtain ⟨a, xs, e1, h1, h2, q⟩ := q
  exact ⟨a, xs, e1, h1, h2, h xs σ H C C' σ0 e k q⟩
theorem gws_nil {vs : List Nat} : Gws gNil vs := fun us σ H C C' σ0 e k q => ⟨q.1, k σ H e q.2⟩
theorem gws_cons {g : TG} {gs : TGs} {vs : List Nat} (h : Gw g vs) (hs : Gws gs vs) : Gws (gCons g gs) vs := fun us σ H C C' σ0 e k q => by
  obtain ⟨v, r, e1, q⟩ := q
  exact ⟨v, r, e1, h v σ H _ _ σ0 e (fun σ2 H2 e2 q2 => hs r σ2 H2 C C' σ0 e2 k q2) q⟩

section
variable {K : Kw} {m : Bool} {Γ : List Sl} {P : Po} {t u ts : TS} {te ta tb : TE}
theorem Meets.imp {X : Bs} {P P' : Po} {D : Ends} (h : Meets X P D) (nx : ∀ Γ, P'.nx Γ → P.nx Γ) (rt : ∀ s Γ, P'.rt s Γ → P.rt s Γ) (bk : ∀ Γ, P'.bk Γ → P.bk Γ) (ct : ∀ Γ, P'.ct Γ → P.ct Γ) (hW : P'.W = P.W) (ex : ∀ c d Γ, P'.ex c d Γ → P.ex c d Γ) : Meets X P' D :=
  ⟨fun F H σ Γ E q => h.nx F H σ Γ E (nx Γ q), fun F H σ Γ v s E q => h.rt F H σ Γ v s E (rt s Γ q), fun F H σ Γ E q => h.bk F H σ Γ E (bk Γ q), fun F H σ Γ E q => h.ct F H σ Γ E (ct Γ q), fun F H σ Γ c o d E a q => by rw [hW]; exact h.xc F H σ Γ c o d E a (ex c o Γ q)⟩
theorem SJ.mono {P' : Po} (h : SJ K Γ ts P') (nx : ∀ Γ, P'.nx Γ → P.nx Γ) (rt : ∀ s Γ, P'.rt s Γ → P.rt s Γ) (bk : ∀ Γ, P'.bk Γ → P.bk Γ) (ct : ∀ Γ, P'.ct Γ → P.ct Γ) (hW : P'.W = P.W) (ex : ∀ c d Γ, P'.ex c d Γ → P.ex c d Γ) : SJ K Γ ts P := fun X hK F H σ E D hD => h X hK F H σ E D (hD.imp nx rt bk ct hW ex)
theorem sj_next (q : P.nx Γ) : SJ K Γ tNext P := fun X hK F H σ E D hD => hD.nx F H σ Γ E q
theorem sj_seq (h : SJ K Γ t { P with nx := fun Γ' => SJ K Γ' u P }) : SJ K Γ (tSeq t u) P := fun X hK F H σ E D hD =>
  h X hK F H σ E _ ⟨fun F' H' σ' Γ' E' q => q X hK F' H' σ' E' D hD, hD.rt, hD.bk, hD.ct, hD.xc⟩
/-- with a word between -/
theorem sj_cut (M : List Sl → Prop) (h : SJ K Γ t { P with nx := M }) (k : ∀ Γ', M Γ' → SJ K Γ' u P) : SJ K Γ (tSeq t u) P := fun X hK F H σ E D hD =>
  h X hK F H σ E _ ⟨fun F' H' σ' Γ' E' q => k Γ' q X hK F' H' σ' E' D hD, hD.rt, hD.bk, hD.ct, hD.xc⟩
theorem sj_asg {g : TG} (m : Bool) (h : WD K m Γ te fun d => GJ K m Γ g d P.nx) : SJ K Γ (tAsg te g) P := fun X hK F H σ E D hD =>
  h X hK F H σ E _ fun v F1 H1 d l1 E1 r q => q X hK F1 H1 σ E1 v r _ fun F2 H2 σ2 Γ2 l2 E2 q2 => hD.nx F2 H2 σ2 Γ2 E2 q2
theorem sj_set {i : Nat} (m : Bool) (h : WD K m Γ te fun d => P.nx (Γ.set i (.dat m d))) : SJ K Γ (tAsg te (gName i)) P := sj_asg m (h.mono fun d q => gj_name q)
theorem sj_setX {i : Nat} (h : WX K Γ te fun s => P.nx (Γ.set i s)) : SJ K Γ (tAsg te (gName i)) P := fun X hK F H σ E D hD =>
  h X hK F H σ E _ fun v F1 H1 s l1 E1 q => hD.nx F1 H1 _ _ (E1.put i) q
theorem sj_ret (h : WX K Γ te fun s => P.rt s Γ) : SJ K Γ (tRet te) P := fun X hK F H σ E D hD =>
  h X hK F H σ E _ fun v F1 H1 s l1 E1 q => hD.rt F1 H1 _ _ v s E1 q
theorem sj_retD (m : Bool) (h : WD K m Γ te fun d => P.rt (.dat m d) Γ) : SJ K Γ (tRet te) P := sj_ret (.ofD h)
/-- a list of one's own is frozen -/
theorem sj_frz (i : Nat) {l : Addr} {ds : List PyData} (hi : Γ[i]? = some (.ml m l ds)) (h : SJ K (Γ.set i (.dat m (.list ds))) ts P) : SJ K Γ ts P := fun X hK F H σ E D hD => by
  obtain ⟨F', lf, E'⟩ := E.freeze hi
  exact h X hK F' H σ E' D hD
theorem En.take {X : Bs} {F H : Hp} {σ : L2.St} (E : En X F H σ Γ) {i : Nat} {l : Addr} {ds : List PyData} (hi : Γ[i]? = some (.ml m l ds)) : En X F H (σ ++ [some (.ref l)]) (Γ.set i .no ++ [.ml m l ds]) := by
  obtain ⟨S, hs, hdj, ho⟩ := id E.sl
  have hil : i < Γ.length := (List.getElem?_eq_some_iff.mp hi).1
  refine ⟨E.le, by simp [E.len], ⟨fun j a => (j < Γ.length ∧ j ≠ i ∧ S j a) ∨ (j = Γ.length ∧ S i a), fun j u e => ?_, fun j k a h1 h2 => ?_, fun j a h1 => ?_⟩, E.fr, E.f0, E.nn⟩
  · have hj : j < (Γ.set i .no ++ [Sl.ml m l ds]).length := (List.getElem?_eq_some_iff.mp e).1
    simp only [List.length_append, List.length_cons, List.length_nil, List.length_set] at hj
    by_cases hlt : j < Γ.length
    · rw [List.getElem?_append_left (by simpa using hlt)] at e
      rw [getD_app (by rw [E.len]; exact hlt)]
      by_cases z : j = i
      · subst z
        rw [List.getElem?_set_self hil] at e
        cases e
        intro a q
        rcases q with ⟨_, q, _⟩ | ⟨q, _⟩
        · exact q rfl
        · omega
      · rw [List.getElem?_set_ne (Ne.symm z)] at e
        have eS : (fun a => (j < Γ.length ∧ j ≠ i ∧ S j a) ∨ (j = Γ.length ∧ S i a)) = S j := by
          funext a
          apply propext
          constructor
          · rintro (⟨_, _, q⟩ | ⟨q, _⟩)
            · exact q
            · omega
          · intro q; exact .inl ⟨hlt, z, q⟩
        show SlOk X F H _ (fun a => (j < Γ.length ∧ j ≠ i ∧ S j a) ∨ (j = Γ.length ∧ S i a)) _
        rw [eS]
        exact hs j u e
    · have hje : j = Γ.length := by omega
      subst hje
      have e' : (Γ.set i .no ++ [Sl.ml m l ds])[Γ.length]? = some (.ml m l ds) := by
        have : Γ.length = (Γ.set i Sl.no).length := by simp
        rw [this]; simp
      rw [e'] at e
      cases e
      have eS : (fun a => (Γ.length < Γ.length ∧ Γ.length ≠ i ∧ S Γ.length a) ∨ (Γ.length = Γ.length ∧ S i a)) = S i := by
        funext a
        apply propext
        constructor
        · rintro (⟨q, _⟩ | ⟨_, q⟩)
          · omega
          · exact q
        · intro q; exact .inr ⟨rfl, q⟩
      show SlOk X F H _ (fun a => (Γ.length < Γ.length ∧ Γ.length ≠ i ∧ S Γ.length a) ∨ (Γ.length = Γ.length ∧ S i a)) _
      rw [eS, ← E.len, getD_last]
      obtain ⟨xs, e0, r⟩ := hs i _ hi
      exact ⟨xs, rfl, r⟩
  · rcases h1 with ⟨a1, b1, c1⟩ | ⟨a1, c1⟩ <;> rcases h2 with ⟨a2, b2, c2⟩ | ⟨a2, c2⟩
    · exact hdj j k a c1 c2
    · exact absurd (hdj _ _ a c1 c2) b1
    · exact absurd (hdj _ _ a c2 c1) b2
    · omega
  · rcases h1 with ⟨_, _, c1⟩ | ⟨_, c1⟩
    · exact ho j a c1
    · exact ho i a c1
/-- return of a list of one's own -/
theorem sj_retM {i : Nat} {l : Addr} {ds : List PyData} (hi : Γ[i]? = some (.ml m l ds)) (h : P.rt (.ml m l ds) (Γ.set i .no)) : SJ K Γ (tRet (tVar i)) P := fun X hK F H σ E D hD => by
  obtain ⟨xs, e, _⟩ := E.ml hi
  exact ⟨_, e, hD.rt F H σ _ (.ref l) _ (E.take hi) h⟩
theorem sj_if {c : TT} (h : WT K Γ c fun b => if b = true then SJ K Γ t P else SJ K Γ u P) : SJ K Γ (tIfS c t u) P := fun X hK F H σ E D hD =>
  h X hK F H σ E _ fun b F1 H1 l1 E1 q => by
    cases b with
    | true => exact q X hK F1 H1 σ E1 D hD
    | false => exact q X hK F1 H1 σ E1 D hD
theorem sj_drop (h : WX K Γ te fun _ => P.nx Γ) : SJ K Γ (tDrop te) P := fun X hK F H σ E D hD =>
  h X hK F H σ E _ fun v F1 H1 s l1 E1 q => hD.nx F1 H1 _ _ E1.drop q
theorem sz_lt {n : Nat} (h : n < 100000) : n < sizeLine := Nat.lt_of_lt_of_le h (by decide)
theorem sz_le {n : Nat} (h : n ≤ 100000) : n ≤ sizeLine := Nat.le_trans h (by decide)
/-- xs.append(e), of one's own -/
theorem sj_app {i : Nat} {l : Addr} {ds : List PyData} (hi : Γ[i]? = some (.ml m l ds)) (hz : ds.length < 100000) (h : WD K m Γ te fun d => P.nx (Γ.set i (.ml m l (ds ++ [d])))) : SJ K Γ (tDrop (tBM K "list" rAppend (tVar i) (tCons te tNil))) P := fun X hK F H σ E D hD => by
  subst hK
  obtain ⟨xs, e, hl, fl, r⟩ := E.ml hi
  refine ⟨.ref l, e, .inl ⟨rfl, _, SqL.of hl⟩, h X rfl F H σ E _ fun v F1 H1 d l1 E1 rv q => ?_⟩
  obtain ⟨xs1, e1, hl1, fl1, r1⟩ := E1.ml hi
  refine ⟨l, xs1, v, rfl, rfl, hl1, sz_lt (by rw [r1.length]; exact hz), hD.nx F1 _ σ _ (E1.mut hi (r1.append (RpA.one rv))) q⟩
/-- xs.extend(e), of one's own -/
theorem sj_ext {i : Nat} {l : Addr} {ds : List PyData} (hi : Γ[i]? = some (.ml m l ds)) (h : WD K m Γ te fun d => ∃ es, d = .list es ∧ ds.length + es.length ≤ 100000 ∧ P.nx (Γ.set i (.ml m l (ds ++ es)))) : SJ K Γ (tDrop (tBM K "list" rExtend (tVar i) (tCons te tNil))) P := fun X hK F H σ E D hD => by
  subst hK
  obtain ⟨xs, e, hl, fl, r⟩ := E.ml hi
  refine ⟨.ref l, e, .inl ⟨rfl, _, SqL.of hl⟩, h X rfl F H σ E _ fun v F1 H1 d l1 E1 rv ⟨es, e2, hz, q⟩ => ?_⟩
  subst e2
  obtain ⟨xs1, e1, hl1, fl1, r1⟩ := E1.ml hi
  cases rv with
  | lst hb rb => exact ⟨l, _, xs1, _, rfl, rfl, hl1, E1.lef m _ _ hb, sz_le (by rw [r1.length, rb.length]; exact hz), hD.nx F1 _ σ _ (E1.mut hi (r1.append rb)) q⟩
/-- target = xs.pop(), of one's own -/
theorem sj_pop {i : Nat} {l : Addr} {ds : List PyData} {d : PyData} {g : TG} (hi : Γ[i]? = some (.ml m l (ds ++ [d]))) (h : GJ K m (Γ.set i (.ml m l ds)) g d P.nx) : SJ K Γ (tAsg (tBM0 K "list" rPop (tVar i)) g) P := fun X hK F H σ E D hD => by
  subst hK
  obtain ⟨xs, e, hl, fl, r⟩ := E.ml hi
  have hn : xs.length = ds.length + 1 := by rw [r.length]; simp
  obtain ⟨v, hv, rv⟩ := r.get (i := ds.length) (d := d) (by simp)
  have rd : RpA X.K (X.ff F m) xs.dropLast ds := by
    have := r.take ds.length
    simp at this
    rw [List.dropLast_eq_take, hn]
    simpa using this
  refine ⟨.ref l, e, .inl ⟨rfl, _, SqL.of hl⟩, l, xs, v, rfl, rfl, hl, by rw [hn]; simpa using hv, ?_⟩
  exact h X rfl F _ σ (E.mut hi rd) v rv _ fun F2 H2 σ2 Γ2 l2 E2 q2 => hD.nx F2 H2 σ2 Γ2 E2 q2
/-- while -/
theorem sj_while {c : TT} (I : Nat → List Sl → Prop) (m : Nat) (h0 : I m Γ) (hs : ∀ m Γ', I m Γ' → WT K Γ' c fun b => if b = true then SJ K Γ' t { P with nx := fun Γ2 => ∃ m', m' < m ∧ I m' Γ2, ct := fun Γ2 => ∃ m', m' < m ∧ I m' Γ2, bk := P.nx } else P.nx Γ') : SJ K Γ (tWhile c t) P := fun X hK F H σ E D hD => by
  refine ⟨fun m σ H => ∃ F Γ', En X F H σ Γ' ∧ I m Γ', ⟨m, F, Γ, E, h0⟩, fun m σ' H' ⟨F', Γ', E', hi⟩ => ?_⟩
  refine hs m Γ' hi X hK F' H' σ' E' _ fun b F1 H1 l1 E1 q => ?_
  cases b with
  | true =>
    rw [if_pos rfl]
    refine ⟨fun σ2 H2 => ∃ F2 Γ2, En X F2 H2 σ2 Γ2 ∧ ∃ m', m' < m ∧ I m' Γ2, fun σ2 H2 ⟨F2, Γ2, E2, m', hm, h2⟩ => ⟨m', hm, F2, Γ2, E2, h2⟩, ?_⟩
    exact q X hK F1 H1 σ' E1 _ ⟨fun F2 H2 σ2 Γ2 E2 z => ⟨F2, Γ2, E2, z⟩, hD.rt, hD.nx, fun F2 H2 σ2 Γ2 E2 z => ⟨F2, Γ2, E2, z⟩, hD.xc⟩
  | false =>
    rw [if_neg Bool.false_ne_true]
    exact hD.nx F1 H1 σ' Γ' E1 q
end

/-- the heap has grown by a new thing, or is as it was -/
structure Gr (F H F' H' : Hp) : Prop where
  lf : Le F F'
  le : Le F' H'
  hh : ∀ a o, H a = some o → H' a = some o
  hn : ∀ a o, H a = some o → F' a = F a
theorem Gr.same {F H : Hp} (h : Le F H) : Gr F H F H := ⟨Le.rfl', h, fun _ _ q => q, fun _ _ _ => rfl⟩
theorem Gr.new {F H : Hp} (h : Le F H) {p : Addr} {o : HO} (hp : H p = none) : Gr F H (upd F p o) (upd H p o) :=
  ⟨Le.up (h.nn hp), h.both, fun a u q => by rw [upd_ne (ne_of_none q hp)]; exact q, fun a u q => by rw [upd_ne (ne_of_none q hp)]⟩
theorem En.gr {X : Bs} {F H F' H' : Hp} {σ : L2.St} {Γ : List Sl} (E : En X F H σ Γ) (g : Gr F H F' H') : En X F' H' σ Γ := E.grow g.lf g.le g.hh g.hn
def WI (K : Kw) (m : Bool) (Γ : List Sl) (wi : TI) (Q : List PyData → Prop) : Prop := ∀ X : Bs, X.K = K → ∀ F H σ, En X F H σ Γ → ∀ C : It → Hp → Prop,
  (∀ J F' H' G Y ds, Le F F' → En X F' H' σ Γ → Walk J ds.length G Y → (∀ H2, Le F' H2 → G H2) → (∀ i F2 H2 x H3, Le F' F2 → Le F2 H2 → i < ds.length → Y i H2 x H3 → ∃ d F3, ds[i]? = some d ∧ Gr F2 H2 F3 H3 ∧ Rp K (X.ff F3 m) x d) → Q ds → C J H') → wi σ H C
section
variable {K : Kw} {m : Bool} {Γ : List Sl} {P : Po} {g : TG} {tb : TS} {wi : TI} {tl : TE} {QI : List PyData → Prop} {ta : TA}
theorem sj_for (m : Bool) (h : WI K m Γ wi fun ds => ∃ I : Nat → List Sl → Prop, I 0 Γ ∧ (∀ i d Γ', ds[i]? = some d → I i Γ' → GJ K m Γ' g d fun Γ2 => SJ K Γ2 tb { P with nx := I (i + 1), ct := I (i + 1), bk := P.nx }) ∧ ∀ Γ', I ds.length Γ' → P.nx Γ') : SJ K Γ (tFor wi g tb) P := fun X hK F H σ E D hD => by
  refine h X hK F H σ E _ fun J F1 H1 G Y ds lf E1 wk hG hY ⟨I, h0, hs, he⟩ => ?_
  obtain ⟨X1, k1, n1, f1, _, Er, back⟩ := E1.rebase
  have ffe : ∀ F, X1.ff F m = X.ff F m := fun F => by cases m <;> simp [Bs.ff, n1]
  have hK1 : X1.K = K := k1.trans hK
  refine for_it wk (fun i σ' H' => ∃ F' Γ', En X1 F' H' σ' Γ' ∧ I i Γ') ⟨F1, Γ, Er, h0⟩ (fun i σ' H' _ ⟨F', Γ', E', _⟩ => hG H' ?_) (fun i x σ' H' H3 hi ⟨F', Γ', E', hI⟩ hy => ?_) (fun σ' H' ⟨F', Γ', E', hI⟩ => hD.nx F' H' σ' Γ' (back _ _ _ _ E') (he Γ' hI))
  · exact Le.tr (by rw [← f1]; exact E'.f0) E'.le
  · obtain ⟨d, F3, hd, gr, r⟩ := hY i F' H' x H3 (by rw [← f1]; exact E'.f0) E'.le hi hy
    refine hs i d Γ' hd hI X1 hK1 F3 H3 σ' (E'.gr gr) x (by rw [ffe]; exact r) _ fun F4 H4 σ4 Γ4 l4 E4 sj => ?_
    exact sj X1 hK1 F4 H4 σ4 E4 _ ⟨fun F5 H5 σ5 Γ5 E5 q => ⟨F5, Γ5, E5, q⟩, fun F5 H5 σ5 Γ5 v s E5 q => hD.rt F5 H5 σ5 Γ5 v s (back _ _ _ _ E5) q, fun F5 H5 σ5 Γ5 E5 q => hD.nx F5 H5 σ5 Γ5 (back _ _ _ _ E5) q, fun F5 H5 σ5 Γ5 E5 q => ⟨F5, Γ5, E5, q⟩, fun F5 H5 σ5 Γ5 c o d E5 a q => hD.xc F5 H5 σ5 Γ5 c o d (back _ _ _ _ E5) a q⟩
theorem wi_list (h : WD K m Γ tl fun d => ∃ ds, d = .list ds ∧ QI ds) : WI K m Γ (iList K tl) QI := fun X hK F H σ E C k =>
  h X hK F H σ E _ fun v F1 H1 d l1 E1 r ⟨ds, e, q⟩ => by
    subst e
    cases r with
    | lst ha rs =>
      rename_i a xs
      have hn : xs.length = ds.length := rs.length
      refine ⟨a, rfl, ⟨xs, SqL.of (E1.lef m _ _ ha)⟩, k (Itl K a) F1 H1 (fun H => SqL K H a xs) (YAt xs) ds l1 E1 (by rw [← hn]; exact walk_list) (fun H2 l2 => SqL.of (l2 _ _ (X.ff_le F1 m _ _ ha))) (fun i F2 H2 x H3 l2 le hi hy => ?_) q⟩
      obtain ⟨rfl, hx⟩ := hy
      obtain ⟨d, hd, rd⟩ := rs.getV hx
      exact ⟨d, F2, hd, Gr.same le, Bs.mo rd l2⟩
/-- lo, lo + 1, .. -/
def rangeD (lo : Int) (n : Nat) : List PyData := (List.range n).map fun (i : Nat) => PyData.int (lo + i)
theorem rangeD_len {lo : Int} {n : Nat} : (rangeD lo n).length = n := by simp [rangeD]
theorem rangeD_get {lo : Int} {n i : Nat} (h : i < n) : (rangeD lo n)[i]? = some (.int (lo + i)) := by simp [rangeD, h]
theorem rangeD_of {lo : Int} {n i : Nat} {d : PyData} (h : (rangeD lo n)[i]? = some d) : i < n ∧ d = .int (lo + i) := by
  have hi : i < (rangeD lo n).length := (List.getElem?_eq_some_iff.mp h).1
  rw [rangeD_len] at hi
  rw [rangeD_get hi] at h
  exact ⟨hi, (Option.some.inj h).symm⟩
theorem walkR {X : Bs} {F' : Hp} {lo : Int} {n : Nat} : (∀ i F2 H2 x H3, Le F' F2 → Le F2 H2 → i < (rangeD lo n).length → YFn (fun i => V.int (lo + i)) i H2 x H3 → ∃ d F3, (rangeD lo n)[i]? = some d ∧ Gr F2 H2 F3 H3 ∧ Rp K (X.ff F3 m) x d) := fun i F2 H2 x H3 l2 le hi hy => by
  obtain ⟨rfl, rfl⟩ := hy
  rw [rangeD_len] at hi
  exact ⟨_, F2, rangeD_get hi, Gr.same le, .int _⟩
theorem wi_rng1 (h : WA K false Γ ta fun as => ∃ j : Int, as = [.d (.int j)] ∧ (-(2 ^ 62) ≤ j ∧ j < 2 ^ 62) ∧ QI (rangeD 0 j.toNat)) : WI K m Γ (iRng1 ta) QI := fun X hK F H σ E C k =>
  h X hK F H σ E _ fun vs F1 H1 as l1 E1 r ⟨j, e, hj, q⟩ => by
    subst e
    cases r with
    | cons a b =>
      cases b
      have a' : Rp X.K (X.ff F1 false) _ (.int j) := a
      cases a'
      exact ⟨j, rfl, hj.1, hj.2, k (Itr 0 j.toNat) F1 H1 (fun _ => True) _ (rangeD 0 j.toNat) l1 E1 (by rw [rangeD_len]; exact walk_range) (fun _ _ => trivial) walkR q⟩
/-- a list comprehension -/
theorem wx_lc {mi : Bool} (m : Bool) {tt : TT} {te : TE} {vs : List Nat} {QX : Sl → Prop} (hv : wipeOk Γ vs) (hgw : Gw g vs)
    (h : WI K mi Γ wi fun ds => ∃ I : Nat → List PyData → Prop, ds.length ≤ 100000 ∧ I 0 [] ∧ (∀ i d acc, ds[i]? = some d → acc.length ≤ i → I i acc → GJ K mi (wipeG Γ vs) g d fun Γ2 => wipeG Γ2 vs = wipeG Γ vs ∧ WT K Γ2 tt fun b => if b = true then WD K m Γ2 te fun y => I (i + 1) (acc ++ [y]) else I (i + 1) acc) ∧
      ∀ acc, acc.length ≤ ds.length → I ds.length acc → ∀ l, QX (.ml m l acc)) : WX K Γ (tLc wi g tt te vs) QX := fun X hK F H σ E C k => by
  refine h X hK F H σ E _ fun J F1 H1 G Y ds lf E1 wk hG hY ⟨I, hz, h0, hs, he⟩ Da hD => ?_
  obtain ⟨X1, k1, n1, f1, _, Er, back⟩ := E1.rebase
  have ffe : ∀ F, X1.ff F m = X.ff F m := fun F => by cases m <;> simp [Bs.ff, n1]
  have hK1 : X1.K = K := k1.trans hK
  have lef : ∀ {F' H' σ' Γ'}, En X1 F' H' σ' Γ' → Le F1 F' := fun E' => by rw [← f1]; exact E'.f0
  refine lc_it wk (fun i H' => ∃ F' acc, En X1 F' H' (L2.wipe σ vs ++ [some (.ref Da)]) (wipeG Γ vs ++ [.ml m Da acc]) ∧ acc.length ≤ i ∧ I i acc) ⟨F1, [], (Er.wipe vs).pushM hD .nil, Nat.le_refl _, h0⟩ (fun i H' _ ⟨F', acc, E', _⟩ => hG H' ((lef E').tr E'.le)) (fun i x H' H3 hi ⟨F', acc, E', hacc, hI⟩ hy => ?_) (fun H' ⟨F', acc, E', hacc, hI⟩ => ?_)
  · obtain ⟨d, F3, hd, gr, r⟩ := hY i F' H' x H3 (lef E') E'.le hi hy
    have E3 := E'.gr gr
    obtain ⟨X2, k2, n2, Ef, fb⟩ := E3.frame
    have ff2 : ∀ F m, X2.ff F m = X.ff F m := fun F m => by cases m <;> simp [Bs.ff, n2, n1]
    have hK2 : X2.K = K := k2.trans hK1
    refine hgw x _ H3 (fun σ2 H2 => L2.wipe σ2 vs = L2.wipe σ vs → _) _ σ wipe_wipe (fun σ2 H2 e2 q => ⟨e2, q e2⟩) ?_
    refine hs i d acc hd hacc hI X2 hK2 F3 H3 _ Ef x (by rw [ff2]; exact r) _ fun F4 H4 σ4 Γ4 l4 E4 ⟨eΓ, wt⟩ eσ => ?_
    have hlen : Γ4.length = (wipeG Γ vs).length := by rw [← eΓ, wipeG_length]
    have again : ∀ {F5 H5}, Le F4 F5 → En X2 F5 H5 σ4 Γ4 → En X1 F5 H5 (L2.wipe σ vs ++ [some (.ref Da)]) (wipeG Γ vs ++ [.ml m Da acc]) := fun {F5 H5} l5 E5 => by
      have := fb F5 H5 _ _ (by rw [wipeG_length, hlen]) (l4.tr l5) (E5.wipe vs)
      rw [eΓ, eσ] at this
      exact this
    refine wt X2 hK2 F4 H4 σ4 E4 _ fun b F5 H5 l5 E5 q5 => ?_
    cases b with
    | false => exact ⟨F5, acc, again l5 E5, Nat.le_succ_of_le hacc, q5⟩
    | true =>
      rw [if_pos rfl] at q5 ⊢
      refine q5 X2 hK2 F5 H5 σ4 E5 _ fun y F6 H6 dy l6 E6 ry q6 => ?_
      have E7 := again (l5.tr l6) E6
      obtain ⟨xs, _, hl, _, rx⟩ := E7.ml (i := (wipeG Γ vs).length) (m := m) (l := Da) (ds := acc) (by simp)
      have e8 := E7.mut (i := (wipeG Γ vs).length) (m := m) (l := Da) (ds := acc) (es := acc ++ [dy]) (ys := xs ++ [y]) (by simp) (rx.append (RpA.one (by rw [hK1, ffe, ← ff2]; exact ry)))
      have es : (wipeG Γ vs ++ [Sl.ml m Da acc]).set (wipeG Γ vs).length (.ml m Da (acc ++ [dy])) = wipeG Γ vs ++ [.ml m Da (acc ++ [dy])] := by simp
      rw [es] at e8
      exact ⟨xs, hl, sz_lt (by rw [rx.length]; omega), F6, acc ++ [dy], e8, by simp; omega, q6⟩
  · have hE := back _ _ _ _ (En.unwipe E1 (by rw [hK, hK1]) n1.symm (lef E') hv E')
    exact k (.ref Da) F' H' _ (lf.tr (lef E')) hE (he acc hacc hI Da)
end
end Pk
end
section
set_option Elab.async false
set_option linter.all false
set_option maxRecDepth 100000
namespace Pk
open PySem PySem.Spec PyProof.Rows L2

def Sl.frz : Sl → Sl
  | .ml _ _ ds => .dat false (.list ds)
  | .ex v Φ => match Φ.vw with
    | some d => .dat false d
    | none => .ex v Φ
  | s => s
def Sl.fz : Sl → Bool
  | .ml _ _ _ => true
  | .ex _ Φ => Φ.vw.isSome
  | _ => false
section
variable {K : Kw} {Γ : List Sl}
open Classical in
/-- all things of one's own that may be read as data are frozen for a while -/
theorem En.thaw {X : Bs} {F H : Hp} {σ : L2.St} (E : En X F H σ Γ) : ∃ F1, Le F F1 ∧ En X F1 H σ (Γ.map Sl.frz) ∧ ∀ F2 H2, Le F1 F2 → En X F2 H2 σ (Γ.map Sl.frz) → ∃ F3, Le F F3 ∧ En X F3 H2 σ Γ := by
  obtain ⟨S, hs, hdj, ho⟩ := id E.sl
  let M : Addr → Prop := fun a => ∃ (i : Nat) (s : Sl), Γ[i]? = some s ∧ s.fz = true ∧ S i a
  have hML : ∀ {a}, M a → ∃ o, H a = some o ∧ Mo o = true := fun {a} ⟨i, s, h, f, sa⟩ => by
    have q := hs i s h
    cases s with
    | no => cases f
    | dat _ _ => cases f
    | ml m l ds =>
      obtain ⟨xs, _, hS, hl, _⟩ := q
      rw [(hS a).mp sa]
      exact ⟨.lst xs, hl, rfl⟩
    | ex v Φ =>
      obtain ⟨_, _, p⟩ := q
      cases hv : Φ.vw with
      | none => simp [Sl.fz, hv] at f
      | some d => exact (Φ.view E.le p hv).2 a sa
  have hMF : ∀ {a}, M a → F a = none := fun {a} ⟨i, s, h, f, sa⟩ => (ho i a sa).1
  have hMO : ∀ {a}, M a → X.own a := fun {a} ⟨i, s, h, f, sa⟩ => (ho i a sa).2.2
  let F1 : Hp := fun a => if M a then H a else F a
  have f1M : ∀ {a}, M a → F1 a = H a := fun h => if_pos h
  have f1N : ∀ {a}, ¬ M a → F1 a = F a := fun h => if_neg h
  have lf : Le F F1 := fun a o q => by
    by_cases h : M a
    · rw [hMF h] at q; cases q
    · rw [f1N h]; exact q
  have le1 : Le F1 H := fun a o q => by
    by_cases h : M a
    · rw [f1M h] at q; exact q
    · rw [f1N h] at q; exact E.le a o q
  have notM : ∀ {j : Nat} {a : Addr} {s : Sl}, Γ[j]? = some s → s.fz = false → S j a → ¬ M a := fun {j a s} hj hn sa ⟨i, u, h, f, si⟩ => by
    have := hdj i j a si sa
    subst this
    rw [h] at hj
    cases hj
    rw [f] at hn
    cases hn
  have frM : ∀ a o, X.H0 a = some o → ¬ X.S0 a → ¬ M a := fun a o e n h => by
    rcases hMO h with w | w
    · rw [w] at e; cases e
    · exact n w
  have frz_no : ∀ {s : Sl}, s.fz = false → s.frz = s := fun {s} h => by
    cases s with
    | no => rfl
    | dat _ _ => rfl
    | ml _ _ _ => cases h
    | ex v Φ =>
      cases hv : Φ.vw with
      | none => simp [Sl.frz, hv]
      | some d => simp [Sl.fz, hv] at h
  refine ⟨F1, lf, ⟨le1, by simp [E.len], ⟨fun i a => (∀ s, Γ[i]? = some s → s.fz = false) ∧ i < Γ.length ∧ S i a, fun i s e => ?_, fun i j a h1 h2 => hdj i j a h1.2.2 h2.2.2, fun i a h1 => ?_⟩, fun a o e n => ⟨(E.fr a o e n).1, (f1N (frM a o e n)).trans (E.fr a o e n).2⟩, E.f0.tr lf, E.nn⟩, fun F2 H2 l2 E2 => ?_⟩
  · rw [List.getElem?_map] at e
    cases hg : Γ[i]? with
    | none => rw [hg] at e; cases e
    | some u =>
      rw [hg] at e
      cases e
      have hi : i < Γ.length := (List.getElem?_eq_some_iff.mp hg).1
      cases hf : u.fz with
      | false =>
        rw [frz_no hf]
        have eS : (fun a => (∀ s, Γ[i]? = some s → s.fz = false) ∧ i < Γ.length ∧ S i a) = S i := by
          funext a
          exact propext ⟨fun z => z.2.2, fun z => ⟨fun s w => (by rw [hg] at w; cases w; exact hf), hi, z⟩⟩
        show SlOk X F1 H _ (fun a => (∀ s, Γ[i]? = some s → s.fz = false) ∧ i < Γ.length ∧ S i a) u
        rw [eS]
        exact (hs i u hg).mono lf fun _ _ => rfl
      | true =>
        have none_ : ∀ a, ¬ ((∀ s, Γ[i]? = some s → s.fz = false) ∧ i < Γ.length ∧ S i a) := fun a z => by
          have := z.1 u hg
          rw [hf] at this
          cases this
        cases u with
        | no => cases hf
        | dat _ _ => cases hf
        | ml m l ds =>
          obtain ⟨xs, e0, hS, hl, r, _⟩ := hs i _ hg
          exact ⟨⟨_, e0, .lst ((f1M ⟨i, _, hg, rfl, (hS l).mpr rfl⟩).trans hl) (r.mono ((X.ff_le F m).tr lf))⟩, none_⟩
        | ex v Φ =>
          obtain ⟨e0, hk, p⟩ := hs i _ hg
          cases hv : Φ.vw with
          | none => simp [Sl.fz, hv] at hf
          | some d =>
            have rv := (Φ.view E.le p hv).1
            have ll : Le (lay (S i) H F) F1 := fun a o q => by
              unfold lay at q
              by_cases sa : S i a
              · rw [if_pos sa] at q
                rw [f1M ⟨i, _, hg, hf, sa⟩]
                exact q
              · rw [if_neg sa] at q
                exact lf a o q
            have ef : (Sl.ex v Φ).frz = .dat false d := by simp [Sl.frz, hv]
            rw [ef]
            refine ⟨⟨v, e0, ?_⟩, none_⟩
            rw [← hk]
            exact rv.mono ll
  · obtain ⟨n1, hi, sa⟩ := h1
    have hg : Γ[i]? = some Γ[i] := List.getElem?_eq_getElem hi
    have nM : ¬ M a := notM hg (n1 _ hg) sa
    exact ⟨(f1N nM).trans (ho i a sa).1, (ho i a sa).2⟩
  · obtain ⟨S2, hs2, hdj2, ho2⟩ := id E2.sl
    let F3 : Hp := fun a => if M a then none else F2 a
    have f3M : ∀ {a}, M a → F3 a = none := fun h => if_pos h
    have f3N : ∀ {a}, ¬ M a → F3 a = F2 a := fun h => if_neg h
    have l3 : Le F F3 := fun a o q => by
      by_cases h : M a
      · rw [hMF h] at q; cases q
      · rw [f3N h]; exact l2 a o (lf a o q)
    have h2M : ∀ {a}, M a → F2 a = H a ∧ H2 a = H a := fun {a} h => by
      obtain ⟨o, hx, _⟩ := hML h
      have := l2 a _ ((f1M h).trans hx)
      rw [hx]
      exact ⟨this, E2.le _ _ this⟩
    have s2M : ∀ {i a}, S2 i a → ¬ M a := fun {i a} sa h => by
      obtain ⟨o, hx, _⟩ := hML h
      have := (h2M h).1
      rw [(ho2 i a sa).1, hx] at this; cases this
    have tl : TupLe X.K F2 F3 := by
      refine ⟨fun a xs h => ?_, fun a fs h => by
        rw [f3N]
        · exact h
        · intro z
          obtain ⟨o, hx, hm⟩ := hML z
          rw [(h2M z).1, hx] at h; cases h; cases hm⟩
      rcases h with (h | ⟨o, h⟩) | h
      · refine .inl (.inl ?_)
        rw [f3N]
        · exact h
        · intro z
          obtain ⟨o, hx, hm⟩ := hML z
          rw [(h2M z).1, hx] at h; cases h; cases hm
      · refine .inl (.inr ⟨o, ?_⟩)
        rw [f3N]
        · exact h
        · intro z
          obtain ⟨o, hx, hm⟩ := hML z
          rw [(h2M z).1, hx] at h; cases h; cases hm
      · exact .inr h
    refine ⟨F3, l3, ⟨fun a o q => ?_, E.len, ⟨fun i a => (∃ s, Γ[i]? = some s ∧ s.fz = true ∧ S i a) ∨ (∃ s, Γ[i]? = some s ∧ s.fz = false ∧ S2 i a), fun i s e => ?_, fun i j a h1 h2 => ?_, fun i a h1 => ?_⟩, fun a o e n => ⟨(E2.fr a o e n).1, (f3N (frM a o e n)).trans (E2.fr a o e n).2⟩, E.f0.tr l3, E2.nn⟩⟩
    · by_cases h : M a
      · rw [f3M h] at q; cases q
      · rw [f3N h] at q; exact E2.le a o q
    · cases hf : s.fz with
      | true =>
        have eS : (fun a => (∃ s, Γ[i]? = some s ∧ s.fz = true ∧ S i a) ∨ (∃ s, Γ[i]? = some s ∧ s.fz = false ∧ S2 i a)) = S i := by
          funext a
          apply propext
          constructor
          · rintro (⟨u, z, _, w⟩ | ⟨u, z, w, _⟩)
            · exact w
            · rw [e] at z; cases z; rw [hf] at w; cases w
          · intro z; exact .inl ⟨s, e, hf, z⟩
        show SlOk X F3 H2 _ (fun a => (∃ s, Γ[i]? = some s ∧ s.fz = true ∧ S i a) ∨ (∃ s, Γ[i]? = some s ∧ s.fz = false ∧ S2 i a)) _
        rw [eS]
        exact (hs i s e).mono l3 fun a sa => (h2M ⟨i, s, e, hf, sa⟩).2
      | false =>
        have q := hs2 i s (by rw [List.getElem?_map, e]; exact congrArg some (frz_no hf))
        have eS : (fun a => (∃ s, Γ[i]? = some s ∧ s.fz = true ∧ S i a) ∨ (∃ s, Γ[i]? = some s ∧ s.fz = false ∧ S2 i a)) = S2 i := by
          funext a
          apply propext
          constructor
          · rintro (⟨u, z, w, _⟩ | ⟨u, z, _, w⟩)
            · rw [e] at z; cases z; rw [hf] at w; cases w
            · exact w
          · intro z; exact .inr ⟨s, e, hf, z⟩
        show SlOk X F3 H2 _ (fun a => (∃ s, Γ[i]? = some s ∧ s.fz = true ∧ S i a) ∨ (∃ s, Γ[i]? = some s ∧ s.fz = false ∧ S2 i a)) _
        rw [eS]
        cases s with
        | no => exact q
        | dat m d =>
          obtain ⟨⟨v, e0, r⟩, n⟩ := hs i _ e
          exact ⟨⟨v, e0, Bs.mo r l3⟩, q.2⟩
        | ml _ _ _ => cases hf
        | ex v Φ =>
          obtain ⟨e0, hk, p⟩ := q
          exact ⟨e0, hk, Φ.keepT (by
            cases hv : Φ.vw with
            | none => rfl
            | some d => simp [Sl.fz, hv] at hf) p (by rw [hk]; exact tl) fun _ _ => rfl⟩
    · rcases h1 with ⟨s1, e1, f1, z1⟩ | ⟨s1, e1, f1, z1⟩ <;> rcases h2 with ⟨s2, e2, f2, z2⟩ | ⟨s2, e2, f2, z2⟩
      · exact hdj i j a z1 z2
      · exact absurd ⟨i, s1, e1, f1, z1⟩ (s2M z2)
      · exact absurd ⟨j, s2, e2, f2, z2⟩ (s2M z1)
      · exact hdj2 i j a z1 z2
    · rcases h1 with ⟨s1, e1, f1, z1⟩ | ⟨s1, e1, f1, z1⟩
      · have hm : M a := ⟨i, s1, e1, f1, z1⟩
        exact ⟨f3M hm, by rw [(h2M hm).2]; exact (ho i a z1).2.1, (ho i a z1).2.2⟩
      · exact ⟨(f3N (s2M z1)).trans (ho2 i a z1).1, (ho2 i a z1).2⟩
theorem wt_thaw {t : TT} {Q : Bool → Prop} (h : WT K (Γ.map Sl.frz) t Q) : WT K Γ t Q := fun X hK F H σ E C k => by
  obtain ⟨F1, lf, E1, back⟩ := E.thaw
  refine h X hK F1 H σ E1 C fun b F2 H2 l2 E2 q => ?_
  obtain ⟨F3, l3, E3⟩ := back F2 H2 l2 E2
  exact k b F3 H2 l3 E3 q
/-- an item of a list of one's own -/
theorem atI_rp {F : Hp} {xs : List V} {ds : List PyData} {n : Int} {d : PyData} (r : RpA K F xs ds) (h : atI ds n = some d) : ∃ v, atI xs n = some v ∧ Rp K F v d := by
  unfold atI at h ⊢
  rw [r.length]
  cases hx : ixN ds.length n with
  | none => rw [hx] at h; cases h
  | some j =>
    rw [hx] at h
    exact r.get h
/-- an item of a list of one's own -/
theorem wd_ixm {m : Bool} {i : Nat} {l : Addr} {ds : List PyData} {ti : TE} {Q : PyData → Prop} (hi : Γ[i]? = some (.ml m l ds)) (h : WD K false Γ ti fun k => ∃ n d, k = .int n ∧ atI ds n = some d ∧ Q d) : WD K m Γ (tOp (rIx K) (tVar i) ti) Q := fun X hK F H σ E C k => by
  subst hK
  obtain ⟨xs, e, hl, fl, rx⟩ := E.ml hi
  refine ⟨.ref l, e, h X rfl F H σ E _ fun u F1 H1 x l1 E1 r1 ⟨n, d, ek, ha, q⟩ => ?_⟩
  subst ek
  cases r1
  obtain ⟨xs1, e1, hl1, fl1, rx1⟩ := E1.ml hi
  obtain ⟨v, hv, rv⟩ := atI_rp rx1 ha
  exact .inl ⟨l, xs1, n, v, rfl, rfl, SqL.of hl1, hv, k v F1 H1 d l1 E1 rv q⟩
end

section
variable {K : Kw} {m : Bool} {Γ : List Sl} {Q : PyData → Prop} {QX : Sl → Prop}
theorem rd_I0 {g : Int → Int → V} {i j : Int} {d : PyData} (hg : ∀ F, Rp K F (g i j) d) (q : Q d) : RD K m Γ (rI0 g) (.int i) (.int j) Q := rd_plain (d := d) (fun F H v u C le rv ru k => by
  cases rv; cases ru
  exact ⟨i, j, rfl, rfl, k _ (hg F)⟩) q
theorem rd_I {P : Int → Int → Prop} {g : Int → Int → V} {i j : Int} {d : PyData} (hg : ∀ F, Rp K F (g i j) d) (hc : P i j) (q : Q d) : RD K m Γ (rI P g) (.int i) (.int j) Q := rd_plain (d := d) (fun F H v u C le rv ru k => by
  cases rv; cases ru
  exact ⟨i, j, rfl, rfl, hc, k _ (hg F)⟩) q
def dAdd (K : PySem.W.Frag) : R2 := fun x y H Q => rI0 (fun i j => .int (i + j)) x y H Q ∨ rCat x y H Q ∨ (∃ i j, x = .str i ∧ y = .str j ∧ i.length + j.length ≤ sizeLine ∧ Q (.str (i ++ j)) H) ∨ rCatA K x y H Q
theorem o_add {X : Cx} : OpR X (binaryOp .Add) (dAdd X.K) := op_add.or (op_cat.or (op_add_str.or op_catA))
theorem rd_add {i j : Int} (q : Q (.int (i + j))) : RD K m Γ (dAdd K) (.int i) (.int j) Q := rd_plain (d := .int (i + j)) (fun F H v u C le rv ru k => by
  cases rv; cases ru
  exact .inl ⟨i, j, rfl, rfl, k _ (.int _)⟩) q
theorem rx_cat {a b : List PyData} (hz : a.length + b.length ≤ 100000) (q : ∀ l, QX (.ml m l (a ++ b))) : RX K m Γ (dAdd K) (.list a) (.list b) QX := rx_list (ds := a ++ b) (fun F H v u C le rv ru k => by
  cases rv with
  | lst h1 r1 =>
    cases ru with
    | lst h2 r2 => exact .inr (.inl ⟨_, _, _, _, rfl, rfl, le _ _ h1, le _ _ h2, sz_le (by rw [r1.length, r2.length]; exact hz), fun p hp => k p _ hp (r1.append r2)⟩)) q
theorem rd_cat {a b : List PyData} (hz : a.length + b.length ≤ 100000) (q : Q (.list (a ++ b))) : RD K m Γ (dAdd K) (.list a) (.list b) Q := .ofX (rx_cat hz fun _ => ⟨_, toD_ml, q⟩)
theorem rd_catT {a b : List PyData} (hz : a.length + b.length ≤ 100000) (q : Q (.tuple (a ++ b))) : RD K m Γ (dAdd K) (.tuple a) (.tuple b) Q := fun X hK F H σ E v u rv ru C k => by
  cases rv with
  | tup h1 r1 =>
    cases ru with
    | tup h2 r2 =>
      rename_i p1 xs p2 ys
      refine .inr (.inr (.inr ⟨p1, p2, xs, ys, rfl, rfl, sqT_le (E.lef m) h1, sqT_le (E.lef m) h2, sz_le (by rw [r1.length, r2.length]; exact hz), fun z => ?_, fun _ z => ?_, fun _ _ p hp => ?_⟩))
      · have ea : a = [] := List.length_eq_zero_iff.mp (by rw [← r1.length, z]; rfl)
        rw [ea, List.nil_append] at q
        exact k _ F H _ Le.rfl' E (.tup h2 r2) q
      · have eb : b = [] := List.length_eq_zero_iff.mp (by rw [← r2.length, z]; rfl)
        rw [eb, List.append_nil] at q
        exact k _ F H _ Le.rfl' E (.tup h1 r1) q
      · obtain ⟨a', b', c'⟩ := E.newT hK hp (r1.append r2)
        exact k (.ref p) _ _ _ a' b' c' q
def dSub : R2 := rI0 fun i j => .int (i - j)
theorem o_sub {X : Cx} : OpR X (binaryOp .Sub) dSub := op_sub
theorem rd_sub {i j : Int} (q : Q (.int (i - j))) : RD K m Γ dSub (.int i) (.int j) Q := rd_I0 (fun _ => .int _) q
def dMul : R2 := fun x y H Q => rI CMul (fun i j => .int (i * j)) x y H Q ∨ rRep x y H Q
theorem o_mul {X : Cx} : OpR X (binaryOp .Mult) dMul := op_mul.or op_rep
theorem rd_mul {i j : Int} (hc : CMul i j) (q : Q (.int (i * j))) : RD K m Γ dMul (.int i) (.int j) Q := rd_plain (d := .int (i * j)) (fun F H v u C le rv ru k => by
  cases rv; cases ru
  exact .inl ⟨i, j, rfl, rfl, hc, k _ (.int _)⟩) q
theorem rep_rpA {F : Hp} {xs : List V} {ds : List PyData} (r : RpA K F xs ds) : ∀ n : Nat, RpA K F (List.replicate n xs).flatten (List.replicate n ds).flatten
  | 0 => .nil
  | n + 1 => by
    rw [List.replicate_succ, List.replicate_succ, List.flatten_cons, List.flatten_cons]
    exact r.append (rep_rpA r n)
theorem rx_rep {a : List PyData} {n : Int} (h0 : 0 ≤ n) (hn : n ≤ 100000) (hz : a.length * n.toNat ≤ 100000) (q : ∀ l, QX (.ml m l (List.replicate n.toNat a).flatten)) : RX K m Γ dMul (.list a) (.int n) QX := rx_list (fun F H v u C le rv ru k => by
  cases rv with
  | lst h1 r1 =>
    cases ru
    exact .inr ⟨_, n, _, rfl, rfl, le _ _ h1, by omega, by omega, sz_le (by rw [r1.length]; exact hz), fun p hp => k p _ hp (rep_rpA r1 _)⟩) q
theorem rd_rep {a : List PyData} {n : Int} (h0 : 0 ≤ n) (hn : n ≤ 100000) (hz : a.length * n.toNat ≤ 100000) (q : Q (.list (List.replicate n.toNat a).flatten)) : RD K m Γ dMul (.list a) (.int n) Q := .ofX (rx_rep h0 hn hz fun _ => ⟨_, toD_ml, q⟩)
def dDiv : R2 := rI CDiv fun i j => .int (i / j)
theorem o_div {X : Cx} : OpR X (binaryOp .FloorDiv) dDiv := op_fdiv
theorem rd_div {i j : Int} (h : 0 < j) (h2 : j < 1073741824) (q : Q (.int (i / j))) : RD K m Γ dDiv (.int i) (.int j) Q := rd_I (fun _ => .int _) ⟨h, h2⟩ q
def dMod : R2 := rI (fun _ j => 0 < j) fun i j => .int (i % j)
theorem o_mod {X : Cx} : OpR X (binaryOp .Mod) dMod := op_mod
theorem rd_mod {i j : Int} (h : 0 < j) (q : Q (.int (i % j))) : RD K m Γ dMod (.int i) (.int j) Q := rd_I (fun _ => .int _) h q
def dPow : R2 := rI CPow fun i j => .int (i ^ j.toNat)
theorem o_pow {X : Cx} : OpR X (binaryOp .Pow) dPow := op_pow
theorem rd_pow {i j : Int} (h : CPow i j) (q : Q (.int (i ^ j.toNat))) : RD K m Γ dPow (.int i) (.int j) Q := rd_I (fun _ => .int _) h q
def dNeg : V → Hp → VK → Prop := rU fun i => .int (-i)
theorem o_neg {X : Cx} : UnR X (unaryOp .USub) dNeg := un_neg
theorem ru_neg {i : Int} (q : Q (.int (-i))) : RU K m Γ dNeg (.int i) Q := ru_plain (d := .int (-i)) (fun F H v C le rv k => by
  cases rv
  exact ⟨i, rfl, k _ (.int _)⟩) q
def dLt : R2 := rI0 fun i j => .bl (decide (i < j))
def dLe : R2 := rI0 fun i j => .bl (decide (i ≤ j))
def dGt : R2 := rI0 fun i j => .bl (decide (j < i))
def dGe : R2 := rI0 fun i j => .bl (decide (j ≤ i))
theorem o_lt {X : Cx} : OpR X (compareOp .Lt) dLt := op_lt
theorem o_le {X : Cx} : OpR X (compareOp .LtE) dLe := op_le
theorem o_gt {X : Cx} : OpR X (compareOp .Gt) dGt := op_gt
theorem o_ge {X : Cx} : OpR X (compareOp .GtE) dGe := op_ge
theorem rd_lt {i j : Int} (q : Q (.bool (decide (i < j)))) : RD K m Γ dLt (.int i) (.int j) Q := rd_I0 (fun _ => .bl _) q
theorem rd_le {i j : Int} (q : Q (.bool (decide (i ≤ j)))) : RD K m Γ dLe (.int i) (.int j) Q := rd_I0 (fun _ => .bl _) q
theorem rd_gt {i j : Int} (q : Q (.bool (decide (j < i)))) : RD K m Γ dGt (.int i) (.int j) Q := rd_I0 (fun _ => .bl _) q
theorem rd_ge {i j : Int} (q : Q (.bool (decide (j ≤ i)))) : RD K m Γ dGe (.int i) (.int j) Q := rd_I0 (fun _ => .bl _) q
def dEq (K : PySem.W.Frag) : R2 := rEqD K
def dNe (K : PySem.W.Frag) : R2 := rNeD K
theorem o_eq {X : Cx} (hu : X.A.units + 64 < cLine) : OpR X (compareOp .Eq) (dEq X.K) := op_eqD hu
theorem o_ne {X : Cx} (hu : X.A.units + 64 < cLine) : OpR X (compareOp .NotEq) (dNe X.K) := op_neD hu
theorem rd_eq {x y : PyData} (sx : SeqAt.shaped x = true) (sy : SeqAt.shaped y = true) (q : Q (.bool (PyData.eqv x y))) : RD K m Γ (dEq K) x y Q := rd_plain (d := .bool (PyData.eqv x y)) (fun F H v u C le rv ru k =>
  ⟨x, y, Rp.dp x (SeqAt.canLay_of_shaped sx) (rv.mono le), Rp.dp y (SeqAt.canLay_of_shaped sy) (ru.mono le), sx, sy, k _ (.bl _)⟩) q
theorem rd_ne {x y : PyData} (sx : SeqAt.shaped x = true) (sy : SeqAt.shaped y = true) (q : Q (.bool (!PyData.eqv x y))) : RD K m Γ (dNe K) x y Q := rd_plain (d := .bool (!PyData.eqv x y)) (fun F H v u C le rv ru k =>
  ⟨x, y, Rp.dp x (SeqAt.canLay_of_shaped sx) (rv.mono le), Rp.dp y (SeqAt.canLay_of_shaped sy) (ru.mono le), sx, sy, k _ (.bl _)⟩) q
def rInDT (K : PySem.W.Frag) (f : Bool → Bool) : R2 := fun x y H Q => ∃ d ds, Dp K H x d ∧ Dp K H y (.tuple ds) ∧ SeqAt.shaped d = true ∧ SeqAt.shaped (.tuple ds) = true ∧ Q (.bl (f (ds.any fun z => PyData.eqv z d))) H
theorem op_inDT {X : Cx} (hu : X.A.units + 65 < cLine) : OpR X (compareOp .In) (rInDT X.K id) := by
  intro pins s σ H x y v u Q I rx ry ⟨d, ds, hd, he, sd, se, q⟩
  obtain ⟨as, r1⟩ := Dp.reads I d x v hd rx
  obtain ⟨bs, r2⟩ := Dp.reads I (.tuple ds) y u he ry
  exact SeqAt.in_tuple_reads r2 r1 (SeqAt.canLay_of_shaped se) (SeqAt.canLay_of_shaped sd) (room_in_shaped sd hu) ⟨.bl _, H, I, rfl, q⟩
theorem op_notInDT {X : Cx} (hu : X.A.units + 65 < cLine) : OpR X (compareOp .NotIn) (rInDT X.K fun b => !b) := by
  intro pins s σ H x y v u Q I rx ry ⟨d, ds, hd, he, sd, se, q⟩
  obtain ⟨as, r1⟩ := Dp.reads I d x v hd rx
  obtain ⟨bs, r2⟩ := Dp.reads I (.tuple ds) y u he ry
  exact SeqAt.notIn_tuple_reads r2 r1 (SeqAt.canLay_of_shaped se) (SeqAt.canLay_of_shaped sd) (room_in_shaped sd hu) ⟨.bl _, H, I, rfl, q⟩
def dIn (K : PySem.W.Frag) : R2 := fun x y H Q => rInD K x y H Q ∨ (∃ i j, x = .str i ∧ y = .str j ∧ Q (.bl (!(Builtin.Str.occurrences j i 0 j.length 1).isEmpty)) H) ∨ rInDT K id x y H Q
def dNotIn (K : PySem.W.Frag) : R2 := fun x y H Q => rNotInD K x y H Q ∨ (∃ i j, x = .str i ∧ y = .str j ∧ Q (.bl (!(!(Builtin.Str.occurrences j i 0 j.length 1).isEmpty))) H) ∨ rInDT K (fun b => !b) x y H Q
theorem o_in {X : Cx} (hu : X.A.units + 65 < cLine) : OpR X (compareOp .In) (dIn X.K) := (op_inD hu).or (op_in_str.or (op_inDT hu))
theorem o_notIn {X : Cx} (hu : X.A.units + 65 < cLine) : OpR X (compareOp .NotIn) (dNotIn X.K) := (op_notInD hu).or (op_notin_str.or (op_notInDT hu))
theorem rd_in {x : PyData} {ds : List PyData} (sx : SeqAt.shaped x = true) (sy : SeqAt.shaped (.list ds) = true) (q : Q (.bool (ds.any fun z => PyData.eqv z x))) : RD K m Γ (dIn K) x (.list ds) Q := rd_plain (d := .bool _) (fun F H v u C le rv ru k =>
  .inl ⟨x, ds, Rp.dp x (SeqAt.canLay_of_shaped sx) (rv.mono le), Rp.dp _ (SeqAt.canLay_of_shaped sy) (ru.mono le), sx, sy, k _ (.bl _)⟩) q
theorem rd_notIn {x : PyData} {ds : List PyData} (sx : SeqAt.shaped x = true) (sy : SeqAt.shaped (.list ds) = true) (q : Q (.bool (!ds.any fun z => PyData.eqv z x))) : RD K m Γ (dNotIn K) x (.list ds) Q := rd_plain (d := .bool _) (fun F H v u C le rv ru k =>
  .inl ⟨x, ds, Rp.dp x (SeqAt.canLay_of_shaped sx) (rv.mono le), Rp.dp _ (SeqAt.canLay_of_shaped sy) (ru.mono le), sx, sy, k _ (.bl _)⟩) q
theorem rd_inT {x : PyData} {ds : List PyData} (sx : SeqAt.shaped x = true) (sy : SeqAt.shaped (.tuple ds) = true) (q : Q (.bool (ds.any fun z => PyData.eqv z x))) : RD K m Γ (dIn K) x (.tuple ds) Q := rd_plain (d := .bool _) (fun F H v u C le rv ru k =>
  .inr (.inr ⟨x, ds, Rp.dp _ (SeqAt.canLay_of_shaped sx) (rv.mono le), Rp.dp _ (SeqAt.canLay_of_shaped sy) (ru.mono le), sx, sy, k _ (.bl _)⟩)) q
theorem rd_notInT {x : PyData} {ds : List PyData} (sx : SeqAt.shaped x = true) (sy : SeqAt.shaped (.tuple ds) = true) (q : Q (.bool (!ds.any fun z => PyData.eqv z x))) : RD K m Γ (dNotIn K) x (.tuple ds) Q := rd_plain (d := .bool _) (fun F H v u C le rv ru k =>
  .inr (.inr ⟨x, ds, Rp.dp _ (SeqAt.canLay_of_shaped sx) (rv.mono le), Rp.dp _ (SeqAt.canLay_of_shaped sy) (ru.mono le), sx, sy, k _ (.bl _)⟩)) q
theorem rd_ixL {ds : List PyData} {n : Int} {d : PyData} (h : atI ds n = some d) (q : Q d) : RD K m Γ (rIx K) (.list ds) (.int n) Q := rd_plain (d := d) (fun F H v u C le rv ru k => by
  cases rv with
  | lst h1 r1 =>
    cases ru
    obtain ⟨z, hz, rz⟩ := atI_rp r1 h
    exact .inl ⟨_, _, n, z, rfl, rfl, SqL.of (le _ _ h1), hz, k z rz⟩) q
theorem rd_ixT {ds : List PyData} {n : Int} {d : PyData} (h : atI ds n = some d) (q : Q d) : RD K m Γ (rIx K) (.tuple ds) (.int n) Q := rd_plain (d := d) (fun F H v u C le rv ru k => by
  cases rv with
  | tup h1 r1 =>
    cases ru
    obtain ⟨z, hz, rz⟩ := atI_rp r1 h
    exact .inr (.inl ⟨_, _, n, z, rfl, rfl, sqT_le le h1, hz, k z rz⟩)) q
theorem atI_ofNat {α : Type} {xs : List α} {n : Nat} : atI xs (n : Int) = xs[n]? := by
  unfold atI ixN
  by_cases h : n < xs.length
  · rw [if_pos (by omega), if_pos (by omega)]
    simp
  · rw [if_pos (by omega), if_neg (by omega)]
    simp [List.getElem?_eq_none (by omega : xs.length ≤ n)]
theorem atI_of {α : Type} {xs : List α} {z : Int} {n : Nat} {x : α} (e : z = (n : Int)) (h : xs[n]? = some x) : atI xs z = some x := by
  rw [e, atI_ofNat]; exact h
theorem atI_lastD {α : Type} {xs : List α} {x : α} : atI (xs ++ [x]) (-1) = some x := atI_last xs x
def dLen (K : PySem.W.Frag) : List V → Hp → VK → Prop := fun xs H Q => ∃ x n, xs = [x] ∧ LenV K x H n ∧ Q (.int n) H
theorem o_len {X : Cx} : CallR X (.builtin "len") (dLen X.K) := call_len
theorem rc_lenL {ds : List PyData} (q : Q (.int ds.length)) : RC K m Γ (dLen K) [.list ds] Q := rc_plain (d := .int ds.length) (fun F H vs C le rv k => by
  cases rv with
  | cons a b =>
    cases b
    cases a with
    | lst h1 r1 => exact ⟨_, ds.length, rfl, .inl ⟨_, SqL.of (le _ _ h1), r1.length.symm⟩, k _ (.int _)⟩) q
theorem rc_lenT {ds : List PyData} (q : Q (.int ds.length)) : RC K m Γ (dLen K) [.tuple ds] Q := rc_plain (d := .int ds.length) (fun F H vs C le rv k => by
  cases rv with
  | cons a b =>
    cases b
    cases a with
    | tup h1 r1 => exact ⟨_, ds.length, rfl, .inr ⟨_, sqT_le le h1, r1.length.symm⟩, k _ (.int _)⟩) q
def dList (K : PySem.W.Frag) : List V → Hp → VK → Prop := fun xs H Q => ∃ p ys, xs = [.ref p] ∧ (SqL K H p ys ∨ SqT K H p ys) ∧ ∀ l, H l = none → Q (.ref l) (upd H l (.lst ys))
theorem o_list {X : Cx} : CallR X (.type "list") (dList X.K) := call_list_of
theorem rcx_listL {ds : List PyData} (q : ∀ l, QX (.ml m l ds)) : RCX K m Γ (dList K) [.list ds] QX := rcx_list (fun F H vs C le rv k => by
  cases rv with
  | cons a b =>
    cases b
    cases a with
    | lst h1 r1 => exact ⟨_, _, rfl, .inl (SqL.of (le _ _ h1)), fun p hp => k p _ hp r1⟩) q
theorem rcx_listT {ds : List PyData} (q : ∀ l, QX (.ml m l ds)) : RCX K m Γ (dList K) [.tuple ds] QX := rcx_list (fun F H vs C le rv k => by
  cases rv with
  | cons a b =>
    cases b
    cases a with
    | tup h1 r1 => exact ⟨_, _, rfl, .inr (sqT_le le h1), fun p hp => k p _ hp r1⟩) q
theorem rc_listL {ds : List PyData} (q : Q (.list ds)) : RC K m Γ (dList K) [.list ds] Q := .ofX (rcx_listL fun _ => ⟨_, toD_ml, q⟩)
theorem rc_listT {ds : List PyData} (q : Q (.list ds)) : RC K m Γ (dList K) [.tuple ds] Q := .ofX (rcx_listT fun _ => ⟨_, toD_ml, q⟩)
def dTuple (K : PySem.W.Frag) : List V → Hp → VK → Prop := fun xs H Q => ∃ p ys, xs = [.ref p] ∧ ((SqL K H p ys ∧ ∀ l, H l = none → Q (.ref l) (upd H l (.tup ys))) ∨ (SqT K H p ys ∧ Q (.ref p) H))
theorem o_tuple {X : Cx} : CallR X (.type "tuple") (dTuple X.K) := call_tuple_of
theorem rc_tupleL {ds : List PyData} (q : Q (.tuple ds)) : RC K m Γ (dTuple K) [.list ds] Q := rc_tuple (fun F H vs C le rv k => by
  cases rv with
  | cons a b =>
    cases b
    cases a with
    | lst h1 r1 => exact ⟨_, _, rfl, .inl ⟨SqL.of (le _ _ h1), fun p hp => k p _ hp r1⟩⟩) q
theorem ints_of {F : Hp} : ∀ {xs : List V} {ns : List Int}, RpA K F xs (ns.map PyData.int) → xs = ns.map V.int
  | [], [], _ => rfl
  | _ :: _, [], h => by cases h
  | [], _ :: _, h => by cases h
  | v :: xs, n :: ns, h => by
    cases h with
    | cons a b =>
      cases a
      rw [ints_of b]
      rfl
def dMax (K : PySem.W.Frag) : List V → Hp → VK → Prop := fun xs H Q => (∃ i j, xs = [.int i, .int j] ∧ Q (.int (if j > i then j else i)) H) ∨ rMax K xs H Q
def dMin (K : PySem.W.Frag) : List V → Hp → VK → Prop := fun xs H Q => (∃ i j, xs = [.int i, .int j] ∧ Q (.int (if j < i then j else i)) H) ∨ rMin K xs H Q
theorem o_max {X : Cx} (hc : X.calm = true) : CallR X (.builtin "max") (dMax X.K) := (call_max2 hc).or (cr_max hc)
theorem o_min {X : Cx} (hc : X.calm = true) : CallR X (.builtin "min") (dMin X.K) := (call_min2 hc).or (cr_min hc)
theorem rc_max2 {i j : Int} (q : Q (.int (max i j))) : RC K m Γ (dMax K) [.int i, .int j] Q := rc_plain (d := .int (max i j)) (fun F H vs C le rv k => by
  cases rv with
  | cons a b =>
    cases b with
    | cons b c =>
      cases c; cases a; cases b
      have e : (if j > i then j else i) = max i j := by split <;> omega
      exact .inl ⟨i, j, rfl, by rw [e]; exact k _ (.int _)⟩) q
theorem rc_min2 {i j : Int} (q : Q (.int (min i j))) : RC K m Γ (dMin K) [.int i, .int j] Q := rc_plain (d := .int (min i j)) (fun F H vs C le rv k => by
  cases rv with
  | cons a b =>
    cases b with
    | cons b c =>
      cases c; cases a; cases b
      have e : (if j < i then j else i) = min i j := by split <;> omega
      exact .inl ⟨i, j, rfl, by rw [e]; exact k _ (.int _)⟩) q
def dInt : List V → Hp → VK → Prop := fun xs H Q => (∃ i, xs = [.int i] ∧ Q (.int i) H) ∨ ∃ k, xs = [.bl k] ∧ Q (.int (if k then 1 else 0)) H
theorem o_int {X : Cx} : CallR X (.type "int") dInt := call_int1
theorem rc_intB {b : Bool} (q : Q (.int (if b then 1 else 0))) : RC K m Γ dInt [.bool b] Q := rc_plain (d := .int (if b then 1 else 0)) (fun F H vs C le rv k => by
  cases rv with
  | cons a c =>
    cases c; cases a
    exact .inr ⟨b, rfl, k _ (.int _)⟩) q
theorem rc_intI {i : Int} (q : Q (.int i)) : RC K m Γ dInt [.int i] Q := rc_plain (d := .int i) (fun F H vs C le rv k => by
  cases rv with
  | cons a c =>
    cases c; cases a
    exact .inl ⟨i, rfl, k _ (.int _)⟩) q
theorem rg_rp {F : Hp} {a b : Int} : RpA K F (rgV a b) (rangeD a (b - a).toNat) := by
  unfold rgV rangeD
  generalize List.range (b - a).toNat = l
  induction l with
  | nil => exact .nil
  | cons i l ih => exact .cons (.int _) ih
theorem wx_lrg1 {ta : TE} (m : Bool) (h : WD K false Γ ta fun x => ∃ n : Int, x = .int n ∧ (0 ≤ n ∧ n ≤ 100000) ∧ ∀ l, QX (.ml m l (rangeD 0 n.toNat))) : WX K Γ (tLstRg (tRg1 ta)) QX := fun X hK F H σ E C k =>
  h X hK F H σ E _ fun v F1 H1 x l1 E1 r ⟨n, e, hn, q⟩ => by
    subst e
    cases r
    refine ⟨n, rfl, RgOk.of_le (by omega) (by omega) (by omega) (by omega), fun p hp => ?_⟩
    have rr : RpA X.K (X.ff F1 m) (rgV 0 n) (rangeD 0 n.toNat) := by
      have := rg_rp (K := X.K) (F := X.ff F1 m) (a := 0) (b := n)
      rwa [Int.sub_zero] at this
    exact k (.ref p) F1 _ _ l1 (E1.pushM hp rr) (q p)
theorem wd_lrg1 {ta : TE} (h : WD K false Γ ta fun x => ∃ n : Int, x = .int n ∧ (0 ≤ n ∧ n ≤ 100000) ∧ Q (.list (rangeD 0 n.toNat))) : WD K m Γ (tLstRg (tRg1 ta)) Q := .ofX (wx_lrg1 m (h.mono fun d ⟨n, e, hn, q⟩ => ⟨n, e, hn, fun _ => ⟨_, toD_ml, q⟩⟩))
theorem wx_rev {ta : TE} (m : Bool) (h : WD K m Γ ta fun x => ∃ ds, x = .list ds ∧ ∀ l, QX (.ml m l ds.reverse)) : WX K Γ (tRevL K ta) QX := fun X hK F H σ E C k =>
  h X hK F H σ E _ fun v F1 H1 x l1 E1 r ⟨ds, e, q⟩ => by
    subst e
    subst hK
    cases r with
    | lst h1 r1 => exact ⟨_, _, rfl, SqL.of (E1.lef m _ _ h1), fun p hp => k (.ref p) F1 _ _ l1 (E1.pushM hp r1.reverse) (q p)⟩
theorem wd_rev {ta : TE} (h : WD K m Γ ta fun x => ∃ ds, x = .list ds ∧ Q (.list ds.reverse)) : WD K m Γ (tRevL K ta) Q := .ofX (wx_rev m (h.mono fun d ⟨n, e, q⟩ => ⟨n, e, fun _ => ⟨_, toD_ml, q⟩⟩))
def WO (K : Kw) (Γ : List Sl) (t : TO) (Q : Option Int → Prop) : Prop := ∀ X : Bs, X.K = K → ∀ F H σ, En X F H σ Γ → ∀ C : Option Int → Hp → Prop, (∀ o F' H', Le F F' → En X F' H' σ Γ → Q o → C o H') → t σ H C
theorem wo_no {Q : Option Int → Prop} (q : Q none) : WO K Γ tNoPart Q := fun X hK F H σ E C k => k none F H Le.rfl' E q
theorem wo_some {t : TE} {Q : Option Int → Prop} (h : WD K false Γ t fun d => ∃ i, d = .int i ∧ Q (some i)) : WO K Γ (tPart t) Q := fun X hK F H σ E C k =>
  h X hK F H σ E _ fun v F1 H1 x l1 E1 r ⟨i, e, q⟩ => by
    subst e
    cases r
    exact ⟨i, rfl, k (some i) F1 H1 l1 E1 q⟩
def cutD {α : Type} (xs : List α) (lo hi : Option Int) : List α := (xs.drop (HT.sIx xs.length 0 lo)).take (HT.sIx xs.length xs.length hi - HT.sIx xs.length 0 lo)
theorem cut_rp {F : Hp} {xs : List V} {ds : List PyData} (r : RpA K F xs ds) (lo hi : Option Int) : RpA K F (cutV xs lo hi) (cutD ds lo hi) := by
  unfold cutV cutD
  rw [r.length]
  exact (r.drop _).take _
theorem wx_sl {t : TE} {tl th : TO} (m : Bool) (h : WD K m Γ t fun x => ∃ ds, x = .list ds ∧ WO K Γ tl fun lo => WO K Γ th fun hi => ∀ l, QX (.ml m l (cutD ds lo hi))) : WX K Γ (tSl (rSlL K) t tl th) QX := fun X hK F H σ E C k =>
  h X hK F H σ E _ fun v F1 H1 x l1 E1 r ⟨ds, e, h1⟩ => h1 X hK F1 H1 σ E1 _ fun lo F2 H2 l2 E2 h2 => h2 X hK F2 H2 σ E2 _ fun hi F3 H3 l3 E3 q => by
    subst e
    subst hK
    cases (Bs.mo r (l2.tr l3)) with
    | lst h1 r1 => exact ⟨_, _, rfl, SqL.of (E3.lef m _ _ h1), fun p hp => k (.ref p) F3 _ _ (l1.tr (l2.tr l3)) (E3.pushM hp (cut_rp r1 lo hi)) (q p)⟩
theorem WO.mono {t : TO} {Q Q' : Option Int → Prop} (h : WO K Γ t Q) (k : ∀ o, Q o → Q' o) : WO K Γ t Q' := fun X hK F H σ E C c => h X hK F H σ E C fun o F' H' l E' q => c o F' H' l E' (k o q)
theorem wd_sl {t : TE} {tl th : TO} (h : WD K m Γ t fun x => ∃ ds, x = .list ds ∧ WO K Γ tl fun lo => WO K Γ th fun hi => Q (.list (cutD ds lo hi))) : WD K m Γ (tSl (rSlL K) t tl th) Q :=
  .ofX (wx_sl m (h.mono fun d ⟨ds, e, q⟩ => ⟨ds, e, q.mono fun lo q => q.mono fun hi q l => ⟨_, toD_ml, q⟩⟩))
theorem wd_slT {t : TE} {tl th : TO} (h : WD K m Γ t fun x => ∃ ds, x = .tuple ds ∧ WO K Γ tl fun lo => WO K Γ th fun hi => Q (.tuple (cutD ds lo hi))) : WD K m Γ (tSl (rSlA K) t tl th) Q := fun X hK F H σ E C k =>
  h X hK F H σ E _ fun v F1 H1 x l1 E1 r ⟨ds, e, hq⟩ => by
    subst hK
    subst e
    refine hq X rfl F1 H1 σ E1 _ fun lo F2 H2 l2 E2 hq2 => hq2 X rfl F2 H2 σ E2 _ fun hi F3 H3 l3 E3 q => ?_
    cases r with
    | tup h1 r1 =>
      have r2 := r1.mono (Bs.ff_mono (X := X) (l2.tr l3) m)
      have h2 := sqT_le (Bs.ff_mono (X := X) (l2.tr l3) m) h1
      refine ⟨_, _, rfl, sqT_le (E3.lef m) h2, fun z => ?_, fun _ p hp => ?_⟩
      · have e : cutD ds lo hi = ds := by
          unfold cutD
          rw [← r1.length, z.1, z.2, List.drop_zero, Nat.sub_zero, r1.length, List.take_length]
        have q' : Q (.tuple (cutD ds lo hi)) := q
        rw [e] at q'
        exact k _ F3 H3 _ (l1.tr (l2.tr l3)) E3 (.tup h2 r2) q'
      · obtain ⟨a', b', c'⟩ := E3.newT rfl hp (cut_rp r2 lo hi)
        exact k (.ref p) _ _ _ (l1.tr ((l2.tr l3).tr a')) b' c' q
def isLid : List (PyData × PyData) → Bool
  | (.none, .bool false) :: _ => true
  | _ => false
theorem isLid_no {kvs : List (Key × V)} {ds : List (PyData × PyData)} (t : flatDs ds = true → kvs.map kvD = ds) : isLid ds = false := by
  cases h : isLid ds with
  | false => rfl
  | true =>
    have hf : flatDs ds = true := by
      unfold isLid at h
      split at h
      · rfl
      · cases h
    have e := t hf
    rw [← e] at h
    cases kvs with
    | nil => cases h
    | cons p q =>
      obtain ⟨k, u⟩ := p
      cases k <;> cases h
def tyN : PyData → String
  | .none => "NoneType" | .bool _ => "bool" | .int _ => "int" | .str _ => "str" | .list _ => "list" | .tuple _ => "tuple" | .dict l => if isLid l then "list" else "dict"
def isTyS (a T : String) : Bool := a == T || (a == "bool" && T == "int")
def isTy (d : PyData) (T : String) : Bool := isTyS (tyN d) T
/-- a dict with tuple keys -/
def IsN (H : Hp) (v : V) : Prop := ∃ a w ep es, v = .ref a ∧ H a = some (dN w a ep es)
/-- a dict with numbers and texts as keys -/
def IsF (H : Hp) (v : V) : Prop := ∃ a w ep kvs, v = .ref a ∧ H a = some (dF w a ep kvs)
def TyN (K : PySem.W.Frag) (H : Hp) (v : V) (t : Value) : Prop := TyX K H v t ∨ (t = .type "dict" ∧ (IsN H v ∨ IsF H v))
theorem kit_ofN {X : Cx} {pins : List (Addr × Obj)} {σ : L2.St} {H : Hp} {s : Shared} {x : V} {u t : Value} (I : Inv X pins σ H s) (rx : RelV x u) (ty : TyN X.K H x t) : ∃ P : Heap → Prop, PySem.W.KitX X.K u t P ∧ P s.heap ∧ u ≠ .builtin "__main__.__loader__#opaque" := by
  rcases ty with ty | ⟨rfl, ⟨a, w, ep, es, rfl, ea⟩ | ⟨a, w, ep, es, rfl, ea⟩⟩
  · exact kit_of I rx ty
  · cases (show u = Value.ref a from rx)
    obtain ⟨⟨_, _, _, xs, _, o, es', h1, h2, _⟩, _⟩ := (show ObjOk X.prog X.w H s.heap a (dN w a ep es) from I.hok a _ ea)
    exact ⟨_, PySem.W.kitx_dict, ⟨o, h1, h2.1⟩, fun z => nomatch z⟩
  · cases (show u = Value.ref a from rx)
    obtain ⟨⟨_, _, _, _, _, o, es', h1, h2, _⟩, _⟩ := (show ObjOk X.prog X.w H s.heap a (dF w a ep es) from I.hok a _ ea)
    exact ⟨_, PySem.W.kitx_dict, ⟨o, h1, h2.1⟩, fun z => nomatch z⟩
def rIsD (K : PySem.W.Frag) : List V → Hp → VK → Prop := fun xs H Q => ∃ (x c : V) (t u : Value) (b : Bool), xs = [x, c] ∧ ClsV c u ∧ TyN K H x t ∧ PySem.W.kitOne K t u = some b ∧ Q (.bl b) H
def rIsDT (K : PySem.W.Frag) : List V → Hp → VK → Prop := fun xs H Q => ∃ (x : V) (tp : Addr) (cs : List V) (t : Value) (us : List Value) (b : Bool), xs = [x, .ref tp] ∧ H tp = some (.tup cs) ∧ Paired ClsV cs us ∧ TyN K H x t ∧ PySem.W.kitAny K t us = some b ∧ Q (.bl b) H
theorem call_isD {X : Cx} : CallR X (.builtin "isinstance") (rIsD X.K) := by
  intro pins s σ H xs us Q I r h
  obtain ⟨x, c, t, u, b, rfl, k, ty, e, q⟩ := h
  obtain ⟨u1, u2, rfl, r1, r2⟩ := vals2 r
  have e2 := k.eq r2
  subst e2
  obtain ⟨P, Z, p, hx⟩ := kit_ofN I r1 ty
  exact PySem.W.kia_one Z I.kIn p e hx fun tk => ⟨.bl b, H, I.tok tk, rfl, q⟩
theorem tyX {F H : Hp} {v : V} {d : PyData} (le : Le F H) (r : Rp K F v d) : TyN K H v (.type (tyN d)) := by
  cases r with
  | non => exact .inl (.base .non)
  | bl b => exact .inl (.base (.bl b))
  | int i => exact .inl (.base (.int i))
  | str x => exact .inl (.base (.str x))
  | lst h _ => exact .inl (.base (.lst (le _ _ h)))
  | tup h _ =>
    rcases h with (h | ⟨o, h⟩) | ⟨o, its, n, hk, hc, _⟩
    · exact .inl (.base (.tup (le _ _ h)))
    · exact .inl (.fTuple (le _ _ h))
    · exact .inl (.kTuple hk hc)
  | dct h t =>
    have e := isLid_no t
    simp only [tyN, e]
    exact .inl (.base (.dK (le _ _ h)))
  | dcn h _ => exact .inr ⟨rfl, .inl ⟨_, _, _, _, rfl, le _ _ h⟩⟩
  | dcf h _ _ => exact .inr ⟨rfl, .inr ⟨_, _, _, _, rfl, le _ _ h⟩⟩
  | lid h _ => exact .inl (.base (.lst (le _ _ h)))
theorem kit_tab : ∀ a ∈ ["NoneType", "bool", "int", "str", "list", "tuple", "dict"], ∀ T ∈ ["int", "bool", "str", "list", "tuple", "dict"], kitB a T = some (isTyS a T) := by decide +kernel
theorem tyN_mem (d : PyData) : tyN d ∈ ["NoneType", "bool", "int", "str", "list", "tuple", "dict"] := by
  cases d <;> simp [tyN]
  split <;> simp
theorem kit_isTy {d : PyData} {T : String} (hT : T ∈ ["int", "bool", "str", "list", "tuple", "dict"]) : PySem.W.kitOne K (.type (tyN d)) (.type T) = some (isTy d T) := kit_ty (kit_tab _ (tyN_mem d) T hT)
theorem wd_isi {ta : TE} {T : String} (hT : T ∈ ["int", "bool", "str", "list", "tuple", "dict"]) (h : WD K false Γ ta fun d => Q (.bool (isTy d T))) : WD K m Γ (tCB (rIsD K) (tCons ta (tCons (tC (.ty T)) tNil))) Q := fun X hK F H σ E C k =>
  h X hK F H σ E _ fun v F1 H1 d l1 E1 r q => ⟨v, .ty T, .type (tyN d), .type T, isTy d T, rfl, .ty T, tyX E1.le r, kit_isTy hT, k _ F1 H1 _ l1 E1 (.bl _) q⟩
theorem wd_isi2 {ta : TE} {T U : String} (hT : T ∈ ["int", "bool", "str", "list", "tuple", "dict"]) (hU : U ∈ ["int", "bool", "str", "list", "tuple", "dict"]) (h : WD K false Γ ta fun d => Q (.bool (isTy d T || isTy d U))) : WD K m Γ (tCB (rIsDT K) (tCons ta (tCons (tTup (tCons (tC (.ty T)) (tCons (tC (.ty U)) tNil))) tNil))) Q := fun X hK F H σ E C k =>
  h X hK F H σ E _ fun v F1 H1 d l1 E1 r q => ⟨by show 2 ≤ sizeLine; decide, fun p hp => by
    refine ⟨v, p, [.ty T, .ty U], .type (tyN d), [.type T, .type U], isTy d T || isTy d U, rfl, upd_same, .cons (.ty T) (.cons (.ty U) .nil), tyX (E1.free hp).le r, ?_, k _ F1 _ _ l1 (E1.free hp) (.bl _) q⟩
    refine kitAny_cons (kit_isTy hT) (fun e => ?_) (fun e => by rw [e]; rfl)
    refine kitAny_cons (kit_isTy hU) (fun e2 => by rw [e, e2]; exact kitAny_nil) (fun e2 => by rw [e2]; simp)⟩
end
end Pk
end
section
set_option Elab.async false
set_option linter.all false
set_option maxRecDepth 100000
namespace Pk
open PySem PySem.Spec PyProof.Rows L2
section
variable {K : Kw} {m : Bool} {Γ : List Sl} {QI : List PyData → Prop} {ta : TA} {te : TE}
def pairD (x y : PyData) : PyData := .tuple [x, y]
theorem yPair {X : Bs} {F' : Hp} {fx fy : Nat → Option V} {xs ys ds : List PyData} (hd : ∀ i, i < ds.length → ∃ x y, xs[i]? = some x ∧ ys[i]? = some y ∧ ds[i]? = some (pairD x y)) (hx : ∀ i x, xs[i]? = some x → ∀ v, fx i = some v → Rp K (X.ff F' m) v x) (hy : ∀ i x, ys[i]? = some x → ∀ v, fy i = some v → Rp K (X.ff F' m) v x) :
    ∀ i F2 H2 x H3, Le F' F2 → Le F2 H2 → i < ds.length → YPair fx fy i H2 x H3 → ∃ d F3, ds[i]? = some d ∧ Gr F2 H2 F3 H3 ∧ Rp K (X.ff F3 m) x d := fun i F2 H2 v H3 l2 le hi hy' => by
  obtain ⟨T, x, y, rfl, nT, rfl, e1, e2⟩ := hy'
  obtain ⟨dx, dy, h1, h2, h3⟩ := hd i hi
  have g := Gr.new le (p := T) (o := .tup [x, y]) nT
  refine ⟨_, _, h3, g, .tup (Bs.ff_tup.1 _ _ (SqT.of upd_same)) (.cons (Bs.mo (hx i dx h1 x e1) (l2.tr g.lf)) (.cons (Bs.mo (hy i dy h2 y e2) (l2.tr g.lf)) .nil))⟩
theorem zip_get {xs ys : List PyData} {i : Nat} (h : i < (List.zipWith pairD xs ys).length) : ∃ x y, xs[i]? = some x ∧ ys[i]? = some y ∧ (List.zipWith pairD xs ys)[i]? = some (pairD x y) := by
  rw [List.length_zipWith] at h
  have h1 : i < xs.length := by omega
  have h2 : i < ys.length := by omega
  exact ⟨xs[i], ys[i], by simp [h1], by simp [h2], by simp [List.getElem?_zipWith, h1, h2]⟩
/-- (0, x0), (1, x1), .. -/
def enumD (xs : List PyData) : List PyData := List.zipWith pairD (rangeD 0 xs.length) xs
theorem enumD_len {xs : List PyData} : (enumD xs).length = xs.length := by simp [enumD, rangeD_len]
theorem enumD_of {xs : List PyData} {i : Nat} {d : PyData} (h : (enumD xs)[i]? = some d) : ∃ x, xs[i]? = some x ∧ d = .tuple [.int i, x] := by
  have hi : i < (enumD xs).length := (List.getElem?_eq_some_iff.mp h).1
  obtain ⟨a, b, h1, h2, h3⟩ := zip_get hi
  obtain ⟨_, e⟩ := rangeD_of h1
  refine ⟨b, h2, ?_⟩
  unfold enumD at h
  rw [h3] at h
  cases h
  rw [e, Int.zero_add]
  rfl
theorem wi_enum (h : WA K m Γ ta fun as => ∃ xs, as = [.d (.list xs)] ∧ QI (enumD xs)) : WI K m Γ (iEnum K ta) QI := fun X hK F H σ E C k =>
  h X hK F H σ E _ fun vs F1 H1 as l1 E1 r ⟨xs, e, q⟩ => by
    subst e
    cases r with
    | cons a b =>
      cases b
      have a' : Rp X.K (X.ff F1 m) _ (.list xs) := a
      cases a' with
      | lst ha ra =>
        rename_i pa us
        refine ⟨pa, us, rfl, SqL.of (E1.lef m _ _ ha), k (Ite K pa) F1 H1 _ _ (enumD xs) l1 E1 (by rw [enumD_len, ← ra.length]; exact walk_enum (xs := us)) (fun H2 l2 => SqL.of (l2 _ _ (X.ff_le F1 m _ _ ha))) (yPair (xs := rangeD 0 xs.length) (ys := xs) (fun i hi => zip_get hi) (fun i x hx v hv => ?_) (fun i x hx v hv => ?_)) q⟩
        · obtain ⟨_, e⟩ := rangeD_of hx
          cases hv
          rw [e, Int.zero_add]
          exact .int _
        · obtain ⟨u, hu, ru⟩ := ra.get hx
          rw [hv] at hu; cases hu; rw [← hK]; exact ru
end

/-- at most n deep, no dicts, texts of signs -/
def dep : Nat → PyData → Prop
  | _, .none => True
  | _, .bool _ => True
  | _, .int _ => True
  | _, .str x => PyData.strOk x = true
  | 0, .list _ => False
  | 0, .tuple _ => False
  | n + 1, .list xs => ∀ x ∈ xs, dep n x
  | n + 1, .tuple xs => ∀ x ∈ xs, dep n x
  | _, .dict _ => False
theorem dep_can : ∀ (n : Nat) (d : PyData), dep n d → d.canLay0 = true ∧ d.depth ≤ n + 1
  | _, .none, _ => ⟨rfl, by simp [PyData.depth]⟩
  | _, .bool _, _ => ⟨rfl, by simp [PyData.depth]⟩
  | _, .int _, _ => ⟨rfl, by simp [PyData.depth]⟩
  | n, .str x, h => by
    have h' : PyData.strOk x = true := by cases n <;> exact h
    exact ⟨by simpa [PyData.canLay0] using h', by simp [PyData.depth]⟩
  | 0, .list _, h => h.elim
  | 0, .tuple _, h => h.elim
  | n + 1, .list xs, h => by
    have : PyData.canLayAll0 xs = true ∧ PyData.depthAll xs ≤ n + 1 := by
      have h' : ∀ x ∈ xs, dep n x := h
      clear h
      induction xs with
      | nil => exact ⟨rfl, by simp [PyData.depthAll]⟩
      | cons x xs ih =>
        obtain ⟨a, b⟩ := dep_can n x (h' x List.mem_cons_self)
        obtain ⟨c, d⟩ := ih fun y hy => h' y (List.mem_cons_of_mem _ hy)
        exact ⟨by simp [PyData.canLayAll0, a, c], by simp only [PyData.depthAll]; omega⟩
    exact ⟨by simpa [PyData.canLay0] using this.1, by simp only [PyData.depth]; omega⟩
  | n + 1, .tuple xs, h => by
    have : PyData.canLayAll0 xs = true ∧ PyData.depthAll xs ≤ n + 1 := by
      have h' : ∀ x ∈ xs, dep n x := h
      clear h
      induction xs with
      | nil => exact ⟨rfl, by simp [PyData.depthAll]⟩
      | cons x xs ih =>
        obtain ⟨a, b⟩ := dep_can n x (h' x List.mem_cons_self)
        obtain ⟨c, d⟩ := ih fun y hy => h' y (List.mem_cons_of_mem _ hy)
        exact ⟨by simp [PyData.canLayAll0, a, c], by simp only [PyData.depthAll]; omega⟩
    exact ⟨by simpa [PyData.canLay0] using this.1, by simp only [PyData.depth]; omega⟩
  | n, .dict _, h => by cases n <;> exact h.elim
theorem dep_shaped {n : Nat} {d : PyData} (h : dep n d) (hn : n ≤ 63) : SeqAt.shaped d = true := by
  obtain ⟨a, b⟩ := dep_can n d h
  simp only [SeqAt.shaped, a, Bool.true_and, decide_eq_true_eq]
  omega
theorem sh_int {i : Int} : SeqAt.shaped (.int i) = true := dep_shaped (n := 0) (d := .int i) trivial (by decide)
theorem sh_bool {b : Bool} : SeqAt.shaped (.bool b) = true := dep_shaped (n := 0) (d := .bool b) trivial (by decide)
theorem sh_non : SeqAt.shaped .none = true := dep_shaped (n := 0) (d := .none) trivial (by decide)
theorem sh_str {x : Str} (h : PyData.strOk x = true) : SeqAt.shaped (.str x) = true := dep_shaped (n := 0) (d := .str x) h (by decide)
theorem sh_nil : SeqAt.shaped (.list []) = true := dep_shaped (n := 1) (d := .list []) (fun x h => by cases h) (by decide)
/-- == of texts, ints -/
theorem eqv_int {i j : Int} : PyData.eqv (.int i) (.int j) = decide (i = j) := by simp only [PyData.eqv]; exact Bool.beq_eq_decide_eq i j
theorem eqv_str {x y : Str} : PyData.eqv (.str x) (.str y) = decide (x = y) := by simp only [PyData.eqv]; exact Bool.beq_eq_decide_eq x y
/-- no truths within -/
inductive NB : PyData → Prop
  | non : NB .none
  | int (i : Int) : NB (.int i)
  | str (x : Str) : NB (.str x)
  | lst {xs : List PyData} : (∀ x ∈ xs, NB x) → NB (.list xs)
  | tup {xs : List PyData} : (∀ x ∈ xs, NB x) → NB (.tuple xs)
mutual
theorem eqv_iff : ∀ (x y : PyData), NB x → NB y → (PyData.eqv x y = true ↔ x = y)
  | .none, y, _, hy => by cases hy <;> simp [PyData.eqv]
  | .int i, y, _, hy => by cases hy <;> simp [PyData.eqv]
  | .str s, y, _, hy => by cases hy <;> simp [PyData.eqv]
  | .list xs, y, hx, hy => by
    cases hx with
    | lst h =>
      cases hy with
      | lst k => simp only [PyData.eqv, PyData.list.injEq]; exact eqvAll_iff xs _ h k
      | _ => simp [PyData.eqv]
  | .tuple xs, y, hx, hy => by
    cases hx with
    | tup h =>
      cases hy with
      | tup k => simp only [PyData.eqv, PyData.tuple.injEq]; exact eqvAll_iff xs _ h k
      | _ => simp [PyData.eqv]
  | .bool _, _, hx, _ => by cases hx
  | .dict _, _, hx, _ => by cases hx
theorem eqvAll_iff : ∀ (xs ys : List PyData), (∀ x ∈ xs, NB x) → (∀ x ∈ ys, NB x) → (PyData.eqvAll xs ys = true ↔ xs = ys)
  | [], ys, _, _ => by cases ys <;> simp [PyData.eqvAll]
  | x :: xs, [], _, _ => by simp [PyData.eqvAll]
  | x :: xs, y :: ys, hx, hy => by
    simp only [PyData.eqvAll, Bool.and_eq_true, List.cons.injEq]
    rw [eqv_iff x y (hx x List.mem_cons_self) (hy y List.mem_cons_self), eqvAll_iff xs ys (fun z h => hx z (List.mem_cons_of_mem _ h)) (fun z h => hy z (List.mem_cons_of_mem _ h))]
end
theorem eqv_self {x : PyData} (h : NB x) : PyData.eqv x x = true := (eqv_iff x x h h).mpr rfl
end Pk
end
section
set_option Elab.async false
set_option linter.all false
set_option maxRecDepth 100000
namespace Pk
open PySem PySem.Spec PyProof.Rows L2
section
variable {K : Kw} {m : Bool} {Γ : List Sl} {Q : PyData → Prop} {QX : Sl → Prop} {ta tb tc td te tf : TE}
theorem wd_cb1 {r : List V → Hp → VK → Prop} (h : WD K m Γ ta fun x => RC K m Γ r [x] Q) : WD K m Γ (tCB r (tCons ta tNil)) Q := wd_cb (wa_d (h.mono fun x q => wa_nil ⟨_, rfl, q⟩))
theorem wd_cb2 {r : List V → Hp → VK → Prop} (h : WD K m Γ ta fun x => WD K m Γ tb fun y => RC K m Γ r [x, y] Q) : WD K m Γ (tCB r (tCons ta (tCons tb tNil))) Q := wd_cb (wa_d (h.mono fun x h => wa_d (h.mono fun y q => wa_nil ⟨_, rfl, q⟩)))
theorem wx_cb1 {r : List V → Hp → VK → Prop} (m : Bool) (h : WD K m Γ ta fun x => RCX K m Γ r [x] QX) : WX K Γ (tCB r (tCons ta tNil)) QX := wx_cb m (wa_d (h.mono fun x q => wa_nil ⟨_, rfl, q⟩))
theorem le_lit {n : Nat} (h : Nat.ble n 100000 = true) : n ≤ 100000 := Nat.le_of_ble_eq_true h
theorem wd_tup0 (q : Q (.tuple [])) : WD K m Γ (tTup tNil) Q := wd_tup (wa_nil ⟨_, rfl, le_lit rfl, q⟩)
theorem wd_tup1 (h : WD K m Γ ta fun x => Q (.tuple [x])) : WD K m Γ (tTup (tCons ta tNil)) Q := wd_tup (wa_d (h.mono fun x q => wa_nil ⟨_, rfl, le_lit rfl, q⟩))
theorem wd_tup2 (h : WD K m Γ ta fun x => WD K m Γ tb fun y => Q (.tuple [x, y])) : WD K m Γ (tTup (tCons ta (tCons tb tNil))) Q := wd_tup (wa_d (h.mono fun x h => wa_d (h.mono fun y q => wa_nil ⟨_, rfl, le_lit rfl, q⟩)))
theorem wd_tup3 (h : WD K m Γ ta fun x => WD K m Γ tb fun y => WD K m Γ tc fun z => Q (.tuple [x, y, z])) : WD K m Γ (tTup (tCons ta (tCons tb (tCons tc tNil)))) Q := wd_tup (wa_d (h.mono fun x h => wa_d (h.mono fun y h => wa_d (h.mono fun z q => wa_nil ⟨_, rfl, le_lit rfl, q⟩))))
theorem wd_lst0 (q : Q (.list [])) : WD K m Γ (tLst tNil) Q := wd_lst (wa_nil ⟨_, rfl, le_lit rfl, q⟩)
theorem wd_lst1 (h : WD K m Γ ta fun x => Q (.list [x])) : WD K m Γ (tLst (tCons ta tNil)) Q := wd_lst (wa_d (h.mono fun x q => wa_nil ⟨_, rfl, le_lit rfl, q⟩))
theorem wd_lst2 (h : WD K m Γ ta fun x => WD K m Γ tb fun y => Q (.list [x, y])) : WD K m Γ (tLst (tCons ta (tCons tb tNil))) Q := wd_lst (wa_d (h.mono fun x h => wa_d (h.mono fun y q => wa_nil ⟨_, rfl, le_lit rfl, q⟩)))
theorem wd_lst3 (h : WD K m Γ ta fun x => WD K m Γ tb fun y => WD K m Γ tc fun z => Q (.list [x, y, z])) : WD K m Γ (tLst (tCons ta (tCons tb (tCons tc tNil)))) Q := wd_lst (wa_d (h.mono fun x h => wa_d (h.mono fun y h => wa_d (h.mono fun z q => wa_nil ⟨_, rfl, le_lit rfl, q⟩))))
theorem wd_lst4 (h : WD K m Γ ta fun x => WD K m Γ tb fun y => WD K m Γ tc fun z => WD K m Γ td fun u => Q (.list [x, y, z, u])) : WD K m Γ (tLst (tCons ta (tCons tb (tCons tc (tCons td tNil))))) Q := wd_lst (wa_d (h.mono fun x h => wa_d (h.mono fun y h => wa_d (h.mono fun z h => wa_d (h.mono fun u q => wa_nil ⟨_, rfl, le_lit rfl, q⟩)))))
theorem wd_lst5 (h : WD K m Γ ta fun x => WD K m Γ tb fun y => WD K m Γ tc fun z => WD K m Γ td fun u => WD K m Γ te fun w => Q (.list [x, y, z, u, w])) : WD K m Γ (tLst (tCons ta (tCons tb (tCons tc (tCons td (tCons te tNil)))))) Q := wd_lst (wa_d (h.mono fun x h => wa_d (h.mono fun y h => wa_d (h.mono fun z h => wa_d (h.mono fun u h => wa_d (h.mono fun w q => wa_nil ⟨_, rfl, le_lit rfl, q⟩))))))
theorem wd_lst6 (h : WD K m Γ ta fun x => WD K m Γ tb fun y => WD K m Γ tc fun z => WD K m Γ td fun u => WD K m Γ te fun w => WD K m Γ tf fun r => Q (.list [x, y, z, u, w, r])) : WD K m Γ (tLst (tCons ta (tCons tb (tCons tc (tCons td (tCons te (tCons tf tNil))))))) Q := wd_lst (wa_d (h.mono fun x h => wa_d (h.mono fun y h => wa_d (h.mono fun z h => wa_d (h.mono fun u h => wa_d (h.mono fun w h => wa_d (h.mono fun r q => wa_nil ⟨_, rfl, le_lit rfl, q⟩)))))))
theorem wx_lst0 (m : Bool) (q : ∀ l, QX (.ml m l [])) : WX K Γ (tLst tNil) QX := wx_lst m (wa_nil ⟨_, rfl, le_lit rfl, q⟩)
theorem wx_lst1 (m : Bool) (h : WD K m Γ ta fun x => ∀ l, QX (.ml m l [x])) : WX K Γ (tLst (tCons ta tNil)) QX := wx_lst m (wa_d (h.mono fun x q => wa_nil ⟨_, rfl, le_lit rfl, q⟩))
variable {T : List Sl → (Sl → Prop) → Prop} {EE : XK}
theorem wx_call0 (h : T [] QX) : WX K Γ (tCall (spG K T) [] EE tNil) QX := wx_call (wa_nil ⟨agsGood_d rfl, h⟩)
theorem wx_call1 (h : WD K false Γ ta fun x => T [.dat false x] QX) : WX K Γ (tCall (spG K T) [] EE (tCons ta tNil)) QX := wx_call (wa_d (h.mono fun x q => wa_nil ⟨agsGood_d rfl, q⟩))
theorem wx_call2 (h : WD K false Γ ta fun x => WD K false Γ tb fun y => T [.dat false x, .dat false y] QX) : WX K Γ (tCall (spG K T) [] EE (tCons ta (tCons tb tNil))) QX := wx_call (wa_d (h.mono fun x h => wa_d (h.mono fun y q => wa_nil ⟨agsGood_d rfl, q⟩)))
theorem wx_call3 (h : WD K false Γ ta fun x => WD K false Γ tb fun y => WD K false Γ tc fun z => T [.dat false x, .dat false y, .dat false z] QX) : WX K Γ (tCall (spG K T) [] EE (tCons ta (tCons tb (tCons tc tNil)))) QX := wx_call (wa_d (h.mono fun x h => wa_d (h.mono fun y h => wa_d (h.mono fun z q => wa_nil ⟨agsGood_d rfl, q⟩))))
theorem wx_call4 (h : WD K false Γ ta fun x => WD K false Γ tb fun y => WD K false Γ tc fun z => WD K false Γ td fun u => T [.dat false x, .dat false y, .dat false z, .dat false u] QX) : WX K Γ (tCall (spG K T) [] EE (tCons ta (tCons tb (tCons tc (tCons td tNil))))) QX := wx_call (wa_d (h.mono fun x h => wa_d (h.mono fun y h => wa_d (h.mono fun z h => wa_d (h.mono fun u q => wa_nil ⟨agsGood_d rfl, q⟩)))))
theorem ag_ex {i : Nat} {v : V} {Φ : Own} (hi : Γ[i]? = some (.ex v Φ)) : Ag.sl Γ (.o i) = .ex v Φ := by simp [Ag.sl, List.getD_eq_getElem?_getD, hi]
theorem wx_callO0 {i : Nat} {v : V} {Φ : Own} (hi : Γ[i]? = some (.ex v Φ)) (h : T [.ex v Φ] QX) : WX K Γ (tCall (spG K T) [] EE (tCons (tVar i) tNil)) QX := wx_call (wa_o hi (wa_nil ⟨agsGood_1 hi rfl, by rw [List.map_cons, ag_ex hi]; exact h⟩))
theorem wx_callO1 {i : Nat} {v : V} {Φ : Own} (hi : Γ[i]? = some (.ex v Φ)) (h : WD K false Γ ta fun x => T [.ex v Φ, .dat false x] QX) : WX K Γ (tCall (spG K T) [] EE (tCons (tVar i) (tCons ta tNil))) QX := wx_call (wa_o hi (wa_d (h.mono fun x q => wa_nil ⟨agsGood_1 hi rfl, by rw [List.map_cons, ag_ex hi]; exact q⟩)))
theorem wx_callO2 {i : Nat} {v : V} {Φ : Own} (hi : Γ[i]? = some (.ex v Φ)) (h : WD K false Γ ta fun x => WD K false Γ tb fun y => T [.ex v Φ, .dat false x, .dat false y] QX) : WX K Γ (tCall (spG K T) [] EE (tCons (tVar i) (tCons ta (tCons tb tNil)))) QX := wx_call (wa_o hi (wa_d (h.mono fun x h => wa_d (h.mono fun y q => wa_nil ⟨agsGood_1 hi rfl, by rw [List.map_cons, ag_ex hi]; exact q⟩))))
theorem wx_callO3 {i : Nat} {v : V} {Φ : Own} (hi : Γ[i]? = some (.ex v Φ)) (h : WD K false Γ ta fun x => WD K false Γ tb fun y => WD K false Γ tc fun z => T [.ex v Φ, .dat false x, .dat false y, .dat false z] QX) : WX K Γ (tCall (spG K T) [] EE (tCons (tVar i) (tCons ta (tCons tb (tCons tc tNil))))) QX := wx_call (wa_o hi (wa_d (h.mono fun x h => wa_d (h.mono fun y h => wa_d (h.mono fun z q => wa_nil ⟨agsGood_1 hi rfl, by rw [List.map_cons, ag_ex hi]; exact q⟩)))))
/-- what is wanted of a call's result, as data -/
def asD (m : Bool) (Q : PyData → Prop) : Sl → Prop := fun s => ∃ d, s.toD m = some d ∧ Q d
theorem asD_dat {d : PyData} (q : Q d) : asD m Q (.dat m d) := ⟨d, toD_dat, q⟩
theorem asD_new {d : PyData} (q : Q d) : asD m Q (.dat true d) := ⟨d, by cases m <;> simp [Sl.toD], q⟩
theorem asD_mln {l : Addr} {ds : List PyData} (q : Q (.list ds)) : asD m Q (.ml true l ds) := ⟨_, by cases m <;> simp [Sl.toD], q⟩
theorem wd_call0 (h : T [] (asD m Q)) : WD K m Γ (tCall (spG K T) [] EE tNil) Q := .ofX (wx_call0 h)
theorem wd_call1 (h : WD K false Γ ta fun x => T [.dat false x] (asD m Q)) : WD K m Γ (tCall (spG K T) [] EE (tCons ta tNil)) Q := .ofX (wx_call1 h)
theorem wd_call2 (h : WD K false Γ ta fun x => WD K false Γ tb fun y => T [.dat false x, .dat false y] (asD m Q)) : WD K m Γ (tCall (spG K T) [] EE (tCons ta (tCons tb tNil))) Q := .ofX (wx_call2 h)
theorem wd_call3 (h : WD K false Γ ta fun x => WD K false Γ tb fun y => WD K false Γ tc fun z => T [.dat false x, .dat false y, .dat false z] (asD m Q)) : WD K m Γ (tCall (spG K T) [] EE (tCons ta (tCons tb (tCons tc tNil)))) Q := .ofX (wx_call3 h)
theorem wd_call4 (h : WD K false Γ ta fun x => WD K false Γ tb fun y => WD K false Γ tc fun z => WD K false Γ td fun u => T [.dat false x, .dat false y, .dat false z, .dat false u] (asD m Q)) : WD K m Γ (tCall (spG K T) [] EE (tCons ta (tCons tb (tCons tc (tCons td tNil))))) Q := .ofX (wx_call4 h)
theorem wd_callO0 {i : Nat} {v : V} {Φ : Own} (hi : Γ[i]? = some (.ex v Φ)) (h : T [.ex v Φ] (asD m Q)) : WD K m Γ (tCall (spG K T) [] EE (tCons (tVar i) tNil)) Q := .ofX (wx_callO0 hi h)
theorem wd_callO1 {i : Nat} {v : V} {Φ : Own} (hi : Γ[i]? = some (.ex v Φ)) (h : WD K false Γ ta fun x => T [.ex v Φ, .dat false x] (asD m Q)) : WD K m Γ (tCall (spG K T) [] EE (tCons (tVar i) (tCons ta tNil))) Q := .ofX (wx_callO1 hi h)
theorem wd_callO2 {i : Nat} {v : V} {Φ : Own} (hi : Γ[i]? = some (.ex v Φ)) (h : WD K false Γ ta fun x => WD K false Γ tb fun y => T [.ex v Φ, .dat false x, .dat false y] (asD m Q)) : WD K m Γ (tCall (spG K T) [] EE (tCons (tVar i) (tCons ta (tCons tb tNil)))) Q := .ofX (wx_callO2 hi h)
theorem wd_callO3 {i : Nat} {v : V} {Φ : Own} (hi : Γ[i]? = some (.ex v Φ)) (h : WD K false Γ ta fun x => WD K false Γ tb fun y => WD K false Γ tc fun z => T [.ex v Φ, .dat false x, .dat false y, .dat false z] (asD m Q)) : WD K m Γ (tCall (spG K T) [] EE (tCons (tVar i) (tCons ta (tCons tb (tCons tc tNil))))) Q := .ofX (wx_callO3 hi h)
end
theorem iteD {p A B : Prop} [Decidable p] (h1 : p → A) (h2 : ¬ p → B) : if decide p = true then A else B := by
  by_cases h : p
  · rw [decide_eq_true h, if_pos rfl]; exact h1 h
  · rw [decide_eq_false h, if_neg Bool.false_ne_true]; exact h2 h
theorem iteT' {A B : Prop} {b : Bool} (hb : b = true) (h : A) : if b = true then A else B := by rw [if_pos hb]; exact h
theorem iteF' {A B : Prop} {b : Bool} (hb : b = false) (h : B) : if b = true then A else B := by rw [hb, if_neg Bool.false_ne_true]; exact h
def OwnL (K : Kw) (P : List Int → Prop) : Own where
  K := K
  p := fun _ H v S => ∃ (l : Addr) (ns : List Int), v = .ref l ∧ (∀ b, S b ↔ b = l) ∧ H l = some (.lst (ns.map V.int)) ∧ P ns
  vw := none
  keep := fun {F F' H H' v S} ⟨l, ns, e, hS, hl, hp⟩ _ k => ⟨l, ns, e, hS, (k l ((hS l).mpr rfl)).trans hl, hp⟩
  keepT := fun _ {F F' H H' v S} ⟨l, ns, e, hS, hl, hp⟩ _ k => ⟨l, ns, e, hS, (k l ((hS l).mpr rfl)).trans hl, hp⟩
  view := fun _ _ e => nomatch e
theorem ints_rp {K : Kw} {F : Hp} : ∀ ns : List Int, RpA K F (ns.map V.int) (ns.map PyData.int)
  | [] => .nil
  | n :: ns => .cons (.int n) (ints_rp ns)
section
variable {K : Kw} {Γ : List Sl} {P : Po} {ts : TS}
/-- a slot is told otherwise -/
theorem sj_retell {i : Nat} {s s' : Sl} (hi : Γ[i]? = some s) (h : ∀ (X : Bs) (F H : Hp) (ov : Option V) (S : Addr → Prop), X.K = K → SlOk X F H ov S s → SlOk X F H ov S s') (k : SJ K (Γ.set i s') ts P) : SJ K Γ ts P := fun X hK F H σ E D hD =>
  k X hK F H σ (E.retell Le.rfl' E.le (fun _ _ _ _ => rfl) hi fun S hS q => ⟨S, h X F H _ S hK q, fun a sa => ⟨sa, (hS a sa).1⟩, fun _ z => absurd rfl z⟩) D hD
theorem sj_open (i : Nat) {v : V} {PL : List Int → Prop} (hi : Γ[i]? = some (.ex v (OwnL K PL))) (k : ∀ l ns, v = .ref l → PL ns → SJ K (Γ.set i (.ml false l (ns.map PyData.int))) ts P) : SJ K Γ ts P := fun X hK F H σ E D hD => by
  obtain ⟨S, hs, _, _⟩ := id E.sl
  obtain ⟨e, _, l, ns, rfl, hS, hl, hp⟩ := hs i _ hi
  refine k l ns rfl hp X hK F H σ (E.retell Le.rfl' E.le (fun _ _ _ _ => rfl) hi fun S hS q => ⟨S, ?_, fun a sa => ⟨sa, (hS a sa).1⟩, fun _ z => absurd rfl z⟩) D hD
  obtain ⟨e', _, l', ns', er, hS', hl', hp'⟩ := q
  cases er
  rw [hl] at hl'
  have : ns.map V.int = ns'.map V.int := by injection hl' with z; injection z
  exact ⟨ns.map V.int, e, hS', hl, ints_rp ns, fun z => nomatch z⟩
theorem sj_close (i : Nat) {m : Bool} {l : Addr} {ns : List Int} (PL : List Int → Prop) (hi : Γ[i]? = some (.ml m l (ns.map PyData.int))) (hp : PL ns) (k : SJ K (Γ.set i (.ex (.ref l) (OwnL K PL))) ts P) : SJ K Γ ts P :=
  sj_retell hi (fun X F H ov S hK q => by
    obtain ⟨xs, e, hS, hl, r, _⟩ := q
    rw [ints_of r] at hl
    exact ⟨e, hK.symm, l, ns, rfl, hS, hl, hp⟩) k
end
def ScriptO (K : Kw) (ns : List Int) : Own where
  K := K
  p := fun _ H v S => ∃ a : Addr, v = .ref a ∧ SqL K H a (ns.map V.int) ∧ ((∀ b, S b ↔ b = a) ∨ (∀ H', SqL K H' a (ns.map V.int)) ∧ ∀ b, ¬ S b)
  vw := none
  keep := fun {F F' H H' v S} ⟨a, e, h, c⟩ _ k => by
    refine ⟨a, e, ?_, c⟩
    rcases c with c | ⟨c, _⟩
    · have z := k a ((c a).mpr rfl)
      rcases h with (h | ⟨o, h⟩) | h
      · exact .inl (.inl (z.trans h))
      · exact .inl (.inr ⟨o, z.trans h⟩)
      · exact .inr h
    · exact c H'
  keepT := fun _ {F F' H H' v S} ⟨a, e, h, c⟩ _ k => by
    refine ⟨a, e, ?_, c⟩
    rcases c with c | ⟨c, _⟩
    · have z := k a ((c a).mpr rfl)
      rcases h with (h | ⟨o, h⟩) | h
      · exact .inl (.inl (z.trans h))
      · exact .inl (.inr ⟨o, z.trans h⟩)
      · exact .inr h
    · exact c H'
  view := fun _ _ e => nomatch e
section
variable {K : Kw} {m : Bool} {Γ : List Sl} {Q : PyData → Prop} {ta : TE}
theorem En.script {X : Bs} {F H : Hp} {σ : L2.St} (E : En X F H σ Γ) {i : Nat} {v : V} {ns : List Int} (hi : Γ[i]? = some (.ex v (ScriptO K ns))) : ∃ a, v = .ref a ∧ SqL K H a (ns.map V.int) := by
  obtain ⟨S, hs, _, _⟩ := E.sl
  obtain ⟨_, _, a, e, h, _⟩ := hs i _ hi
  exact ⟨a, e, h⟩
theorem wd_lenScript {i : Nat} {v : V} {ns : List Int} (hi : Γ[i]? = some (.ex v (ScriptO K ns))) (q : Q (.int ns.length)) : WD K m Γ (tCB (dLen K) (tCons (tVar i) tNil)) Q := fun X hK F H σ E C k => by
  obtain ⟨a, e, h⟩ := E.script hi
  subst e
  refine ⟨_, E.ex hi, _, ns.length, rfl, .inl ⟨_, h, by simp⟩, k _ F H _ Le.rfl' E (.int _) q⟩
theorem wd_ixScript {i : Nat} {v : V} {ns : List Int} (hi : Γ[i]? = some (.ex v (ScriptO K ns))) (h : WD K false Γ ta fun d => ∃ (n : Int) (c : Int), d = .int n ∧ atI ns n = some c ∧ Q (.int c)) : WD K m Γ (tOp (rIx K) (tVar i) ta) Q := fun X hK F H σ E C k => by
  refine ⟨v, E.ex hi, h X hK F H σ E _ fun u F1 H1 x l1 E1 r1 ⟨n, c, en, hc, q⟩ => ?_⟩
  subst en
  cases r1
  obtain ⟨a, e, hq⟩ := E1.script hi
  subst e
  refine .inl ⟨a, _, n, .int c, rfl, rfl, hq, ?_, k _ F1 H1 _ l1 E1 (.int _) q⟩
  unfold atI at hc ⊢
  rw [List.length_map]
  cases hx : ixN ns.length n with
  | none => rw [hx] at hc; cases hc
  | some j =>
    rw [hx] at hc
    simp only [Option.bind_some] at hc ⊢
    rw [List.getElem?_map, hc]
    rfl
end
end Pk
end
section
set_option Elab.async false
set_option linter.all false
set_option maxRecDepth 100000
namespace Pk
open PySem PySem.Spec PyProof.Rows L2
section
variable {K : Kw} {m mi : Bool} {Γ : List Sl} {Q : PyData → Prop} {QX : Sl → Prop} {ta tb te : TE} {wi : TI} {g : TG} {tt : TT} {vs : List Nat}
theorem WI.mono {QI QI' : List PyData → Prop} (h : WI K m Γ wi QI) (k : ∀ ds, QI ds → QI' ds) : WI K m Γ wi QI' := fun X hK F H σ E C c => h X hK F H σ E C fun J F' H' G Y ds l E' w a b q => c J F' H' G Y ds l E' w a b (k ds q)
theorem GJ.mono {N N' : List Sl → Prop} {d : PyData} (h : GJ K m Γ g d N) (k : ∀ Γ, N Γ → N' Γ) : GJ K m Γ g d N' := fun X hK F H σ E v r C c => h X hK F H σ E v r C fun F' H' σ' Γ' l E' q => c F' H' σ' Γ' l E' (k Γ' q)
/-- each item gives what R tells -/
theorem wx_lcF (m : Bool) (R : Nat → PyData → PyData → Prop) (hv : wipeOk Γ vs) (hgw : Gw g vs)
    (h : WI K mi Γ wi fun ds => ds.length ≤ 100000 ∧ (∀ (i : Nat) (d : PyData), ds[i]? = some d → GJ K mi (wipeG Γ vs) g d fun Γ2 => wipeG Γ2 vs = wipeG Γ vs ∧ WD K m Γ2 te (R i d)) ∧
      ∀ acc, acc.length = ds.length → (∀ (i : Nat) (d y : PyData), ds[i]? = some d → acc[i]? = some y → R i d y) → ∀ l, QX (.ml m l acc)) : WX K Γ (tLc wi g tYes te vs) QX :=
  wx_lc m hv hgw (h.mono fun ds ⟨hz, hs, he⟩ => ⟨fun n acc => acc.length = n ∧ ∀ (i : Nat) (d y : PyData), ds[i]? = some d → acc[i]? = some y → R i d y, hz, ⟨rfl, fun i d y _ e => by simp at e⟩,
    fun i d acc hd _ ⟨hl, ha⟩ => (hs i d hd).mono fun Γ2 ⟨e, w⟩ => ⟨e, wt_yes (by
      rw [if_pos rfl]
      refine w.mono fun y hy => ⟨by simp [hl], fun j d' y' h1 h2 => ?_⟩
      by_cases hj : j < acc.length
      · rw [List.getElem?_append_left hj] at h2
        exact ha j d' y' h1 h2
      · have hj2 : j < (acc ++ [y]).length := (List.getElem?_eq_some_iff.mp h2).1
        simp at hj2
        have hji : j = i := by omega
        subst hji
        rw [← hl] at h2
        simp at h2
        subst h2
        rw [hd] at h1
        cases h1
        exact hy)⟩,
    fun acc _ ⟨hl, ha⟩ l => he acc hl ha l⟩)
/-- .. of typed items -/
theorem wx_lcPa {α : Type} (m : Bool) (enc : α → PyData) (p : α → Bool) (f : α → PyData) (hv : wipeOk Γ vs) (hgw : Gw g vs)
    (h : WI K mi Γ wi fun ds => ∃ xs : List α, ds = xs.map enc ∧ xs.length ≤ 100000 ∧ (∀ (i : Nat) (x : α), xs[i]? = some x → GJ K mi (wipeG Γ vs) g (enc x) fun Γ2 => wipeG Γ2 vs = wipeG Γ vs ∧ WT K Γ2 tt fun b => b = p x ∧ (b = true → WD K m Γ2 te fun y => y = f x)) ∧ ∀ l, QX (.ml m l ((xs.filter p).map f))) : WX K Γ (tLc wi g tt te vs) QX :=
  wx_lc m hv hgw (h.mono fun ds ⟨xs, ed, hz, hs, he⟩ => by
    subst ed
    refine ⟨fun n acc => acc = ((xs.take n).filter p).map f, by simpa using hz, by simp, fun i d acc hd _ ha => ?_, fun acc _ ha l => ?_⟩
    · rw [List.getElem?_map] at hd
      cases hx : xs[i]? with
      | none => rw [hx] at hd; cases hd
      | some x =>
        rw [hx] at hd
        cases hd
        have ha : acc = ((xs.take i).filter p).map f := ha
        refine (hs i x hx).mono fun Γ2 ⟨e, w⟩ => ⟨e, w.mono fun b ⟨hb, hw⟩ => ?_⟩
        have ht : xs.take (i + 1) = xs.take i ++ [x] := by rw [List.take_add_one, hx]; rfl
        cases hp : b with
        | true =>
          rw [if_pos rfl]
          refine (hw hp).mono fun y hy => ?_
          show acc ++ [y] = ((xs.take (i + 1)).filter p).map f
          rw [ht, List.filter_append, List.map_append, ha, hy]
          rw [hb] at hp
          simp [hp]
        | false =>
          rw [if_neg Bool.false_ne_true]
          show acc = ((xs.take (i + 1)).filter p).map f
          rw [ht, List.filter_append, List.map_append, ha]
          rw [hb] at hp
          simp [hp]
    · have ha : acc = ((xs.take (xs.map enc).length).filter p).map f := ha
      rw [ha, List.length_map, List.take_length]
      exact he l)
theorem wx_lcMa {α : Type} (m : Bool) (enc : α → PyData) (f : α → PyData) (hv : wipeOk Γ vs) (hgw : Gw g vs)
    (h : WI K mi Γ wi fun ds => ∃ xs : List α, ds = xs.map enc ∧ xs.length ≤ 100000 ∧ (∀ (i : Nat) (x : α), xs[i]? = some x → GJ K mi (wipeG Γ vs) g (enc x) fun Γ2 => wipeG Γ2 vs = wipeG Γ vs ∧ WD K m Γ2 te fun y => y = f x) ∧ ∀ l, QX (.ml m l (xs.map f))) : WX K Γ (tLc wi g tYes te vs) QX :=
  wx_lcPa m enc (fun _ => true) f hv hgw (h.mono fun ds ⟨xs, ed, hz, hs, he⟩ => ⟨xs, ed, hz, fun i x hx => (hs i x hx).mono fun Γ2 ⟨e, w⟩ => ⟨e, wt_yes ⟨rfl, fun _ => w⟩⟩, fun l => by
    have : xs.filter (fun _ => true) = xs := by simp
    rw [this]
    exact he l⟩)
theorem wd_lcPa {α : Type} (enc : α → PyData) (p : α → Bool) (f : α → PyData) (hv : wipeOk Γ vs) (hgw : Gw g vs)
    (h : WI K mi Γ wi fun ds => ∃ xs : List α, ds = xs.map enc ∧ xs.length ≤ 100000 ∧ (∀ (i : Nat) (x : α), xs[i]? = some x → GJ K mi (wipeG Γ vs) g (enc x) fun Γ2 => wipeG Γ2 vs = wipeG Γ vs ∧ WT K Γ2 tt fun b => b = p x ∧ (b = true → WD K m Γ2 te fun y => y = f x)) ∧ Q (.list ((xs.filter p).map f))) : WD K m Γ (tLc wi g tt te vs) Q :=
  .ofX (wx_lcPa m enc p f hv hgw (h.mono fun ds ⟨xs, ed, hz, hs, q⟩ => ⟨xs, ed, hz, hs, fun l => ⟨_, toD_ml, q⟩⟩))
theorem wd_lcMa {α : Type} (enc : α → PyData) (f : α → PyData) (hv : wipeOk Γ vs) (hgw : Gw g vs)
    (h : WI K mi Γ wi fun ds => ∃ xs : List α, ds = xs.map enc ∧ xs.length ≤ 100000 ∧ (∀ (i : Nat) (x : α), xs[i]? = some x → GJ K mi (wipeG Γ vs) g (enc x) fun Γ2 => wipeG Γ2 vs = wipeG Γ vs ∧ WD K m Γ2 te fun y => y = f x) ∧ Q (.list (xs.map f))) : WD K m Γ (tLc wi g tYes te vs) Q :=
  .ofX (wx_lcMa m enc f hv hgw (h.mono fun ds ⟨xs, ed, hz, hs, q⟩ => ⟨xs, ed, hz, hs, fun l => ⟨_, toD_ml, q⟩⟩))
theorem wd_lcF (R : Nat → PyData → PyData → Prop) (hv : wipeOk Γ vs) (hgw : Gw g vs)
    (h : WI K mi Γ wi fun ds => ds.length ≤ 100000 ∧ (∀ (i : Nat) (d : PyData), ds[i]? = some d → GJ K mi (wipeG Γ vs) g d fun Γ2 => wipeG Γ2 vs = wipeG Γ vs ∧ WD K m Γ2 te (R i d)) ∧
      ∀ acc, acc.length = ds.length → (∀ (i : Nat) (d y : PyData), ds[i]? = some d → acc[i]? = some y → R i d y) → Q (.list acc)) : WD K m Γ (tLc wi g tYes te vs) Q :=
  .ofX (wx_lcF m R hv hgw (h.mono fun ds ⟨hz, hs, q⟩ => ⟨hz, hs, fun acc a b l => ⟨_, toD_ml, q acc a b⟩⟩))
/-- an item of a list at a drawn place -/
theorem rd_sel {ds : List PyData} {n : Int} (h0 : 0 ≤ n) (h1 : n < ds.length) (q : ∀ d ∈ ds, Q d) : RD K m Γ (rIx K) (.list ds) (.int n) Q := by
  have hl : n.toNat < ds.length := by omega
  exact rd_ixL (d := ds[n.toNat]) (atI_of (n := n.toNat) (by omega) (by simp [hl])) (q _ (List.getElem_mem hl))
theorem rd_selN {ds : List PyData} {n : Int} (j : Nat) (e : n = j) {d : PyData} (h : ds[j]? = some d) (q : Q d) : RD K m Γ (rIx K) (.list ds) (.int n) Q := rd_ixL (atI_of e h) q
theorem gwn {i : Nat} : Gw (gName i) [i] := gw_name (by simp)
/-- over range, the slot's own name -/
theorem wi_rng {mi : Bool} {ta : TE} {QI : List PyData → Prop} (h : WD K false Γ ta fun d => ∃ j : Int, d = .int j ∧ (-(2 ^ 62) ≤ j ∧ j < 2 ^ 62) ∧ QI (rangeD 0 j.toNat)) : WI K mi Γ (iRng1 (tCons ta tNil)) QI := wi_rng1 (wa_d (h.mono fun d ⟨j, e, hj, q⟩ => wa_nil ⟨j, by rw [e], hj, q⟩))
end
end Pk
end
section
set_option Elab.async false
set_option linter.all false
set_option maxRecDepth 100000
namespace Pk
open PySem PySem.Spec PyProof.Rows L2
theorem lay_tup {K : PySem.W.Frag} {F H : Hp} {S : Addr → Prop} (le : Le F H) (hS : ∀ a, S a → ∃ xs, H a = some (.lst xs)) : TupLe K F (lay S H F) := by
  refine ⟨fun a xs h => ?_, fun a fs h => by
    unfold lay
    rw [if_neg]
    · exact h
    · intro sa
      obtain ⟨ys, q⟩ := hS a sa
      rw [le _ _ h] at q; cases q⟩
  rcases h with (h | ⟨o, h⟩) | h
  · refine .inl (.inl ?_)
    unfold lay
    rw [if_neg]
    · exact h
    · intro sa
      obtain ⟨ys, q⟩ := hS a sa
      rw [le _ _ h] at q; cases q
  · refine .inl (.inr ⟨o, ?_⟩)
    unfold lay
    rw [if_neg]
    · exact h
    · intro sa
      obtain ⟨ys, q⟩ := hS a sa
      rw [le _ _ h] at q; cases q
  · exact .inr h
theorem lay_at {F H : Hp} {S : Addr → Prop} {a : Addr} (h : S a) : lay S H F a = H a := by unfold lay; rw [if_pos h]
/-- the slots of others' things alone -/
def Sl.exo : Sl → Sl
  | .ex v Φ => match Φ.vw with
    | none => .ex v Φ
    | some _ => .no
  | _ => .no
section
variable {K : Kw} {Γ : List Sl} {P : Po}
open Classical in
end
end Pk
end
section
set_option Elab.async false
set_option linter.all false
set_option maxRecDepth 100000
namespace Pk
open PySem PySem.Spec PyProof.Rows L2
section
variable {K : Kw} {Γ : List Sl} {P : Po}
end
end Pk
end
section
set_option Elab.async false
set_option linter.all false
set_option maxRecDepth 100000
namespace Pk
open PySem PySem.Spec PyProof.Rows L2
section
variable {P : Program} {K : Kw} {mg : Str → Option Value} {base : Heap}
theorem fnOk_g {x : Str} {st : Stmt} {N ps : List Str} {k : Nat} {f : Addr} {fd : FuncData} {T : List Sl → (Sl → Prop) → Prop} (F : Fun K x x st f fd) (S : FnScope N ps (defScope st)) (hT : ∀ Γ Qr, T Γ Qr → Γ.length = ps.length ∧ NoMl Γ)
    (hb : ∀ (f : Addr) (cdv : Value) (A : Around) (outer : List Env) (s : Shared) (H : Hp) (E : XK), Room k (A.deeper (envOfC x (defScope st) s.heap.objs.size f cdv)) →
      ∃ t, PSs (cxOf CX0 P K.w K mg base N x (defScope st) f cdv A outer s H E).nox (defBody st) t ∧ ∀ Γ Qr, T Γ Qr → SJ K (Γ ++ List.replicate (N.length - Γ.length) .no) t (retP Γ Qr)) : FnOk P K.w K mg base CX0 (k + 1) f fd ps (spG K T) := by
  refine F.ok S (len_g fun Γ Qr h => (hT Γ Qr h).1) fun cdv A outer s H vs Q E hr h => ?_
  obtain ⟨t, ht, hj⟩ := hb f cdv A outer s H E hr
  exact ⟨t, ht, body_g h (fun Γ Qr z => (hT Γ Qr z).2) fun Γ Qr z => (hj Γ Qr z).t⟩
/-- a law's promise over data: of a script, the truth -/
def T_law (K : Kw) : List Sl → (Sl → Prop) → Prop := fun Γ Q => ∃ v ns, Γ = [.ex v (ScriptO K ns)] ∧ ns.length ≤ 63 ∧ Q (.dat true (.bool true))
theorem law_start {H : Hp} {a : Addr} {ns : List Int} {Q : VK} {E : XK} (hn : ns.length ≤ 63) (hS : SqL K H a (ns.map V.int)) (q : ∀ H', Q (.bl true) H') : spG K (T_law K) [.ref a] H Q E := by
  refine ⟨⟨K, fun _ => none, H, fun b => b = a, fun b => H b ≠ none⟩, fun _ => none, [.ex (.ref a) (ScriptO K ns)], fun s => s = .dat true (.bool true), rfl, rfl, rfl, fun _ => Iff.rfl, ?_, ⟨_, ns, rfl, hn, rfl⟩, ?_⟩
  · have hf : ∀ (b : Addr) (o : HO), H b = some o → ¬ b = a → H b = some o ∧ (none : Option HO) = none := fun b o e _ => ⟨e, rfl⟩
    rcases hS with hS | hS
    · refine ⟨fun _ _ z => (by cases z), rfl, ⟨fun i b => i = 0 ∧ b = a, fun i s e => ?_, fun i j b z1 z2 => z1.1.trans z2.1.symm, fun i b z => ⟨rfl, ?_, .inr z.2⟩⟩, hf, fun _ _ z => z, fun _ z => z⟩
      · cases i with
        | zero =>
          cases e
          exact ⟨rfl, rfl, a, rfl, .inl hS, .inl fun b => ⟨fun z => z.2, fun z => ⟨rfl, z⟩⟩⟩
        | succ i => simp at e
      · rw [z.2]
        rcases hS with h | ⟨o, h⟩ <;> rw [h] <;> simp
    · refine ⟨fun _ _ z => (by cases z), rfl, ⟨fun i b => False, fun i s e => ?_, fun i j b z1 z2 => z1.elim, fun i b z => z.elim⟩, hf, fun _ _ z => z, fun _ z => z⟩
      cases i with
      | zero =>
        cases e
        exact ⟨rfl, rfl, a, rfl, .inr hS, .inr ⟨fun H' => .inr hS, fun b z => z⟩⟩
      | succ i => simp at e
  · rintro F' H' v s _ E' rfl
    obtain ⟨S, hs, _, _⟩ := E'.sl
    obtain ⟨⟨u, e, r⟩, _⟩ := hs 1 _ rfl
    cases e
    cases r
    exact q H'
end
end Pk
end
section
set_option Elab.async false
set_option linter.all false
set_option maxRecDepth 100000
namespace Pk
open PySem PySem.Spec PyProof.Rows L2
abbrev XW := Value → Option Addr → L2.St → Hp → Prop
abbrev XQ := Value → Option Fs → Prop
section
variable {P : Program} {K : Kw} {mg : Str → Option Value} {base : Heap}
end
/-- an expression, under what an exception is let out to -/
def WXw (K : Kw) (W : XW) (ex : Value → Option Fs → List Sl → Prop) (Γ : List Sl) (t : TE) (Q : Sl → Prop) : Prop := ∀ X : Bs, X.K = K → (∀ F H σ Γ c o d, En X F H σ Γ → FsAt F o d → ex c o Γ → W c d σ H) → ∀ F H σ, En X F H σ Γ → ∀ C : VK,
  (∀ v F' H' s, Le F F' → En X F' H' (σ ++ [some v]) (Γ ++ [s]) → Q s → C v H') → t σ H C
section
variable {K : Kw} {W : XW} {ex : Value → Option Fs → List Sl → Prop} {Γ : List Sl} {Q : Sl → Prop} {T : List Sl → (Sl → Prop) → XQ → Prop} {tr : TA} {te ta tb : TE} {P : Po}
end
end Pk
end
section
set_option Elab.async false
set_option linter.all false
set_option maxRecDepth 100000
namespace Pk
open PySem PySem.Spec PyProof.Rows L2
section
variable {X : Cx} {pins : List (Addr × Obj)} {σ : L2.St} {H : Hp} {s : Shared}
end
section
variable {X : Cx} {x n : Str} {c : Value} {i : Nat} {body suite : List Stmt} {b₀ : Stmt} {np pos pos' : Pos} {tb : XW → TS} {ts : Addr → TS} {Wout : XW}
end
end Pk
end
section
set_option Elab.async false
set_option linter.all false
set_option maxRecDepth 100000
namespace Pk
open PySem PySem.Spec PyProof.Rows L2
section
variable {K : Kw} {m : Bool} {Γ : List Sl} {Q : PyData → Prop} {QT : Bool → Prop} {te : TE}
end
section
variable {K : Kw} {m : Bool} {Γ : List Sl} {P : Po} {Q : PyData → Prop}
end
section
variable {K : Kw} {m : Bool} {Γ : List Sl} {Q : PyData → Prop}
end
structure ExcT (K : PySem.W.Frag) (mg : Str → Option Value) (x : Str) (C : Addr) : Prop where
  g : mg x = some (.ref C)
  q : PySem.W.excIn K C He.veBase "ValueError.__new__" = true
  k : PySem.W.keepIn K (.ref C) = true
  s : PySem.W.subIn K (.ref C) (.type "BaseException") = some true
  t : PySem.W.typeIn K (.ref C) = some (.type "type")
  c : ExcC K C
end Pk
namespace Pk
open PySem PySem.Spec PyProof.Rows L2
section
variable {X : Cx} {k : Nat} {x : Str} {ps : List Str} {sp : Sp} {W : XW} {p pos : Pos} {e : Expr} {es : List Expr} {t : TA}
end
end Pk
end
section
set_option Elab.async false
set_option linter.all false
set_option maxRecDepth 100000
namespace Pk
open PySem PySem.Spec PyProof.Rows L2
section
variable {X : Bs} {F H : Hp} {σ : L2.St} {Γ : List Sl}
end
section
variable {K : Kw} {m : Bool} {Γ : List Sl} {P : Po} {Q : PyData → Prop} {te : TE}
theorem wd_lenM {i : Nat} {m' : Bool} {l : Addr} {ds : List PyData} (hi : Γ[i]? = some (.ml m' l ds)) (q : Q (.int ds.length)) : WD K m Γ (tCB (dLen K) (tCons (tVar i) tNil)) Q := fun X hK F H σ E C k => by
  subst hK
  obtain ⟨xs, e, hl, fl, rx⟩ := E.ml hi
  exact ⟨_, e, _, ds.length, rfl, .inl ⟨_, SqL.of hl, rx.length.symm⟩, k _ F H _ Le.rfl' E (.int _) q⟩
end
end Pk
end
section
set_option Elab.async false
set_option linter.all false
set_option maxRecDepth 100000
namespace Pk
open PySem PySem.Spec PyProof.Rows L2
section
variable {K : Kw} {m : Bool} {Γ : List Sl} {Q : PyData → Prop} {ta tb : TE}
end
end Pk
end
section
set_option Elab.async false
set_option linter.all false
set_option maxRecDepth 100000
set_option maxHeartbeats 1000000
namespace Pz
open PySem PySem.Spec PyProof.Rows L2
/-- an iterator over the things at l, at turn k -/
structure Nx (prog : Program) (w : World) (it l : Addr) (its : Array Value) (St : Nat → Heap → Prop) : Prop where
  item : ∀ {A : Around} {E : Value → Shared → Prop} {s : Shared} {k : Nat} {x : Value} {Q : Value → Shared → Prop}, St k s.heap → its[k]? = some x → (∀ g, St (k + 1) g → Heap.SameBut it s.heap g → Q x { s with heap := g }) → wpAny (model prog w) A (Builtin.SmallTypes.nextOf (.ref it)) Q E s
  stop : ∀ {A : Around} {E : Value → Shared → Prop} {s : Shared} {k : Nat} {Q : Value → Shared → Prop}, A.handled = none → St k s.heap → its[k]? = none → (∀ g e, Heap.ExtBut it s.heap g → (∃ o, g.get? e = some o ∧ o.cls = .type "StopIteration") → E (.ref e) { s with heap := g }) → wpAny (model prog w) A (Builtin.SmallTypes.nextOf (.ref it)) Q E s
  fr : ∀ {k : Nat} {h g : Heap}, St k h → (∀ c o, c = it ∨ c = l → h.get? c = some o → g.get? c = some o) → St k g
  obj : ∀ {k : Nat} {h : Heap}, St k h → ∃ o, h.get? it = some o ∧ ∀ v, o.data ≠ .cell v
  seq : ∀ {k : Nat} {h : Heap}, St k h → ∃ o, h.get? l = some o
section
variable {prog : Program} {w : World} {A : Around} {E : Value → Shared → Prop} {s : Shared}
theorem Nx.sb {it l a : Addr} {its : Array Value} {St : Nat → Heap → Prop} (n : Nx prog w it l its St) {k : Nat} {h g : Heap} (q : St k h) (e : Heap.SameBut a h g) (hi : it ≠ a) (hl : l ≠ a) : St k g :=
  n.fr q fun c o hc z => e.extBut c o (by rcases hc with r | r <;> rw [r] <;> assumption) z
variable {z TI TO i1 i2 l1 l2 : Addr} {m n : Nat} {xs ys : Array Value} {x y : Value} {S1 S2 : Nat → Heap → Prop}
end
end Pz
end
section
set_option Elab.async false
set_option linter.all false
set_option maxRecDepth 100000
namespace Pk
open PySem PySem.Spec PyProof.Rows L2
section
variable {X : Bs} {F H : Hp} {σ : L2.St} {Γ : List Sl}
/-- slot i and the last one become slot i -/
theorem En.merge {ov : Option V} {s1 s2 : Sl} {i : Nat} (E : En X F H (σ ++ [ov]) (Γ ++ [s2])) (hi : Γ[i]? = some s1) :
    ∃ S1 S2 : Addr → Prop, SlOk X F H (σ.getD i none) S1 s1 ∧ SlOk X F H ov S2 s2 ∧ (∀ a, S1 a → ¬ S2 a) ∧ (∀ a, S1 a ∨ S2 a → F a = none ∧ H a ≠ none) ∧
      ∀ (H' : Hp) (s' : Sl) (S' : Addr → Prop), (∀ a o, H a = some o → ¬ S1 a → ¬ S2 a → H' a = some o) → (∀ a, S1 a ∨ S2 a → H' a ≠ none) → (∀ a, S' a → S1 a ∨ S2 a) → SlOk X F H' (σ.getD i none) S' s' → En X F H' σ (Γ.set i s') := by
  have hl : σ.length = Γ.length := by
    have := E.len
    simp at this
    exact this
  have hil : i < Γ.length := (List.getElem?_eq_some_iff.mp hi).1
  obtain ⟨S, hs, hdj, ho⟩ := id E.sl
  have q1 := hs i s1 (by rw [List.getElem?_append_left hil]; exact hi)
  rw [getD_app (by rw [hl]; exact hil)] at q1
  have q2 := hs Γ.length s2 (by simp)
  rw [← hl, getD_last] at q2
  have ow : ∀ a, S i a ∨ S σ.length a → F a = none ∧ H a ≠ none ∧ X.own a := fun a h => by
    rcases h with h | h
    · exact ho _ a h
    · exact ho _ a h
  refine ⟨S i, S σ.length, q1, q2, fun a h1 h2 => ?_, fun a h => ⟨(ow a h).1, (ow a h).2.1⟩, fun H' s' S' hk hn hS q => ?_⟩
  · have := hdj _ _ a h1 h2
    omega
  · have keep : ∀ (j : Nat) (a : Addr), j < Γ.length → j ≠ i → S j a → H' a = H a := fun j a hj ji sa => by
      cases z : H a with
      | none => exact absurd z (ho j a sa).2.1
      | some o => exact hk a o z (fun w => ji (hdj j i a sa w)) (fun w => by have := hdj j _ a sa w; omega)
    have some_ : ∀ a, H a ≠ none → H' a ≠ none := fun a h => by
      by_cases w1 : S i a
      · exact hn a (.inl w1)
      · by_cases w2 : S σ.length a
        · exact hn a (.inr w2)
        · cases z : H a with
          | none => exact absurd z h
          | some o => rw [hk a o z w1 w2]; simp
    refine ⟨fun a o z => ?_, by simp [hl], ⟨fun j a => (j = i ∧ S' a) ∨ (j ≠ i ∧ j < Γ.length ∧ S j a), fun j u e => ?_, fun j k a h1 h2 => ?_, fun j a h1 => ?_⟩, fun a o e n => ?_, E.f0, fun a n => some_ a (E.nn a n)⟩
    · have hz := E.le a o z
      refine hk a o hz (fun w => ?_) (fun w => ?_)
      · rw [(ho _ a w).1] at z; cases z
      · rw [(ho _ a w).1] at z; cases z
    · by_cases hj : j = i
      · subst hj
        rw [List.getElem?_set_self hil] at e
        cases e
        have eS : (fun a => (j = j ∧ S' a) ∨ (j ≠ j ∧ j < Γ.length ∧ S j a)) = S' := by
          funext a
          exact propext ⟨fun z => by rcases z with z | z; exact z.2; exact absurd rfl z.1, fun z => .inl ⟨rfl, z⟩⟩
        show SlOk X F H' _ (fun a => (j = j ∧ S' a) ∨ (j ≠ j ∧ j < Γ.length ∧ S j a)) _
        rw [eS]
        exact q
      · rw [List.getElem?_set_ne (Ne.symm hj)] at e
        have hjl : j < Γ.length := (List.getElem?_eq_some_iff.mp e).1
        have eS : (fun a => (j = i ∧ S' a) ∨ (j ≠ i ∧ j < Γ.length ∧ S j a)) = S j := by
          funext a
          exact propext ⟨fun z => by rcases z with z | z; exact absurd z.1 hj; exact z.2.2, fun z => .inr ⟨hj, hjl, z⟩⟩
        show SlOk X F H' _ (fun a => (j = i ∧ S' a) ∨ (j ≠ i ∧ j < Γ.length ∧ S j a)) _
        rw [eS]
        have z := hs j u (by rw [List.getElem?_append_left hjl]; exact e)
        rw [getD_app (by rw [hl]; exact hjl)] at z
        exact z.mono Le.rfl' fun a sa => keep j a hjl hj sa
    · rcases h1 with ⟨e1, h1⟩ | ⟨n1, l1, h1⟩ <;> rcases h2 with ⟨e2, h2⟩ | ⟨n2, l2, h2⟩
      · omega
      · rcases hS a h1 with w | w
        · exact absurd (hdj _ _ a h2 w) n2
        · have := hdj _ _ a h2 w; omega
      · rcases hS a h2 with w | w
        · exact absurd (hdj _ _ a h1 w) n1
        · have := hdj _ _ a h1 w; omega
      · exact hdj j k a h1 h2
    · rcases h1 with ⟨e1, h1⟩ | ⟨n1, l1, h1⟩
      · have := ow a (hS a h1)
        exact ⟨this.1, hn a (hS a h1), this.2.2⟩
      · have := ho j a h1
        exact ⟨this.1, some_ a this.2.1, this.2.2⟩
    · obtain ⟨r1, r2⟩ := E.fr a o e n
      have nS : ∀ j, S j a → False := fun j sj => by
        rcases (ho j a sj).2.2 with w | w
        · rw [w] at e; cases e
        · exact n w
      exact ⟨hk a o r1 (nS _) (nS _), r2⟩
/-- slot i changes -/
theorem En.reown {s1 : Sl} {i : Nat} (E : En X F H σ Γ) (hi : Γ[i]? = some s1) :
    ∃ S1 : Addr → Prop, SlOk X F H (σ.getD i none) S1 s1 ∧ (∀ a, S1 a → F a = none ∧ H a ≠ none) ∧
      ∀ (H' : Hp) (s' : Sl) (S' : Addr → Prop), (∀ a o, H a = some o → ¬ S1 a → H' a = some o) → (∀ a, S1 a → H' a ≠ none) → (∀ a, S' a → S1 a) → SlOk X F H' (σ.getD i none) S' s' → En X F H' σ (Γ.set i s') := by
  obtain ⟨S1, S2, q1, q2, hd, ho, k⟩ := (E.pushD (v := .non) (m := false) .non).merge hi
  refine ⟨S1, q1, fun a h => ho a (.inl h), fun H' s' S' h1 h2 h3 h4 => k H' s' S' (fun a o z w _ => h1 a o z w) (fun a h => ?_) (fun a h => .inl (h3 a h)) h4⟩
  rcases h with h | h
  · exact h2 a h
  · exact absurd h (q2.2 a)
/-- slot i is given out, changed, with what is new -/
theorem En.takeX {s1 : Sl} {i : Nat} (E : En X F H σ Γ) (hi : Γ[i]? = some s1) :
    ∃ S1 : Addr → Prop, SlOk X F H (σ.getD i none) S1 s1 ∧ (∀ a, S1 a → F a = none ∧ H a ≠ none) ∧
      ∀ (H' : Hp) (v' : V) (s' : Sl) (S' : Addr → Prop), (∀ a o, H a = some o → ¬ S1 a → H' a = some o) → (∀ a, S1 a → H' a ≠ none) → (∀ a, S' a → (S1 a ∨ H a = none) ∧ H' a ≠ none) → SlOk X F H' (some v') S' s' → En X F H' (σ ++ [some v']) (Γ.set i .no ++ [s']) := by
  have hil : i < Γ.length := (List.getElem?_eq_some_iff.mp hi).1
  obtain ⟨S, hs, hdj, ho⟩ := id E.sl
  refine ⟨S i, hs i s1 hi, fun a h => ⟨(ho i a h).1, (ho i a h).2.1⟩, fun H' v' s' S' hk hn hS q => ?_⟩
  have keep : ∀ (j : Nat) (a : Addr), j ≠ i → S j a → H' a = H a := fun j a ji sa => by
    cases z : H a with
    | none => exact absurd z (ho j a sa).2.1
    | some o => exact hk a o z fun w => ji (hdj j i a sa w)
  have some_ : ∀ a, H a ≠ none → H' a ≠ none := fun a h => by
    by_cases w1 : S i a
    · exact hn a w1
    · cases z : H a with
      | none => exact absurd z h
      | some o => rw [hk a o z w1]; simp
  have hS' : ∀ j a, j ≠ i → S j a → ¬ S' a := fun j a ji sa w => by
    rcases (hS a w).1 with z | z
    · exact ji (hdj j i a sa z)
    · exact (ho j a sa).2.1 z
  refine ⟨fun a o z => hk a o (E.le a o z) fun w => (by rw [(ho _ a w).1] at z; cases z), by simp [E.len], ⟨fun j a => (j = Γ.length ∧ S' a) ∨ (j ≠ i ∧ j < Γ.length ∧ S j a), fun j u e => ?_, fun j k a h1 h2 => ?_, fun j a h1 => ?_⟩, fun a o e n => ?_, E.f0, fun a n => some_ a (E.nn a n)⟩
  · have hj : j < (Γ.set i .no ++ [s']).length := (List.getElem?_eq_some_iff.mp e).1
    simp only [List.length_append, List.length_set, List.length_cons, List.length_nil] at hj
    by_cases hlt : j < Γ.length
    · rw [List.getElem?_append_left (by simpa using hlt)] at e
      rw [getD_app (by rw [E.len]; exact hlt)]
      by_cases ji : j = i
      · subst ji
        rw [List.getElem?_set_self hil] at e
        cases e
        exact fun a z => by
          rcases z with z | z
          · omega
          · exact z.1 rfl
      · rw [List.getElem?_set_ne (Ne.symm ji)] at e
        have eS : (fun a => (j = Γ.length ∧ S' a) ∨ (j ≠ i ∧ j < Γ.length ∧ S j a)) = S j := by
          funext a
          exact propext ⟨fun z => by rcases z with z | z; omega; exact z.2.2, fun z => .inr ⟨ji, hlt, z⟩⟩
        show SlOk X F H' _ (fun a => (j = Γ.length ∧ S' a) ∨ (j ≠ i ∧ j < Γ.length ∧ S j a)) _
        rw [eS]
        exact (hs j u e).mono Le.rfl' fun a sa => keep j a ji sa
    · have hje : j = Γ.length := by omega
      subst hje
      rw [List.getElem?_append_right (by simp)] at e
      simp at e
      subst e
      have eS : (fun a => (Γ.length = Γ.length ∧ S' a) ∨ (Γ.length ≠ i ∧ Γ.length < Γ.length ∧ S Γ.length a)) = S' := by
        funext a
        exact propext ⟨fun z => by rcases z with z | z; exact z.2; omega, fun z => .inl ⟨rfl, z⟩⟩
      show SlOk X F H' _ (fun a => (Γ.length = Γ.length ∧ S' a) ∨ (Γ.length ≠ i ∧ Γ.length < Γ.length ∧ S Γ.length a)) _
      rw [eS, ← E.len, getD_last]
      exact q
  · rcases h1 with ⟨e1, h1⟩ | ⟨n1, l1, h1⟩ <;> rcases h2 with ⟨e2, h2⟩ | ⟨n2, l2, h2⟩
    · omega
    · exact absurd h1 (hS' k a n2 h2)
    · exact absurd h2 (hS' j a n1 h1)
    · exact hdj j k a h1 h2
  · rcases h1 with ⟨e1, h1⟩ | ⟨n1, l1, h1⟩
    · obtain ⟨z, w⟩ := hS a h1
      rcases z with z | z
      · exact ⟨(ho i a z).1, w, (ho i a z).2.2⟩
      · exact ⟨E.le.nn z, w, E.ownN z⟩
    · have := ho j a h1
      exact ⟨this.1, some_ a this.2.1, this.2.2⟩
  · obtain ⟨r1, r2⟩ := E.fr a o e n
    refine ⟨hk a o r1 fun sj => ?_, r2⟩
    rcases (ho _ a sj).2.2 with w | w
    · rw [w] at e; cases e
    · exact n w
end
def PoolsP (K : PySem.W.Frag) (PP : List (List Int) → Prop) (H : Hp) (l : Addr) (qs : List Addr) : Prop := ∃ nss : List (List Int), H l = some (.lst (qs.map V.ref)) ∧ qs.length = nss.length ∧ (l :: qs).Nodup ∧ PP nss ∧ ∀ (i : Nat) (q : Addr) (ns : List Int), qs[i]? = some q → nss[i]? = some ns → H q = some (.lst (ns.map V.int))
theorem PoolsP.keep {K : PySem.W.Frag} {PP : List (List Int) → Prop} {H H' : Hp} {l : Addr} {qs : List Addr} (h : PoolsP K PP H l qs) (k : ∀ a, a = l ∨ a ∈ qs → H' a = H a) : PoolsP K PP H' l qs := by
  obtain ⟨nss, h1, h2, h3, h4, h5⟩ := h
  exact ⟨nss, (k l (.inl rfl)).trans h1, h2, h3, h4, fun i q ns a b => (k q (.inr (List.mem_of_getElem? a))).trans (h5 i q ns a b)⟩
/-- [pools, n] -/
def DeckO (K : Kw) (PP : List (List Int) → Prop) : Own where
  K := K
  p := fun _ H v S => ∃ (t l : Addr) (qs : List Addr) (n : Int), v = .ref t ∧ H t = some (.lst [.ref l, .int n]) ∧ t ≠ l ∧ t ∉ qs ∧ PoolsP K PP H l qs ∧ ∀ a, S a ↔ a = t ∨ a = l ∨ a ∈ qs
  vw := none
  keep := fun {F F' H H' v S} ⟨t, l, qs, n, e, ht, h1, h2, h, hS⟩ _ k => ⟨t, l, qs, n, e, (k t ((hS t).mpr (.inl rfl))).trans ht, h1, h2, h.keep fun a ha => k a ((hS a).mpr (.inr ha)), hS⟩
  keepT := fun _ {F F' H H' v S} ⟨t, l, qs, n, e, ht, h1, h2, h, hS⟩ _ k => ⟨t, l, qs, n, e, (k t ((hS t).mpr (.inl rfl))).trans ht, h1, h2, h.keep fun a ha => k a ((hS a).mpr (.inr ha)), hS⟩
  view := fun _ _ e => nomatch e
section
variable {K : Kw} {Γ : List Sl} {P : Po} {te : TE} {ts : TS}
/-- a deck laid open: its parts, and how it is closed again, changed in its own lists -/
theorem En.deck {X : Bs} {F H : Hp} {σ : L2.St} (E : En X F H σ Γ) {i : Nat} {v : V} {PP : List (List Int) → Prop} (hi : Γ[i]? = some (.ex v (DeckO X.K PP))) :
    ∃ (t l : Addr) (qs : List Addr) (n : Int) (nss : List (List Int)), v = .ref t ∧ σ[i]? = some (some v) ∧ H t = some (.lst [.ref l, .int n]) ∧ H l = some (.lst (qs.map V.ref)) ∧ qs.length = nss.length ∧ (t :: l :: qs).Nodup ∧ PP nss ∧ (∀ (i : Nat) (q : Addr) (ns : List Int), qs[i]? = some q → nss[i]? = some ns → H q = some (.lst (ns.map V.int))) ∧
      ∀ (H' : Hp) (n' : Int) (nss' : List (List Int)), (∀ a, a ≠ t → a ∉ qs → H' a = H a) → H' t = some (.lst [.ref l, .int n']) → qs.length = nss'.length → PP nss' → (∀ (i : Nat) (q : Addr) (ns : List Int), qs[i]? = some q → nss'[i]? = some ns → H' q = some (.lst (ns.map V.int))) → En X F H' σ Γ := by
  obtain ⟨S1, q1, ho, k⟩ := E.reown hi
  obtain ⟨e1, hk, t, l, qs, n, er, ht, ntl, ntq, ⟨nss, hl, hn, nd, hp, hq⟩, hS⟩ := q1
  refine ⟨t, l, qs, n, nss, er, E.ex hi, ht, hl, hn, List.nodup_cons.mpr ⟨by simp [ntl, ntq], nd⟩, hp, hq, fun H' n' nss' h1 h2 h3 h4 h5 => ?_⟩
  have nl : l ∉ qs := (List.nodup_cons.mp nd).1
  have hl' : H' l = some (.lst (qs.map V.ref)) := (h1 l (Ne.symm ntl) nl).trans hl
  have eΓ : Γ.set i (.ex v (DeckO X.K PP)) = Γ := by
    apply List.ext_getElem?
    intro j
    by_cases h : j = i
    · subst h
      rw [List.getElem?_set_self (List.getElem?_eq_some_iff.mp hi).1, hi]
    · rw [List.getElem?_set_ne (Ne.symm h)]
  have := k H' (.ex v (DeckO X.K PP)) S1 (fun a o z w => ?_) (fun a w => ?_) (fun _ w => w) ⟨e1, rfl, t, l, qs, n', er, h2, ntl, ntq, ⟨nss', hl', h3, nd, h4, h5⟩, hS⟩
  · rw [eΓ] at this
    exact this
  · rw [h1 a (fun z => w ((hS a).mpr (.inl z))) (fun z => w ((hS a).mpr (.inr (.inr z))))]; exact z
  · rcases (hS a).mp w with z | z | z
    · rw [z, h2]; simp
    · rw [z, hl']; simp
    · obtain ⟨j, hj⟩ := List.getElem?_of_mem z
      have hjl := (List.getElem?_eq_some_iff.mp hj).1
      rw [h5 j a (nss'[j]'(by omega)) hj (by simp [show j < nss'.length by omega])]
      simp
end
end Pk
end
section
set_option Elab.async false
set_option linter.all false
set_option maxRecDepth 100000
set_option maxHeartbeats 1000000
namespace Pz
open PySem PySem.Spec PyProof.Rows L2
abbrev g1 (h : Heap) (a : Addr) : Heap := h.push { cls := .type "list_iterator", data := .fields #[.ref a, .int 0 0] }
abbrev g2 (h : Heap) (a b : Addr) : Heap := (g1 h a).push { cls := .type "tuple_iterator", data := .fields #[.ref b, .int 0 0] }
section
variable {prog : Program} {w : World} {A : Around} {E : Value → Shared → Prop} {s : Shared}
variable {z TI TO i1 i2 l1 l2 : Addr} {m n : Nat} {xs ys : Array Value} {x y a b : Value} {S1 S2 : Nat → Heap → Prop}
end
section
variable {prog : Program} {w : World} {z TI TO i1 i2 l1 l2 : Addr} {xs ys : Array Value} {S1 S2 : Nat → Heap → Prop}
end
structure Zst (X : Cx) (pins : List (Addr × Obj)) (H : Hp) (h : Heap) (z TI TO i1 i2 a b : Addr) : Prop where
  D : ZipApart z TI TO i1 i2 a b
  zz : IsZip h z TI TO .none
  I : IsPair h TI (.ref i1) (.ref i2)
  O : ∃ x y, IsPair h TO x y
  p1 : h.IsListIter i1 a 0
  p2 : h.IsTupleIter i2 b 0
  fp : ∀ c ∈ [z, TI, TO, i1, i2], FpOk X pins H c
end Pz
namespace Pk
open PySem PySem.Spec PyProof.Rows L2 Pz
section
variable {K : Kw} {m : Bool} {Γ : List Sl} {ta : TA} {QI : List PyData → Prop}
end
end Pk
end
section
set_option Elab.async false
set_option linter.all false
set_option maxRecDepth 100000
namespace Pk
open PySem PySem.Spec PyProof.Rows L2 Pz
section
variable {K : Kw} {m : Bool} {Γ : List Sl} {Q : PyData → Prop} {QX : Sl → Prop} {te ti ta tb : TE} {tr : TA}
/-- xs.index(e) -/
theorem wd_index (h : WD K false Γ te fun d => ∃ ds, d = .list ds ∧ WD K false Γ ti fun x => ∃ (j : Nat) (z : PyData), SeqAt.shaped (.list ds) = true ∧ SeqAt.shaped x = true ∧ ds[j]? = some z ∧ PyData.eqv z x = true ∧ (∀ (m : Nat) (z' : PyData), m < j → ds[m]? = some z' → PyData.eqv z' x = false) ∧ Q (.int j)) : WD K m Γ (tBM K "list" (rIndexD K) te (tCons ti tNil)) Q := fun X hK F H σ E C k => by
  subst hK
  refine h X rfl F H σ E _ fun v F1 H1 d l1 E1 r ⟨ds, e, h2⟩ => ?_
  subst e
  cases r with
  | lst ha ra =>
    rename_i a xs
    refine ⟨.inl ⟨rfl, _, SqL.of (E1.le _ _ ha)⟩, h2 X rfl F1 H1 σ E1 _ fun u F2 H2 x l2 E2 ru ⟨j, z, s1, s2, hj, he, hn, q⟩ => ?_⟩
    have r2 : Rp X.K H2 (.ref a) (.list ds) := (Rp.lst (ha) ra).mono (l2.tr E2.le)
    exact ⟨a, u, x, ds, j, z, rfl, rfl, Rp.dp _ (SeqAt.canLay_of_shaped s1) r2, Rp.dp _ (SeqAt.canLay_of_shaped s2) (ru.mono E2.le), s1, s2, hj, he, hn, k _ F2 H2 _ (l1.tr l2) E2 (.int _) q⟩
theorem En.lastMut {X : Bs} {F H : Hp} {σ : L2.St} {ov : Option V} {s : Sl} (E : En X F H (σ ++ [ov]) (Γ ++ [s])) : ∃ S : Addr → Prop, SlOk X F H ov S s ∧ (∀ a, S a → F a = none) ∧ ∀ H' s', (∀ a o, H a = some o → ¬ S a → H' a = some o) → (∀ a, S a → H' a ≠ none) → SlOk X F H' ov S s' → En X F H' (σ ++ [ov]) (Γ ++ [s']) := by
  have hl : σ.length = Γ.length := by
    have := E.len
    simp at this
    exact this
  obtain ⟨S, q, ho, k⟩ := E.reown (i := Γ.length) (s1 := s) (by simp)
  rw [← hl, getD_last] at q
  refine ⟨S, q, fun a h => (ho a h).1, fun H' s' h1 h2 h3 => ?_⟩
  have := k H' s' S h1 h2 (fun _ h => h) (by rw [← hl, getD_last]; exact h3)
  have e : (Γ ++ [s]).set Γ.length s' = Γ ++ [s'] := by simp
  rw [e] at this
  exact this
theorem lfA_mem {d : PyData} : ∀ {ds : List PyData}, lfA ds = true → d ∈ ds → lf d = true
  | [], _, h => by cases h
  | a :: l, f, h => by
    have f' : lf a = true ∧ lfA l = true := by simpa [lfA] using f
    rcases List.mem_cons.mp h with z | z
    · rw [z]; exact f'.1
    · exact lfA_mem f'.2 z
end
end Pk
end
section
set_option Elab.async false
set_option linter.all false
set_option maxRecDepth 100000
namespace Dk
open PySem PySem.Spec PyProof.Rows L2 Pk
inductive Op where
  | plus | times | less | same
  deriving DecidableEq
def Op.w : Op → Str
  | .plus => "plus" | .times => "times" | .less => "less" | .same => "same"
inductive Th where
  | num (n : Nat)
  | box (x : Str)
  | op (o : Op) (a b : Th)
def Th.d : Th → PyData
  | .num n => .tuple [.str "number", .int n]
  | .box x => .tuple [.str "box", .str x]
  | .op o a b => .tuple [.str o.w, a.d, b.d]
/-- at most so deep, of numbers below m and of the boxes -/
def Th.Ok (m : Nat) (bs : List Str) : Nat → Th → Prop
  | 0, _ => False
  | _ + 1, .num k => k < m
  | _ + 1, .box x => x ∈ bs
  | n + 1, .op _ a b => a.Ok m bs n ∧ b.Ok m bs n
theorem Th.Ok.up {m : Nat} {bs : List Str} : ∀ {n : Nat} {t : Th}, t.Ok m bs n → t.Ok m bs (n + 1)
  | 0, _, h => by cases h
  | n + 1, .num k, h => h
  | n + 1, .box x, h => h
  | n + 1, .op o a b, h => ⟨Th.Ok.up (n := n) h.1, Th.Ok.up (n := n) h.2⟩
theorem Th.Ok.mono {m : Nat} {bs : List Str} {n k : Nat} {t : Th} (h : t.Ok m bs n) (le : n ≤ k) : t.Ok m bs k := by
  obtain ⟨j, rfl⟩ := Nat.exists_eq_add_of_le le
  induction j with
  | zero => exact h
  | succ j ih => exact (ih (by omega)).up
def ltr (c : Nat) : Prop := 97 ≤ c ∧ c ≤ 122
def NameOk (x : Str) : Prop := 1 ≤ x.length ∧ x.length ≤ 8 ∧ ∀ c ∈ x.cps.toList, ltr c
theorem NameOk.strOk {x : Str} (h : NameOk x) : PyData.strOk x = true := by
  unfold PyData.strOk
  rw [← Array.all_toList, List.all_eq_true]
  intro c hc
  have := (h.2.2 c hc).2
  exact decide_eq_true (by omega)
structure BsOk (bs : List Str) : Prop where
  len0 : 1 ≤ bs.length
  len5 : bs.length ≤ 5
  nd : bs.Nodup
  nm : ∀ x ∈ bs, NameOk x
abbrev bsD (bs : List Str) : PyData := .list (bs.map PyData.str)
inductive Rw where
  | set (x : Str) (t : Th)
  | pick (x : Str) (ts : List Th)
  | need (t : Th)
  | skip (t : Th) (k : Nat)
  | give (t : Th)
def Rw.d : Rw → PyData
  | .set x t => .tuple [.str "set", .str x, t.d]
  | .pick x ts => .tuple [.str "pick", .str x, .list (ts.map Th.d)]
  | .need t => .tuple [.str "need", t.d]
  | .skip t k => .tuple [.str "skip", t.d, .int k]
  | .give t => .tuple [.str "give", t.d]
def Rw.Ok (m : Nat) (bs : List Str) : Rw → Prop
  | .set x t => x ∈ bs ∧ t.Ok m bs 4
  | .pick x ts => x ∈ bs ∧ 1 ≤ ts.length ∧ ts.length ≤ 5 ∧ ∀ t ∈ ts, t.Ok m bs 4
  | .need t => t.Ok m bs 4
  | .skip t k => t.Ok m bs 4 ∧ 1 ≤ k ∧ k ≤ 30
  | .give t => t.Ok m bs 4
structure Pg where
  m : Nat
  bs : List Str
  rows : List Rw
def Pg.d (p : Pg) : PyData := .tuple [.int p.m, bsD p.bs, .list (p.rows.map Rw.d)]
structure Pg.Ok (p : Pg) : Prop where
  m2 : 2 ≤ p.m
  m16 : p.m ≤ 16
  bs : BsOk p.bs
  r30 : p.rows.length ≤ 30
  rows : ∀ r ∈ p.rows, r.Ok p.m p.bs
abbrev stD (st : List Nat) : PyData := .tuple (st.map fun (n : Nat) => PyData.int n)
structure StOk (m : Nat) (bs : List Str) (st : List Nat) : Prop where
  len : st.length = bs.length
  lt : ∀ n ∈ st, n < m
def Op.v (m : Nat) : Op → Nat → Nat → Nat
  | .plus, a, b => (a + b) % m
  | .times, a, b => a * b % m
  | .less, a, b => if a < b then 1 else 0
  | .same, a, b => if a = b then 1 else 0
def at_ (bs : List Str) (st : List Nat) (x : Str) : Nat := st.getD (bs.idxOf x) 0
def Th.v (m : Nat) (bs : List Str) (st : List Nat) : Th → Nat
  | .num n => n
  | .box x => at_ bs st x
  | .op o a b => o.v m (a.v m bs st) (b.v m bs st)
theorem idx_lt {bs : List Str} {x : Str} (h : x ∈ bs) : bs.idxOf x < bs.length := List.idxOf_lt_length_of_mem h
theorem at_get {m : Nat} {bs : List Str} {st : List Nat} (s : StOk m bs st) {x : Str} (h : x ∈ bs) : st[bs.idxOf x]? = some (at_ bs st x) := by
  have := idx_lt h
  have hl : bs.idxOf x < st.length := by rw [s.len]; exact this
  simp [at_, List.getD_eq_getElem?_getD, hl]
theorem at_lt {m : Nat} {bs : List Str} {st : List Nat} (s : StOk m bs st) {x : Str} (h : x ∈ bs) : at_ bs st x < m := s.lt _ (List.mem_of_getElem? (at_get s h))
theorem Op.v_lt {m : Nat} (h2 : 2 ≤ m) (o : Op) (a b : Nat) : o.v m a b < m := by
  cases o with
  | plus => exact Nat.mod_lt _ (by omega)
  | times => exact Nat.mod_lt _ (by omega)
  | less => show (if a < b then 1 else 0) < m; split <;> omega
  | same => show (if a = b then 1 else 0) < m; split <;> omega
theorem Th.v_lt {m : Nat} {bs : List Str} {st : List Nat} (h2 : 2 ≤ m) (s : StOk m bs st) : ∀ {n : Nat} {t : Th}, t.Ok m bs n → t.v m bs st < m
  | 0, _, h => by cases h
  | n + 1, .num k, h => h
  | n + 1, .box x, h => at_lt s h
  | n + 1, .op o a b, h => Op.v_lt h2 o _ _
theorem sh_of {n : Nat} {d : PyData} (h : dep n d) (hn : n ≤ 63) : SeqAt.shaped d = true := dep_shaped h hn
end Dk
end
section
set_option Elab.async false
set_option linter.all false
set_option maxRecDepth 100000
namespace Dk
open PySem PySem.Spec PyProof.Rows L2 Pk
def one (c : Nat) : Str := ⟨#[c]⟩
theorem nd_sub {α : Type} [DecidableEq α] : ∀ {as bs : List α}, as.Nodup → (∀ a ∈ as, a ∈ bs) → as.length ≤ bs.length
  | [], _, _, _ => Nat.zero_le _
  | a :: as, bs, nd, h => by
    obtain ⟨h1, h2⟩ := List.nodup_cons.mp nd
    have ha := h a List.mem_cons_self
    have ih := nd_sub (as := as) (bs := bs.erase a) h2 fun b hb => (List.mem_erase_of_ne (fun z => h1 (by rw [← z]; exact hb))).mpr (h b (List.mem_cons_of_mem _ hb))
    rw [List.length_erase_of_mem ha] at ih
    have : 0 < bs.length := List.length_pos_of_mem ha
    rw [List.length_cons]
    omega
theorem op_ok (o : Op) : PyData.strOk o.w = true := by cases o <;> decide +kernel
theorem ok_w {x : Str} (h : x ∈ [("number" : Str), "box", "set", "pick", "need", "skip", "give", "nothing", "gives"]) : PyData.strOk x = true := by
  have : ∀ y ∈ [("number" : Str), "box", "set", "pick", "need", "skip", "give", "nothing", "gives"], PyData.strOk y = true := by decide +kernel
  exact this x h
theorem Th.dep {m : Nat} {bs : List Str} (hb : ∀ x ∈ bs, NameOk x) : ∀ {n : Nat} {t : Th}, t.Ok m bs n → Pk.dep n t.d
  | 0, _, h => by cases h
  | n + 1, .num k, h => by
    intro x hx
    simp at hx
    rcases hx with rfl | rfl
    · cases n <;> exact ok_w (by simp)
    · cases n <;> exact True.intro
  | n + 1, .box y, h => by
    intro x hx
    simp at hx
    rcases hx with rfl | rfl
    · cases n <;> exact ok_w (by simp)
    · have := (hb y h).strOk
      cases n <;> exact this
  | n + 1, .op o a b, h => by
    intro x hx
    simp at hx
    rcases hx with rfl | rfl | rfl
    · have := op_ok o
      cases n <;> exact this
    · exact Th.dep hb h.1
    · exact Th.dep hb h.2
theorem dep_up {n k : Nat} {d : PyData} (h : Pk.dep n d) (le : n ≤ k) : Pk.dep k d := by
  induction n generalizing k d with
  | zero => cases d <;> cases k <;> first | exact h | exact h.elim
  | succ n ih =>
    cases k with
    | zero => omega
    | succ k =>
      cases d with
      | list xs => exact fun x hx => ih (h x hx) (by omega)
      | tuple xs => exact fun x hx => ih (h x hx) (by omega)
      | none => exact h
      | bool _ => exact h
      | int _ => exact h
      | str _ => exact h
      | dict _ => exact h
theorem dep_str {n : Nat} {x : Str} (h : PyData.strOk x = true) : Pk.dep n (.str x) := by cases n <;> exact h
theorem dep_int {n : Nat} {i : Int} : Pk.dep n (.int i) := by cases n <;> exact True.intro
theorem Rw.dep {m : Nat} {bs : List Str} (hb : ∀ x ∈ bs, NameOk x) {r : Rw} (h : r.Ok m bs) : Pk.dep 6 r.d := by
  cases r with
  | set y t =>
    intro x hx
    simp at hx
    rcases hx with rfl | rfl | rfl
    · exact dep_str (ok_w (by simp))
    · exact dep_str (hb y h.1).strOk
    · exact dep_up (Th.dep hb h.2) (by decide)
  | pick y ts =>
    intro x hx
    simp at hx
    rcases hx with rfl | rfl | rfl
    · exact dep_str (ok_w (by simp))
    · exact dep_str (hb y h.1).strOk
    · intro z hz
      obtain ⟨t, ht, rfl⟩ := List.mem_map.mp hz
      exact dep_up (Th.dep hb (h.2.2.2 t ht)) (by decide)
  | need t =>
    intro x hx
    simp at hx
    rcases hx with rfl | rfl
    · exact dep_str (ok_w (by simp))
    · exact dep_up (Th.dep hb h) (by decide)
  | skip t k =>
    intro x hx
    simp at hx
    rcases hx with rfl | rfl | rfl
    · exact dep_str (ok_w (by simp))
    · exact dep_up (Th.dep hb h.1) (by decide)
    · exact dep_int
  | give t =>
    intro x hx
    simp at hx
    rcases hx with rfl | rfl
    · exact dep_str (ok_w (by simp))
    · exact dep_up (Th.dep hb h) (by decide)
theorem bs_dep {bs : List Str} (hb : ∀ x ∈ bs, NameOk x) (n : Nat) : Pk.dep (n + 1) (bsD bs) := fun x hx => by
  obtain ⟨y, hy, rfl⟩ := List.mem_map.mp hx
  exact dep_str (hb y hy).strOk
theorem bs_sh {bs : List Str} (hb : ∀ x ∈ bs, NameOk x) : SeqAt.shaped (bsD bs) = true := sh_of (bs_dep hb 0) (by decide)
theorem Pg.dep {p : Pg} (h : p.Ok) : Pk.dep 8 p.d := by
  intro x hx
  simp at hx
  rcases hx with rfl | rfl | rfl
  · exact dep_int
  · exact bs_dep h.bs.nm 6
  · intro y hy
    obtain ⟨r, hr, rfl⟩ := List.mem_map.mp hy
    exact Rw.dep h.bs.nm (h.rows r hr)
theorem Pg.sh {p : Pg} (h : p.Ok) : SeqAt.shaped p.d = true := sh_of (Pg.dep h) (by decide)
theorem Th.nb : ∀ t : Th, NB t.d
  | .num n => .tup fun x hx => by
    simp at hx
    rcases hx with rfl | rfl
    · exact .str _
    · exact .int _
  | .box y => .tup fun x hx => by
    simp at hx
    rcases hx with rfl | rfl
    · exact .str _
    · exact .str _
  | .op o a b => .tup fun x hx => by
    simp at hx
    rcases hx with rfl | rfl | rfl
    · exact .str _
    · exact Th.nb a
    · exact Th.nb b
theorem Rw.nb (r : Rw) : NB r.d := by
  cases r <;> refine .tup fun x hx => ?_ <;> simp at hx
  · rcases hx with rfl | rfl | rfl
    · exact .str _
    · exact .str _
    · exact Th.nb _
  · rcases hx with rfl | rfl | rfl
    · exact .str _
    · exact .str _
    · refine .lst fun z hz => ?_
      obtain ⟨t, _, rfl⟩ := List.mem_map.mp hz
      exact Th.nb t
  · rcases hx with rfl | rfl
    · exact .str _
    · exact Th.nb _
  · rcases hx with rfl | rfl | rfl
    · exact .str _
    · exact Th.nb _
    · exact .int _
  · rcases hx with rfl | rfl
    · exact .str _
    · exact Th.nb _
theorem Pg.nb (p : Pg) : NB p.d := .tup fun x hx => by
  simp at hx
  rcases hx with rfl | rfl | rfl
  · exact .int _
  · refine .lst fun z hz => ?_
    obtain ⟨t, _, rfl⟩ := List.mem_map.mp hz
    exact .str t
  · refine .lst fun z hz => ?_
    obtain ⟨t, _, rfl⟩ := List.mem_map.mp hz
    exact Rw.nb t
theorem Th.lf : ∀ t : Th, Pk.lf t.d = true
  | .num n => rfl
  | .box y => rfl
  | .op o a b => by
    show Pk.lfA [.str o.w, a.d, b.d] = true
    simp [Pk.lfA, Th.lf a, Th.lf b, Pk.lf]
theorem st_lf (st : List Nat) : Pk.lf (stD st) = true := by
  show Pk.lfA _ = true
  induction st with
  | nil => rfl
  | cons n st ih => simp [Pk.lfA, ih, Pk.lf]
def Rw.w : Rw → Str
  | .set _ _ => "set" | .pick _ _ => "pick" | .need _ => "need" | .skip _ _ => "skip" | .give _ => "give"
def Rw.isPick : Rw → Bool
  | .pick _ _ => true | _ => false
theorem Rw.w_ok (r : Rw) : PyData.strOk r.w = true := by cases r <;> exact ok_w (by simp [Rw.w])
section
variable {K : Kw} {m : Bool} {Γ : List Sl} {Q : PyData → Prop}
theorem rd_neSelf {d : PyData} (hs : SeqAt.shaped d = true) (nb : NB d) (q : Q (.bool false)) : RD K m Γ (dNe K) d d Q := rd_ne hs hs (by rw [eqv_self nb]; exact q)
theorem rd_eqSelf {d : PyData} (hs : SeqAt.shaped d = true) (nb : NB d) (q : Q (.bool true)) : RD K m Γ (dEq K) d d Q := rd_eq hs hs (by rw [eqv_self nb]; exact q)
end
end Dk
end
section
set_option Elab.async false
set_option linter.all false
set_option maxRecDepth 100000
namespace Pk
open PySem PySem.Spec PyProof.Rows L2
end Pk
end
section
set_option Elab.async false
set_option linter.all false
set_option maxRecDepth 100000
namespace Ps
open PySem PySem.Spec PyProof.Rows L2
section
variable {prog : Program} {w : World} {A : Around} {R : Result → Shared → Prop} {I : Addr} {fp wr : List Addr} {G : Array GenState → Array GenState → Prop} {n : Nat} {P : Nat → Value → Prop} {St : Nat → Shared → Prop}
end
section
variable {prog : Program} {w : World} {A : Around} {E : Value → Shared → Prop} {s : Shared}
end
end Ps
namespace Pk
open PySem PySem.Spec PyProof.Rows L2 Ps
end Pk
end
section
set_option Elab.async false
set_option linter.all false
set_option maxRecDepth 100000
namespace Pk
open PySem PySem.Spec PyProof.Rows L2
section
variable {K : Kw} {m : Bool} {Γ : List Sl} {Q : PyData → Prop} {te : TE}
end
section
variable {K : Kw} {Γ : List Sl} {W : XW} {ex : Value → Option Fs → List Sl → Prop} {T : List Sl → (Sl → Prop) → XQ → Prop} {Q : Sl → Prop} {ta tb tc : TE} {r : R2}
end
end Pk
end
section
set_option Elab.async false
set_option linter.all false
set_option maxRecDepth 100000
namespace Pk
open PySem PySem.Spec PyProof.Rows L2
section
variable {K : Kw} {m : Bool} {Γ : List Sl} {P : Po} {te : TE} {ta : TA} {QI : List PyData → Prop}
theorem RpA.eraseIdx {F : Hp} : ∀ {vs : List V} {ds : List PyData} (n : Nat), RpA K F vs ds → RpA K F (vs.eraseIdx n) (ds.eraseIdx n)
  | [], [], _, _ => .nil
  | _ :: _, [], _, h => by cases h
  | [], _ :: _, _, h => by cases h
  | _ :: _, _ :: _, 0, h => by
    cases h with
    | cons a b => exact b
  | _ :: _, _ :: _, n + 1, h => by
    cases h with
    | cons a b => exact .cons a (RpA.eraseIdx n b)
end
end Pk
end
section
set_option Elab.async false
set_option linter.all false
set_option maxRecDepth 100000
namespace Pk
open PySem PySem.Spec PyProof.Rows L2
/-- what __init__(self, f): self.f = f promises -/
def spIni (K : PySem.W.Frag) (C : Addr) (f : Str) : Sp := fun vs H Q _ => ∃ (a : Addr) (y : V), vs = [.ref a, y] ∧ H a = some (exo a C none) ∧ ∀ dx, H dx = none → dx ≠ a → Q .non (upd (upd H dx (exd dx [(f, y)])) a (exo a C (some dx)))
section
variable {K : Kw} {m : Bool} {Γ : List Sl} {P : Po} {te : TE} {Q : PyData → Prop}
end
/-- such a class, as the top tells it -/
structure IniT (P : Program) (w : World) (K : PySem.W.Frag) (mg : Str → Option Value) (base : Heap) (k : Nat) (x : Str) (C : Addr) (f : Str) : Prop where
  g : mg x = some (.ref C)
  o : OexC K C
  i : ∃ (fI : Addr) (fd : FuncData), PySem.W.findIn K (.ref C) "__init__" = some (some (.ref fI)) ∧ PySem.W.typeIn K (.ref fI) = some (.type "function") ∧ FnOk P w K mg base CX0 k fI fd ["self", f] (spIni K C f) ∧ Binds K fd ["self", f] []
section
variable {X : Cx} {W : XW} {x f : Str} {C : Addr} {k : Nat} {e : Expr} {te : TE} {p pos pos' : Pos}
end
end Pk
end
section
set_option Elab.async false
set_option linter.all false
set_option maxRecDepth 100000
namespace Pk
open PySem PySem.Spec PyProof.Rows L2
/-- such a class, as the head tells it -/
structure IniD (K : PySem.W.Frag) (mg : Str → Option Value) (x : Str) (C : Addr) (qual f : Str) (st : Stmt) : Prop where
  g : mg x = some (.ref C)
  o : OexC K C
  n : PySem.W.findIn K (.ref C) f = some none
  x : XfC K C
  c : ExcC K C
  i : ∃ (fI : Addr) (fd : FuncData), PySem.W.findIn K (.ref C) "__init__" = some (some (.ref fI)) ∧ PySem.W.typeIn K (.ref fI) = some (.type "function") ∧ Fun K "__init__" qual st fI fd ∧ Binds K fd ["self", f] []
section
variable {P : Program} {K : Kw} {mg : Str → Option Value} {base : Heap}
end
section
variable {K : Kw} {m : Bool} {Γ : List Sl} {P : Po} {Q : PyData → Prop}
end
section
variable {K : Kw} {m : Bool} {Γ : List Sl} {Q : PyData → Prop}
end
section
variable {K : Kw} {m : Bool} {Γ : List Sl} {Q : PyData → Prop}
end
section
variable {K : Kw} {m : Bool} {W : XW} {ex : Value → Option Fs → List Sl → Prop} {Γ : List Sl} {Q : Sl → Prop} {ta tb : TE} {r : R2}
end
end Pk
end
section
set_option Elab.async false
set_option linter.all false
set_option maxRecDepth 100000
namespace Pk
open PySem PySem.Spec PyProof.Rows L2
theorem each_zip {h : Heap} : ∀ {ys : List V} {us : List Value} {ds : List PyData} {as : List Addr}, Vals ys us → ReadsAll h us ds as → PySem.W.EachIs (fun v (b : V × PyData) => RelV b.1 v ∧ ∃ as, Reads h v b.2 as) us (ys.zip ds)
  | [], _, _, _, .nil, .nil => .nil
  | _ :: _, _, _, _, .cons a b, .cons c d => .cons ⟨a, _, c⟩ (each_zip b d)
theorem vals_each : ∀ {out : List Value} {zs : List (V × PyData)}, PySem.W.EachIs (fun v (b : V × PyData) => RelV b.1 v) out zs → Vals (zs.map (·.1)) out
  | _, _, .nil => .nil
  | _, _, .cons a b => .cons a (vals_each b)
/-- sorted(xs) of data that can be compared -/
def rSortD (K : PySem.W.Frag) : List V → Hp → VK → Prop := fun xs H Q => ∃ (l : Addr) (ys : List V) (ds : List PyData), xs = [.ref l] ∧ SqL K H l ys ∧ DpAll K H ys ds ∧ ys.length = ds.length ∧ PySem.W.AllAlike ds ∧ PySem.W.Sortable ds ∧ ds.length ≤ 100000 ∧ (∀ d ∈ ds, d.depth ≤ 60) ∧
  ∀ (a : Addr) (zs : List (V × PyData)), H a = none → zs.Perm (ys.zip ds) → zs.Pairwise (fun p q => PySem.W.dataLt q.2 p.2 = false) → Q (.ref a) (upd H a (.lst (zs.map (·.1))))
theorem call_sortD {X : Cx} (hu : X.A.units + 64 < cLine) : CallR X (.builtin "sorted") (rSortD X.K) := by
  intro pins s σ H xs us Q I r ⟨l, ys, ds, ex, hs, hd, hlen, hal, hk, hL, hdp, q⟩
  subst ex
  obtain ⟨its, rv, hl, _⟩ := I.list hs
  rw [Vals.ref1 r]
  obtain ⟨as, ra⟩ := Dp.readsAll I ds ys its hd rv
  have e := each_zip rv ra
  have hm : (ys.zip ds).map Prod.snd = ds := List.map_snd_zip (by omega)
  have hz : (ys.zip ds).length = ds.length := by rw [List.length_zip]; omega
  refine PySem.W.sorted_data (enc := Prod.snd) (R := fun v b => RelV b.1 v) (bs := ys.zip ds) hl.isList (e.mono fun _ _ z => z.1) (e.mono fun _ _ z => z.2) (by rw [hm]; exact hal) (by rw [hm]; exact hk) (by rw [hz, sizeLine_eq]; omega) (fun b hb => ?_) fun out ho he => ?_
  · have := hdp b.2 (by rw [← hm]; exact List.mem_map.mpr ⟨b, hb, rfl⟩)
    omega
  · have hn : H (s.heap.objs.size + 1) = none := I.hok.fresh (Nat.le_succ _)
    obtain ⟨e1, h1⟩ := sortedAll_at s.heap its out.toArray
    have hv := vals_each he
    have hl2 : ((ys.zip ds).mergeSort (PySem.W.dataLe false Prod.snd)).length ≤ sizeLine := by rw [List.length_mergeSort, hz, sizeLine_eq]; omega
    refine ⟨.ref (s.heap.objs.size + 1), _, I.laid (t' := s.toks) (a := s.heap.objs.size + 1) (o := .lst (((ys.zip ds).mergeSort (PySem.W.dataLe false Prod.snd)).map (·.1))) (fun b u z => sortedAll_old z) (Nat.le_succ _) ⟨by rw [List.length_map]; exact hl2, out, e1, hv, h1⟩, rfl, q _ _ hn (List.mergeSort_perm _ _) ?_⟩
    refine (PySem.W.sort_pairwise (PySem.W.sortLe_total _ _ _) (ys.zip ds)).imp fun {a b} z => ?_
    have z' : (!PySem.W.dataLt b.2 a.2) = true := z
    simpa using z'
theorem rpA_perm {K : Kw} {F : Hp} {ys : List V} {ds : List PyData} (r : RpA K F ys ds) {zs : List (V × PyData)} (h : zs.Perm (ys.zip ds)) : RpA K F (zs.map (·.1)) (zs.map (·.2)) := by
  have hz : ∀ {ys : List V} {ds : List PyData}, RpA K F ys ds → ∀ z ∈ ys.zip ds, Rp K F z.1 z.2 := by
    intro ys
    induction ys with
    | nil => intro ds _ z hz; cases hz
    | cons y ys ih =>
      intro ds r z hz
      cases r with
      | cons a b =>
        rcases List.mem_cons.mp hz with rfl | h
        · exact a
        · exact ih b z h
  have key : ∀ z ∈ zs, Rp K F z.1 z.2 := fun z hz' => hz r z (h.mem_iff.mp hz')
  clear h
  induction zs with
  | nil => exact .nil
  | cons z zs ih => exact .cons (key z List.mem_cons_self) (ih fun x hx => key x (List.mem_cons_of_mem _ hx))
section
variable {K : Kw} {m : Bool} {Γ : List Sl} {Q : PyData → Prop} {QX : Sl → Prop} {ta : TE}
theorem rcx_sorted {ds : List PyData} (hs : SeqAt.shaped (.list ds) = true) (hal : PySem.W.AllAlike ds) (hk : PySem.W.Sortable ds) (hL : ds.length ≤ 100000) (hdp : ∀ d ∈ ds, d.depth ≤ 60) (q : ∀ es : List PyData, es.Perm ds → es.Pairwise (fun a b => PySem.W.dataLt b a = false) → ∀ l, QX (.ml m l es)) : RCX K m Γ (rSortD K) [.list ds] QX := fun X hK F H σ E vs rv C k => by
  have c : (PyData.list ds).canLay0 = true := SeqAt.canLay_of_shaped hs
  cases rv with
  | cons a b =>
    cases b
    cases a with
    | lst h1 r1 =>
      rename_i l ys
      have hlen : ys.length = ds.length := r1.length
      refine ⟨l, ys, ds, rfl, SqL.of (E.lef m _ _ h1), RpA.dp ds (by simpa [PyData.canLay0] using c) (r1.mono (E.lef m)), hlen, hal, hk, hL, hdp, fun p zs hp pm pw => ?_⟩
      refine k (.ref p) F _ _ Le.rfl' (E.pushM hp (by rw [hK]; exact rpA_perm r1 pm)) (q _ ?_ ?_ p)
      · have := pm.map (·.2)
        rwa [List.map_snd_zip (by omega)] at this
      · exact List.pairwise_map.mpr pw
theorem rc_sorted {ds : List PyData} (hs : SeqAt.shaped (.list ds) = true) (hal : PySem.W.AllAlike ds) (hk : PySem.W.Sortable ds) (hL : ds.length ≤ 100000) (hdp : ∀ d ∈ ds, d.depth ≤ 60) (q : ∀ es : List PyData, es.Perm ds → es.Pairwise (fun a b => PySem.W.dataLt b a = false) → Q (.list es)) : RC K m Γ (rSortD K) [.list ds] Q := .ofX (rcx_sorted hs hal hk hL hdp fun es h1 h2 l => ⟨_, toD_ml, q es h1 h2⟩)
end
end Pk
end
section
set_option Elab.async false
set_option linter.all false
set_option maxRecDepth 100000
namespace PkI
open PySem PySem.W PySem.Spec PySem.Calls PyProof.Rows
section
variable {prog : Program} {w : World} {A : Around} {E : Value → Shared → Prop} {s : Shared} {K : Frag} {x D : Addr} {ox : Obj} {od : Option Obj}
end
end PkI
namespace Pk
open PySem PySem.Spec PyProof.Rows L2
section
variable {K : Kw} {m : Bool} {Γ : List Sl} {Q : PyData → Prop}
end
section
variable {K : Kw} {m : Bool} {Γ : List Sl} {Q : PyData → Prop}
end
section
variable {K : Kw} {m : Bool} {Γ : List Sl} {Q : PyData → Prop}
end
end Pk
end
section
set_option Elab.async false
set_option linter.all false
set_option maxRecDepth 100000
namespace Pk
open PySem PySem.Spec PyProof.Rows L2 Pz
section
variable {K : Kw} {m : Bool} {Γ : List Sl} {Q : PyData → Prop} {te ti : TE} {tr : TA}
end
/-- an expression that may change an own list -/
def WDg (K : Kw) (m : Bool) (Γ : List Sl) (t : TE) (Q : PyData → List Sl → Prop) : Prop := ∀ X : Bs, X.K = K → ∀ F H σ, En X F H σ Γ → ∀ C : VK,
  (∀ v F' H' d Γ', Le F F' → En X F' H' σ Γ' → Rp K (X.ff F' m) v d → Q d Γ' → C v H') → t σ H C
def WXg (K : Kw) (Γ : List Sl) (t : TE) (Q : List Sl → Sl → Prop) : Prop := ∀ X : Bs, X.K = K → ∀ F H σ, En X F H σ Γ → ∀ C : VK,
  (∀ v F' H' Γ' s, Le F F' → En X F' H' (σ ++ [some v]) (Γ' ++ [s]) → Q Γ' s → C v H') → t σ H C
theorem wipeG_no {Γ : List Sl} : ∀ {vs : List Nat}, (∀ i ∈ vs, Γ[i]? = some .no) → wipeG Γ vs = Γ
  | [], _ => rfl
  | v :: vs, h => by
    show (wipeG Γ vs).set v .no = Γ
    rw [wipeG_no fun i hi => h i (List.mem_cons_of_mem _ hi)]
    have hv := h v List.mem_cons_self
    apply List.ext_getElem?
    intro i
    by_cases hi : v = i
    · subst hi
      rw [List.getElem?_set_self (List.getElem?_eq_some_iff.mp hv).1, hv]
    · rw [List.getElem?_set_ne hi]
theorem En.unwipeN {X : Bs} {F H : Hp} {σ : L2.St} {Γ : List Sl} {ov : Option V} {s : Sl} {vs : List Nat} (hl : σ.length = Γ.length) (hv : ∀ i ∈ vs, Γ[i]? = some .no) (E : En X F H (L2.wipe σ vs ++ [ov]) (Γ ++ [s])) : En X F H (σ ++ [ov]) (Γ ++ [s]) := by
  obtain ⟨S, hs, hdj, ho⟩ := id E.sl
  refine ⟨E.le, by simp [hl], ⟨S, fun i u e => ?_, hdj, ho⟩, E.fr, E.f0, E.nn⟩
  have q := hs i u e
  have hi : i < (Γ ++ [s]).length := (List.getElem?_eq_some_iff.mp e).1
  simp only [List.length_append, List.length_cons, List.length_nil] at hi
  by_cases hlt : i < Γ.length
  · rw [getD_app (by rw [wipe_length, hl]; exact hlt)] at q
    rw [getD_app (by rw [hl]; exact hlt)]
    by_cases hin : i ∈ vs
    · rw [List.getElem?_append_left hlt, hv i hin] at e
      cases e
      exact q
    · have : (L2.wipe σ vs).getD i none = σ.getD i none := by simp [List.getD_eq_getElem?_getD, wipe_out hin]
      rw [this] at q
      exact q
  · have hie : i = Γ.length := by omega
    subst hie
    have e1 : (L2.wipe σ vs ++ [ov]).getD Γ.length none = ov := by rw [← hl, ← wipe_length σ vs, getD_last]
    have e2 : (σ ++ [ov]).getD Γ.length none = ov := by rw [← hl, getD_last]
    rw [e1] at q
    rw [e2]
    exact q
section
variable {K : Kw} {Γ : List Sl} {g : TG} {wi : TI} {te : TE} {vs : List Nat} {P : Po}
theorem wxg_lc {mi : Bool} (m : Bool) {j : Nat} {mj : Bool} {l : Addr} {ds0 : List PyData} {QX : List Sl → Sl → Prop} (hj : Γ[j]? = some (.ml mj l ds0)) (hv : ∀ i ∈ vs, Γ[i]? = some .no) (hgw : Gw g vs)
    (h : WI K mi Γ wi fun ds => ∃ I : Nat → List PyData → List PyData → Prop, ds.length ≤ 100000 ∧ I 0 [] ds0 ∧ (∀ i d acc lv, ds[i]? = some d → acc.length ≤ i → I i acc lv → GJ K mi (Γ.set j (.ml mj l lv)) g d fun Γ2 => WDg K m Γ2 te fun y Γ3 => ∃ lv', wipeG Γ3 vs = Γ.set j (.ml mj l lv') ∧ I (i + 1) (acc ++ [y]) lv') ∧
      ∀ acc lv, acc.length ≤ ds.length → I ds.length acc lv → ∀ la, QX (Γ.set j (.ml mj l lv)) (.ml m la acc)) : WXg K Γ (tLc wi g tYes te vs) QX := fun X hK F H σ E C k => by
  have hset : ∀ lv i, i ∈ vs → (Γ.set j (.ml mj l lv))[i]? = some .no := fun lv i hi => by
    have hne : j ≠ i := fun z => by subst z; rw [hv j hi] at hj; cases hj
    rw [List.getElem?_set_ne hne]
    exact hv i hi
  have h00 : Γ.set j (.ml mj l ds0) = Γ := by
    apply List.ext_getElem?
    intro i
    by_cases hi : j = i
    · subst hi
      rw [List.getElem?_set_self (List.getElem?_eq_some_iff.mp hj).1, hj]
    · rw [List.getElem?_set_ne hi]
  refine h X hK F H σ E _ fun J F1 H1 G Y ds lf E1 wk hG hY ⟨I, hz, h0, hs, he⟩ Da hD => ?_
  obtain ⟨X1, k1, n1, f1, _, Er, back⟩ := E1.rebase
  have ffe : ∀ F, X1.ff F m = X.ff F m := fun F => by cases m <;> simp [Bs.ff, n1]
  have hK1 : X1.K = K := k1.trans hK
  have lef : ∀ {F' H' σ' Γ'}, En X1 F' H' σ' Γ' → Le F1 F' := fun E' => by rw [← f1]; exact E'.f0
  have hlen0 : σ.length = Γ.length := E1.len
  refine lc_it wk (fun i H' => ∃ F' acc lv, En X1 F' H' (L2.wipe σ vs ++ [some (.ref Da)]) (Γ.set j (.ml mj l lv) ++ [.ml m Da acc]) ∧ acc.length ≤ i ∧ I i acc lv) ⟨F1, [], ds0, ?_, Nat.le_refl _, h0⟩ (fun i H' _ ⟨F', acc, lv, E', _⟩ => hG H' ((lef E').tr E'.le)) (fun i x H' H3 hi ⟨F', acc, lv, E', hacc, hI⟩ hy => ?_) (fun H' ⟨F', acc, lv, E', hacc, hI⟩ => ?_)
  · have := (Er.wipe vs).pushM (m := m) hD .nil
    rw [wipeG_no hv] at this
    rw [h00]
    exact this
  · obtain ⟨d, F3, hd, gr, r⟩ := hY i F' H' x H3 (lef E') E'.le hi hy
    have E3 := E'.gr gr
    obtain ⟨X2, k2, n2, Ef, fb⟩ := E3.frame
    have ff2 : ∀ F m, X2.ff F m = X.ff F m := fun F m => by cases m <;> simp [Bs.ff, n2, n1]
    have hK2 : X2.K = K := k2.trans hK1
    refine hgw x _ H3 (fun σ2 H2 => L2.wipe σ2 vs = L2.wipe σ vs → _) _ σ wipe_wipe (fun σ2 H2 e2 q => ⟨e2, q e2⟩) ?_
    refine hs i d acc lv hd hacc hI X2 hK2 F3 H3 _ Ef x (by rw [ff2]; exact r) _ fun F4 H4 σ4 Γ4 l4 E4 wt eσ => ?_
    show (tYes : TT) σ4 H4 _
    refine (show WT K Γ4 tYes fun b => b = true from wt_yes rfl) X2 hK2 F4 H4 σ4 E4 _ fun b F5 H5 l5 E5 q5 => ?_
    subst q5
    rw [if_pos rfl]
    refine wt X2 hK2 F5 H5 σ4 E5 _ fun y F6 H6 dy Γ6 l6 E6 ry ⟨lv', eΓ, q6⟩ => ?_
    have hlen : (wipeG Γ6 vs).length = (Γ.set j (.ml mj l lv)).length := by rw [eΓ, List.length_set, List.length_set]
    have E7 : En X1 F6 H6 (L2.wipe σ vs ++ [some (.ref Da)]) (Γ.set j (.ml mj l lv') ++ [.ml m Da acc]) := by
      have := fb F6 H6 _ _ hlen (l4.tr (l5.tr l6)) (E6.wipe vs)
      rw [eΓ, eσ] at this
      exact this
    obtain ⟨xs, _, hl, _, rx⟩ := E7.ml (i := (Γ.set j (.ml mj l lv')).length) (m := m) (l := Da) (ds := acc) (by simp)
    have e8 := E7.mut (i := (Γ.set j (.ml mj l lv')).length) (m := m) (l := Da) (ds := acc) (es := acc ++ [dy]) (ys := xs ++ [y]) (by simp) (rx.append (RpA.one (by rw [hK1, ffe, ← ff2]; exact ry)))
    have es : (Γ.set j (.ml mj l lv') ++ [Sl.ml m Da acc]).set (Γ.set j (.ml mj l lv')).length (.ml m Da (acc ++ [dy])) = Γ.set j (.ml mj l lv') ++ [.ml m Da (acc ++ [dy])] := by simp
    rw [es] at e8
    exact ⟨xs, hl, sz_lt (by rw [rx.length]; omega), F6, acc ++ [dy], lv', e8, by simp; omega, q6⟩
  · have hE := back _ _ _ _ (En.unwipeN (by rw [List.length_set]; exact hlen0) (hset lv) E')
    exact k (.ref Da) F' H' _ _ (lf.tr (lef E')) hE (he acc lv hacc hI Da)
theorem wdg_popAt {m : Bool} {i : Nat} {l : Addr} {ds : List PyData} {Q : PyData → List Sl → Prop} (hi : Γ[i]? = some (.ml m l ds)) (h : WD K false Γ te fun x => ∃ (n : Nat) (d : PyData), x = .int n ∧ n < 100000 ∧ ds[n]? = some d ∧ Q d (Γ.set i (.ml m l (ds.eraseIdx n)))) : WDg K m Γ (tBM K "list" rPopAt (tVar i) (tCons te tNil)) Q := fun X hK F H σ E C k => by
  subst hK
  obtain ⟨xs, e, hl, fl, r⟩ := E.ml hi
  refine ⟨.ref l, e, .inl ⟨rfl, _, SqL.of hl⟩, h X rfl F H σ E _ fun v F1 H1 d l1 E1 rv ⟨n, y, ev, hn, hy, q⟩ => ?_⟩
  subst ev
  have rv' : Rp X.K (X.ff F1 false) v (.int (n : Int)) := rv
  cases rv'
  obtain ⟨xs1, e1, hl1, fl1, r1⟩ := E1.ml hi
  obtain ⟨u, hu, ru⟩ := r1.get hy
  have hlt : n < xs1.length := by rw [r1.length]; exact (List.getElem?_eq_some_iff.mp hy).1
  refine ⟨l, xs1, n, n, u, rfl, rfl, hl1, by omega, by omega, ?_, hu, ?_⟩
  · unfold seqIndex?
    have h0 : ¬ ((n : Int) < 0) := by omega
    simp [h0]
    omega
  · exact k u F1 _ y _ l1 (E1.mut hi (r1.eraseIdx n)) ru q
end
end Pk
end
section
set_option Elab.async false
set_option linter.all false
set_option maxRecDepth 100000
namespace Pk
open PySem PySem.Spec PyProof.Rows L2
section
variable {K : Kw} {Γ : List Sl} {P : Po}
end
end Pk
end
section
set_option Elab.async false
set_option linter.all false
set_option maxRecDepth 100000
namespace Pk
open PySem PySem.Spec PyProof.Rows L2
mutual
theorem data_inj : ∀ (a b : NestedKey), a.data = b.data → a = b
  | .none, b, h => by cases b <;> first | rfl | (simp [NestedKey.data] at h)
  | .num i, b, h => by
    cases b with
    | num j => simp [NestedKey.data] at h; rw [h]
    | _ => simp [NestedKey.data] at h
  | .text i, b, h => by
    cases b with
    | text j => simp [NestedKey.data] at h; rw [h]
    | _ => simp [NestedKey.data] at h
  | .tup xs, b, h => by
    cases b with
    | tup ys => simp [NestedKey.data] at h; rw [datas_inj xs ys h]
    | _ => simp [NestedKey.data] at h
theorem datas_inj : ∀ (a b : List NestedKey), NestedKey.datas a = NestedKey.datas b → a = b
  | [], b, h => by
    cases b with
    | nil => rfl
    | cons _ _ => simp [NestedKey.datas] at h
  | x :: xs, b, h => by
    cases b with
    | nil => simp [NestedKey.datas] at h
    | cons y ys =>
      simp [NestedKey.datas] at h
      rw [data_inj x y h.1, datas_inj xs ys h.2]
end
theorem nds_inj : ∀ {a b : NDs}, (a.map fun x => (x.1.data, x.2)) = (b.map fun x => (x.1.data, x.2)) → a = b
  | [], [], _ => rfl
  | [], _ :: _, h => by simp at h
  | _ :: _, [], h => by simp at h
  | (k, d) :: a, (k', d') :: b, h => by
    simp only [List.map_cons, List.cons.injEq, Prod.mk.injEq] at h
    rw [data_inj _ _ h.1.1, h.1.2, nds_inj h.2]
theorem Rp.dictN_inv {K : Kw} {F : Hp} {v : V} {ds : NDs} (h : Rp K F v (dictN ds)) : ∃ a ep es, v = .ref a ∧ F a = some (dN K.w a ep es) ∧ RpD K F es ds := by
  rcases h.dict_inv with ⟨a, kvs, rfl, ha, t⟩ | ⟨a, ep, es, ds', rfl, ez, ha, r⟩ | ⟨_, _, _, _, _, ez, _⟩ | ⟨_, _, _, _, ez, _⟩
  · have e := t rfl
    cases kvs with
    | nil => cases e
    | cons p q =>
      obtain ⟨k, u⟩ := p
      cases k <;> simp [kvD, kD] at e
  · simp only [List.cons.injEq, true_and] at ez
    rw [nds_inj ez]
    exact ⟨a, ep, es, rfl, ha, r⟩
  · simp at ez
  · simp at ez

def nval (kvs : NEs) (k : NestedKey) : Option V := (kvs.find? fun x => decide (x.1 = k)).map (·.2.2)
def nput (kvs : NEs) (k : NestedKey) (b : Addr) (v : V) : NEs := if (nval kvs k).isSome then kvs.map (fun x => if x.1 = k then (x.1, x.2.1, v) else x) else kvs ++ [(k, b, v)]
abbrev NP (kvs : NEs) (xs : List (NestedKey × Addr × Value)) : Prop := Paired (fun (p : NestedKey × Addr × V) (q : NestedKey × Addr × Value) => p.1 = q.1 ∧ p.2.1 = q.2.1 ∧ RelV p.2.2 q.2.2) kvs xs
theorem nval_pos {p : NestedKey × Addr × V} {r : NEs} {k : NestedKey} (e : p.1 = k) : nval (p :: r) k = some p.2.2 := by simp [nval, List.find?_cons, e]
theorem nval_neg {p : NestedKey × Addr × V} {r : NEs} {k : NestedKey} (e : ¬ p.1 = k) : nval (p :: r) k = nval r k := by simp [nval, List.find?_cons, e]
theorem NP.val {kvs : NEs} {xs : List (NestedKey × Addr × Value)} (r : NP kvs xs) (k : NestedKey) : RelO (nval kvs k) ((atKey xs k).map (·.2)) := by
  induction r with
  | nil => exact True.intro
  | @cons p q ps qs h t ih =>
    obtain ⟨h1, _, h2⟩ := h
    by_cases e : p.1 = k
    · have e' : q.1 = k := h1.symm.trans e
      have b : atKey (q :: qs) k = some q.2 := by simp [atKey, List.find?_cons, e']
      rw [nval_pos e, b]; exact h2
    · have e' : ¬ q.1 = k := fun z => e (h1.trans z)
      have b : atKey (q :: qs) k = atKey qs k := by simp [atKey, List.find?_cons, e']
      rw [nval_neg e, b]; exact ih
theorem NP.repl {kvs : NEs} {xs : List (NestedKey × Addr × Value)} (r : NP kvs xs) (k : NestedKey) {y : V} {u : Value} (ry : RelV y u) :
    NP (kvs.map fun x => if x.1 = k then (x.1, x.2.1, y) else x) (xs.map (putAt k u)) := by
  induction r with
  | nil => exact .nil
  | @cons p q ps qs h t ih =>
    rw [List.map_cons, List.map_cons]
    refine .cons ?_ ih
    obtain ⟨h1, h2, h3⟩ := h
    unfold putAt
    by_cases e : p.1 = k
    · rw [if_pos e, if_pos (h1.symm.trans e)]; exact ⟨h1, h2, ry⟩
    · rw [if_neg e, if_neg (fun z => e (h1.trans z))]; exact ⟨h1, h2, h3⟩
theorem NP.put {kvs : NEs} {xs : List (NestedKey × Addr × Value)} (r : NP kvs xs) (k : NestedKey) {b : Addr} {y : V} {u : Value} (ry : RelV y u) : NP (nput kvs k b y) (storedH xs k b u) := by
  have e : (nval kvs k).isSome = (atKey xs k).isSome := by rw [(r.val k).isSome_eq, Option.isSome_map]
  unfold nput storedH
  rw [e]
  by_cases q : (atKey xs k).isSome = true
  · rw [if_pos q, if_pos q]; exact r.repl k ry
  · rw [if_neg q, if_neg q]; exact Paired.snoc r ⟨rfl, rfl, ry⟩
/-- the keys' tuples stand -/
def NKeys (K : PySem.W.Frag) (H : Hp) (kvs : NEs) : Prop := ∀ x ∈ kvs, Dp K H (.ref x.2.1) x.1.data
section
variable {X : Cx} {pins : List (Addr × Obj)} {σ : L2.St} {H : Hp} {s : Shared} {a b : Addr} {ep : Nat} {kvs : NEs} {k : NestedKey}
end
section
variable {X : Cx} {pins : List (Addr × Obj)} {σ : L2.St} {H : Hp} {s : Shared} {a : Addr} {y v : V} {u r : Value} {o : Option V} {A : Around} {E : Value → Shared → Prop}
end
section
variable {X : Cx} {o i e f value : Expr} {pos pos' tpos apos cpos : Pos} {td ty tv tx tk : TE}
end

section
variable {prog : Program} {w : World} {K : Type} [DecidableEq K] {knd : HeapKind prog w K} {A : Around} {E : Value → Shared → Prop} {s : Shared}
end

section
variable {X : Cx} {pos : Pos} {tk tv : TE} {k v : Expr}
end
section
variable {P : Program} {w w0 : World} {K : PySem.W.Frag} {tg : Expr} {d : Addr} {ep : Nat} {kvs : NEs}
end
section
variable {X : Cx} {tg e : Expr} {td : TE} {apos cpos : Pos}
end
end Pk
end
section
set_option Elab.async false
set_option linter.all false
set_option maxRecDepth 100000
namespace Pk
open PySem PySem.Spec PyProof.Rows L2
open PySem.W (KdlSrc)
section
variable {prog : Program} {w : World} {A : Around} {E : Value → Shared → Prop} {s : Shared} {T : String} {r d : Addr} {n : Nat} {P : Nat → Value → Prop} {OK : Heap → Prop}
end
section
variable {X : Cx}
end
end Pk
end
section
set_option Elab.async false
set_option linter.all false
set_option maxRecDepth 100000
namespace Pk
open PySem PySem.Spec PyProof.Rows L2
def dval (ds : NDs) (k : NestedKey) : Option PyData := (ds.find? fun x => decide (x.1 = k)).map (·.2)
def dput (ds : NDs) (k : NestedKey) (d : PyData) : NDs := if (dval ds k).isSome then ds.map (fun x => if x.1 = k then (x.1, d) else x) else ds ++ [(k, d)]
mutual
theorem Rp.dpK {K : Kw} {F : Hp} : ∀ (k : NestedKey) {v : V}, Rp K F v k.data → Dp K F v k.data
  | .none, _, h => by have h' : Rp K F _ .none := h; cases h'; exact .non
  | .num i, _, h => by have h' : Rp K F _ (.int i) := h; cases h'; exact .int _
  | .text x, _, h => by have h' : Rp K F _ (.str x) := h; cases h'; exact .str _
  | .tup ks, _, h => by
    have h' : Rp K F _ (.tuple (NestedKey.datas ks)) := h
    cases h' with
    | tup a b => exact .tup a (RpA.dpK ks b)
theorem RpA.dpK {K : Kw} {F : Hp} : ∀ (ks : List NestedKey) {vs : List V}, RpA K F vs (NestedKey.datas ks) → DpAll K F vs (NestedKey.datas ks)
  | [], _, h => by have h' : RpA K F _ [] := h; cases h'; exact .nil
  | k :: ks, _, h => by
    have h' : RpA K F _ (k.data :: NestedKey.datas ks) := h
    cases h' with
    | cons a b => exact .cons (Rp.dpK k a) (RpA.dpK ks b)
end
section
variable {K : Kw} {F F' H : Hp} {es : NEs} {ds : NDs}
theorem RpD.length (r : RpD K F es ds) : es.length = ds.length := by
  induction es generalizing ds with
  | nil => cases r; rfl
  | cons e es ih => cases r with
    | cons a b c => simp [ih c]
theorem RpD.keys (le : Le F H) (r : RpD K F es ds) : NKeys K H es := by
  induction es generalizing ds with
  | nil => exact fun x hx => nomatch hx
  | cons e es ih => cases r with
    | cons a b c =>
      intro x hx
      rcases List.mem_cons.mp hx with rfl | hx
      · exact Rp.dpK _ (a.mono le)
      · exact ih c x hx
theorem RpD.vSome {k : NestedKey} {d : PyData} (r : RpD K F es ds) (h : dval ds k = some d) : ∃ v, nval es k = some v ∧ Rp K F v d := by
  induction es generalizing ds with
  | nil => cases r; cases h
  | cons e es ih => cases r with
    | @cons k' b v d' _ ds a b' c =>
      by_cases e : k' = k
      · subst e
        have : dval ((k', d') :: ds) k' = some d' := by simp [dval]
        rw [this] at h
        cases h
        exact ⟨v, nval_pos rfl, b'⟩
      · have : dval ((k', d') :: ds) k = dval ds k := by simp [dval, List.find?_cons, e]
        rw [this] at h
        rw [nval_neg e]
        exact ih c h
theorem RpD.vNone {k : NestedKey} (r : RpD K F es ds) (h : dval ds k = none) : nval es k = none := by
  induction es generalizing ds with
  | nil => rfl
  | cons e es ih => cases r with
    | @cons k' b v d' _ ds a b' c =>
      by_cases e : k' = k
      · subst e
        have : dval ((k', d') :: ds) k' = some d' := by simp [dval]
        rw [this] at h
        cases h
      · have : dval ((k', d') :: ds) k = dval ds k := by simp [dval, List.find?_cons, e]
        rw [this] at h
        rw [nval_neg e]
        exact ih c h
theorem RpD.repl {k : NestedKey} {v : V} {d : PyData} (r : RpD K F es ds) (rv : Rp K F v d) : RpD K F (es.map fun x => if x.1 = k then (x.1, x.2.1, v) else x) (ds.map fun x => if x.1 = k then (x.1, d) else x) := by
  induction es generalizing ds with
  | nil => cases r; exact .nil
  | cons e es ih => cases r with
    | @cons k' b v' d' _ ds a b' c =>
      rw [List.map_cons, List.map_cons]
      by_cases e : k' = k
      · rw [if_pos e, if_pos e]
        exact .cons a rv (ih c)
      · rw [if_neg e, if_neg e]
        exact .cons a b' (ih c)
theorem RpD.app {es' : NEs} {ds' : NDs} (r : RpD K F es ds) (r' : RpD K F es' ds') : RpD K F (es ++ es') (ds ++ ds') := by
  induction es generalizing ds with
  | nil => cases r; exact r'
  | cons e es ih => cases r with
    | cons a b c => exact .cons a b (ih c)
theorem RpD.put {k : NestedKey} {b : Addr} {v : V} {d : PyData} (r : RpD K F es ds) (rb : Rp K F (.ref b) k.data) (rv : Rp K F v d) : RpD K F (nput es k b v) (dput ds k d) := by
  have e : (nval es k).isSome = (dval ds k).isSome := by
    cases h : dval ds k with
    | none => rw [r.vNone h]; rfl
    | some x => obtain ⟨u, hu, _⟩ := r.vSome h; rw [hu]; rfl
  unfold nput dput
  rw [e]
  split
  · exact r.repl rv
  · exact r.app (.cons rb rv .nil)
theorem RpD.get (r : RpD K F es ds) {i : Nat} {k : NestedKey} {b : Addr} {v : V} (h : es[i]? = some (k, b, v)) : ∃ d, ds[i]? = some (k, d) ∧ Rp K F (.ref b) k.data ∧ Rp K F v d := by
  induction es generalizing ds i with
  | nil => simp at h
  | cons e es ih => cases r with
    | cons a b c =>
      cases i with
      | zero => simp at h; obtain ⟨rfl, rfl, rfl⟩ := h; exact ⟨_, rfl, a, b⟩
      | succ i => exact ih c (by simpa using h)
end
section
variable {K : Kw} {m : Bool} {Γ : List Sl} {Q : PyData → Prop} {QX : Sl → Prop} {te ti tx td : TE}
end
theorem lay_le {S : Addr → Prop} {H F : Hp} (le : Le F H) : Le F (lay S H F) := fun a o q => by
  unfold lay
  by_cases h : S a
  · rw [if_pos h]; exact le a o q
  · rw [if_neg h]; exact q
section
variable {K : Kw} {m : Bool} {Γ : List Sl} {Q : PyData → Prop} {QX : Sl → Prop} {te ti tx td : TE} {P : Po}
end
end Pk
end
section
set_option Elab.async false
set_option linter.all false
set_option maxRecDepth 100000
namespace Pk
open PySem PySem.Spec PyProof.Rows L2
section
variable {K : Kw} {m : Bool} {Γ : List Sl} {Q : PyData → Prop} {QX : Sl → Prop} {te ti tx td tk : TE} {P : Po}
end
end Pk
end
section
set_option Elab.async false
set_option linter.all false
set_option maxRecDepth 100000
namespace Pk
open PySem PySem.Spec PyProof.Rows L2
section
variable {K : Kw} {m : Bool} {Γ : List Sl} {Q : PyData → Prop} {QX : Sl → Prop}
end
end Pk
end
section
set_option Elab.async false
set_option linter.all false
set_option maxRecDepth 100000
namespace Pk
open PySem PySem.Spec PyProof.Rows L2
/-- the same but for what is told of things of one's own -/
def Alk (Γ Ξ : List Sl) : Prop := Ξ.length = Γ.length ∧ ∀ (i : Nat), (∃ v Φ Φ', Γ[i]? = some (.ex v Φ) ∧ Ξ[i]? = some (.ex v Φ')) ∨ ((∀ v Φ, Γ[i]? ≠ some (.ex v Φ)) ∧ Ξ[i]? = Γ[i]?)
theorem Alk.same {Γ Ξ : List Sl} (h : Alk Γ Ξ) {i : Nat} {s : Sl} (e : Ξ[i]? = some s) (n : ∀ v Φ, s ≠ .ex v Φ) : Γ[i]? = some s := by
  rcases h.2 i with ⟨v, Φ, Φ', _, z⟩ | ⟨_, z⟩
  · rw [e] at z; injection z with z; exact absurd z (n v Φ')
  · rw [← z]; exact e
section
variable {P : Program} {K : Kw} {mg : Str → Option Value} {base : Heap}
end
section
variable {K : Kw} {m : Bool} {Γ : List Sl} {T : List Sl → (List Sl → Sl → Prop) → Prop} {EE : XK} {tr : TA} {te : TE} {P : Po}
end
end Pk
end
section
set_option Elab.async false
set_option linter.all false
set_option maxRecDepth 100000
namespace Pk
open PySem PySem.Spec PyProof.Rows L2
open PySem.W (KdlSrc)
section
variable {prog : Program} {w : World} {A : Around} {E : Value → Shared → Prop} {s : Shared} {T : String} {r d : Addr} {n : Nat} {P : Nat → Value → Prop} {OK : Heap → Prop}
end
section
variable {X : Cx} {e : Expr} {td : TE} {apos cpos p0 pos : Pos}
end
section
variable {K : Kw} {m : Bool} {Γ : List Sl} {Q : PyData → Prop} {td : TE}
end
end Pk
end
section
set_option Elab.async false
set_option linter.all false
set_option maxRecDepth 100000
namespace Pk
open PySem PySem.Spec PyProof.Rows L2
section
variable {K : Kw} {m : Bool} {Γ : List Sl} {Q : PyData → Prop} {QX : Sl → Prop} {te ti tx td tk : TE} {P : Po}
end
end Pk
end
section
set_option Elab.async false
set_option linter.all false
set_option maxRecDepth 100000
namespace Pk
open PySem PySem.Spec PyProof.Rows L2
section
variable {K : Kw} {m : Bool} {Γ : List Sl} {Q : PyData → Prop} {QX : Sl → Prop} {W : XW} {ex : Value → Option Fs → List Sl → Prop} {T : List Sl → (Sl → Prop) → XQ → Prop} {ta tb tc te : TE} {tt : TT} {g : TG} {vs : List Nat} {a : V} {P : Po}
/-- a call that may raise, where it does not -/
theorem WXw.good (h : WXw K W (fun _ _ _ => False) Γ te QX) : WX K Γ te QX := fun X hK F H σ E C k => h X hK (fun _ _ _ _ _ _ _ _ _ z => z.elim) F H σ E C k
end
end Pk
end
section
set_option Elab.async false
set_option linter.all false
set_option maxRecDepth 100000
namespace Pk
open PySem PySem.Spec PyProof.Rows L2
section
variable {K : Kw} {m : Bool} {Γ : List Sl} {Q : PyData → Prop} {QX : Sl → Prop} {t : TE}
end
end Pk
end
section
set_option Elab.async false
set_option linter.all false
set_option maxRecDepth 100000
namespace Pk
open PySem PySem.Spec PyProof.Rows L2
section
variable {K : Kw} {m : Bool} {Γ : List Sl} {P : Po} {te : TE} {ta : TA} {QI : List PyData → Prop} {Q : PyData → Prop}
end
end Pk
end
section
set_option Elab.async false
set_option linter.all false
set_option maxRecDepth 100000
namespace Pk
open PySem PySem.Spec PyProof.Rows L2
section
variable {K : Kw} {Γ : List Sl} {P : Po} {te : TE} {ts : TS}
/-- return xs.pop(), xs ints of another's -/
theorem sj_retPop {i : Nat} {l : Addr} {ns : List Int} {n : Int} (PL : List Int → Prop) (hi : Γ[i]? = some (.ml false l ((ns ++ [n]).map PyData.int))) (hp : PL ns) (h : P.rt (.dat true (.int n)) (Γ.set i (.ex (.ref l) (OwnL K PL)))) : SJ K Γ (tRet (tBM0 K "list" rPop (tVar i))) P := fun X hK F H σ E D hD => by
  subst hK
  obtain ⟨xs, e, hl, fl, r⟩ := E.ml hi
  have ex := ints_of r
  subst ex
  have rd : RpA X.K (X.ff F false) ((ns ++ [n]).map V.int).dropLast (ns.map PyData.int) := by
    have : ((ns ++ [n]).map V.int).dropLast = ns.map V.int := by simp
    rw [this]
    exact ints_rp ns
  refine ⟨.ref l, e, .inl ⟨rfl, _, SqL.of hl⟩, l, _, .int n, rfl, rfl, hl, by simp, ?_⟩
  have hil : i < Γ.length := (List.getElem?_eq_some_iff.mp hi).1
  have E2 := E.mut hi rd
  have E3 := E2.retell (i := i) (s' := .ex (.ref l) (OwnL X.K PL)) Le.rfl' E2.le (fun _ _ _ _ => rfl) (List.getElem?_set_self hil) fun S hS q => ⟨S, (by
    obtain ⟨xs, e, hS, hl, r, _⟩ := q
    rw [ints_of r] at hl
    exact ⟨e, rfl, l, ns, rfl, hS, hl, hp⟩), fun a sa => ⟨sa, (hS a sa).1⟩, fun _ z => absurd rfl z⟩
  rw [List.set_set] at E3
  exact hD.rt F _ _ _ (.int n) _ (E3.pushD (.int n)) h
theorem sj_setG {i : Nat} (h : WXg K Γ te fun Γ' s => P.nx (Γ'.set i s)) : SJ K Γ (tAsg te (gName i)) P := fun X hK F H σ E D hD =>
  h X hK F H σ E _ fun v F1 H1 Γ' s l1 E1 q => hD.nx F1 H1 _ _ (E1.put i) q
end
end Pk
end
section
set_option Elab.async false
set_option linter.all false
set_option maxRecDepth 100000
namespace Pk
open PySem PySem.Spec PyProof.Rows L2
section
variable {K : Kw} {m : Bool} {Γ : List Sl} {N : List Sl → Prop}
end
end Pk
end
section
set_option Elab.async false
set_option linter.all false
set_option maxRecDepth 100000
set_option pp.maxSteps 1000
namespace Pk
open PySem PySem.Spec PyProof.Rows L2
open PySem.W (DilG)
section
variable {X : Cx} {pins : List (Addr × Obj)} {σ : L2.St} {H : Hp} {s : Shared}
end
section
open PySem.W (EachIs keyToks keyToksAll alike dataLt SortsAt)
variable {prog : Program} {w : World} {A : Around} {E : Value → Shared → Prop} {s : Shared}
abbrev Pr3 := Value × PyData × PyData
structure PrOk (h : Heap) (u : Nat) (bs : List Pr3) : Prop where
  rd : ∀ p ∈ bs, ∃ as, Reads h p.1 (.tuple [p.2.1, p.2.2]) as
  one : ∀ p ∈ bs, ∀ q ∈ bs, p.1 = q.1 → p = q
  key : ∀ p ∈ bs, ∀ q ∈ bs, p = q ∨ (alike p.2.1 q.2.1 = true ∧ PyData.eqv p.2.1 q.2.1 = false)
  self : ∀ p ∈ bs, alike p.2.1 p.2.1 = true ∧ alike p.2.2 p.2.2 = true
  tup : ∀ p ∈ bs, ∃ xs, p.2.1 = .tuple xs
  dep : ∀ p ∈ bs, u + 1 + p.2.1.depth < cLine ∧ u + 1 + p.2.2.depth < cLine
end
/-- items that can be sorted by their keys -/
structure NSrt (K : PySem.W.Frag) (H : Hp) (kvs : NEs) (vds : List PyData) : Prop where
  keys : NKeys K H kvs
  vals : DpAll K H (kvs.map fun x => x.2.2) vds
  len : vds.length = kvs.length
  nd : (kvs.map fun x => x.1).Nodup
  al : ∀ x ∈ kvs, ∀ y ∈ kvs, PySem.W.alike x.1.data y.1.data = true
  ne : ∀ x ∈ kvs, ∀ y ∈ kvs, x.1 ≠ y.1 → PyData.eqv x.1.data y.1.data = false
  tup : ∀ x ∈ kvs, ∃ ks, x.1 = .tup ks
  kd : ∀ x ∈ kvs, x.1.data.depth ≤ 50
  va : ∀ d ∈ vds, PySem.W.alike d d = true
  vd : ∀ d ∈ vds, d.depth ≤ 50
section
variable {X : Cx} {pins : List (Addr × Obj)} {σ : L2.St} {H : Hp} {s : Shared}
end
section
variable {X : Cx} {e : Expr} {td : TE} {apos cpos p0 pos : Pos}
end
end Pk
end
section
set_option Elab.async false
set_option linter.all false
set_option maxRecDepth 100000
set_option pp.maxSteps 1000
namespace Pk
open PySem PySem.Spec PyProof.Rows L2
section
variable {K : Kw} {F F' H : Hp}
theorem RpD.perm {es zs : NEs} (h : es.Perm zs) : ∀ {ds : NDs}, RpD K F es ds → ∃ ws, ds.Perm ws ∧ RpD K F zs ws := by
  induction h with
  | nil =>
    intro ds r
    cases r
    exact ⟨[], .nil, .nil⟩
  | cons x _ ih =>
    intro ds r
    cases r with
    | cons a b c =>
      obtain ⟨ws, p, r'⟩ := ih c
      exact ⟨_ :: ws, p.cons _, .cons a b r'⟩
  | swap x y l =>
    intro ds r
    cases r with
    | cons a b c =>
      cases c with
      | cons a' b' c' => exact ⟨_, .swap _ _ _, .cons a' b' (.cons a b c')⟩
  | trans _ _ ih1 ih2 =>
    intro ds r
    obtain ⟨ws, p, r1⟩ := ih1 r
    obtain ⟨vs, q, r2⟩ := ih2 r1
    exact ⟨vs, p.trans q, r2⟩
end
/-- pairs that can be sorted by their first ones -/
structure DSrt (ds : NDs) : Prop where
  nd : (ds.map fun x => x.1).Nodup
  al : ∀ x ∈ ds, ∀ y ∈ ds, PySem.W.alike x.1.data y.1.data = true
  ne : ∀ x ∈ ds, ∀ y ∈ ds, x.1 ≠ y.1 → PyData.eqv x.1.data y.1.data = false
  tup : ∀ x ∈ ds, ∃ ks, x.1 = .tup ks
  kd : ∀ x ∈ ds, x.1.data.depth ≤ 50
  vc : PyData.canLayAll0 (ds.map fun x => x.2) = true
  va : ∀ x ∈ ds, PySem.W.alike x.2 x.2 = true
  vd : ∀ x ∈ ds, x.2.depth ≤ 50
section
variable {K : Kw} {Γ : List Sl} {td : TE} {QX : Sl → Prop}
end
section
section
variable {X : Cx} {pins : List (Addr × Obj)} {σ : L2.St} {H : Hp} {s : Shared}
end
section
variable {K : Kw} {Γ : List Sl} {te : TE} {QX : Sl → Prop} {Q : PyData → Prop}
end
end
end Pk
end
section
set_option Elab.async false
set_option linter.all false
set_option maxRecDepth 100000
set_option pp.maxSteps 1000
namespace Pk
open PySem PySem.Spec PyProof.Rows L2
section
variable {X : Cx} {o i value : Expr} {pos pos' : Pos} {td ty tv : TE}
end
section
variable {K : Kw} {m : Bool} {Γ : List Sl} {QI : List PyData → Prop} {Q : PyData → Prop} {P : Po} {td ti tx te : TE}
end
section
variable {K : Kw} {m : Bool} {Γ : List Sl} {Q : PyData → Prop}
end
end Pk
end
section
set_option Elab.async false
set_option linter.all false
set_option maxRecDepth 100000
set_option pp.maxSteps 1000
namespace Pk
open PySem PySem.Spec PyProof.Rows L2 Pz
section
variable {K : Kw} {m : Bool} {Γ : List Sl} {ta tb tc : TE} {QX : Sl → Prop}
end
end Pk
end
section
set_option Elab.async false
set_option linter.all false
set_option maxRecDepth 100000
set_option pp.maxSteps 1000
namespace Pk
open PySem PySem.Spec PyProof.Rows L2
section
variable {X : Cx} {pins : List (Addr × Obj)} {σ : L2.St} {H : Hp} {s : Shared} {a b : Addr} {ep : Nat} {kvs : List (Key × V)} {k : Key}
end
section
variable {X : Cx} {pins : List (Addr × Obj)} {σ : L2.St} {H : Hp} {s : Shared} {a : Addr} {y v : V} {u r : Value} {o : Option V} {A : Around} {E : Value → Shared → Prop}
end
section
variable {X : Cx} {o i e f value : Expr} {pos pos' tpos apos cpos : Pos} {td ty tv tx tk : TE}
end
section
variable {P : Program} {w w0 : World} {K : PySem.W.Frag} {tg : Expr} {d : Addr} {ep : Nat} {kvs : List (Key × V)}
end
section
variable {X : Cx} {tg e : Expr} {td : TE} {apos cpos : Pos}
end
end Pk
end
section
set_option Elab.async false
set_option linter.all false
set_option maxRecDepth 100000
set_option pp.maxSteps 1000
namespace Pk
open PySem PySem.Spec PyProof.Rows L2
section
variable {X : Cx} {pins : List (Addr × Obj)} {σ : L2.St} {H : Hp} {s : Shared} {a : Addr} {ep : Nat} {kvs : List (Key × V)} {y v : V} {u r : Value} {o : Option V} {A : Around} {E : Value → Shared → Prop}
end
section
variable {X : Cx} {o e f : Expr} {pos apos cpos : Pos} {t td ty tx : TE}
end
end Pk
end
section
set_option Elab.async false
set_option linter.all false
set_option maxRecDepth 100000
set_option pp.maxSteps 1000
namespace Pk
open PySem PySem.Spec PyProof.Rows L2
def fval (fs : FDs) (k : Key) : Option PyData := (fs.find? fun x => decide (x.1 = k)).map (·.2)
def fput (fs : FDs) (k : Key) (d : PyData) : FDs := if (fs.any fun x => decide (x.1 = k)) = true then fs.map (fun x => if x.1 = k then (x.1, d) else x) else fs ++ [(k, d)]
/-- entries and what they stand for -/
structure RpF (K : Kw) (F : Hp) (kvs : List (Key × V)) (fs : FDs) : Prop where
  ks : kvs.map (·.1) = fs.map (·.1)
  vs : RpA K F (kvs.map (·.2)) (fs.map (·.2))
section
variable {K : Kw} {F F' H : Hp}
theorem RpF.nil : RpF K F [] [] := ⟨rfl, .nil⟩
theorem RpF.mono {kvs : List (Key × V)} {fs : FDs} (r : RpF K F kvs fs) (e : Le F F') : RpF K F' kvs fs := ⟨r.ks, r.vs.mono e⟩
theorem RpF.length {kvs : List (Key × V)} {fs : FDs} (r : RpF K F kvs fs) : kvs.length = fs.length := by
  have := congrArg List.length r.ks
  rw [List.length_map, List.length_map] at this
  exact this
theorem RpF.unc {p : Key × V} {q : Key × PyData} {kvs : List (Key × V)} {fs : FDs} (r : RpF K F (p :: kvs) (q :: fs)) : p.1 = q.1 ∧ Rp K F p.2 q.2 ∧ RpF K F kvs fs := by
  obtain ⟨h1, h2⟩ := r
  rw [List.map_cons, List.map_cons] at h1 h2
  injection h1 with a b
  cases h2 with
  | cons x y => exact ⟨a, x, b, y⟩
theorem RpF.cons {p : Key × V} {q : Key × PyData} {kvs : List (Key × V)} {fs : FDs} (h : p.1 = q.1) (hv : Rp K F p.2 q.2) (r : RpF K F kvs fs) : RpF K F (p :: kvs) (q :: fs) :=
  ⟨by rw [List.map_cons, List.map_cons, h, r.ks], .cons hv r.vs⟩
theorem RpF.vSome {k : Key} {d : PyData} : ∀ {kvs : List (Key × V)} {fs : FDs}, RpF K F kvs fs → fval fs k = some d → ∃ v, valV kvs k = some v ∧ Rp K F v d
  | [], [], _, h => by simp [fval] at h
  | [], _ :: _, r, _ => by have := r.length; simp at this
  | _ :: _, [], r, _ => by have := r.length; simp at this
  | p :: kvs, q :: fs, r, h => by
    obtain ⟨a, b, c⟩ := r.unc
    by_cases e : q.1 = k
    · have : fval (q :: fs) k = some q.2 := by simp [fval, e]
      rw [this] at h
      cases h
      exact ⟨p.2, by simp [valV, a, e], b⟩
    · have : fval (q :: fs) k = fval fs k := by simp [fval, List.find?_cons, e]
      rw [this] at h
      obtain ⟨v, hv, rv⟩ := RpF.vSome c h
      refine ⟨v, ?_, rv⟩
      rw [← hv]
      simp [valV, List.find?_cons, a, e]
theorem RpF.vNone {k : Key} : ∀ {kvs : List (Key × V)} {fs : FDs}, RpF K F kvs fs → fval fs k = none → valV kvs k = none
  | [], [], _, h => rfl
  | [], _ :: _, r, _ => by have := r.length; simp at this
  | _ :: _, [], r, _ => by have := r.length; simp at this
  | p :: kvs, q :: fs, r, h => by
    obtain ⟨a, b, c⟩ := r.unc
    by_cases e : q.1 = k
    · have : fval (q :: fs) k = some q.2 := by simp [fval, e]
      rw [this] at h
      cases h
    · have : fval (q :: fs) k = fval fs k := by simp [fval, List.find?_cons, e]
      rw [this] at h
      rw [← RpF.vNone c h]
      simp [valV, List.find?_cons, a, e]
theorem RpF.anyK {k : Key} {kvs : List (Key × V)} {fs : FDs} (r : RpF K F kvs fs) : (kvs.any fun x => decide (x.1 = k)) = fs.any fun x => decide (x.1 = k) := by
  have e1 : (kvs.any fun x => decide (x.1 = k)) = (kvs.map (·.1)).any fun x => decide (x = k) := by rw [List.any_map]; rfl
  have e2 : (fs.any fun x => decide (x.1 = k)) = (fs.map (·.1)).any fun x => decide (x = k) := by rw [List.any_map]; rfl
  rw [e1, e2, r.ks]
theorem RpF.repl {k : Key} {v : V} {d : PyData} (hv : Rp K F v d) : ∀ {kvs : List (Key × V)} {fs : FDs}, RpF K F kvs fs → RpF K F (kvs.map fun x => if x.1 = k then (x.1, v) else x) (fs.map fun x => if x.1 = k then (x.1, d) else x)
  | [], [], _ => .nil
  | [], _ :: _, r => by have := r.length; simp at this
  | _ :: _, [], r => by have := r.length; simp at this
  | p :: kvs, q :: fs, r => by
    obtain ⟨a, b, c⟩ := r.unc
    rw [List.map_cons, List.map_cons]
    refine .cons ?_ ?_ (RpF.repl hv c)
    · rw [a]; split <;> simp [a]
    · rw [a]; split
      · exact hv
      · exact b
theorem RpF.snoc {k : Key} {v : V} {d : PyData} (hv : Rp K F v d) : ∀ {kvs : List (Key × V)} {fs : FDs}, RpF K F kvs fs → RpF K F (kvs ++ [(k, v)]) (fs ++ [(k, d)])
  | [], [], _ => .cons rfl hv .nil
  | [], _ :: _, r => by have := r.length; simp at this
  | _ :: _, [], r => by have := r.length; simp at this
  | p :: kvs, q :: fs, r => by
    obtain ⟨a, b, c⟩ := r.unc
    exact .cons a b (RpF.snoc hv c)
theorem RpF.put {k : Key} {v : V} {d : PyData} {kvs : List (Key × V)} {fs : FDs} (r : RpF K F kvs fs) (hv : Rp K F v d) : RpF K F (putK kvs k v) (fput fs k d) := by
  unfold putK fput
  rw [r.anyK]
  by_cases h : (fs.any fun x => decide (x.1 = k)) = true
  · rw [if_pos h, if_pos h]; exact r.repl hv
  · rw [if_neg h, if_neg h]; exact r.snoc hv
theorem RpF.get {kvs : List (Key × V)} {fs : FDs} (r : RpF K F kvs fs) {i : Nat} {k : Key} {v : V} (h : kvs[i]? = some (k, v)) : ∃ d, fs[i]? = some (k, d) ∧ Rp K F v d := by
  induction kvs generalizing fs i with
  | nil => simp at h
  | cons p kvs ih =>
    cases fs with
    | nil => have := r.length; simp at this
    | cons q fs =>
      obtain ⟨a, b, c⟩ := r.unc
      cases i with
      | zero =>
        simp at h
        subst h
        exact ⟨q.2, by simp; rw [show k = q.1 from a], b⟩
      | succ i =>
        obtain ⟨d, h1, h2⟩ := ih c (by simpa using h)
        exact ⟨d, by simpa using h1, h2⟩
end
section
variable {K : Kw} {m : Bool} {Γ : List Sl} {Q : PyData → Prop} {QX : Sl → Prop} {te ti tx td : TE}
end
section
variable {K : Kw} {m : Bool} {Γ : List Sl} {Q : PyData → Prop} {QX : Sl → Prop} {te ti tx td : TE} {P : Po}
end
end Pk
end
section
set_option Elab.async false
set_option linter.all false
set_option maxRecDepth 100000
set_option pp.maxSteps 1000
namespace Pk
open PySem PySem.Spec PyProof.Rows L2
section
variable {X : Cx} {pins : List (Addr × Obj)} {σ : L2.St} {H : Hp} {s : Shared} {d : Addr} {ep : Nat} {kvs : List (Key × V)}
end
section
variable {K : Kw} {m : Bool} {Γ : List Sl} {Q : PyData → Prop} {QX : Sl → Prop} {ta tb : TE}
end
end Pk
end
section
set_option Elab.async false
set_option linter.all false
set_option maxRecDepth 100000
set_option pp.maxSteps 1000
namespace Pk
open PySem PySem.Spec PyProof.Rows L2
section
variable {K : Kw} {m : Bool} {Γ : List Sl} {Q : PyData → Prop} {QX : Sl → Prop} {te : TE}
end
end Pk
end
section
set_option Elab.async false
set_option linter.all false
set_option maxRecDepth 100000
namespace Pk
open PySem PySem.Spec PyProof.Rows L2
/-- where a def stands that a global of another name holds -/
structure DefA (K : PySem.W.Frag) (mg : Str → Option Value) (x y : Str) (st : Stmt) (ps : List Str) : Prop where
  ex : ∃ f fd, mg x = some (.ref f) ∧ Fun K y y st f fd ∧ Binds K fd ps []
section
variable {P : Program} {K : Kw} {mg : Str → Option Value} {base : Heap}
end
end Pk
end
section
set_option Elab.async false
set_option linter.all false
set_option maxRecDepth 100000
set_option pp.maxSteps 1000
namespace Pk
open PySem PySem.Spec PyProof.Rows L2
section
variable {X : Cx} {pins : List (Addr × Obj)} {σ : L2.St} {H : Hp} {s : Shared}
end
section
variable {K : Kw} {m : Bool} {Γ : List Sl} {Q : PyData → Prop}
end
end Pk
end
section
set_option Elab.async false
set_option linter.all false
set_option maxRecDepth 100000
set_option pp.maxSteps 1000
namespace Pk
open PySem PySem.Spec PyProof.Rows L2
section
variable {K : Kw} {m : Bool} {Γ : List Sl} {Q : PyData → Prop} {te ti : TE}
end
end Pk
end
section
set_option Elab.async false
set_option linter.all false
set_option maxRecDepth 100000
set_option pp.maxSteps 1000
namespace Pk
open PySem PySem.Spec PyProof.Rows L2
/-- the same slots, own things told otherwise -/
structure SameEx (Γ Γ2 : List Sl) : Prop where
  len : Γ2.length = Γ.length
  at_ : ∀ i : Nat, Γ2[i]? = Γ[i]? ∨ ∃ v Φ Φ', Γ[i]? = some (Sl.ex v Φ) ∧ Γ2[i]? = some (Sl.ex v Φ')
section
variable {P : Program} {K : Kw} {mg : Str → Option Value} {base : Heap}
end
end Pk
end
section
set_option Elab.async false
set_option linter.all false
set_option maxRecDepth 100000
set_option pp.maxSteps 1000
namespace Pk
open PySem PySem.Spec PyProof.Rows L2
section
variable {K : Kw} {m : Bool} {Γ : List Sl} {t ta tb tc te : TE} {Q : PyData → List Sl → Prop} {QX : List Sl → Sl → Prop} {P : Po}
variable {tr : TA} {QA : List PyData → List Sl → Prop}
variable {T : List Sl → (List Sl → Sl → Prop) → Prop} {EE : XK}
variable {tt tu : TT} {QT : Bool → List Sl → Prop}
variable {wi : TI} {QI : List PyData → List Sl → Prop} {g : TG} {tbs : TS}
end
end Pk
end
section
set_option Elab.async false
set_option linter.all false
set_option maxRecDepth 100000
set_option pp.maxSteps 1000
namespace Pk
open PySem PySem.Spec PyProof.Rows L2
end Pk
end
section
set_option Elab.async false
set_option linter.all false
set_option maxRecDepth 100000
set_option pp.maxSteps 1000
namespace Pk
open PySem PySem.Spec PyProof.Rows L2
variable {K : Kw} {m : Bool} {Γ : List Sl} {te ti ta tb tk : TE} {Q : PyData → Prop}
end Pk
end
section
set_option Elab.async false
set_option linter.all false
set_option maxRecDepth 100000
set_option pp.maxSteps 1000
namespace PySem.W
open Lean Elab Tactic Meta PySem PySem.Calls PyProof.Rows PyProof.V PySem.Spec
section
variable {prog : Program} {w : World} {K : Type} [DecidableEq K] {knd : KeyKind prog w K} {A : Around} {E : Value → Shared → Prop} {s : Shared}
end
section
variable {prog : Program} {w : World} {K : Type} [DecidableEq K] {knd : HeapKind prog w K} {A : Around} {E : Value → Shared → Prop} {s : Shared}
inductive KeqHitsH {K : Type} [DecidableEq K] (prog : Program) (w : World) (A : Around) (s : Shared) (kb : List (K × Addr × Value)) : List (K × Addr × Value) → Bool → Prop
  | nil : KeqHitsH prog w A s kb [] true
  | miss {k : K} {p : Addr × Value} {r : List (K × Addr × Value)} : atKey kb k = none → KeqHitsH prog w A s kb ((k, p) :: r) false
  | hit {k : K} {p q : Addr × Value} {r : List (K × Addr × Value)} {e b : Bool} : atKey kb k = some q → SeqAt.EqP prog w A s p.2 q.2 e → KeqHitsH prog w A s kb r b → KeqHitsH prog w A s kb ((k, p) :: r) (e && b)
end
end PySem.W
namespace Pk
open PySem PySem.Spec PyProof.Rows L2
section
variable {X : Cx} {pins : List (Addr × Obj)} {σ : L2.St} {H : Hp} {s : Shared}
end
section
variable {K : Kw} {m : Bool} {Γ : List Sl} {Q : PyData → Prop}
end
end Pk
end
section
set_option Elab.async false
set_option linter.all false
set_option maxRecDepth 100000
set_option pp.maxSteps 1000
namespace Pk
open PySem PySem.Spec PyProof.Rows L2
variable {K : Kw} {m : Bool} {Γ : List Sl}
end Pk
end
section
set_option Elab.async false
set_option linter.all false
set_option maxRecDepth 100000
namespace Pk
open PySem PySem.Spec PyProof.Rows L2
section
variable {K : Kw} {m : Bool} {Γ : List Sl} {Q : PyData → Prop} {te ti : TE}
end
end Pk
end
section
set_option Elab.async false
set_option linter.all false
set_option maxRecDepth 100000
namespace Pk
open PySem PySem.Spec PyProof.Rows L2
section
variable {K : Kw} {Γ : List Sl}
open Classical in
theorem En.thawP {X : Bs} {F H : Hp} {σ : L2.St} (E : En X F H σ Γ) : ∃ F1, Le F F1 ∧ En X F1 H σ (Γ.map Sl.frz) ∧ ∀ F2 H2, Le F1 F2 → En X F2 H2 σ (Γ.map Sl.frz) → ∃ F3, Le F F3 ∧ En X F3 H2 σ Γ ∧ TupLe X.K F2 F3 ∧ ∀ a, F1 a = none → F3 a = F2 a := by
  obtain ⟨S, hs, hdj, ho⟩ := id E.sl
  let M : Addr → Prop := fun a => ∃ (i : Nat) (s : Sl), Γ[i]? = some s ∧ s.fz = true ∧ S i a
  have hML : ∀ {a}, M a → ∃ o, H a = some o ∧ Mo o = true := fun {a} ⟨i, s, h, f, sa⟩ => by
    have q := hs i s h
    cases s with
    | no => cases f
    | dat _ _ => cases f
    | ml m l ds =>
      obtain ⟨xs, _, hS, hl, _⟩ := q
      rw [(hS a).mp sa]
      exact ⟨.lst xs, hl, rfl⟩
    | ex v Φ =>
      obtain ⟨_, _, p⟩ := q
      cases hv : Φ.vw with
      | none => simp [Sl.fz, hv] at f
      | some d => exact (Φ.view E.le p hv).2 a sa
  have hMF : ∀ {a}, M a → F a = none := fun {a} ⟨i, s, h, f, sa⟩ => (ho i a sa).1
  have hMO : ∀ {a}, M a → X.own a := fun {a} ⟨i, s, h, f, sa⟩ => (ho i a sa).2.2
  let F1 : Hp := fun a => if M a then H a else F a
  have f1M : ∀ {a}, M a → F1 a = H a := fun h => if_pos h
  have f1N : ∀ {a}, ¬ M a → F1 a = F a := fun h => if_neg h
  have lf : Le F F1 := fun a o q => by
    by_cases h : M a
    · rw [hMF h] at q; cases q
    · rw [f1N h]; exact q
  have le1 : Le F1 H := fun a o q => by
    by_cases h : M a
    · rw [f1M h] at q; exact q
    · rw [f1N h] at q; exact E.le a o q
  have notM : ∀ {j : Nat} {a : Addr} {s : Sl}, Γ[j]? = some s → s.fz = false → S j a → ¬ M a := fun {j a s} hj hn sa ⟨i, u, h, f, si⟩ => by
    have := hdj i j a si sa
    subst this
    rw [h] at hj
    cases hj
    rw [f] at hn
    cases hn
  have frM : ∀ a o, X.H0 a = some o → ¬ X.S0 a → ¬ M a := fun a o e n h => by
    rcases hMO h with w | w
    · rw [w] at e; cases e
    · exact n w
  have frz_no : ∀ {s : Sl}, s.fz = false → s.frz = s := fun {s} h => by
    cases s with
    | no => rfl
    | dat _ _ => rfl
    | ml _ _ _ => cases h
    | ex v Φ =>
      cases hv : Φ.vw with
      | none => simp [Sl.frz, hv]
      | some d => simp [Sl.fz, hv] at h
  refine ⟨F1, lf, ⟨le1, by simp [E.len], ⟨fun i a => (∀ s, Γ[i]? = some s → s.fz = false) ∧ i < Γ.length ∧ S i a, fun i s e => ?_, fun i j a h1 h2 => hdj i j a h1.2.2 h2.2.2, fun i a h1 => ?_⟩, fun a o e n => ⟨(E.fr a o e n).1, (f1N (frM a o e n)).trans (E.fr a o e n).2⟩, E.f0.tr lf, E.nn⟩, fun F2 H2 l2 E2 => ?_⟩
  · rw [List.getElem?_map] at e
    cases hg : Γ[i]? with
    | none => rw [hg] at e; cases e
    | some u =>
      rw [hg] at e
      cases e
      have hi : i < Γ.length := (List.getElem?_eq_some_iff.mp hg).1
      cases hf : u.fz with
      | false =>
        rw [frz_no hf]
        have eS : (fun a => (∀ s, Γ[i]? = some s → s.fz = false) ∧ i < Γ.length ∧ S i a) = S i := by
          funext a
          exact propext ⟨fun z => z.2.2, fun z => ⟨fun s w => (by rw [hg] at w; cases w; exact hf), hi, z⟩⟩
        show SlOk X F1 H _ (fun a => (∀ s, Γ[i]? = some s → s.fz = false) ∧ i < Γ.length ∧ S i a) u
        rw [eS]
        exact (hs i u hg).mono lf fun _ _ => rfl
      | true =>
        have none_ : ∀ a, ¬ ((∀ s, Γ[i]? = some s → s.fz = false) ∧ i < Γ.length ∧ S i a) := fun a z => by
          have := z.1 u hg
          rw [hf] at this
          cases this
        cases u with
        | no => cases hf
        | dat _ _ => cases hf
        | ml m l ds =>
          obtain ⟨xs, e0, hS, hl, r, _⟩ := hs i _ hg
          exact ⟨⟨_, e0, .lst ((f1M ⟨i, _, hg, rfl, (hS l).mpr rfl⟩).trans hl) (r.mono ((X.ff_le F m).tr lf))⟩, none_⟩
        | ex v Φ =>
          obtain ⟨e0, hk, p⟩ := hs i _ hg
          cases hv : Φ.vw with
          | none => simp [Sl.fz, hv] at hf
          | some d =>
            have rv := (Φ.view E.le p hv).1
            have ll : Le (lay (S i) H F) F1 := fun a o q => by
              unfold lay at q
              by_cases sa : S i a
              · rw [if_pos sa] at q
                rw [f1M ⟨i, _, hg, hf, sa⟩]
                exact q
              · rw [if_neg sa] at q
                exact lf a o q
            have ef : (Sl.ex v Φ).frz = .dat false d := by simp [Sl.frz, hv]
            rw [ef]
            refine ⟨⟨v, e0, ?_⟩, none_⟩
            rw [← hk]
            exact rv.mono ll
  · obtain ⟨n1, hi, sa⟩ := h1
    have hg : Γ[i]? = some Γ[i] := List.getElem?_eq_getElem hi
    have nM : ¬ M a := notM hg (n1 _ hg) sa
    exact ⟨(f1N nM).trans (ho i a sa).1, (ho i a sa).2⟩
  · obtain ⟨S2, hs2, hdj2, ho2⟩ := id E2.sl
    let F3 : Hp := fun a => if M a then none else F2 a
    have f3M : ∀ {a}, M a → F3 a = none := fun h => if_pos h
    have f3N : ∀ {a}, ¬ M a → F3 a = F2 a := fun h => if_neg h
    have l3 : Le F F3 := fun a o q => by
      by_cases h : M a
      · rw [hMF h] at q; cases q
      · rw [f3N h]; exact l2 a o (lf a o q)
    have h2M : ∀ {a}, M a → F2 a = H a ∧ H2 a = H a := fun {a} h => by
      obtain ⟨o, hx, _⟩ := hML h
      have := l2 a _ ((f1M h).trans hx)
      rw [hx]
      exact ⟨this, E2.le _ _ this⟩
    have s2M : ∀ {i a}, S2 i a → ¬ M a := fun {i a} sa h => by
      obtain ⟨o, hx, _⟩ := hML h
      have := (h2M h).1
      rw [(ho2 i a sa).1, hx] at this; cases this
    have tl : TupLe X.K F2 F3 := by
      refine ⟨fun a xs h => ?_, fun a fs h => by
        rw [f3N]
        · exact h
        · intro z
          obtain ⟨o, hx, hm⟩ := hML z
          rw [(h2M z).1, hx] at h; cases h; cases hm⟩
      rcases h with (h | ⟨o, h⟩) | h
      · refine .inl (.inl ?_)
        rw [f3N]
        · exact h
        · intro z
          obtain ⟨o, hx, hm⟩ := hML z
          rw [(h2M z).1, hx] at h; cases h; cases hm
      · refine .inl (.inr ⟨o, ?_⟩)
        rw [f3N]
        · exact h
        · intro z
          obtain ⟨o, hx, hm⟩ := hML z
          rw [(h2M z).1, hx] at h; cases h; cases hm
      · exact .inr h
    refine ⟨F3, l3, ⟨fun a o q => ?_, E.len, ⟨fun i a => (∃ s, Γ[i]? = some s ∧ s.fz = true ∧ S i a) ∨ (∃ s, Γ[i]? = some s ∧ s.fz = false ∧ S2 i a), fun i s e => ?_, fun i j a h1 h2 => ?_, fun i a h1 => ?_⟩, fun a o e n => ⟨(E2.fr a o e n).1, (f3N (frM a o e n)).trans (E2.fr a o e n).2⟩, E.f0.tr l3, E2.nn⟩, tl, fun a h => f3N fun z => by obtain ⟨o, hx, _⟩ := hML z; rw [f1M z, hx] at h; cases h⟩
    · by_cases h : M a
      · rw [f3M h] at q; cases q
      · rw [f3N h] at q; exact E2.le a o q
    · cases hf : s.fz with
      | true =>
        have eS : (fun a => (∃ s, Γ[i]? = some s ∧ s.fz = true ∧ S i a) ∨ (∃ s, Γ[i]? = some s ∧ s.fz = false ∧ S2 i a)) = S i := by
          funext a
          apply propext
          constructor
          · rintro (⟨u, z, _, w⟩ | ⟨u, z, w, _⟩)
            · exact w
            · rw [e] at z; cases z; rw [hf] at w; cases w
          · intro z; exact .inl ⟨s, e, hf, z⟩
        show SlOk X F3 H2 _ (fun a => (∃ s, Γ[i]? = some s ∧ s.fz = true ∧ S i a) ∨ (∃ s, Γ[i]? = some s ∧ s.fz = false ∧ S2 i a)) _
        rw [eS]
        exact (hs i s e).mono l3 fun a sa => (h2M ⟨i, s, e, hf, sa⟩).2
      | false =>
        have q := hs2 i s (by rw [List.getElem?_map, e]; exact congrArg some (frz_no hf))
        have eS : (fun a => (∃ s, Γ[i]? = some s ∧ s.fz = true ∧ S i a) ∨ (∃ s, Γ[i]? = some s ∧ s.fz = false ∧ S2 i a)) = S2 i := by
          funext a
          apply propext
          constructor
          · rintro (⟨u, z, w, _⟩ | ⟨u, z, _, w⟩)
            · rw [e] at z; cases z; rw [hf] at w; cases w
            · exact w
          · intro z; exact .inr ⟨s, e, hf, z⟩
        show SlOk X F3 H2 _ (fun a => (∃ s, Γ[i]? = some s ∧ s.fz = true ∧ S i a) ∨ (∃ s, Γ[i]? = some s ∧ s.fz = false ∧ S2 i a)) _
        rw [eS]
        cases s with
        | no => exact q
        | dat m d =>
          obtain ⟨⟨v, e0, r⟩, n⟩ := hs i _ e
          exact ⟨⟨v, e0, Bs.mo r l3⟩, q.2⟩
        | ml _ _ _ => cases hf
        | ex v Φ =>
          obtain ⟨e0, hk, p⟩ := q
          exact ⟨e0, hk, Φ.keepT (by
            cases hv : Φ.vw with
            | none => rfl
            | some d => simp [Sl.fz, hv] at hf) p (by rw [hk]; exact tl) fun _ _ => rfl⟩
    · rcases h1 with ⟨s1, e1, f1, z1⟩ | ⟨s1, e1, f1, z1⟩ <;> rcases h2 with ⟨s2, e2, f2, z2⟩ | ⟨s2, e2, f2, z2⟩
      · exact hdj i j a z1 z2
      · exact absurd ⟨i, s1, e1, f1, z1⟩ (s2M z2)
      · exact absurd ⟨j, s2, e2, f2, z2⟩ (s2M z1)
      · exact hdj2 i j a z1 z2
    · rcases h1 with ⟨s1, e1, f1, z1⟩ | ⟨s1, e1, f1, z1⟩
      · have hm : M a := ⟨i, s1, e1, f1, z1⟩
        exact ⟨f3M hm, by rw [(h2M hm).2]; exact (ho i a z1).2.1, (ho i a z1).2.2⟩
      · exact ⟨(f3N (s2M z1)).trans (ho2 i a z1).1, (ho2 i a z1).2⟩
theorem wd_thawL {t : TE} {Q : PyData → Prop} (h : WX K (Γ.map Sl.frz) t fun s => ∃ l ds, s = .ml false l ds ∧ lfA ds = true ∧ Q (.list ds)) : WD K false Γ t Q := fun X hK F H σ E C k => by
  obtain ⟨F1, lf, E1, back⟩ := E.thawP
  refine h X hK F1 H σ E1 C fun v F2 H2 s l2 E2 ⟨l, ds, es, fl, q⟩ => ?_
  subst es
  have hlen : σ.length = Γ.length := E.len
  have hi : ((Γ.map Sl.frz) ++ [Sl.ml false l ds])[(Γ.map Sl.frz).length]? = some (.ml false l ds) := by simp
  obtain ⟨xs, e1, hl, fl2, rx⟩ := E2.ml hi
  have ev : v = .ref l := by
    rw [List.length_map, ← hlen] at e1
    simpa using e1
  subst ev
  obtain ⟨F4, l4, E4, r4⟩ := lastFreeze (m := false) (d := .list ds) (by simp [Sl.toD]) E2
  obtain ⟨F3, l3, E3, tl, ag⟩ := back F4 H2 (l2.tr l4) E4
  have f1l : F1 l = none := by
    cases e : F1 l with
    | none => rfl
    | some o => rw [l2 _ _ e] at fl2; cases fl2
  have hK' := hK
  subst hK'
  have r4' : Rp X.K F4 (.ref l) (.list ds) := r4
  have r3 : Rp X.K F3 (.ref l) (.list ds) := by
    cases r4' with
    | lst ha ra => exact .lst ((ag l f1l).trans ha) (RpA.lfree tl ds fl ra)
  exact k (.ref l) F3 H2 _ l3 E3 r3 q
end
end Pk
end
section
set_option Elab.async false
set_option linter.all false
set_option maxRecDepth 100000
namespace Pk
open PySem PySem.Spec PyProof.Rows L2
/-- pairs that can be sorted by their first ones -/
structure PrD (ps : List (PyData × PyData)) : Prop where
  nd : ps.Nodup
  key : ∀ p ∈ ps, ∀ q ∈ ps, p = q ∨ (PySem.W.alike p.1 q.1 = true ∧ PyData.eqv p.1 q.1 = false)
  self : ∀ p ∈ ps, PySem.W.alike p.1 p.1 = true ∧ PySem.W.alike p.2 p.2 = true
  tup : ∀ p ∈ ps, ∃ xs, p.1 = .tuple xs
  dep : ∀ p ∈ ps, p.1.depth ≤ 50 ∧ p.2.depth ≤ 50
  lay : (PyData.list (ps.map fun p => .tuple [p.1, p.2])).canLay0 = true
  len : ps.length ≤ 100000
section
variable {K : Kw} {m : Bool} {Γ : List Sl} {Q : PyData → Prop} {QX : Sl → Prop} {ta : TE}
end
end Pk
end
section
set_option Elab.async false
set_option linter.all false
set_option maxRecDepth 100000
set_option pp.maxSteps 1000
namespace Pk
open PySem PySem.Spec PyProof.Rows L2

mutual
/-- the addresses that are told -/
def ad : PyData → List Addr
  | .tuple ds => adA ds
  | .list ds => adA ds
  | .dict [(.none, .bool false), (.int a, .list ds)] => a.toNat :: adA ds
  | .dict ((.none, .none) :: r) => adP r
  | .dict ((.none, .bool true) :: r) => adP r
  | _ => []
def adA : List PyData → List Addr
  | [] => []
  | d :: ds => ad d ++ adA ds
def adP : List (PyData × PyData) → List Addr
  | [] => []
  | (_, d) :: r => ad d ++ adP r
end
mutual
/-- the data without addresses -/
def pl : PyData → PyData
  | .tuple ds => .tuple (plA ds)
  | .list ds => .list (plA ds)
  | .dict [(.none, .bool false), (.int _, .list ds)] => .list (plA ds)
  | d => d
def plA : List PyData → List PyData
  | [] => []
  | d :: ds => pl d :: plA ds
end
mutual
/-- all lists are told with their addresses -/
def npl : PyData → Bool
  | .tuple ds => nplA ds
  | .list _ => false
  | .dict [(.none, .bool false), (.int _, .list ds)] => nplA ds
  | .dict _ => false
  | _ => true
def nplA : List PyData → Bool
  | [] => true
  | d :: ds => npl d && nplA ds
end
mutual
/-- the list at a changed -/
def mA (a : Addr) (f : List PyData → List PyData) : PyData → PyData
  | .tuple ds => .tuple (mAs a f ds)
  | .dict [(.none, .bool false), (.int b, .list ds)] => .dict [(.none, .bool false), (.int b, .list (if b = (a : Int) then f (mAs a f ds) else mAs a f ds))]
  | d => d
def mAs (a : Addr) (f : List PyData → List PyData) : List PyData → List PyData
  | [] => []
  | d :: ds => mA a f d :: mAs a f ds
end
/-- a list at a, of es, is in it -/
inductive Oc (a : Addr) (es : List PyData) : PyData → Prop
  | here : Oc a es (listAt a es)
  | tup {d : PyData} {ds : List PyData} : d ∈ ds → Oc a es d → Oc a es (.tuple ds)
  | lst {b : Addr} {d : PyData} {ds : List PyData} : d ∈ ds → Oc a es d → Oc a es (listAt b ds)
theorem ad_at {a : Addr} {ds : List PyData} : ad (listAt a ds) = a :: adA ds := by simp [ad]
theorem ad_tup {ds : List PyData} : ad (.tuple ds) = adA ds := by simp [ad]
theorem adA_nil : adA [] = [] := by simp [adA]
theorem adA_cons {d : PyData} {ds : List PyData} : adA (d :: ds) = ad d ++ adA ds := by simp [adA]
theorem adA_append : ∀ {xs ys : List PyData}, adA (xs ++ ys) = adA xs ++ adA ys
  | [], ys => by simp [adA]
  | x :: xs, ys => by rw [List.cons_append, adA_cons, adA_append, adA_cons, List.append_assoc]
theorem adP_map {α : Type} {f : α → PyData} {g : α → PyData} : ∀ {xs : List α}, adP (xs.map fun x => (f x, g x)) = adA (xs.map g)
  | [] => by simp [adP, adA]
  | x :: xs => by rw [List.map_cons, List.map_cons, adP, adA, adP_map]
theorem ad_dictN {ds : NDs} : ad (dictN ds) = adA (ds.map (·.2)) := by
  have : ad (dictN ds) = adP (ds.map fun x => (x.1.data, x.2)) := by simp [ad]
  rw [this, adP_map]
theorem ad_dictF {fs : FDs} : ad (dictF fs) = adA (fs.map (·.2)) := by
  have : ad (dictF fs) = adP (fs.map fun x => (kD x.1, x.2)) := by simp [ad]
  rw [this, adP_map]
theorem adA_flat {ds : List PyData} : adA ds = ds.flatMap ad := by
  induction ds with
  | nil => simp [adA]
  | cons d ds ih => rw [adA_cons, ih]; simp
theorem mem_adA {ds : List PyData} {d : PyData} {a : Addr} (h : d ∈ ds) (k : a ∈ ad d) : a ∈ adA ds := by
  rw [adA_flat]; exact List.mem_flatMap.mpr ⟨d, h, k⟩
theorem pl_at {a : Addr} {ds : List PyData} : pl (listAt a ds) = .list (plA ds) := by simp [pl]
theorem pl_tup {ds : List PyData} : pl (.tuple ds) = .tuple (plA ds) := by simp [pl]
theorem plA_map {ds : List PyData} : plA ds = ds.map pl := by
  induction ds with
  | nil => simp [plA]
  | cons d ds ih => rw [plA, ih]; rfl
theorem pl_dict {ds : List (PyData × PyData)} (h : isLid ds = false) : pl (.dict ds) = .dict ds := by
  unfold pl
  split <;> first | rfl | (rename_i e; cases e; done) | skip
  all_goals (rename_i e; injection e with e; subst e; cases h)
theorem ad_dct {kvs : List (Key × V)} {ds : List (PyData × PyData)} (t : flatDs ds = true → kvs.map kvD = ds) : ad (.dict ds) = [] := by
  cases hm : isMk ds with
  | true =>
    exfalso
    have e := t (by simp [flatDs, hm])
    rw [← e] at hm
    cases kvs with
    | nil => cases hm
    | cons p q =>
      obtain ⟨k, u⟩ := p
      cases k <;> cases hm
  | false =>
    unfold ad
    split <;> first | rfl | (rename_i e; cases e; done) | (rename_i e; injection e with e; subst e; cases hm; done) | (exfalso; simp_all; done)
theorem npl_tup {ds : List PyData} : npl (.tuple ds) = nplA ds := by simp [npl]
theorem npl_at {a : Addr} {ds : List PyData} : npl (listAt a ds) = nplA ds := by simp [npl]
theorem npl_dict {ds : List (PyData × PyData)} (h : isLid ds = false) : npl (.dict ds) = false := by
  unfold npl
  split <;> first | rfl | (rename_i e; cases e; done) | (rename_i e; injection e with e; subst e; cases h; done) | (exfalso; simp_all; done)
theorem nplA_all {ds : List PyData} : nplA ds = ds.all npl := by
  induction ds with
  | nil => simp [nplA]
  | cons d ds ih => rw [nplA, ih]; rfl
theorem mA_tup {a : Addr} {f : List PyData → List PyData} {ds : List PyData} : mA a f (.tuple ds) = .tuple (mAs a f ds) := by simp [mA]
theorem mA_at {a b : Addr} {f : List PyData → List PyData} {ds : List PyData} : mA a f (listAt b ds) = listAt b (if b = a then f (mAs a f ds) else mAs a f ds) := by
  unfold mA
  by_cases h : b = a
  · subst h; simp
  · have : ¬ ((b : Int) = (a : Int)) := fun z => h (by exact_mod_cast z)
    simp [h, this]
theorem mAs_map {a : Addr} {f : List PyData → List PyData} {ds : List PyData} : mAs a f ds = ds.map (mA a f) := by
  induction ds with
  | nil => simp [mAs]
  | cons d ds ih => rw [mAs, ih]; rfl
mutual
theorem pl_lf : ∀ d : PyData, lf d = true → pl d = d
  | .none, _ => by simp [pl]
  | .bool _, _ => by simp [pl]
  | .int _, _ => by simp [pl]
  | .str _, _ => by simp [pl]
  | .list _, h => by simp [lf] at h
  | .dict _, h => by simp [lf] at h
  | .tuple ds, h => by rw [pl_tup, plA_lf ds (by simpa [lf] using h)]
theorem plA_lf : ∀ ds : List PyData, lfA ds = true → plA ds = ds
  | [], _ => by simp [plA]
  | d :: ds, h => by
    have h' : lf d = true ∧ lfA ds = true := by simpa [lfA] using h
    rw [plA, pl_lf d h'.1, plA_lf ds h'.2]
end
mutual
theorem ad_lf : ∀ d : PyData, lf d = true → ad d = []
  | .none, _ => by simp [ad]
  | .bool _, _ => by simp [ad]
  | .int _, _ => by simp [ad]
  | .str _, _ => by simp [ad]
  | .list _, h => by simp [lf] at h
  | .dict _, h => by simp [lf] at h
  | .tuple ds, h => by rw [ad_tup, adA_lf ds (by simpa [lf] using h)]
theorem adA_lf : ∀ ds : List PyData, lfA ds = true → adA ds = []
  | [], _ => by simp [adA]
  | d :: ds, h => by
    have h' : lf d = true ∧ lfA ds = true := by simpa [lfA] using h
    rw [adA, ad_lf d h'.1, adA_lf ds h'.2]; rfl
end
mutual
theorem npl_lf : ∀ d : PyData, lf d = true → npl d = true
  | .none, _ => by simp [npl]
  | .bool _, _ => by simp [npl]
  | .int _, _ => by simp [npl]
  | .str _, _ => by simp [npl]
  | .list _, h => by simp [lf] at h
  | .dict _, h => by simp [lf] at h
  | .tuple ds, h => by rw [npl_tup, nplA_lf ds (by simpa [lf] using h)]
theorem nplA_lf : ∀ ds : List PyData, lfA ds = true → nplA ds = true
  | [], _ => by simp [nplA]
  | d :: ds, h => by
    have h' : lf d = true ∧ lfA ds = true := by simpa [lfA] using h
    simp only [nplA, Bool.and_eq_true]
    exact ⟨npl_lf d h'.1, nplA_lf ds h'.2⟩
end
mutual
theorem mA_lf {a : Addr} {f : List PyData → List PyData} : ∀ d : PyData, lf d = true → mA a f d = d
  | .none, _ => by simp [mA]
  | .bool _, _ => by simp [mA]
  | .int _, _ => by simp [mA]
  | .str _, _ => by simp [mA]
  | .list _, h => by simp [lf] at h
  | .dict _, h => by simp [lf] at h
  | .tuple ds, h => by rw [mA_tup, mAs_lf ds (by simpa [lf] using h)]
theorem mAs_lf {a : Addr} {f : List PyData → List PyData} : ∀ ds : List PyData, lfA ds = true → mAs a f ds = ds
  | [], _ => by simp [mAs]
  | d :: ds, h => by
    have h' : lf d = true ∧ lfA ds = true := by simpa [lfA] using h
    rw [mAs, mA_lf d h'.1, mAs_lf ds h'.2]
end
theorem lfA_of {ds : List PyData} (h : ∀ d ∈ ds, lf d = true) : lfA ds = true := by
  induction ds with
  | nil => simp [lfA]
  | cons d ds ih =>
    simp only [lfA, Bool.and_eq_true]
    exact ⟨h d List.mem_cons_self, ih fun x hx => h x (List.mem_cons_of_mem _ hx)⟩
theorem Oc.ad {a : Addr} {es : List PyData} {d : PyData} (h : Oc a es d) : a ∈ ad d := by
  induction h with
  | here => rw [ad_at]; exact List.mem_cons_self
  | tup m _ ih => rw [ad_tup]; exact mem_adA m ih
  | lst m _ ih => rw [ad_at]; exact List.mem_cons_of_mem _ (mem_adA m ih)
section
variable {K : Kw} {F G H : Hp}
/-- what is read may be read without addresses -/
theorem Rp.pl {v : V} {d : PyData} (h : Rp K F v d) : Rp K F v (pl d) :=
  Rp.rec (motive_1 := fun v d _ => Rp K F v (Pk.pl d)) (motive_2 := fun vs ds _ => RpA K F vs (plA ds)) (motive_3 := fun _ _ _ => True)
    (by simp only [Pk.pl]; exact .non) (fun b => by simp only [Pk.pl]; exact .bl b) (fun i => by simp only [Pk.pl]; exact .int i) (fun x => by simp only [Pk.pl]; exact .str x)
    (fun h _ ih => by simp only [Pk.pl]; exact .lst h ih) (fun h _ ih => by simp only [Pk.pl]; exact .tup h ih)
    (fun h t => by rw [pl_dict (isLid_no t)]; exact .dct h t)
    (fun h r _ => by rw [pl_dict (by rfl)]; exact .dcn h r)
    (fun h k r _ => by rw [pl_dict (by rfl)]; exact .dcf h k r)
    (fun h _ ih => by rw [pl_at]; exact .lst h ih)
    (by simp only [plA]; exact .nil) (fun _ _ a b => by simp only [plA]; exact .cons a b) trivial (fun _ _ _ _ _ _ => trivial) h
/-- the lists that are told stand there -/
theorem Rp.ad {v : V} {d : PyData} (h : Rp K F v d) : ∀ a ∈ ad d, ∃ xs, F a = some (.lst xs) :=
  Rp.rec (motive_1 := fun v d _ => ∀ a ∈ Pk.ad d, ∃ xs, F a = some (.lst xs)) (motive_2 := fun vs ds _ => ∀ a ∈ adA ds, ∃ xs, F a = some (.lst xs)) (motive_3 := fun _ ds _ => ∀ a ∈ adA (ds.map (·.2)), ∃ xs, F a = some (.lst xs))
    (by simp [Pk.ad]) (fun b => by simp [Pk.ad]) (fun i => by simp [Pk.ad]) (fun x => by simp [Pk.ad])
    (fun h _ ih => by simp only [Pk.ad]; exact ih) (fun h _ ih => by simp only [Pk.ad]; exact ih)
    (fun h t => by rw [ad_dct t]; simp)
    (fun h r ih => by rw [ad_dictN]; exact ih)
    (fun h k r ih => by rw [ad_dictF]; exact ih)
    (fun {a xs ds} h _ ih => by
      intro b hb
      rw [ad_at] at hb
      rcases List.mem_cons.mp hb with z | z
      · subst z; exact ⟨xs, h⟩
      · exact ih b z)
    (by simp [adA]) (fun _ _ a b => by
      intro c hc
      rw [adA_cons] at hc
      rcases List.mem_append.mp hc with z | z
      · exact a c z
      · exact b c z) (by simp [adA]) (fun _ _ _ _ b d => by
      intro c hc
      rw [List.map_cons, adA_cons] at hc
      rcases List.mem_append.mp hc with z | z
      · exact b c z
      · exact d c z) h
theorem RpA.ad : ∀ {vs : List V} {ds : List PyData}, RpA K F vs ds → ∀ a ∈ adA ds, ∃ xs, F a = some (.lst xs)
  | [], [], _ => by simp [adA]
  | _ :: _, [], h => by cases h
  | [], _ :: _, h => by cases h
  | _ :: vs, d :: ds, h => by
    cases h with
    | cons a b =>
      intro c hc
      rw [adA_cons] at hc
      rcases List.mem_append.mp hc with z | z
      · exact Rp.ad a c z
      · exact RpA.ad b c z
theorem Rp.at_inv {v : V} {a : Addr} {ds : List PyData} (h : Rp K F v (listAt a ds)) : ∃ xs, v = .ref a ∧ F a = some (.lst xs) ∧ RpA K F xs ds := by
  rcases h.dict_inv with ⟨b, kvs, rfl, ha, t⟩ | ⟨b, ep, es, ds', rfl, ez, ha, r⟩ | ⟨_, _, _, _, _, ez, _⟩ | ⟨b, xs, es, rfl, ez, ha, r⟩
  · have e := isLid_no t
    cases e
  · simp at ez
  · simp at ez
  · simp only [List.cons.injEq, Prod.mk.injEq, PyData.int.injEq, PyData.list.injEq, true_and, and_true] at ez
    obtain ⟨e1, e2⟩ := ez
    have : a = b := by exact_mod_cast e1
    subst this e2
    exact ⟨xs, rfl, ha, r⟩
theorem RpA.mem {vs : List V} {ds : List PyData} {d : PyData} (h : RpA K F vs ds) (m : d ∈ ds) : ∃ v ∈ vs, Rp K F v d := by
  obtain ⟨i, hi⟩ := List.getElem?_of_mem m
  obtain ⟨v, hv, r⟩ := h.get hi
  exact ⟨v, List.mem_of_getElem? hv, r⟩
theorem Rp.oc {a : Addr} {es : List PyData} {d : PyData} (o : Oc a es d) : ∀ {v : V}, Rp K F v d → ∃ xs, F a = some (.lst xs) ∧ RpA K F xs es := by
  induction o with
  | here => intro v h; obtain ⟨xs, _, h1, h2⟩ := h.at_inv; exact ⟨xs, h1, h2⟩
  | tup m _ ih =>
    intro v h
    cases h with
    | tup a b => obtain ⟨u, _, r⟩ := b.mem m; exact ih r
  | lst m _ ih =>
    intro v h
    obtain ⟨xs, _, _, b⟩ := h.at_inv
    obtain ⟨u, _, r⟩ := b.mem m
    exact ih r
theorem tupLe_upd {K : PySem.W.Frag} {a : Addr} {xs ys : List V} (ha : G a = some (.lst xs)) : TupLe K G (upd G a (.lst ys)) := by
  have ne : ∀ {b : Addr} {o : HO}, G b = some o → (∀ zs, o ≠ .lst zs) → b ≠ a := fun {b o} h no e => by
    subst e; rw [ha] at h; cases h; exact no _ rfl
  refine ⟨fun b zs h => ?_, fun b fs h => by rw [upd_ne (ne h fun _ w => nomatch w)]; exact h⟩
  rcases h with (h | ⟨o, h⟩) | h
  · exact .inl (.inl (by rw [upd_ne (ne h fun _ w => nomatch w)]; exact h))
  · exact .inl (.inr ⟨o, by rw [upd_ne (ne h fun _ w => nomatch w)]; exact h⟩)
  · exact .inr h
/-- a list that is told by its address is changed -/
theorem Rp.mut {a : Addr} {xs ys : List V} {f : List PyData → List PyData} (ha : G a = some (.lst xs)) (hf : ∀ ds, RpA K (upd G a (.lst ys)) xs ds → RpA K (upd G a (.lst ys)) ys (f ds)) {v : V} {d : PyData} (h : Rp K G v d) : npl d = true → Rp K (upd G a (.lst ys)) v (mA a f d) :=
  Rp.rec (motive_1 := fun v d _ => npl d = true → Rp K (upd G a (.lst ys)) v (mA a f d)) (motive_2 := fun vs ds _ => nplA ds = true → RpA K (upd G a (.lst ys)) vs (mAs a f ds)) (motive_3 := fun _ _ _ => True)
    (fun _ => by simp only [mA]; exact .non) (fun b _ => by simp only [mA]; exact .bl b) (fun i _ => by simp only [mA]; exact .int i) (fun x _ => by simp only [mA]; exact .str x)
    (fun h _ ih n => by simp [npl] at n) (fun h _ ih n => by rw [mA_tup]; rw [npl_tup] at n; exact .tup ((tupLe_upd ha).1 _ _ h) (ih n))
    (fun h t n => by rw [npl_dict (isLid_no t)] at n; cases n)
    (fun h r _ n => by rw [npl_dict (by rfl)] at n; cases n)
    (fun h k r _ n => by rw [npl_dict (by rfl)] at n; cases n)
    (fun {b zs ds} h _ ih n => by
      rw [mA_at]
      rw [npl_at] at n
      have r := ih n
      by_cases e : b = a
      · subst e
        rw [if_pos rfl]
        rw [ha] at h
        cases h
        exact .lid upd_same (hf _ r)
      · rw [if_neg e]
        exact .lid (by rw [upd_ne e]; exact h) r)
    (fun _ => by simp only [mAs]; exact .nil) (fun {v vs d ds} _ _ p q n => by
      simp only [nplA, Bool.and_eq_true] at n
      simp only [mAs]
      exact .cons (p n.1) (q n.2)) trivial (fun _ _ _ _ _ _ => trivial) h
end
mutual
theorem ad_mA {a : Addr} {f : List PyData → List PyData} (hf : ∀ ds, ∀ b ∈ adA (f ds), b ∈ adA ds) : ∀ d : PyData, ∀ b ∈ ad (mA a f d), b ∈ ad d
  | .none, b, h => by simp [mA] at h; exact h
  | .bool _, b, h => by simp [mA] at h; exact h
  | .int _, b, h => by simp [mA] at h; exact h
  | .str _, b, h => by simp [mA] at h; exact h
  | .list _, b, h => by simp [mA] at h; exact h
  | .tuple ds, b, h => by
    rw [mA_tup, ad_tup] at h
    rw [ad_tup]
    exact ad_mAs hf ds b h
  | .dict ds, b, h => by
    unfold mA at h
    split at h
    · rename_i e; cases e
    · rename_i c es e
      injection e with e
      subst e
      simp only [ad] at h ⊢
      rcases List.mem_cons.mp h with z | z
      · rw [z]; exact List.mem_cons_self
      · refine List.mem_cons_of_mem _ ?_
        split at z
        · exact ad_mAs hf es b (hf _ b z)
        · exact ad_mAs hf es b z
    · exact h
theorem ad_mAs {a : Addr} {f : List PyData → List PyData} (hf : ∀ ds, ∀ b ∈ adA (f ds), b ∈ adA ds) : ∀ ds : List PyData, ∀ b ∈ adA (mAs a f ds), b ∈ adA ds
  | [], b, h => by simp [mAs] at h; exact h
  | d :: ds, b, h => by
    rw [mAs, adA_cons] at h
    rw [adA_cons]
    rcases List.mem_append.mp h with z | z
    · exact List.mem_append.mpr (.inl (ad_mA hf d b z))
    · exact List.mem_append.mpr (.inr (ad_mAs hf ds b z))
end
mutual
theorem npl_mA {a : Addr} {f : List PyData → List PyData} (hf : ∀ ds, nplA ds = true → nplA (f ds) = true) : ∀ d : PyData, npl d = true → npl (mA a f d) = true
  | .none, h => by simp [mA, npl]
  | .bool _, h => by simp [mA, npl]
  | .int _, h => by simp [mA, npl]
  | .str _, h => by simp [mA, npl]
  | .list _, h => by simp [npl] at h
  | .tuple ds, h => by
    rw [mA_tup, npl_tup]
    rw [npl_tup] at h
    exact npl_mAs hf ds h
  | .dict ds, h => by
    unfold mA
    split
    · rename_i e; cases e
    · rename_i c es e
      injection e with e
      subst e
      have n : nplA es = true := by simpa [npl] using h
      simp only [npl]
      split
      · exact hf _ (npl_mAs hf es n)
      · exact npl_mAs hf es n
    · exact h
theorem npl_mAs {a : Addr} {f : List PyData → List PyData} (hf : ∀ ds, nplA ds = true → nplA (f ds) = true) : ∀ ds : List PyData, nplA ds = true → nplA (mAs a f ds) = true
  | [], _ => by simp [mAs, nplA]
  | d :: ds, h => by
    simp only [nplA, Bool.and_eq_true] at h
    simp only [mAs, nplA, Bool.and_eq_true]
    exact ⟨npl_mA hf d h.1, npl_mAs hf ds h.2⟩
end
section
variable {K : Kw} {F G H : Hp}
/-- what is told by its addresses is read where these lists stand -/
theorem Rp.cut {G' : Hp} (tl : TupLe K G G') {v : V} {d : PyData} (h : Rp K G v d) : npl d = true → (∀ a ∈ Pk.ad d, G' a = G a) → Rp K G' v d :=
  Rp.rec (motive_1 := fun v d _ => npl d = true → (∀ a ∈ Pk.ad d, G' a = G a) → Rp K G' v d) (motive_2 := fun vs ds _ => nplA ds = true → (∀ a ∈ adA ds, G' a = G a) → RpA K G' vs ds) (motive_3 := fun _ _ _ => True)
    (fun _ _ => .non) (fun b _ _ => .bl b) (fun i _ _ => .int i) (fun x _ _ => .str x)
    (fun h _ ih n => by simp [npl] at n) (fun h _ ih n k => by rw [npl_tup] at n; rw [ad_tup] at k; exact .tup (tl.1 _ _ h) (ih n k))
    (fun h t n => by rw [npl_dict (isLid_no t)] at n; cases n)
    (fun h r _ n => by rw [npl_dict (by rfl)] at n; cases n)
    (fun h k r _ n => by rw [npl_dict (by rfl)] at n; cases n)
    (fun {b zs ds} h _ ih n k => by
      rw [npl_at] at n
      rw [ad_at] at k
      exact .lid ((k b List.mem_cons_self).trans h) (ih n fun a m => k a (List.mem_cons_of_mem _ m)))
    (fun _ _ => .nil) (fun {v vs d ds} _ _ p q n k => by
      simp only [nplA, Bool.and_eq_true] at n
      rw [adA_cons] at k
      exact .cons (p n.1 fun a m => k a (List.mem_append.mpr (.inl m))) (q n.2 fun a m => k a (List.mem_append.mpr (.inr m)))) trivial (fun _ _ _ _ _ _ => trivial) h
end
/-- a tree of one's own: all its lists are one's own; pn: what stands at one of them -/
def AtP (K : Kw) (d : PyData) (pn : Option (Addr × List V)) : Own where
  K := K
  p := fun F H v S => npl d = true ∧ Rp K (lay S H F) v d ∧ (∀ a, S a ↔ a ∈ ad d) ∧ ∀ q, pn = some q → q.1 ∈ ad d ∧ H q.1 = some (.lst q.2)
  vw := some d
  keep := fun {F F' H H' v S} ⟨n, r, hS, hp⟩ le k => ⟨n, r.mono fun a o q => by
    unfold lay at q ⊢
    by_cases h : S a
    · rw [if_pos h] at q ⊢; rw [k a h]; exact q
    · rw [if_neg h] at q ⊢; exact le a o q, hS, fun q e => ⟨(hp q e).1, (k _ ((hS _).mpr (hp q e).1)).trans (hp q e).2⟩⟩
  keepT := fun e => nomatch e
  view := fun {F H v S d'} le ⟨n, r, hS, _⟩ ed => by
    cases ed
    refine ⟨r, fun a sa => ?_⟩
    obtain ⟨xs, h⟩ := r.ad a ((hS a).mp sa)
    rw [lay_at sa] at h
    exact ⟨_, h, rfl⟩
abbrev AtO (K : Kw) (d : PyData) : Own := AtP K d none
end Pk
end
section
set_option Elab.async false
set_option linter.all false
set_option maxRecDepth 100000
set_option pp.maxSteps 1000
namespace Pk
open PySem PySem.Spec PyProof.Rows L2

mutual
inductive Rw (K : Kw) (F : Hp) : V → PyData → Prop
  | non : Rw K F .non .none
  | bl (b : Bool) : Rw K F (.bl b) (.bool b)
  | int (i : Int) : Rw K F (.int i) (.int i)
  | str (x : Str) : Rw K F (.str x) (.str x)
  | tup {a : Addr} {xs : List V} {ds : List PyData} : SqT K F a xs → RwA K F xs ds → Rw K F (.ref a) (.tuple ds)
  | lid {a : Addr} {b : Int} {ds : List PyData} : b = a → Rw K F (.ref a) (.dict [(.none, .bool false), (.int b, .list ds)])
inductive RwA (K : Kw) (F : Hp) : List V → List PyData → Prop
  | nil : RwA K F [] []
  | cons {v : V} {vs : List V} {d : PyData} {ds : List PyData} : Rw K F v d → RwA K F vs ds → RwA K F (v :: vs) (d :: ds)
end
section
variable {K : Kw} {F G : Hp}
theorem Rp.wk (tl : TupLe K G F) {v : V} {d : PyData} (h : Rp K G v d) : npl d = true → Rw K F v d :=
  Rp.rec (motive_1 := fun v d _ => npl d = true → Rw K F v d) (motive_2 := fun vs ds _ => nplA ds = true → RwA K F vs ds) (motive_3 := fun _ _ _ => True)
    (fun _ => .non) (fun b _ => .bl b) (fun i _ => .int i) (fun x _ => .str x)
    (fun h _ ih n => by simp [npl] at n) (fun h _ ih n => by rw [npl_tup] at n; exact .tup (tl.1 _ _ h) (ih n))
    (fun h t n => by rw [npl_dict (isLid_no t)] at n; cases n)
    (fun h r _ n => by rw [npl_dict (by rfl)] at n; cases n)
    (fun h k r _ n => by rw [npl_dict (by rfl)] at n; cases n)
    (fun {b zs ds} h _ ih n => .lid rfl)
    (fun _ => .nil) (fun {v vs d ds} _ _ p q n => by
      simp only [nplA, Bool.and_eq_true] at n
      exact .cons (p n.1) (q n.2)) trivial (fun _ _ _ _ _ _ => trivial) h
theorem RpA.wk (tl : TupLe K G F) : ∀ {vs : List V} {ds : List PyData}, RpA K G vs ds → nplA ds = true → RwA K F vs ds
  | [], [], _, _ => .nil
  | _ :: _, [], h, _ => by cases h
  | [], _ :: _, h, _ => by cases h
  | _ :: _, _ :: _, h, n => by
    simp only [nplA, Bool.and_eq_true] at n
    cases h with
    | cons a b => exact .cons (a.wk tl n.1) (RpA.wk tl b n.2)
theorem Rw.mono (tl : TupLe K G F) {v : V} {d : PyData} (h : Rw K G v d) : Rw K F v d :=
  Rw.rec (motive_1 := fun v d _ => Rw K F v d) (motive_2 := fun vs ds _ => RwA K F vs ds) .non .bl .int .str (fun h _ ih => .tup (tl.1 _ _ h) ih) (fun e => .lid e) .nil (fun _ _ a b => .cons a b) h
theorem RwA.mono (tl : TupLe K G F) {v : List V} {d : List PyData} (h : RwA K G v d) : RwA K F v d :=
  RwA.rec (motive_1 := fun v d _ => Rw K F v d) (motive_2 := fun vs ds _ => RwA K F vs ds) .non .bl .int .str (fun h _ ih => .tup (tl.1 _ _ h) ih) (fun e => .lid e) .nil (fun _ _ a b => .cons a b) h
theorem Rw.lf {v : V} {d : PyData} (h : Rw K F v d) : Pk.lf d = true → Rp K F v d :=
  Rw.rec (motive_1 := fun v d _ => Pk.lf d = true → Rp K F v d) (motive_2 := fun vs ds _ => lfA ds = true → RpA K F vs ds) (fun _ => .non) (fun b _ => .bl b) (fun i _ => .int i) (fun x _ => .str x)
    (fun h _ ih n => .tup h (ih (by simpa [Pk.lf] using n))) (fun e n => by simp [Pk.lf] at n) (fun _ => .nil) (fun _ _ a b n => by
      simp only [lfA, Bool.and_eq_true] at n
      exact .cons (a n.1) (b n.2)) h
theorem Rw.at_inv {v : V} {a : Addr} {ds : List PyData} (h : Rw K F v (listAt a ds)) : v = .ref a := by
  generalize e : listAt a ds = d at h
  cases h with
  | @lid a' b ds' q =>
    simp only [PyData.dict.injEq, List.cons.injEq, Prod.mk.injEq, PyData.int.injEq, true_and, and_true] at e
    have e2 : (a : Int) = (a' : Int) := e.1.trans q
    have e3 : a = a' := by exact_mod_cast e2
    rw [e3]
  | _ => cases e
theorem Rw.tup_inv {v : V} {ds : List PyData} (h : Rw K F v (.tuple ds)) : ∃ a xs, v = .ref a ∧ SqT K F a xs ∧ RwA K F xs ds := by
  cases h with
  | tup a b => exact ⟨_, _, rfl, a, b⟩
theorem RwA.length : ∀ {vs : List V} {ds : List PyData}, RwA K F vs ds → vs.length = ds.length
  | [], [], _ => rfl
  | _ :: _, [], h => by cases h
  | [], _ :: _, h => by cases h
  | _ :: vs, _ :: ds, h => by
    cases h with
    | cons _ b => simp [RwA.length b]
theorem RwA.get : ∀ {vs : List V} {ds : List PyData} {i : Nat} {d : PyData}, RwA K F vs ds → ds[i]? = some d → ∃ v, vs[i]? = some v ∧ Rw K F v d
  | [], [], i, d, _, e => by simp at e
  | _ :: _, [], _, _, h, _ => by cases h
  | [], _ :: _, _, _, h, _ => by cases h
  | v :: vs, x :: ds, 0, d, h, e => by
    cases h with
    | cons a b => simp at e; subst e; exact ⟨v, rfl, a⟩
  | v :: vs, x :: ds, i + 1, d, h, e => by
    cases h with
    | cons a b =>
      obtain ⟨u, h1, h2⟩ := RwA.get (i := i) (d := d) b (by simpa using e)
      exact ⟨u, by simpa using h1, h2⟩
theorem RwA.getV : ∀ {vs : List V} {ds : List PyData} {i : Nat} {v : V}, RwA K F vs ds → vs[i]? = some v → ∃ d, ds[i]? = some d ∧ Rw K F v d
  | [], [], i, d, _, e => by simp at e
  | _ :: _, [], _, _, h, _ => by cases h
  | [], _ :: _, _, _, h, _ => by cases h
  | v :: vs, x :: ds, 0, d, h, e => by
    cases h with
    | cons a b => simp at e; subst e; exact ⟨x, rfl, a⟩
  | v :: vs, x :: ds, i + 1, d, h, e => by
    cases h with
    | cons a b =>
      obtain ⟨u, h1, h2⟩ := RwA.getV (i := i) (v := d) b (by simpa using e)
      exact ⟨u, by simpa using h1, h2⟩
end
/-- a name for something in a tree of one's own -/
def WkO (K : Kw) (d : PyData) : Own where
  K := K
  p := fun F _ v S => Rw K F v d ∧ ∀ a, ¬ S a
  vw := none
  keep := fun ⟨r, n⟩ le _ => ⟨r.mono le.tup, n⟩
  keepT := fun _ => fun ⟨r, n⟩ tl _ => ⟨r.mono tl, n⟩
  view := fun _ _ e => nomatch e

def adS : Sl → List Addr
  | .dat _ d => ad d
  | .ml _ l ds => l :: adA ds
  | .ex _ Φ => match Φ.vw with
    | some d => ad d
    | none => []
  | .no => []
def adG (Γ : List Sl) : List Addr := Γ.flatMap adS
def ntS : Sl → Bool
  | .dat m _ => !m
  | .ml m _ _ => !m
  | _ => true
/-- nothing is told as new -/
def ntG (Γ : List Sl) : Bool := Γ.all ntS
section
variable {X : Bs} {F H : Hp} {σ : L2.St} {Γ : List Sl}
theorem En.adS (E : En X F H σ Γ) {s : Sl} (m : s ∈ Γ) {a : Addr} (ha : a ∈ adS s) : H a ≠ none := by
  obtain ⟨i, hi⟩ := List.getElem?_of_mem m
  obtain ⟨S, hs, _, ho⟩ := id E.sl
  have q := hs i s hi
  cases s with
  | no => cases ha
  | dat m' d =>
    obtain ⟨⟨v, _, r⟩, _⟩ := q
    obtain ⟨xs, h⟩ := r.ad a ha
    rw [E.lef m' _ _ h]; simp
  | ml m' l ds =>
    obtain ⟨xs, _, hS, hl, r, _⟩ := q
    rcases List.mem_cons.mp ha with z | z
    · subst z; rw [hl]; simp
    · obtain ⟨ys, h⟩ := r.ad a z
      rw [E.lef m' _ _ h]; simp
  | ex v Φ =>
    obtain ⟨_, _, p⟩ := q
    cases hv : Φ.vw with
    | none => simp [Pk.adS, hv] at ha
    | some d =>
      have ha' : a ∈ ad d := by simpa [Pk.adS, hv] using ha
      obtain ⟨xs, h⟩ := (Φ.view E.le p hv).1.ad a ha'
      unfold lay at h
      by_cases sa : S i a
      · exact (ho i a sa).2.1
      · rw [if_neg sa] at h; rw [E.le _ _ h]; simp
theorem En.adG (E : En X F H σ Γ) {a : Addr} (ha : a ∈ adG Γ) : H a ≠ none := by
  obtain ⟨s, hm, hs⟩ := List.mem_flatMap.mp ha
  exact E.adS hm hs
theorem En.lastNew {v : V} {m : Bool} {l : Addr} {ds : List PyData} (E : En X F H (σ ++ [some v]) (Γ ++ [.ml m l ds])) : l ∉ Pk.adG Γ ∧ l ∉ adA ds := by
  obtain ⟨S, hs, hdj, ho⟩ := id E.sl
  have hl := hs Γ.length (.ml m l ds) (by simp)
  obtain ⟨xs, _, hS, hH, r, _⟩ := hl
  have sl : S Γ.length l := (hS l).mpr rfl
  have fl : F l = none := (ho _ l sl).1
  have hlen : σ.length = Γ.length := by
    have := E.len
    simp at this
    exact this
  refine ⟨fun z => ?_, fun z => ?_⟩
  · obtain ⟨s, hm, ha⟩ := List.mem_flatMap.mp z
    obtain ⟨i, hi⟩ := List.getElem?_of_mem hm
    have hil : i < Γ.length := (List.getElem?_eq_some_iff.mp hi).1
    have q := hs i s (by rw [List.getElem?_append_left hil]; exact hi)
    have neS : ∀ a, S i a → a ≠ l := fun a sa e => by
      subst e
      have := hdj _ _ _ sa sl
      omega
    cases s with
    | no => cases ha
    | dat m d =>
      obtain ⟨⟨v, _, r⟩, _⟩ := q
      obtain ⟨xs, h⟩ := r.ad l ha
      rw [X.ff_le F m _ _ h] at fl; cases fl
    | ml m l' ds =>
      obtain ⟨xs, _, hS', hl, r, _⟩ := q
      rcases List.mem_cons.mp ha with z | z
      · exact neS l' ((hS' l').mpr rfl) z.symm
      · obtain ⟨ys, h⟩ := r.ad l z
        rw [X.ff_le F m _ _ h] at fl; cases fl
    | ex v Φ =>
      obtain ⟨_, _, p⟩ := q
      cases hv : Φ.vw with
      | none => simp [Pk.adS, hv] at ha
      | some d =>
        have ha' : l ∈ ad d := by simpa [Pk.adS, hv] using ha
        obtain ⟨xs, h⟩ := (Φ.view E.le p hv).1.ad l ha'
        unfold lay at h
        by_cases sa : S i l
        · exact neS l sa rfl
        · rw [if_neg sa] at h; rw [h] at fl; cases fl
  · obtain ⟨ys, h⟩ := r.ad l z
    rw [X.ff_le F m _ _ h] at fl; cases fl
theorem SlOk.reN {ov : Option V} {S : Addr → Prop} {s : Sl} {N' : Addr → Prop} (h : ntS s = true) (q : SlOk X F H ov S s) : SlOk { X with N := N' } F H ov S s := by
  cases s with
  | no => exact q
  | dat m d =>
    cases m with
    | true => cases h
    | false => exact q
  | ml m l ds =>
    cases m with
    | true => cases h
    | false =>
      obtain ⟨xs, e, hS, hl, r, _⟩ := q
      exact ⟨xs, e, hS, hl, r, fun z => nomatch z⟩
  | ex v Φ => exact q
/-- another base's new -/
theorem En.reN (E : En X F H σ Γ) (hn : ntG Γ = true) (N' : Addr → Prop) (hN : ∀ a, N' a → H a ≠ none) : En { X with N := N' } F H σ Γ := by
  obtain ⟨S, hs, hdj, ho⟩ := id E.sl
  exact ⟨E.le, E.len, ⟨S, fun i s e => (hs i s e).reN (List.all_eq_true.mp hn s (List.mem_of_getElem? e)), hdj, ho⟩, E.fr, E.f0, hN⟩
theorem cutN_ad {N : Addr → Prop} {K : Kw} {v : V} {d : PyData} (r : Rp K (cutN N F) v d) : ∀ a ∈ ad d, ¬ N a := fun a ha => by
  obtain ⟨xs, h⟩ := r.ad a ha
  exact (cutN_lst h).1
end
section
variable {K : Kw} {m : Bool} {Γ : List Sl} {t te ta : TE} {Q : PyData → Prop} {QX : Sl → Prop} {P : Po} {g : TG}
theorem wd_pl (h : WD K m Γ t fun d => Q (pl d)) : WD K m Γ t Q := fun X hK F H σ E C k => h X hK F H σ E C fun v F' H' d l E' r q => k v F' H' _ l E' r.pl q
/-- a list of one's own is frozen, its address told -/
theorem En.freezeA {X : Bs} {F H : Hp} {σ : L2.St} (E : En X F H σ Γ) {i : Nat} {l : Addr} {ds : List PyData} (hi : Γ[i]? = some (.ml m l ds)) : ∃ F', Le F F' ∧ En X F' H σ (Γ.set i (.dat m (listAt l ds))) := by
  obtain ⟨xs, e1, hl, fl, r⟩ := E.ml hi
  obtain ⟨S, hs, hdj, ho⟩ := id E.sl
  have own : X.own l ∧ (m = true → ¬ X.N l) := by
    obtain ⟨_, _, hS, _, _, nl⟩ := hs i _ hi
    exact ⟨(ho i l ((hS l).mpr rfl)).2.2, nl⟩
  obtain ⟨own, nl⟩ := own
  have fl' : ∀ {F : Hp}, F l = some (.lst xs) → X.ff F m l = some (.lst xs) := fun {F} h => by
    cases m with
    | false => exact h
    | true => rw [Bs.ff_at (nl rfl)]; exact h
  refine ⟨upd F l (.lst xs), Le.up fl, E.retell (Le.up fl) (E.le.lay hl) (fun a o e n => ?_) hi fun S hS q => ?_⟩
  · refine upd_ne fun z => ?_
    subst z
    rcases own with w | w
    · rw [w] at e; cases e
    · exact n w
  · obtain ⟨ys, e, hS', hl', r', _⟩ := q
    rw [hl] at hl'; cases hl'
    refine ⟨fun _ => False, ⟨⟨.ref l, e, .lid (fl' upd_same) (r.mono (Bs.ff_mono (Le.up fl) m))⟩, fun _ z => z⟩, fun _ z => z.elim, fun a ha => ?_⟩
    refine (hS' a).mpr ?_
    by_cases z : a = l
    · exact z
    · exact absurd (upd_ne z) ha
theorem lastFreezeA {X : Bs} {F H : Hp} {σ : L2.St} {v : V} {l : Addr} {ds : List PyData} (E : En X F H (σ ++ [some v]) (Γ ++ [.ml m l ds])) : ∃ F', Le F F' ∧ En X F' H σ Γ ∧ Rp X.K (X.ff F' m) v (listAt l ds) := by
  have hl : σ.length = Γ.length := by
    have := E.len
    simp at this
    exact this
  obtain ⟨F', lf, E'⟩ := E.freezeA (i := Γ.length) (m := m) (l := l) (ds := ds) (by simp)
  have e2 : (Γ ++ [Sl.ml m l ds]).set Γ.length (.dat m (listAt l ds)) = Γ ++ [.dat m (listAt l ds)] := by simp
  rw [e2] at E'
  obtain ⟨u, e, r⟩ := E'.dat (i := Γ.length) (m := m) (d := listAt l ds) (by simp)
  rw [← hl] at e
  simp at e
  subst e
  exact ⟨F', lf, E'.drop, r⟩
/-- a new list of one's own as data, its address told -/
theorem wd_at (h : WX K Γ t fun s => ∃ l ds, s = .ml m l ds ∧ (l ∉ adA ds → l ∉ adG Γ → Q (listAt l ds))) : WD K m Γ t Q := fun X hK F H σ E C k =>
  h X hK F H σ E C fun v F' H' s lf E' ⟨l, ds, es, q⟩ => by
    subst es
    obtain ⟨n1, n2⟩ := E'.lastNew
    obtain ⟨F2, l2, E2, r⟩ := lastFreezeA E'
    subst hK
    exact k v F2 H' _ (lf.tr l2) E2 r (q n2 n1)
theorem AgsOk.to {X X' : Bs} {F : Hp} {σ : L2.St} (hK : X'.K = X.K) (hN : ∀ a, X.N a → X'.N a) : ∀ {vs : List V} {as : List Ag}, AgsOk X' true F σ vs as → AgsOk X true F σ vs as
  | _, _, .nil => .nil
  | _, _, .cons (a := .d x) h t => .cons (a := .d x) (by
      have h' : Rp X'.K (cutN X'.N F) _ x := h
      rw [hK] at h'
      exact h'.mono (cutN_mono hN Le.rfl')) (AgsOk.to hK hN t)
  | _, _, .cons (a := .o i) h t => .cons (a := .o i) h (AgsOk.to hK hN t)
def adAg : List Ag → List Addr
  | [] => []
  | .d x :: r => ad x ++ adAg r
  | .o _ :: r => adAg r
theorem AgsOk.ad {X : Bs} {F : Hp} {σ : L2.St} : ∀ {vs : List V} {as : List Ag}, AgsOk X true F σ vs as → ∀ a ∈ adAg as, ¬ X.N a
  | _, _, .nil => fun a h => by cases h
  | _, _, .cons (a := .d x) h t => fun a ha => by
      rcases List.mem_append.mp ha with z | z
      · exact cutN_ad (F := F) (N := X.N) h a z
      · exact AgsOk.ad t a z
  | _, _, .cons (a := .o i) h t => fun a ha => AgsOk.ad t a ha
theorem En.loN {X : Bs} {F H : Hp} {σ : L2.St} {N' : Addr → Prop} (hN : ∀ a, X.N a → N' a) (E : En { X with N := N' } F H σ Γ) : En X F H σ Γ := by
  obtain ⟨S, hs, hdj, ho⟩ := id E.sl
  exact ⟨E.le, E.len, ⟨S, fun i s e => SlOk.to (X := { X with N := N' }) (X' := X) rfl hN (hs i s e), hdj, ho⟩, E.fr, E.f0, fun a h => E.nn a (hN a h)⟩
/-- a list comprehension, the lists of whose items are all unlike -/
theorem wx_lcA {wi : TI} {mi : Bool} (m : Bool) {tt : TT} {vs : List Nat} (hv : wipeOk Γ vs) (hgw : Gw g vs) (hn : ntG (wipeG Γ vs) = true)
    (h : WI K mi Γ wi fun ds => ∃ I : Nat → List PyData → Prop, ds.length ≤ 100000 ∧ I 0 [] ∧ (∀ i d acc, ds[i]? = some d → acc.length ≤ i → I i acc → GJ K mi (wipeG Γ vs) g d fun Γ2 => ntG Γ2 = true ∧ wipeG Γ2 vs = wipeG Γ vs ∧ WT K Γ2 tt fun b => if b = true then WD K true Γ2 te fun y => (ad y).Nodup ∧ I (i + 1) (acc ++ [y]) else I (i + 1) acc) ∧
      ∀ acc, acc.length ≤ ds.length → I ds.length acc → (adA acc).Nodup → (∀ a ∈ adA acc, a ∉ adG Γ) → ∀ l, QX (.ml m l acc)) (hmi : mi = false) : WX K Γ (tLc wi g tt te vs) QX := fun X hK F H σ E C k => by
  subst hmi
  refine h X hK F H σ E _ fun J F1 H1 G Y ds lf E1 wk hG hY ⟨I, hz, h0, hs, he⟩ Da hD => ?_
  obtain ⟨X1, k1, n1, f1, g1, Er, back⟩ := E1.rebase
  have hK1 : X1.K = K := k1.trans hK
  let N1 : Addr → Prop := fun a => X1.N a ∨ a ∈ adG Γ
  have hN1 : ∀ a, N1 a → H1 a ≠ none := fun a h => by
    rcases h with h | h
    · exact Er.nn a h
    · exact E1.adG h
  let XN : Bs := { X1 with N := N1 }
  have lef : ∀ {F' H' σ' Γ'}, En XN F' H' σ' Γ' → Le F1 F' := fun E' => by rw [← f1]; exact E'.f0
  have ffN : ∀ F, Le (XN.ff F m) (X.ff F m) := fun F => by
    cases m with
    | false => exact Le.rfl'
    | true => exact cutN_mono (fun a h => .inl (by rw [n1]; exact h)) Le.rfl'
  have ErN : En XN F1 H1 (L2.wipe σ vs) (wipeG Γ vs) := (Er.wipe vs).reN hn N1 hN1
  refine lc_it wk (fun i H' => ∃ F' acc, En XN F' H' (L2.wipe σ vs ++ [some (.ref Da)]) (wipeG Γ vs ++ [.ml m Da acc]) ∧ acc.length ≤ i ∧ I i acc ∧ (adA acc).Nodup ∧ ∀ a ∈ adA acc, ¬ N1 a) ⟨F1, [], ErN.pushM hD .nil, Nat.le_refl _, h0, by simp [adA], by simp [adA]⟩ (fun i H' _ ⟨F', acc, E', _⟩ => hG H' ((lef E').tr E'.le)) (fun i x H' H3 hi ⟨F', acc, E', hacc, hI, hnd, hng⟩ hy => ?_) (fun H' ⟨F', acc, E', hacc, hI, hnd, hng⟩ => ?_)
  · obtain ⟨d, F3, hd, gr, r⟩ := hY i F' H' x H3 (lef E') E'.le hi hy
    have E3 := E'.gr gr
    obtain ⟨X2, k2, n2, Ef, fb⟩ := E3.frame
    have hK2 : X2.K = K := k2.trans hK1
    refine hgw x _ H3 (fun σ2 H2 => L2.wipe σ2 vs = L2.wipe σ vs → _) _ σ wipe_wipe (fun σ2 H2 e2 q => ⟨e2, q e2⟩) ?_
    refine hs i d acc hd hacc hI X2 hK2 F3 H3 _ Ef x r _ fun F4 H4 σ4 Γ4 l4 E4 ⟨hnt, eΓ, wt⟩ eσ => ?_
    have hlen : Γ4.length = (wipeG Γ vs).length := by rw [← eΓ, wipeG_length]
    have again : ∀ {F5 H5}, Le F4 F5 → En X2 F5 H5 σ4 Γ4 → En XN F5 H5 (L2.wipe σ vs ++ [some (.ref Da)]) (wipeG Γ vs ++ [.ml m Da acc]) := fun {F5 H5} l5 E5 => by
      have := fb F5 H5 _ _ (by rw [wipeG_length, hlen]) (l4.tr l5) (E5.wipe vs)
      rw [eΓ, eσ] at this
      exact this
    refine wt X2 hK2 F4 H4 σ4 E4 _ fun b F5 H5 l5 E5 q5 => ?_
    cases b with
    | false => exact ⟨F5, acc, again l5 E5, Nat.le_succ_of_le hacc, q5, hnd, hng⟩
    | true =>
      rw [if_pos rfl] at q5 ⊢
      have nn5 : ∀ a, X2.N a → H5 a ≠ none := E5.nn
      have acc5 : ∀ a ∈ adA acc, H5 a ≠ none := fun a ha => (again l5 E5).adG (List.mem_flatMap.mpr ⟨.ml m Da acc, by simp, List.mem_cons_of_mem _ ha⟩)
      refine q5 { X2 with N := fun a => H5 a ≠ none } hK2 F5 H5 σ4 (E5.reN hnt _ fun _ h => h) _ fun y F6 H6 dy l6 E6 ry ⟨ndy, q6⟩ => ?_
      have ry' : Rp K (cutN (fun a => H5 a ≠ none) F6) y dy := ry
      have E6' : En X2 F6 H6 σ4 Γ4 := En.loN nn5 E6
      have E7 := again (l5.tr l6) E6'
      have nN : ∀ a ∈ ad dy, ¬ N1 a := fun a ha h => (cutN_ad ry' a ha) (nn5 a (by rw [n2]; exact h))
      obtain ⟨xs, _, hl, _, rx⟩ := E7.ml (i := (wipeG Γ vs).length) (m := m) (l := Da) (ds := acc) (by simp)
      have ry2 : Rp XN.K (XN.ff F6 m) y dy := by
        have e : XN.K = K := hK1
        rw [e]
        cases m with
        | false => exact ry'.mono (cutN_le _ _)
        | true => exact ry'.mono (cutN_mono (fun a h => nn5 a (by rw [n2]; exact h)) Le.rfl')
      have e8 := E7.mut (i := (wipeG Γ vs).length) (m := m) (l := Da) (ds := acc) (es := acc ++ [dy]) (ys := xs ++ [y]) (by simp) (rx.append (RpA.one ry2))
      have es : (wipeG Γ vs ++ [Sl.ml m Da acc]).set (wipeG Γ vs).length (.ml m Da (acc ++ [dy])) = wipeG Γ vs ++ [.ml m Da (acc ++ [dy])] := by simp
      rw [es] at e8
      refine ⟨xs, hl, sz_lt (by rw [rx.length]; omega), F6, acc ++ [dy], e8, by simp; omega, q6, ?_, ?_⟩
      · rw [adA_append, adA_cons, adA_nil, List.append_nil]
        exact List.nodup_append.mpr ⟨hnd, ndy, fun a ha b hb e => by subst e; exact (cutN_ad ry' a hb) (acc5 a ha)⟩
      · intro a ha
        rw [adA_append, adA_cons, adA_nil, List.append_nil] at ha
        rcases List.mem_append.mp ha with z | z
        · exact hng a z
        · exact nN a z
  · have E1' : En X1 F' H' (L2.wipe σ vs ++ [some (.ref Da)]) (wipeG Γ vs ++ [.ml m Da acc]) := En.loN (fun a h => .inl h) E'
    have hE := back _ _ _ _ (En.unwipe E1 (by rw [hK, hK1]) n1.symm (lef E') hv E1')
    exact k (.ref Da) F' H' _ (lf.tr (lef E')) hE (he acc hacc hI hnd (fun a ha hg => hng a ha (.inr hg)) Da)
end
end Pk
end
section
set_option Elab.async false
set_option linter.all false
set_option maxRecDepth 100000
set_option pp.maxSteps 1000
namespace Pk
open PySem PySem.Spec PyProof.Rows L2
section
variable {K : Kw} {m : Bool} {Γ : List Sl} {t te tr : TE} {Q : PyData → Prop} {QX : Sl → Prop} {P : Po} {g : TG} {tb : TS}
open Classical in
/-- what is new, told with all its addresses, is handed back as the asker's own -/
theorem sjt_retAt (h : WD K true Γ te fun d => npl d = true ∧ ∀ v, P.rt (.ex v (AtO K d)) (Γ.map Sl.exo)) : SJt K Γ (tRet te) P := fun X hK hT F0 H0 σ E0 D hD => by
  refine h X hK F0 H0 σ E0 _ fun v F H d lf0 E r ⟨hn, hrt⟩ => ?_
  subst hK
  have r : Rp X.K (cutN X.N F) v d := r
  obtain ⟨S, hs, hdj, ho⟩ := id E.sl
  let SS : Addr → Prop := fun a => a ∈ ad d
  have hcF : ∀ a, SS a → ¬ X.N a ∧ ∃ ys, F a = some (.lst ys) := fun a ha => by
    obtain ⟨ys, q⟩ := r.ad a ha
    exact ⟨(cutN_lst q).1, ys, (cutN_lst q).2⟩
  let F' : Hp := fun a => if SS a then none else F a
  have fN : ∀ {a}, ¬ SS a → F' a = F a := fun h => if_neg h
  have fY : ∀ {a}, SS a → F' a = none := fun h => if_pos h
  have le' : Le F' F := fun a o q => by
    by_cases h : SS a
    · rw [fY h] at q; cases q
    · rw [fN h] at q; exact q
  have h0 : ∀ a, SS a → X.H0 a = none := fun a sa => by
    cases q : X.H0 a with
    | none => rfl
    | some o => exact absurd ((hT.1 a).mpr (by rw [q]; simp)) (hcF a sa).1
  have tl : TupLe X.K F F' := by
    have nS : ∀ {a : Addr} {o : HO}, F a = some o → (∀ zs, o ≠ .lst zs) → ¬ SS a := fun {a o} q no sa => by
      obtain ⟨_, ws, q2⟩ := hcF a sa
      rw [q] at q2; cases q2; exact no _ rfl
    refine ⟨fun a ys z => ?_, fun a fs z => by rw [fN (nS z fun _ w => nomatch w)]; exact z⟩
    rcases z with (z | ⟨o, z⟩) | z
    · exact .inl (.inl (by rw [fN (nS z fun _ w => nomatch w)]; exact z))
    · exact .inl (.inr ⟨o, by rw [fN (nS z fun _ w => nomatch w)]; exact z⟩)
    · exact .inr z
  have rd : Rp X.K (lay SS H F') v d := r.mono fun a o q => by
    have q' := cutN_le _ _ _ _ q
    unfold lay
    by_cases h : SS a
    · rw [if_pos h]; exact E.le a o q'
    · rw [if_neg h, fN h]; exact q'
  refine hD.rt F' H σ (Γ.map Sl.exo) v (.ex v (AtO X.K d)) ⟨le'.tr E.le, by simp [E.len], ⟨fun j a => (j < Γ.length ∧ (∃ v Φ, Γ[j]? = some (.ex v Φ) ∧ Φ.vw = none) ∧ S j a) ∨ (j = Γ.length ∧ SS a), fun j u e => ?_, fun j k a q1 q2 => ?_, fun j a q => ?_⟩, fun a o e n => ?_, fun a o q => ?_, E.nn⟩ (hrt v)
  · have hj : j < (Γ.map Sl.exo ++ [Sl.ex v (AtO X.K d)]).length := (List.getElem?_eq_some_iff.mp e).1
    simp only [List.length_append, List.length_map, List.length_cons, List.length_nil] at hj
    by_cases hlt : j < Γ.length
    · rw [List.getElem?_append_left (by simpa using hlt), List.getElem?_map, List.getElem?_eq_getElem hlt] at e
      rw [getD_app (by rw [E.len]; exact hlt)]
      have hg : Γ[j]? = some Γ[j] := List.getElem?_eq_getElem hlt
      simp only [Option.map_some, Option.some.injEq] at e
      subst e
      cases hu : Γ[j] with
      | ex v Φ =>
        rw [hu] at hg
        cases hv : Φ.vw with
        | some dv =>
          simp only [Sl.exo, hv]
          intro a z
          rcases z with ⟨_, ⟨v', Φ', z, hz⟩, _⟩ | ⟨z, _⟩
          · rw [hg] at z
            cases z
            rw [hv] at hz
            cases hz
          · omega
        | none =>
        simp only [Sl.exo, hv]
        obtain ⟨e0, hk, p⟩ := hs j _ hg
        have eS : (fun a => (j < Γ.length ∧ (∃ v Φ, Γ[j]? = some (.ex v Φ) ∧ Φ.vw = none) ∧ S j a) ∨ (j = Γ.length ∧ SS a)) = S j := by
          funext a
          apply propext
          constructor
          · rintro (⟨_, _, z⟩ | ⟨z, _⟩)
            · exact z
            · omega
          · intro z; exact .inl ⟨hlt, ⟨v, Φ, hg, hv⟩, z⟩
        show SlOk X F' H _ (fun a => (j < Γ.length ∧ (∃ v Φ, Γ[j]? = some (.ex v Φ) ∧ Φ.vw = none) ∧ S j a) ∨ (j = Γ.length ∧ SS a)) (.ex v Φ)
        rw [eS]
        exact ⟨e0, hk, Φ.keepT hv p (by rw [hk]; exact tl) fun _ _ => rfl⟩
      | _ =>
        rw [hu] at hg
        intro a z
        rcases z with ⟨_, ⟨v, Φ, z, _⟩, _⟩ | ⟨z, _⟩
        · rw [hg] at z; cases z
        · omega
    · have hje : j = Γ.length := by omega
      subst hje
      have e' : (Γ.map Sl.exo ++ [Sl.ex v (AtO X.K d)])[Γ.length]? = some (.ex v (AtO X.K d)) := by
        have : Γ.length = (Γ.map Sl.exo).length := by simp
        rw [this]; simp
      rw [e'] at e
      cases e
      have eS : (fun a => (Γ.length < Γ.length ∧ (∃ v Φ, Γ[Γ.length]? = some (.ex v Φ) ∧ Φ.vw = none) ∧ S Γ.length a) ∨ (Γ.length = Γ.length ∧ SS a)) = SS := by
        funext a
        apply propext
        constructor
        · rintro (⟨z, _⟩ | ⟨_, z⟩)
          · omega
          · exact z
        · intro z; exact .inr ⟨rfl, z⟩
      show SlOk X F' H _ (fun a => (Γ.length < Γ.length ∧ (∃ v Φ, Γ[Γ.length]? = some (.ex v Φ) ∧ Φ.vw = none) ∧ S Γ.length a) ∨ (Γ.length = Γ.length ∧ SS a)) _
      rw [eS, ← E.len, getD_last]
      exact ⟨rfl, rfl, hn, rd, fun _ => Iff.rfl, fun _ e => nomatch e⟩
  · have exS : ∀ j a, S j a → (∃ v Φ, Γ[j]? = some (Sl.ex v Φ) ∧ Φ.vw = none) → ¬ SS a := fun j a sa _ ss => by
      obtain ⟨_, ys, q⟩ := hcF a ss
      rw [(ho j a sa).1] at q; cases q
    rcases q1 with ⟨a1, b1, c1⟩ | ⟨a1, c1⟩ <;> rcases q2 with ⟨a2, b2, c2⟩ | ⟨a2, c2⟩
    · exact hdj j k a c1 c2
    · exact absurd c2 (exS j a c1 b1)
    · exact absurd c1 (exS k a c2 b2)
    · omega
  · rcases q with ⟨a1, b1, c1⟩ | ⟨a1, c1⟩
    · refine ⟨?_, (ho j a c1).2⟩
      by_cases z : SS a
      · exact fY z
      · rw [fN z]; exact (ho j a c1).1
    · refine ⟨fY c1, ?_, .inl (h0 a c1)⟩
      obtain ⟨_, ys, q⟩ := hcF a c1
      rw [E.le _ _ q]; simp
  · obtain ⟨q1, q2⟩ := E.fr a o e n
    refine ⟨q1, ?_⟩
    rw [fN fun sa => by rw [h0 a sa] at e; cases e]
    exact q2
  · have q' := E.f0 a o q
    rw [fN]
    · exact q'
    · intro sa
      have := hT.2 a o q
      rw [h0 a sa] at this
      cases this

def RA (K : Kw) (Γ : List Sl) (te : TE) (a : Addr) : Prop := ∀ X : Bs, X.K = K → ∀ F H σ, En X F H σ Γ → ∀ C : VK,
  (∀ F' H', Le F F' → En X F' H' σ Γ → C (.ref a) H') → te σ H C
theorem ra_thaw {a : Addr} (h : WD K false (Γ.map Sl.frz) te fun z => ∃ es, z = listAt a es) : RA K Γ te a := fun X hK F H σ E C k => by
  obtain ⟨F1, lf, E1, back⟩ := E.thaw
  refine h X hK F1 H σ E1 C fun v F2 H2 d l2 E2 r ⟨es, e⟩ => ?_
  subst e
  obtain ⟨xs, rfl, _⟩ := r.at_inv
  obtain ⟨F3, l3, E3⟩ := back F2 H2 l2 E2
  exact k F3 H2 l3 E3
theorem En.wkO {X : Bs} {F H : Hp} {σ : L2.St} (E : En X F H σ Γ) {j : Nat} {v : V} {d : PyData} (hj : Γ[j]? = some (.ex v (WkO K d))) : Rw K F v d := by
  obtain ⟨S, hs, _, _⟩ := id E.sl
  obtain ⟨_, _, r, _⟩ := hs j _ hj
  exact r
theorem ra_var {j : Nat} {v : V} {a : Addr} {es : List PyData} (hj : Γ[j]? = some (.ex v (WkO K (listAt a es)))) : RA K Γ (tVar j) a := fun X hK F H σ E C k => by
  have e := (E.wkO hj).at_inv
  subst e
  exact ⟨_, E.ex hj, k F H Le.rfl' E⟩
/-- the whole of a tree of one's own -/
theorem ra_top {j : Nat} {v : V} {a : Addr} {es : List PyData} {pn : Option (Addr × List V)} (hj : Γ[j]? = some (.ex v (AtP K (listAt a es) pn))) : RA K Γ (tVar j) a := fun X hK F H σ E C k => by
  obtain ⟨S, hs, _, _⟩ := id E.sl
  obtain ⟨_, _, _, r, _⟩ := hs j _ hj
  obtain ⟨xs, rfl, _⟩ := r.at_inv
  exact ⟨_, E.ex hj, k F H Le.rfl' E⟩
theorem atI_rw {F : Hp} {xs : List V} {ds : List PyData} {n : Int} {d : PyData} (r : RwA K F xs ds) (h : atI ds n = some d) : ∃ z, atI xs n = some z ∧ Rw K F z d := by
  unfold atI at h ⊢
  rw [r.length]
  cases e : ixN ds.length n with
  | none => rw [e] at h; cases h
  | some j =>
    rw [e] at h
    exact r.get h
theorem ra_wkIx {j : Nat} {v : V} {ds : List PyData} {n : Int} {a : Addr} {es : List PyData} (hj : Γ[j]? = some (.ex v (WkO K (.tuple ds)))) (h : atI ds n = some (listAt a es)) : RA K Γ (tOp (rIx K) (tVar j) (tC (.int n))) a := fun X hK F H σ E C k => by
  obtain ⟨b, xs, rfl, hb, rx⟩ := (E.wkO hj).tup_inv
  obtain ⟨z, hz, rz⟩ := atI_rw rx h
  have e := rz.at_inv
  subst e
  exact ⟨_, E.ex hj, .inr (.inl ⟨_, _, n, _, rfl, rfl, sqT_le E.le hb, hz, k F H Le.rfl' E⟩)⟩
/-- what is no list in such a tuple -/
theorem wd_wkIx {j : Nat} {v : V} {ds : List PyData} {n : Int} {d : PyData} (hj : Γ[j]? = some (.ex v (WkO K (.tuple ds)))) (h : atI ds n = some d) (hl : lf d = true) (q : Q d) : WD K m Γ (tOp (rIx K) (tVar j) (tC (.int n))) Q := fun X hK F H σ E C k => by
  obtain ⟨b, xs, rfl, hb, rx⟩ := (E.wkO hj).tup_inv
  obtain ⟨z, hz, rz⟩ := atI_rw rx h
  exact ⟨_, E.ex hj, .inr (.inl ⟨_, _, n, _, rfl, rfl, sqT_le E.le hb, hz, k z F H _ Le.rfl' E (Rp.lfree Bs.ff_tup d hl (rz.lf hl)) q⟩)⟩

theorem AtP.mut {F H : Hp} {v : V} {S : Addr → Prop} {d : PyData} {a : Addr} {xs ys : List V} {f : List PyData → List PyData} (n : npl d = true) (r : Rp K (lay S H F) v d) (hS : ∀ a, S a ↔ a ∈ ad d) (ha : H a = some (.lst xs)) (sa : a ∈ ad d)
    (hf : ∀ ds, RpA K (upd (lay S H F) a (.lst ys)) xs ds → RpA K (upd (lay S H F) a (.lst ys)) ys (f ds)) (hsub : ∀ ds, ∀ b ∈ adA (f ds), b ∈ adA ds) (hnpl : ∀ ds, nplA ds = true → nplA (f ds) = true) :
    npl (mA a f d) = true ∧ Rp K (lay (fun b => b ∈ ad (mA a f d)) (upd H a (.lst ys)) F) v (mA a f d) ∧ ∀ b, b ∈ ad (mA a f d) → S b := by
  have la : lay S H F a = some (.lst xs) := by rw [lay_at ((hS a).mpr sa)]; exact ha
  have hn := npl_mA (a := a) hnpl d n
  have sub : ∀ b, b ∈ ad (mA a f d) → S b := fun b hb => (hS b).mpr (ad_mA hsub d b hb)
  have lS : ∀ b, S b → ∃ zs, lay S H F b = some (.lst zs) := fun b sb => r.ad b ((hS b).mp sb)
  refine ⟨hn, (Rp.mut la hf r n).cut ?_ hn fun b hb => ?_, sub⟩
  · have key : ∀ {b : Addr} {o : HO}, upd (lay S H F) a (.lst ys) b = some o → (∀ zs, o ≠ .lst zs) → lay (fun b => b ∈ ad (mA a f d)) (upd H a (.lst ys)) F b = some o := fun {b o} q no => by
      have ne : b ≠ a := fun e => by subst e; rw [upd_same] at q; cases q; exact no _ rfl
      rw [upd_ne ne] at q
      have nS : ¬ S b := fun sb => by
        obtain ⟨zs, w⟩ := lS b sb
        rw [q] at w; cases w; exact no _ rfl
      unfold lay at q ⊢
      rw [if_neg nS] at q
      rw [if_neg fun h => nS (sub b h)]
      exact q
    refine ⟨fun b zs z => ?_, fun b fs z => key z fun _ w => nomatch w⟩
    rcases z with (z | ⟨o, z⟩) | z
    · exact .inl (.inl (key z fun _ w => nomatch w))
    · exact .inl (.inr ⟨o, key z fun _ w => nomatch w⟩)
    · exact .inr z
  · have sb := sub b hb
    rw [lay_at hb]
    by_cases e : b = a
    · subst e; rw [upd_same, upd_same]
    · rw [upd_ne e, upd_ne e, lay_at sb]
/-- one list of a tree of one's own is changed -/
theorem En.atMut {X : Bs} (hK : X.K = K) {F H : Hp} {σ : L2.St} (E : En X F H σ Γ) {i : Nat} {v : V} {d : PyData} {pn : Option (Addr × List V)} {a : Addr} {es : List PyData} (hi : Γ[i]? = some (.ex v (AtP K d pn))) (ho : Oc a es d) (hp : ∀ q, pn = some q → q.1 ≠ a) :
    ∃ xs, H a = some (.lst xs) ∧ xs.length = es.length ∧ ∀ (ys : List V) (f : List PyData → List PyData), (∀ G ds, Le F G → RpA K G xs ds → RpA K G ys (f ds)) → (∀ ds, ∀ b ∈ adA (f ds), b ∈ adA ds) → (∀ ds, nplA ds = true → nplA (f ds) = true) → (∀ q, pn = some q → q.1 ∈ ad (mA a f d)) → En X F (upd H a (.lst ys)) σ (Γ.set i (.ex v (AtP K (mA a f d) pn))) := by
  obtain ⟨S, hS, hO, km⟩ := E.reown hi
  obtain ⟨ev, hk, n, r, hSa, hpn⟩ := hS
  obtain ⟨xs, hx, rx⟩ := r.oc ho
  have sa := ho.ad
  have ha : H a = some (.lst xs) := by rw [lay_at ((hSa a).mpr sa)] at hx; exact hx
  refine ⟨xs, ha, rx.length, fun ys f hf hsub hnpl hq => ?_⟩
  have fa : F a = none := (hO a ((hSa a).mpr sa)).1
  have lG : Le F (upd (lay S H F) a (.lst ys)) := fun b o q => by
    rw [upd_ne fun e => by subst e; rw [fa] at q; cases q]
    exact lay_le E.le b o q
  obtain ⟨n', r', sub⟩ := AtP.mut n r hSa ha sa (fun ds z => hf _ ds lG z) hsub hnpl
  refine km _ (.ex v (AtP K (mA a f d) pn)) (fun b => b ∈ ad (mA a f d)) (fun c o z w => ?_) (fun c w => ?_) sub ⟨ev, hk, n', r', fun _ => Iff.rfl, fun q e => ⟨hq q e, ?_⟩⟩
  · rw [upd_ne fun e => w (by subst e; exact (hSa c).mpr sa)]; exact z
  · by_cases e : c = a
    · subst e; rw [upd_same]; simp
    · rw [upd_ne e]; exact (hO c w).2
  · rw [upd_ne (hp q e)]; exact (hpn q e).2
theorem ad_mA_mem {a b : Addr} {f : List PyData → List PyData} {d : PyData} (hf : ∀ ds, ∀ b ∈ adA ds, b ∈ adA (f ds)) (n : npl d = true) (h : b ∈ ad d) : b ∈ ad (mA a f d) := by
  have key : ∀ (k : Nat) (d : PyData), sizeOf d < k → npl d = true → b ∈ ad d → b ∈ ad (mA a f d) := by
    intro k
    induction k with
    | zero => intro d hk; omega
    | succ k ih =>
      have ihs : ∀ (ds : List PyData), sizeOf ds < k + 1 → nplA ds = true → b ∈ adA ds → b ∈ adA (mAs a f ds) := by
        intro ds
        induction ds with
        | nil => intro _ _ h; simp [adA] at h
        | cons d ds ih2 =>
          intro hk hn h
          simp only [nplA, Bool.and_eq_true] at hn
          rw [adA_cons] at h
          rw [mAs, adA_cons]
          simp only [List.cons.sizeOf_spec] at hk
          rcases List.mem_append.mp h with z | z
          · exact List.mem_append.mpr (.inl (ih d (by omega) hn.1 z))
          · exact List.mem_append.mpr (.inr (ih2 (by omega) hn.2 z))
      intro d hk hn h
      match d, hk, hn, h with
      | .none, _, _, h => simp [Pk.ad] at h
      | .bool _, _, _, h => simp [Pk.ad] at h
      | .int _, _, _, h => simp [Pk.ad] at h
      | .str _, _, _, h => simp [Pk.ad] at h
      | .list _, _, hn, _ => simp [npl] at hn
      | .tuple ds, hk, hn, h =>
        rw [ad_tup] at h
        rw [npl_tup] at hn
        rw [mA_tup, ad_tup]
        exact ihs ds (by simp only [PyData.tuple.sizeOf_spec] at hk; omega) hn h
      | .dict ps, hk, hn, h =>
        unfold mA
        split
        · rename_i e; cases e
        · rename_i c es e
          injection e with e
          subst e
          have n : nplA es = true := by simpa [npl] using hn
          simp only [Pk.ad] at h ⊢
          rcases List.mem_cons.mp h with z | z
          · rw [z]; exact List.mem_cons_self
          · refine List.mem_cons_of_mem _ ?_
            have hh := ihs es (by simp only [PyData.dict.sizeOf_spec, List.cons.sizeOf_spec, Prod.mk.sizeOf_spec, PyData.list.sizeOf_spec] at hk; omega) n z
            split
            · exact hf _ b hh
            · exact hh
        · exact h
  exact key (sizeOf d + 1) d (by omega) n h
theorem nplA_append {xs ys : List PyData} : nplA (xs ++ ys) = (nplA xs && nplA ys) := by
  simp only [nplA_all, List.all_append]
/-- .append(x) of a list in a tree of one's own -/
theorem sj_atApp {i : Nat} {v : V} {d : PyData} {pn : Option (Addr × List V)} {a : Addr} {es : List PyData} (hi : Γ[i]? = some (.ex v (AtP K d pn))) (ho : Oc a es d) (hp : ∀ q, pn = some q → q.1 ≠ a) (hz : es.length < 100000) (hr : RA K Γ tr a)
    (h : WD K false Γ te fun x => npl x = true ∧ ad x = [] ∧ P.nx (Γ.set i (.ex v (AtP K (mA a (· ++ [x]) d) pn)))) : SJ K Γ (tDrop (tBM K "list" rAppend tr (tCons te tNil))) P := fun X hK F H σ E D hD => by
  refine hr X hK F H σ E _ fun F1 H1 l1 E1 => ?_
  obtain ⟨zs, hz1, _, _⟩ := E1.atMut hK hi ho hp
  refine ⟨.inl ⟨rfl, _, SqL.of hz1⟩, h X hK F1 H1 σ E1 _ fun u F2 H2 x l2 E2 rx ⟨nx, ax, q⟩ => ?_⟩
  obtain ⟨xs, hx, hl, km⟩ := E2.atMut hK hi ho hp
  refine ⟨a, xs, u, rfl, rfl, hx, sz_lt (by rw [hl]; exact hz), hD.nx F2 _ σ _ (km _ (· ++ [x]) (fun G ds le r => r.append (RpA.one (Rp.mono rx le))) (fun ds b hb => ?_) (fun ds hn => by rw [nplA_append, hn]; simp [nplA, nx]) fun q e => ?_) q⟩
  · rw [adA_append, adA_cons, ax, adA_nil] at hb
    simpa using hb
  · obtain ⟨S, hS, _, _⟩ := E2.reown hi
    obtain ⟨_, _, n, _, _, hpn⟩ := hS
    exact ad_mA_mem (fun ds b hb => by rw [adA_append]; exact List.mem_append.mpr (.inl hb)) n (hpn q e).1
/-- a target for what is in a tree of one's own -/
def GW (K : Kw) (Γ : List Sl) (g : TG) (d : PyData) (N : List Sl → Prop) : Prop := ∀ X : Bs, X.K = K → ∀ F H σ, En X F H σ Γ → ∀ v, Rw K F v d → ∀ C : L2.St → Hp → Prop,
  (∀ F' H' σ' Γ', Le F F' → En X F' H' σ' Γ' → N Γ' → C σ' H') → g v σ H C
theorem gw_wk {i : Nat} {d : PyData} {N : List Sl → Prop} (q : ∀ v, N (Γ.set i (.ex v (WkO K d)))) : GW K Γ (gName i) d N := fun X hK F H σ E v r C k => by
  subst hK
  exact k F H _ _ Le.rfl' ((E.pushG (ov := some v) (s := .ex v (WkO X.K d)) (T := fun _ => False) Le.rfl' E.le (fun _ _ q => q) (fun _ _ _ => rfl) ⟨rfl, rfl, r, fun _ z => z⟩ (fun _ z => z.elim)).put i) (q v)
/-- for g in a list of a tree of one's own, which stays as it is while its items' lists change -/
theorem sj_forAt {i : Nat} {v : V} {d : PyData} {l : Addr} {es : List PyData} (hi : Γ[i]? = some (.ex v (AtO K d))) (ho : Oc l es d) (hn : nplA es = true) (hr : RA K Γ tr l)
    (h : ∀ xs : List V, ∃ I : Nat → List Sl → Prop, I 0 (Γ.set i (.ex v (AtP K d (some (l, xs))))) ∧ (∀ n Γ', I n Γ' → ∃ d', Γ'[i]? = some (.ex v (AtP K d' (some (l, xs)))) ∧ (n = es.length → P.nx (Γ'.set i (.ex v (AtO K d'))))) ∧
      (∀ n y Γ', es[n]? = some y → I n Γ' → GW K Γ' g y fun Γ2 => SJ K Γ2 tb { P with nx := I (n + 1), ct := I (n + 1), bk := fun _ => False })) : SJ K Γ (tFor (iList K tr) g tb) P := fun X hK F H σ E D hD => by
  refine hr X hK F H σ E _ fun F1 H1 l1 E1 => ?_
  obtain ⟨S, hS, hO, km⟩ := E1.reown hi
  obtain ⟨ev, hk, n, r, hSa, _⟩ := id hS
  obtain ⟨xs, hx, rx⟩ := r.oc ho
  have sa := ho.ad
  have ha : H1 l = some (.lst xs) := by rw [lay_at ((hSa l).mpr sa)] at hx; exact hx
  have tl : TupLe K (lay S H1 F1) F1 := by
    have key : ∀ {b : Addr} {o : HO}, lay S H1 F1 b = some o → (∀ zs, o ≠ .lst zs) → F1 b = some o := fun {b o} q no => by
      by_cases sb : S b
      · obtain ⟨zs, w⟩ := r.ad b ((hSa b).mp sb)
        rw [q] at w; cases w; exact absurd rfl (no _)
      · unfold lay at q; rw [if_neg sb] at q; exact q
    refine ⟨fun b zs z => ?_, fun b fs z => key z fun _ w => nomatch w⟩
    rcases z with (z | ⟨o, z⟩) | z
    · exact .inl (.inl (key z fun _ w => nomatch w))
    · exact .inl (.inr ⟨o, key z fun _ w => nomatch w⟩)
    · exact .inr z
  have rw0 : RwA K F1 xs es := rx.wk tl hn
  have Ep := km H1 (.ex v (AtP K d (some (l, xs)))) S (fun _ _ z _ => z) (fun a w => (hO a w).2) (fun _ w => w) ⟨ev, hk, n, r, hSa, fun q e => by cases e; exact ⟨sa, ha⟩⟩
  obtain ⟨I, h0, hpin, hs⟩ := h xs
  refine ⟨l, rfl, ⟨_, SqL.of ha⟩, ?_⟩
  obtain ⟨X1, k1, n1, f1, _, Er, back⟩ := Ep.rebase
  have hK1 : X1.K = K := k1.trans hK
  have hlen : xs.length = es.length := rx.length
  have stand : ∀ {n σ' H' F' Γ'}, En X1 F' H' σ' Γ' → I n Γ' → H' l = some (.lst xs) := fun {n σ' H' F' Γ'} E' hI => by
    obtain ⟨d', hg, _⟩ := hpin n Γ' hI
    obtain ⟨S', hs', _, _⟩ := id E'.sl
    obtain ⟨_, _, _, _, _, hpn⟩ := hs' i _ hg
    exact (hpn _ rfl).2
  refine for_it (walk_list (K := K) (a := l) (xs := xs)) (fun n σ' H' => ∃ F' Γ', En X1 F' H' σ' Γ' ∧ I n Γ') ⟨F1, _, Er, h0⟩ (fun n σ' H' _ ⟨F', Γ', E', hI⟩ => SqL.of (stand E' hI)) (fun n x σ' H' H3 hn ⟨F', Γ', E', hI⟩ hy => ?_) (fun σ' H' ⟨F', Γ', E', hI⟩ => ?_)
  · obtain ⟨rfl, hx'⟩ := hy
    obtain ⟨y, hyd, ry⟩ := rw0.getV hx'
    refine hs n y Γ' hyd hI X1 hK1 F' _ σ' E' x (ry.mono (Le.tup (by rw [← f1]; exact E'.f0))) _ fun F4 H4 σ4 Γ4 l4 E4 sj => ?_
    exact sj X1 hK1 F4 H4 σ4 E4 _ ⟨fun F5 H5 σ5 Γ5 E5 q => ⟨F5, Γ5, E5, q⟩, fun F5 H5 σ5 Γ5 v s E5 q => hD.rt F5 H5 σ5 Γ5 v s (back _ _ _ _ E5) q, fun _ _ _ _ _ q => q.elim, fun F5 H5 σ5 Γ5 E5 q => ⟨F5, Γ5, E5, q⟩, fun F5 H5 σ5 Γ5 c o d E5 a q => hD.xc F5 H5 σ5 Γ5 c o d (back _ _ _ _ E5) a q⟩
  · obtain ⟨d', hg, hq⟩ := hpin _ Γ' hI
    have E2 := back _ _ _ _ E'
    obtain ⟨S2, hS2, hO2, km2⟩ := E2.reown hg
    obtain ⟨ev2, hk2, n2, r2, hSa2, _⟩ := hS2
    exact hD.nx F' H' σ' _ (km2 H' (.ex v (AtO K d')) S2 (fun _ _ z _ => z) (fun a w => (hO2 a w).2) (fun _ w => w) ⟨ev2, hk2, n2, r2, hSa2, fun q e => nomatch e⟩) (hq hlen)
end
end Pk
end
section
set_option Elab.async false
set_option linter.all false
set_option maxRecDepth 100000
set_option pp.maxSteps 1000
namespace Pk
open PySem PySem.Spec PyProof.Rows L2
section
variable {K : Kw} {F : Hp} {N : Addr → Prop}
theorem cutN_not {a : Addr} {o : HO} (h : F a = some o) (n : ∀ xs, o ≠ .lst xs) : cutN N F a = some o := by
  unfold cutN
  split
  · rename_i xs e
    rw [h] at e
    cases e
    exact absurd rfl (n xs)
  · exact h
theorem Rp.cutA {v : V} {d : PyData} (h : Rp K F v d) (hn : npl d = true) (ha : ∀ a ∈ Pk.ad d, ¬ N a) : Rp K (cutN N F) v d := h.cut cutN_tup hn fun a m => cutN_at (ha a m)
theorem RpD.cutA {es : NEs} : ∀ {ds : NDs}, RpD K F es ds → (∀ x ∈ ds, Pk.lf x.1.data = true) → (∀ x ∈ ds, npl x.2 = true) → (∀ x ∈ ds, ∀ a ∈ Pk.ad x.2, ¬ N a) → RpD K (cutN N F) es ds := by
  induction es with
  | nil => intro ds h _ _ _; cases h; exact .nil
  | cons e es ih =>
    intro ds h h1 h2 h3
    cases h with
    | cons a b c => exact .cons (Rp.lfree cutN_tup _ (h1 _ List.mem_cons_self) a) (b.cutA (h2 _ List.mem_cons_self) (h3 _ List.mem_cons_self)) (ih c (fun x hx => h1 x (List.mem_cons_of_mem _ hx)) (fun x hx => h2 x (List.mem_cons_of_mem _ hx)) (fun x hx => h3 x (List.mem_cons_of_mem _ hx)))
theorem Rp.cutD {v : V} {ds : NDs} (h : Rp K F v (dictN ds)) (h1 : ∀ x ∈ ds, Pk.lf x.1.data = true) (h2 : ∀ x ∈ ds, npl x.2 = true) (h3 : ∀ x ∈ ds, ∀ a ∈ Pk.ad x.2, ¬ N a) : Rp K (cutN N F) v (dictN ds) := by
  obtain ⟨a, ep, es, rfl, ha, r⟩ := h.dictN_inv
  exact .dcn (cutN_not ha fun xs e => by unfold dN at e; cases e) (r.cutA h1 h2 h3)
end

section
variable {K : Kw} {N : Addr → Prop} {m : Bool} {Γ : List Sl} {P : Po} {t u : TS} {te ti tx td : TE} {QX : Sl → Prop}
/-- the values without addresses -/
def plN (ds : NDs) : NDs := ds.map fun x => (x.1, pl x.2)
theorem RpD.pl {F : Hp} {es : NEs} : ∀ {ds : NDs}, RpD K F es ds → RpD K F es (plN ds) := by
  induction es with
  | nil => intro ds h; cases h; exact .nil
  | cons e es ih =>
    intro ds h
    cases h with
    | cons a b c => exact .cons a b.pl (ih c)
end
end Pk
end
section
set_option Elab.async false
set_option linter.all false
set_option maxRecDepth 100000
set_option pp.maxSteps 1000
namespace Pk
open PySem PySem.Spec PyProof.Rows L2
section
variable {K : Kw} {m : Bool} {N : Addr → Prop} {Γ : List Sl} {t te tr ta : TE} {Q : PyData → Prop} {QX : Sl → Prop} {P : Po} {g : TG} {tb ts : TS}
theorem En.lastNewAt {X : Bs} {F H : Hp} {σ : L2.St} (E : En X F H σ Γ) {i : Nat} {l : Addr} {ds : List PyData} (hi : Γ[i]? = some (.ml m l ds)) : l ∉ adA ds := fun z => by
  obtain ⟨xs, _, _, fl, r⟩ := E.ml hi
  obtain ⟨ys, h⟩ := r.ad l z
  rw [X.ff_le F m _ _ h] at fl; cases fl
/-- a list of one's own is frozen, its address told -/
theorem sjt_frzA (i : Nat) {l : Addr} {ds : List PyData} (hi : Γ[i]? = some (.ml m l ds)) (h : l ∉ adA ds → SJt K (Γ.set i (.dat m (listAt l ds))) ts P) : SJt K Γ ts P := fun X hK hT F H σ E D hD => by
  obtain ⟨F', lf, E'⟩ := E.freezeA hi
  exact h (E.lastNewAt hi) X hK hT F' H σ E' D hD
end
end Pk
end
section
set_option Elab.async false
set_option linter.all false
set_option maxRecDepth 100000
set_option pp.maxSteps 1000
namespace Pk
open PySem PySem.Spec PyProof.Rows L2
variable {K : Kw} {m : Bool} {Γ : List Sl} {t te tr ta : TE} {Q : PyData → Prop} {QX : Sl → Prop} {P : Po}
/-- list(a list whose items hold no list): new with all that is in it -/
theorem rcx_listLN {ds : List PyData} (hl : lfA ds = true) (q : ∀ l, QX (.ml true l ds)) : RCX K false Γ (dList K) [.list ds] QX := fun X hK F H σ E vs rv C k => by
  cases rv with
  | cons a b =>
    cases b
    cases a with
    | lst h1 r1 => exact ⟨_, _, rfl, .inl (SqL.of (E.le _ _ h1)), fun p hp => k (.ref p) F _ _ Le.rfl' (E.pushM (m := true) hp (by rw [hK]; exact RpA.lfree Bs.ff_tup _ hl r1)) (q p)⟩
theorem wx_listN (h : WD K false Γ ta fun x => ∃ ds, x = .list ds ∧ lfA ds = true ∧ ∀ l, QX (.ml true l ds)) : WX K Γ (tCB (dList K) (tCons ta tNil)) QX :=
  wx_cb1 false (h.mono fun x ⟨ds, e, hl, q⟩ => by subst e; exact rcx_listLN hl q)
end Pk
end
section
set_option Elab.async false
set_option linter.all false
set_option maxRecDepth 100000
set_option maxHeartbeats 1000000
namespace Pz
open PySem PySem.Spec PyProof.Rows L2
section
variable {prog : Program} {w : World} {A : Around} {E : Value → Shared → Prop} {s : Shared}
variable {e it : Addr} {fp : List Addr} {n i : Nat} {c : Int} {P : Nat → Value → Prop} {S : Nat → Heap → Prop} {old : Value}
end
end Pz
namespace Pk
open PySem PySem.Spec PyProof.Rows L2 Pz
variable {K : Kw} {m : Bool} {Γ : List Sl} {Q : PyData → Prop} {te : TE}
end Pk
end
section
set_option Elab.async false
set_option linter.all false
set_option maxRecDepth 100000
namespace Pk
open PySem PySem.Spec PyProof.Rows L2
theorem rangePlace_in {a b i : Int} : (Builtin.Range.rangePlace? a b 1 i).isSome = decide (a ≤ i ∧ i < b) := by
  unfold Builtin.Range.rangePlace?
  simp only [gt_iff_lt, Int.emod_one]
  by_cases h : a ≤ i ∧ i < b
  · simp [h]
  · rw [decide_eq_false h]
    have : ¬ (a ≤ i) ∨ ¬ (i < b) := by omega
    rcases this with z | z <;> simp [z]
theorem rg_has {prog : Program} {w : World} {A : Around} {E : Value → Shared → Prop} {s : Shared} {r : Addr} {a b i : Int} {t u v ti : Tok} {Q : Value → Shared → Prop} {f : Bool → Bool} (hr : IsRange s.heap r a b 1 t u v)
    (h : Q (.bool (f (decide (a ≤ i ∧ i < b)))) s) : wpAny (model prog w) A (do return .bool (f (← contains (.ref r) (.int i ti)))) Q E s := by
  have hT : s.TypeIs (.ref r) "range" := ⟨_, hr, rfl⟩
  refine wpAny_bind ?_
  unfold contains
  try with_reducible refine wpAny_holding ?_
  refine wpAny_bind (wpAny_specialOf hT PySem.F.slot_range_contains.lookup ?_)
  show wpAny _ _ (if (some (Value.builtin "range.__contains__") == some Value.none) = true then _ else _) _ E s
  rw [if_neg (by rw [beq_builtin_none]; exact Bool.false_ne_true)]
  refine wpAny_bind (wpAny_callSpecialUnlessNone?_slot (name := Str.ofString "__contains__") hT PySem.F.slot_range_contains
    (wpAny_call_entry PySem.F.slot_range_contains hT PySem.F.entry_range_contains ?_ (PySem.F.args_range_contains_2 _ _)))
  unfold Builtin.«range.__contains__»
  refine wpAny_bind (wpAny_of_eq (a := (Value.ref r, [Value.int i ti])) rfl ?_)
  refine wpAny_bind (wpAny_rule ?_)
  refine wpAny_bind (wpAny_rangeFields hr ?_)
  show wpAny _ _ (ret (.bool _)) _ _ _
  exact wpAny_pure ⟨_, rfl, wpAny_truthy_bool (wpAny_pure (by rw [rangePlace_in]; exact h))⟩
def tRgIn (neg : Bool) (ty : TE) (te : L2.St → Hp → (Int → Int → Hp → Prop) → Prop) : TE := fun σ H Q => ty σ H fun y H1 => te σ H1 fun a b H2 => ∃ i, y = .int i ∧ Q (.bl (neg.xor (decide (a ≤ i ∧ i < b)))) H2
theorem pc_rgNotIn {X : Cx} {i e : Expr} {ty : TE} {te : L2.St → Hp → (Int → Int → Hp → Prop) → Prop} (hi : PE X i ty) (he : PRg X e te) : PC X .NotIn i e (tRgIn true ty te) := by
  refine ⟨fun pins s σ H Q I h => ?_⟩
  refine thn (hi.run pins s σ H _ I h) fun iv s1 ⟨y, H1, I1, ry, q1⟩ => thn (he pins s1 σ H1 _ I1 q1) fun u s2 ⟨r, a, b, t, tu, tv, H2, ex, hr, I2, n, ey, q2⟩ => ?_
  subst ex ey
  obtain ⟨ti, rfl⟩ := ry
  refine rg_has (f := fun x => !x) hr ⟨.bl _, H2, I2, rfl, ?_⟩
  simpa using q2
theorem pc_rgIn {X : Cx} {i e : Expr} {ty : TE} {te : L2.St → Hp → (Int → Int → Hp → Prop) → Prop} (hi : PE X i ty) (he : PRg X e te) : PC X .In i e (tRgIn false ty te) := by
  refine ⟨fun pins s σ H Q I h => ?_⟩
  refine thn (hi.run pins s σ H _ I h) fun iv s1 ⟨y, H1, I1, ry, q1⟩ => thn (he pins s1 σ H1 _ I1 q1) fun u s2 ⟨r, a, b, t, tu, tv, H2, ex, hr, I2, n, ey, q2⟩ => ?_
  subst ex ey
  obtain ⟨ti, rfl⟩ := ry
  refine rg_has (f := fun x => x) hr ⟨.bl _, H2, I2, rfl, ?_⟩
  simpa using q2
section
variable {K : Kw} {m : Bool} {Γ : List Sl} {Q : PyData → Prop} {te ti t : TE} {tb : TE} {neg : Bool}
theorem wd_rgIn1 (h : WD K false Γ ti fun y => ∃ i, y = .int i ∧ WD K false Γ te fun x => ∃ b, x = .int b ∧ Q (.bool (neg.xor (decide (0 ≤ i ∧ i < b))))) : WD K m Γ (tRgIn neg ti (tRg1 te)) Q := fun X hK F H σ E C k =>
  h X hK F H σ E _ fun v F1 H1 d l1 E1 r ⟨i, e, h2⟩ => h2 X hK F1 H1 σ E1 _ fun u F2 H2 x l2 E2 ru ⟨b, eb, q⟩ => by
    subst e eb
    cases r
    cases ru
    exact ⟨b, rfl, i, rfl, k _ F2 H2 _ (l1.tr l2) E2 (.bl _) q⟩
theorem wd_rgIn2 (h : WD K false Γ ti fun y => ∃ i, y = .int i ∧ WD K false Γ te fun x => ∃ a, x = .int a ∧ WD K false Γ tb fun z => ∃ b, z = .int b ∧ Q (.bool (neg.xor (decide (a ≤ i ∧ i < b))))) : WD K m Γ (tRgIn neg ti (tRg2 te tb)) Q := fun X hK F H σ E C k =>
  h X hK F H σ E _ fun v F1 H1 d l1 E1 r ⟨i, e, h2⟩ => h2 X hK F1 H1 σ E1 _ fun u F2 H2 x l2 E2 ru ⟨a, ea, h3⟩ => h3 X hK F2 H2 σ E2 _ fun u3 F3 H3 z l3 E3 ru3 ⟨b, eb, q⟩ => by
    subst e ea eb
    cases r
    cases ru
    cases ru3
    exact ⟨a, b, rfl, rfl, i, rfl, k _ F3 H3 _ (l1.tr (l2.tr l3)) E3 (.bl _) q⟩
theorem En.hide {X : Bs} {F H : Hp} {σ : L2.St} (E : En X F H σ Γ) {i : Nat} {s : Sl} (hi : Γ[i]? = some s) : ∃ X2 : Bs, X2.K = X.K ∧ X2.N = X.N ∧ En X2 F H σ (Γ.set i .no) ∧ ∀ F' H', Le F F' → En X2 F' H' σ (Γ.set i .no) → En X F' H' σ Γ := by
  have hil : i < Γ.length := (List.getElem?_eq_some_iff.mp hi).1
  have es : ∀ s', (Γ.set i .no).set i s' = Γ.set i s' := fun s' => by simp
  have eΓ : Γ.set i s = Γ := by
    rw [← (List.getElem?_eq_some_iff.mp hi).2]
    simp
  by_cases hn : s = .no
  · subst hn
    rw [eΓ]
    exact ⟨X, rfl, rfl, E, fun _ _ _ h => h⟩
  · obtain ⟨S1, q, ho, km⟩ := E.takeX hi
    obtain ⟨v, hv⟩ : ∃ v, σ.getD i none = some v := by
      cases s with
      | no => exact absurd rfl hn
      | dat m d => obtain ⟨⟨v, e, _⟩, _⟩ := q; exact ⟨v, e⟩
      | ml m l ds => obtain ⟨xs, e, _⟩ := q; exact ⟨_, e⟩
      | ex v Φ => exact ⟨v, q.1⟩
    rw [hv] at q
    have E2 := km H v s S1 (fun _ _ z _ => z) (fun a w => (ho a w).2) (fun a w => ⟨.inl w, (ho a w).2⟩) q
    obtain ⟨X2, k2, n2, Ef, fb⟩ := E2.frame
    refine ⟨X2, k2, n2, Ef, fun F' H' lf E' => ?_⟩
    have E3 := (fb F' H' σ _ rfl lf E').put i
    rw [es, eΓ] at E3
    have hs : σ.set i (some v) = σ := by
      have hl : i < σ.length := by rw [E.len]; exact hil
      rw [← hv]
      simp [List.getD_eq_getElem?_getD, hl]
    rwa [hs] at E3
/-- what is new is unlike what stood ahead, one slot hidden -/
theorem wd_freshI (i : Nat) {s : Sl} (hi : Γ[i]? = some s) (hn : ntG (Γ.set i .no) = true) (h : WD K true (Γ.set i .no) t fun d => (∀ a ∈ ad d, a ∉ adG Γ) → Q d) : WD K true Γ t Q := fun X hK F H σ E C k => by
  obtain ⟨X2, k2, n2, Ef, back⟩ := E.hide hi
  have nn : ∀ a, X2.N a → H a ≠ none := Ef.nn
  refine h { X2 with N := fun a => H a ≠ none } (k2.trans hK) F H σ (Ef.reN hn _ fun _ h => h) C fun v F' H' d l E' r q => ?_
  have r' : Rp K (cutN (fun a => H a ≠ none) F') v d := r
  have e : En X2 F' H' σ (Γ.set i .no) := E'.reN hn X2.N fun a h => E'.nn a (nn a h)
  exact k v F' H' d l (back F' H' l e) (r'.mono (cutN_mono (fun a n => nn a (by rw [n2]; exact n)) Le.rfl')) (q fun a ha hg => (cutN_ad r' a ha) (E.adG hg))
section
variable {F F' : Hp}
theorem RpA.mapTo : ∀ {vs : List V} {ds : List PyData}, (∀ d ∈ ds, ∀ v, Rp K F v d → Rp K F' v d) → RpA K F vs ds → RpA K F' vs ds
  | _, _, _, .nil => .nil
  | _, _, h, .cons r t => .cons (h _ List.mem_cons_self _ r) (RpA.mapTo (fun x hx => h x (List.mem_cons_of_mem _ hx)) t)
theorem Rp.plain (tl : TupLe K F F') (ls : ∀ a xs, F a = some (.lst xs) → F' a = some (.lst xs)) {d : PyData} (nb : NB d) : ∀ {v : V}, Rp K F v d → Rp K F' v d := by
  induction nb with
  | non => intro v h; cases h; exact .non
  | int i => intro v h; cases h; exact .int i
  | str x => intro v h; cases h; exact .str x
  | lst _ ih =>
    intro v h
    cases h with
    | lst ha ra => exact .lst (ls _ _ ha) (ra.mapTo fun d hd v r => ih d hd r)
  | tup _ ih =>
    intro v h
    cases h with
    | tup ha ra => exact .tup (tl.1 _ _ ha) (ra.mapTo fun d hd v r => ih d hd r)
end
/-- new data made while things of one's own are read -/
theorem wd_thawN (hn : ntG (Γ.map Sl.frz) = true) (h : WD K true (Γ.map Sl.frz) t fun d => NB d ∧ Q d) : WD K false Γ t Q := fun X hK F H σ E C k => by
  obtain ⟨F1, lf, E1, back⟩ := E.thawP
  refine h { X with N := fun a => H a ≠ none } hK F1 H σ (E1.reN hn _ fun _ h => h) C fun v F2 H2 d l2 E2 r ⟨nb, q⟩ => ?_
  have E2' : En X F2 H2 σ (Γ.map Sl.frz) := E2.reN hn X.N fun a h => E2.nn a (E.nn a h)
  obtain ⟨F3, l3, E3, tl, ag⟩ := back F2 H2 l2 E2'
  have r' : Rp K (cutN (fun a => H a ≠ none) F2) v d := r
  subst hK
  refine k v F3 H2 d l3 E3 (r'.plain (F' := F3) ⟨fun a xs z => tl.1 a xs ((cutN_le _ _ |>.tup).1 a xs z), fun a fs z => tl.2 a fs ((cutN_le _ _ |>.tup (K := X.K)).2 a fs z)⟩ (fun a xs z => ?_) nb) q
  obtain ⟨n, z2⟩ := cutN_lst z
  have h0 : H a = none := by
    cases e : H a with
    | none => rfl
    | some o => exact absurd (by rw [e]; simp) n
  rw [ag a (E1.le.nn h0)]
  exact z2
/-- a list of names for lists of others -/
def LwO (K : Kw) (acc : List PyData) : Own where
  K := K
  p := fun F H v S => ∃ L xs, v = .ref L ∧ H L = some (.lst xs) ∧ RwA K F xs acc ∧ ∀ a, S a ↔ a = L
  vw := none
  keep := fun ⟨L, xs, e, h, r, hS⟩ le k => ⟨L, xs, e, (k L ((hS L).mpr rfl)).trans h, r.mono le.tup, hS⟩
  keepT := fun _ => fun ⟨L, xs, e, h, r, hS⟩ tl k => ⟨L, xs, e, (k L ((hS L).mpr rfl)).trans h, r.mono tl, hS⟩
  view := fun _ _ e => nomatch e
/-- what was a tree of one's own, of which some lists are left -/
def RoO (K : Kw) (d : PyData) (as : List Addr) (n : Nat) : Own where
  K := K
  p := fun F H v S => Rw K F v d ∧ (∀ a ∈ as, ∃ xs, H a = some (.lst xs) ∧ xs.length ≤ n) ∧ ∀ a, S a ↔ a ∈ as
  vw := none
  keep := fun ⟨r, h, hS⟩ le k => ⟨r.mono le.tup, fun a ha => (h a ha).imp fun xs z => ⟨(k a ((hS a).mpr ha)).trans z.1, z.2⟩, hS⟩
  keepT := fun _ => fun ⟨r, h, hS⟩ tl k => ⟨r.mono tl, fun a ha => (h a ha).imp fun xs z => ⟨(k a ((hS a).mpr ha)).trans z.1, z.2⟩, hS⟩
  view := fun _ _ e => nomatch e
theorem En.split2 {X : Bs} {F H : Hp} {σ : L2.St} (E : En X F H σ Γ) {i j : Nat} {s1 s2 t1 t2 : Sl} (ij : i ≠ j) (hi : Γ[i]? = some s1) (hj : Γ[j]? = some s2)
    (h : ∀ S1 S2 : Addr → Prop, SlOk X F H (σ.getD i none) S1 s1 → SlOk X F H (σ.getD j none) S2 s2 → (∀ a, S1 a → ¬ S2 a) → (∀ a, S1 a ∨ S2 a → F a = none) →
      ∃ T1 T2 : Addr → Prop, (∀ a, T1 a ∨ T2 a → S1 a ∨ S2 a) ∧ (∀ a, T1 a → ¬ T2 a) ∧ SlOk X F H (σ.getD i none) T1 t1 ∧ SlOk X F H (σ.getD j none) T2 t2) : En X F H σ ((Γ.set i t1).set j t2) := by
  have hil : i < Γ.length := (List.getElem?_eq_some_iff.mp hi).1
  have hjl : j < Γ.length := (List.getElem?_eq_some_iff.mp hj).1
  obtain ⟨S, hs, hdj, ho⟩ := id E.sl
  obtain ⟨T1, T2, hT, hd, q1, q2⟩ := h (S i) (S j) (hs i _ hi) (hs j _ hj) (fun a z w => ij (hdj i j a z w)) (fun a z => by rcases z with z | z <;> exact (ho _ a z).1)
  have sub : ∀ a, T1 a ∨ T2 a → ∃ k, (k = i ∨ k = j) ∧ S k a := fun a z => by
    rcases hT a z with w | w
    · exact ⟨i, .inl rfl, w⟩
    · exact ⟨j, .inr rfl, w⟩
  refine ⟨E.le, by simp [E.len], ⟨fun k a => (k = i ∧ T1 a) ∨ (k = j ∧ T2 a) ∨ (k ≠ i ∧ k ≠ j ∧ S k a), fun k s e => ?_, fun k k' a z w => ?_, fun k a z => ?_⟩, E.fr, E.f0, E.nn⟩
  · by_cases ki : k = i
    · subst ki
      rw [List.getElem?_set_ne (Ne.symm ij), List.getElem?_set_self hil] at e
      cases e
      have eS : (fun a => (k = k ∧ T1 a) ∨ (k = j ∧ T2 a) ∨ (k ≠ k ∧ k ≠ j ∧ S k a)) = T1 := by
        funext a
        exact propext ⟨fun z => by
          rcases z with z | z | z
          · exact z.2
          · exact absurd z.1 ij
          · exact absurd rfl z.1, fun z => .inl ⟨rfl, z⟩⟩
      show SlOk X F H _ (fun a => (k = k ∧ T1 a) ∨ (k = j ∧ T2 a) ∨ (k ≠ k ∧ k ≠ j ∧ S k a)) t1
      rw [eS]
      exact q1
    · by_cases kj : k = j
      · subst kj
        rw [List.getElem?_set_self (by simpa using hjl)] at e
        cases e
        have eS : (fun a => (k = i ∧ T1 a) ∨ (k = k ∧ T2 a) ∨ (k ≠ i ∧ k ≠ k ∧ S k a)) = T2 := by
          funext a
          exact propext ⟨fun z => by
            rcases z with z | z | z
            · exact absurd z.1 ki
            · exact z.2
            · exact absurd rfl z.2.1, fun z => .inr (.inl ⟨rfl, z⟩)⟩
        show SlOk X F H _ (fun a => (k = i ∧ T1 a) ∨ (k = k ∧ T2 a) ∨ (k ≠ i ∧ k ≠ k ∧ S k a)) t2
        rw [eS]
        exact q2
      · rw [List.getElem?_set_ne (Ne.symm kj), List.getElem?_set_ne (Ne.symm ki)] at e
        have eS : (fun a => (k = i ∧ T1 a) ∨ (k = j ∧ T2 a) ∨ (k ≠ i ∧ k ≠ j ∧ S k a)) = S k := by
          funext a
          exact propext ⟨fun z => by
            rcases z with z | z | z
            · exact absurd z.1 ki
            · exact absurd z.1 kj
            · exact z.2.2, fun z => .inr (.inr ⟨ki, kj, z⟩)⟩
        show SlOk X F H _ (fun a => (k = i ∧ T1 a) ∨ (k = j ∧ T2 a) ∨ (k ≠ i ∧ k ≠ j ∧ S k a)) s
        rw [eS]
        exact hs k s e
  · have key : ∀ {k k' : Nat} {a : Addr}, (k = i ∨ k = j) → (T1 a ∨ T2 a) → k' ≠ i → k' ≠ j → S k' a → False := fun {k k' a} _ z n1 n2 w => by
      obtain ⟨k2, hk2, z2⟩ := sub a z
      have := hdj _ _ a z2 w
      subst this
      rcases hk2 with e | e
      · exact n1 e
      · exact n2 e
    rcases z with z | z | z <;> rcases w with w | w | w
    · rw [z.1, w.1]
    · exact absurd w.2 (hd a z.2)
    · exact (key (.inl z.1) (.inl z.2) w.1 w.2.1 w.2.2).elim
    · exact absurd z.2 (hd a w.2)
    · rw [z.1, w.1]
    · exact (key (.inr z.1) (.inr z.2) w.1 w.2.1 w.2.2).elim
    · exact (key (.inl w.1) (.inl w.2) z.1 z.2.1 z.2.2).elim
    · exact (key (.inr w.1) (.inr w.2) z.1 z.2.1 z.2.2).elim
    · exact hdj _ _ a z.2.2 w.2.2
  · rcases z with z | z | z
    · obtain ⟨k2, _, z2⟩ := sub a (.inl z.2)
      exact ho k2 a z2
    · obtain ⟨k2, _, z2⟩ := sub a (.inr z.2)
      exact ho k2 a z2
    · exact ho k a z.2.2
theorem AtP.back {F H : Hp} {S : Addr → Prop} {v : V} {d : PyData} (r : Rp K (lay S H F) v d) (hSa : ∀ a, S a ↔ a ∈ ad d) : TupLe K (lay S H F) F := by
  have key : ∀ {b : Addr} {o : HO}, lay S H F b = some o → (∀ zs, o ≠ .lst zs) → F b = some o := fun {b o} q no => by
    by_cases sb : S b
    · obtain ⟨zs, w⟩ := r.ad b ((hSa b).mp sb)
      rw [q] at w; cases w; exact absurd rfl (no _)
    · unfold lay at q; rw [if_neg sb] at q; exact q
  refine ⟨fun b zs z => ?_, fun b fs z => key z fun _ w => nomatch w⟩
  rcases z with (z | ⟨o, z⟩) | z
  · exact .inl (.inl (key z fun _ w => nomatch w))
  · exact .inl (.inr ⟨o, key z fun _ w => nomatch w⟩)
  · exact .inr z
theorem RwA.refs {G : Hp} {bs : List (Addr × List PyData)} (h : ∀ x ∈ bs, ∃ ys, G x.1 = some (.lst ys) ∧ RpA K G ys x.2) : ∀ {F : Hp} {xs : List V}, RwA K F xs (bs.map fun x => listAt x.1 x.2) → RpA K G xs (bs.map fun x => listAt x.1 x.2) := by
  intro F
  induction bs with
  | nil => intro xs r; cases r; exact .nil
  | cons x bs ih =>
    intro xs r
    cases r with
    | cons r1 r2 =>
      have e := r1.at_inv
      subst e
      obtain ⟨ys, h1, h2⟩ := h x List.mem_cons_self
      exact .cons (.lid h1 h2) (ih (fun y hy => h y (List.mem_cons_of_mem _ hy)) r2)
theorem adA_refs {bs : List (Addr × List PyData)} (h : ∀ x ∈ bs, lfA x.2 = true) : adA (bs.map fun x => listAt x.1 x.2) = bs.map (·.1) := by
  induction bs with
  | nil => rfl
  | cons x bs ih =>
    rw [List.map_cons, adA_cons, ad_at, adA_lf _ (h x List.mem_cons_self), ih fun y hy => h y (List.mem_cons_of_mem _ hy)]
    rfl
/-- lists of a tree of one's own go to the list that names them -/
theorem sj_splitA {P : Po} {ts : TS} {i j : Nat} {v u : V} {d : PyData} {bs : List (Addr × List PyData)} (ij : i ≠ j) (hi : Γ[i]? = some (.ex v (AtO K d))) (hj : Γ[j]? = some (.ex u (LwO K (bs.map fun x => listAt x.1 x.2)))) (as : List Addr) (n : Nat)
    (hb : ∀ x ∈ bs, Oc x.1 x.2 d ∧ lfA x.2 = true) (ha : ∀ a ∈ as, (∃ es, Oc a es d ∧ es.length ≤ n) ∧ ∀ x ∈ bs, x.1 ≠ a)
    (h : ∀ L, (∀ x ∈ bs, x.1 ≠ L) → SJ K ((Γ.set i (.ex v (RoO K d as n))).set j (.ex u (AtO K (listAt L (bs.map fun x => listAt x.1 x.2))))) ts P) : SJ K Γ ts P := fun X hK F H σ E D hD => by
  subst hK
  obtain ⟨L, hL, E2⟩ : ∃ L, (∀ x ∈ bs, x.1 ≠ L) ∧ En X F H σ ((Γ.set i (.ex v (RoO X.K d as n))).set j (.ex u (AtO X.K (listAt L (bs.map fun x => listAt x.1 x.2))))) := by
    obtain ⟨S, hs, hdj, ho⟩ := id E.sl
    obtain ⟨_, _, L, xs0, eu, hx0, _, hSL⟩ := hs j _ hj
    obtain ⟨_, _, n0, r0, hS0, _⟩ := hs i _ hi
    have hL : ∀ x ∈ bs, x.1 ≠ L := fun x hx e => ij (hdj i j L ((hS0 L).mpr (by rw [← e]; exact (hb x hx).1.ad)) ((hSL L).mpr rfl))
    refine ⟨L, hL, E.split2 ij hi hj fun S1 S2 q1 q2 hd hF => ?_⟩
    obtain ⟨ev, hk, np, r, hSa, _⟩ := q1
    obtain ⟨eu2, hk2, L2, xs, eL, hx, rw0, hS2⟩ := q2
    have eLL : L2 = L := by rw [eu] at eL; cases eL; rfl
    subst eLL
    have back := AtP.back r hSa
    have lists : ∀ a ∈ ad d, ∃ zs, H a = some (.lst zs) := fun a ha => by
      obtain ⟨zs, w⟩ := r.ad a ha
      rw [lay_at ((hSa a).mpr ha)] at w
      exact ⟨zs, w⟩
    let T2 : Addr → Prop := fun a => a = L2 ∨ ∃ x ∈ bs, x.1 = a
    have hT2 : ∀ a, T2 a → ∃ zs, H a = some (.lst zs) := fun a z => by
      rcases z with z | ⟨x, hx', z⟩
      · rw [z]; exact ⟨_, hx⟩
      · rw [← z]; exact lists _ (hb x hx').1.ad
    have up : TupLe X.K F (lay T2 H F) := lay_tup E.le hT2
    have up2 : TupLe X.K (lay S1 H F) (lay T2 H F) := ⟨fun a xs z => up.1 a xs (back.1 a xs z), fun a fs z => up.2 a fs (back.2 a fs z)⟩
    refine ⟨fun a => a ∈ as, T2, fun a z => ?_, fun a z w => ?_, ⟨ev, hk, r.wk back np, fun a z => ?_, fun a => Iff.rfl⟩, ⟨eu2, hk2, ?_, ?_, fun a => ?_, fun q e => nomatch e⟩⟩
    · rcases z with z | z | ⟨x, hx', z⟩
      · obtain ⟨⟨es, o, _⟩, _⟩ := ha a z
        exact .inl ((hSa a).mpr o.ad)
      · exact .inr ((hS2 a).mpr z)
      · exact .inl ((hSa a).mpr (by rw [← z]; exact (hb x hx').1.ad))
    · obtain ⟨⟨es, o, _⟩, n2⟩ := ha a z
      rcases w with w | ⟨x, hx', w⟩
      · exact hd a ((hSa a).mpr o.ad) ((hS2 a).mpr w)
      · exact n2 x hx' w
    · obtain ⟨⟨es, o, hl⟩, _⟩ := ha a z
      obtain ⟨ys, w, ry⟩ := r.oc o
      rw [lay_at ((hSa a).mpr o.ad)] at w
      exact ⟨ys, w, by rw [ry.length]; exact hl⟩
    · rw [npl_at, nplA_all, List.all_eq_true]
      intro y hy
      obtain ⟨x, hx', rfl⟩ := List.mem_map.mp hy
      rw [npl_at]
      exact nplA_lf _ (hb x hx').2
    · rw [eL]
      refine .lid (by rw [lay_at (.inl rfl)]; exact hx) (RwA.refs (fun x hx' => ?_) rw0)
      obtain ⟨ys, w, ry⟩ := r.oc (hb x hx').1
      rw [lay_at ((hSa _).mpr (hb x hx').1.ad)] at w
      exact ⟨ys, by rw [lay_at (.inr ⟨x, hx', rfl⟩)]; exact w, RpA.lfree up2 _ (hb x hx').2 ry⟩
    · rw [ad_at, adA_refs fun x hx' => (hb x hx').2]
      constructor
      · rintro (z | ⟨x, hx', z⟩)
        · rw [z]; exact List.mem_cons_self
        · exact List.mem_cons_of_mem _ (List.mem_map.mpr ⟨x, hx', z⟩)
      · intro z
        rcases List.mem_cons.mp z with w | w
        · exact .inl w
        · obtain ⟨x, hx', e⟩ := List.mem_map.mp w
          exact .inr ⟨x, hx', e⟩
  exact h L hL X rfl F H σ E2 D hD
theorem ra_roIx {j : Nat} {v : V} {ds : List PyData} {as : List Addr} {n : Nat} {k : Int} {a : Addr} {es : List PyData} (hj : Γ[j]? = some (.ex v (RoO K (.tuple ds) as n))) (h : atI ds k = some (listAt a es)) : RA K Γ (tOp (rIx K) (tVar j) (tC (.int k))) a := fun X hK F H σ E C kk => by
  obtain ⟨S, hs, _, _⟩ := id E.sl
  obtain ⟨_, _, rw0, _⟩ := hs j _ hj
  obtain ⟨b, xs, rfl, hb, rx⟩ := rw0.tup_inv
  obtain ⟨z, hz, rz⟩ := atI_rw rx h
  have e := rz.at_inv
  subst e
  exact ⟨_, E.ex hj, .inr (.inl ⟨_, _, k, _, rfl, rfl, sqT_le E.le hb, hz, kk F H Le.rfl' E⟩)⟩
theorem En.roMut {X : Bs} (hK : X.K = K) {F H : Hp} {σ : L2.St} (E : En X F H σ Γ) {i : Nat} {v : V} {d : PyData} {as : List Addr} {n n' : Nat} {a : Addr} (hi : Γ[i]? = some (.ex v (RoO K d as n))) (ha : a ∈ as) (le : n ≤ n') :
    ∃ xs, H a = some (.lst xs) ∧ xs.length ≤ n ∧ ∀ ys : List V, ys.length ≤ n' → En X F (upd H a (.lst ys)) σ (Γ.set i (.ex v (RoO K d as n'))) := by
  obtain ⟨S, hS, hO, km⟩ := E.reown hi
  obtain ⟨ev, hk, r, hl, hSa⟩ := hS
  obtain ⟨xs, hx, hxl⟩ := hl a ha
  refine ⟨xs, hx, hxl, fun ys hy => km _ (.ex v (RoO K d as n')) S (fun c o z w => ?_) (fun c w => ?_) (fun _ w => w) ⟨ev, hk, r, fun b hb => ?_, hSa⟩⟩
  · rw [upd_ne fun e => w (by subst e; exact (hSa c).mpr ha)]; exact z
  · by_cases e : c = a
    · subst e; rw [upd_same]; simp
    · rw [upd_ne e]; exact (hO c w).2
  · by_cases e : b = a
    · subst e; exact ⟨ys, upd_same, hy⟩
    · obtain ⟨zs, h1, h2⟩ := hl b hb
      exact ⟨zs, by rw [upd_ne e]; exact h1, Nat.le_trans h2 le⟩
theorem sj_roApp {P : Po} {tr : TE} {i : Nat} {v : V} {d : PyData} {as : List Addr} {n : Nat} {a : Addr} (hi : Γ[i]? = some (.ex v (RoO K d as n))) (ha : a ∈ as) (hz : n < 100000) (hr : RA K Γ tr a)
    (h : WD K false Γ te fun _ => P.nx (Γ.set i (.ex v (RoO K d as (n + 1))))) : SJ K Γ (tDrop (tBM K "list" rAppend tr (tCons te tNil))) P := fun X hK F H σ E D hD => by
  refine hr X hK F H σ E _ fun F1 H1 l1 E1 => ?_
  obtain ⟨zs, hz1, _, _⟩ := E1.roMut hK hi ha (Nat.le_refl n)
  refine ⟨.inl ⟨rfl, _, SqL.of hz1⟩, h X hK F1 H1 σ E1 _ fun u F2 H2 x l2 E2 rx q => ?_⟩
  obtain ⟨xs, hx, hl, km⟩ := E2.roMut hK hi ha (Nat.le_succ n)
  exact ⟨a, xs, u, rfl, rfl, hx, sz_lt (Nat.lt_of_le_of_lt hl hz), hD.nx F2 _ σ _ (km _ (by simp; omega)) q⟩
theorem sj_roClear {P : Po} {tr : TE} {i : Nat} {v : V} {d : PyData} {as : List Addr} {n : Nat} {a : Addr} (hi : Γ[i]? = some (.ex v (RoO K d as n))) (ha : a ∈ as) (hr : RA K Γ tr a) (h : P.nx (Γ.set i (.ex v (RoO K d as n)))) : SJ K Γ (tDrop (tBM0 K "list" rClear tr)) P := fun X hK F H σ E D hD => by
  refine hr X hK F H σ E _ fun F1 H1 l1 E1 => ?_
  obtain ⟨xs, hx, hl, km⟩ := E1.roMut hK hi ha (Nat.le_refl n)
  exact ⟨.inl ⟨rfl, _, SqL.of hx⟩, a, xs, rfl, rfl, hx, hD.nx F1 _ σ _ (km _ (by simp)) h⟩
/-- a list comprehension over a list of a tree of one's own, that names lists of its items -/
theorem RwA.append {F : Hp} : ∀ {xs ys : List V} {ds es : List PyData}, RwA K F xs ds → RwA K F ys es → RwA K F (xs ++ ys) (ds ++ es)
  | _, _, _, _, .nil, h => h
  | _, _, _, _, .cons r t, h => .cons r (RwA.append t h)
/-- .. -/
theorem wx_lcWk {QX : Sl → Prop} {g : TG} {tt : TT} {tr : TE} {vs : List Nat} {i : Nat} {v : V} {d : PyData} {l : Addr} {es : List PyData} (hi : Γ[i]? = some (.ex v (AtO K d))) (ho : Oc l es d) (hz : es.length < 100000) (hn : nplA es = true) (hr : RA K Γ tr l) (hgw : Gw g vs)
    (h : ∀ xs : List V, wipeOk (Γ.set i (.ex v (AtP K d (some (l, xs))))) vs ∧ ∃ I : Nat → List PyData → Prop, I 0 [] ∧
      (∀ n y acc, es[n]? = some y → acc.length ≤ n → I n acc → GW K (wipeG (Γ.set i (.ex v (AtP K d (some (l, xs))))) vs) g y fun Γ2 => wipeG Γ2 vs = wipeG (Γ.set i (.ex v (AtP K d (some (l, xs))))) vs ∧ WT K Γ2 tt fun b => if b = true then ∃ a zs, RA K Γ2 te a ∧ I (n + 1) (acc ++ [listAt a zs]) else I (n + 1) acc) ∧
      ∀ L acc, I es.length acc → QX (.ex (.ref L) (LwO K acc))) : WX K Γ (tLc (iList K tr) g tt te vs) QX := fun X hK F H σ E C k => by
  refine hr X hK F H σ E _ fun F1 H1 l1 E1 => ?_
  obtain ⟨S, hS, hO, km⟩ := E1.reown hi
  obtain ⟨ev, hk, n, r, hSa, _⟩ := id hS
  obtain ⟨xs, hx, rx⟩ := r.oc ho
  have sa := ho.ad
  have ha : H1 l = some (.lst xs) := by rw [lay_at ((hSa l).mpr sa)] at hx; exact hx
  have tl := AtP.back r hSa
  have rw0 : RwA K F1 xs es := rx.wk tl hn
  have hlen : xs.length = es.length := rx.length
  have Ep := km H1 (.ex v (AtP K d (some (l, xs)))) S (fun _ _ z _ => z) (fun a w => (hO a w).2) (fun _ w => w) ⟨ev, hk, n, r, hSa, fun q e => by cases e; exact ⟨sa, ha⟩⟩
  obtain ⟨hv, I, h0, hs, he⟩ := h xs
  obtain ⟨Γp, eΓp⟩ : ∃ Γp, Γ.set i (.ex v (AtP K d (some (l, xs)))) = Γp := ⟨_, rfl⟩
  rw [eΓp] at Ep hv hs
  have hip : Γp[i]? = some (.ex v (AtP K d (some (l, xs)))) := by
    rw [← eΓp, List.getElem?_set_self (List.getElem?_eq_some_iff.mp hi).1]
  refine ⟨l, rfl, ⟨_, SqL.of ha⟩, fun Da hD => ?_⟩
  obtain ⟨X1, k1, n1, f1, _, Er, back⟩ := Ep.rebase
  have hK1 : X1.K = K := k1.trans hK
  have lef : ∀ {F' H' σ' Γ'}, En X1 F' H' σ' Γ' → Le F1 F' := fun E' => by rw [← f1]; exact E'.f0
  have stand : ∀ {H' F' acc}, En X1 F' H' (L2.wipe σ vs ++ [some (.ref Da)]) (wipeG Γp vs ++ [.ex (.ref Da) (LwO K acc)]) → H' l = some (.lst xs) := fun {H' F' acc} E' => by
    have E2 := back _ _ _ _ (En.unwipe Ep (by rw [hK, hK1]) n1.symm (lef E') hv E')
    obtain ⟨S', hs', _, _⟩ := id E2.sl
    obtain ⟨_, _, _, _, _, hpn⟩ := hs' i _ (by rw [List.getElem?_append_left (List.getElem?_eq_some_iff.mp hip).1]; exact hip)
    exact (hpn _ rfl).2
  have E0 : En X1 F1 (upd H1 Da (.lst [])) (L2.wipe σ vs ++ [some (.ref Da)]) (wipeG Γp vs ++ [.ex (.ref Da) (LwO K [])]) :=
    (Er.wipe vs).pushG (T := fun a => a = Da) Le.rfl' (Er.le.new (Er.le.nn hD)) (fun a u q => by rw [upd_ne (ne_of_none q hD)]; exact q) (fun _ _ _ => rfl) ⟨rfl, hK1.symm, Da, [], rfl, upd_same, .nil, fun _ => Iff.rfl⟩ (fun a e => by subst e; exact ⟨hD, Er.le.nn hD, by rw [upd_same]; simp⟩)
  refine lc_it (walk_list (K := K) (a := l) (xs := xs)) (fun n H' => ∃ F' acc, En X1 F' H' (L2.wipe σ vs ++ [some (.ref Da)]) (wipeG Γp vs ++ [.ex (.ref Da) (LwO K acc)]) ∧ acc.length ≤ n ∧ I n acc) ⟨F1, [], E0, Nat.le_refl _, h0⟩ (fun n H' _ ⟨F', acc, E', _⟩ => SqL.of (stand E')) (fun n x H' H3 hi' ⟨F', acc, E', hacc, hI⟩ hy => ?_) (fun H' ⟨F', acc, E', hacc, hI⟩ => ?_)
  · obtain ⟨rfl, hx'⟩ := hy
    obtain ⟨y, hyd, ry⟩ := rw0.getV hx'
    obtain ⟨X2, k2, n2, Ef, fb⟩ := E'.frame
    have hK2 : X2.K = K := k2.trans hK1
    refine hgw x _ _ (fun σ2 H2 => L2.wipe σ2 vs = L2.wipe σ vs → _) _ σ wipe_wipe (fun σ2 H2 e2 q => ⟨e2, q e2⟩) ?_
    refine hs n y acc hyd hacc hI X2 hK2 F' _ _ Ef x (ry.mono (lef E').tup) _ fun F4 H4 σ4 Γ4 l4 E4 ⟨eΓ, wt⟩ eσ => ?_
    have hlen4 : Γ4.length = (wipeG Γp vs).length := by rw [← eΓ, wipeG_length]
    have again : ∀ {F5 H5}, Le F4 F5 → En X2 F5 H5 σ4 Γ4 → En X1 F5 H5 (L2.wipe σ vs ++ [some (.ref Da)]) (wipeG Γp vs ++ [.ex (.ref Da) (LwO K acc)]) := fun {F5 H5} l5 E5 => by
      have := fb F5 H5 _ _ (by rw [wipeG_length, hlen4]) (l4.tr l5) (E5.wipe vs)
      rw [eΓ, eσ] at this
      exact this
    refine wt X2 hK2 F4 H4 σ4 E4 _ fun b F5 H5 l5 E5 q5 => ?_
    cases b with
    | false => exact ⟨F5, acc, again l5 E5, Nat.le_succ_of_le hacc, q5⟩
    | true =>
      rw [if_pos rfl] at q5 ⊢
      obtain ⟨a, zs, ra, hI2⟩ := q5
      refine ra X2 hK2 F5 H5 σ4 E5 _ fun F6 H6 l6 E6 => ?_
      have E7 := again (l5.tr l6) E6
      obtain ⟨S7, q7, ho7, km7⟩ := E7.lastMut
      obtain ⟨e7, hk7, L7, xs7, eL7, hx7, rw7, hS7⟩ := q7
      have eD : L7 = Da := by cases eL7; rfl
      subst eD
      have hl7 : xs7.length = acc.length := rw7.length
      refine ⟨xs7, hx7, sz_lt (by rw [hlen] at hi'; omega), F6, acc ++ [listAt a zs], km7 _ (.ex (.ref L7) (LwO K (acc ++ [listAt a zs]))) (fun c o z w => ?_) (fun c w => ?_) ⟨e7, hk7, L7, _, rfl, upd_same, ?_, hS7⟩, by simp; omega, hI2⟩
      · rw [upd_ne fun e => w ((hS7 c).mpr e)]; exact z
      · rw [(hS7 c).mp w, upd_same]; simp
      · exact RwA.append rw7 (.cons (.lid rfl) .nil)
  · have E1' := back _ _ _ _ (En.unwipe Ep (by rw [hK, hK1]) n1.symm (lef E') hv E')
    have hi2 : (Γp ++ [Sl.ex (.ref Da) (LwO K acc)])[i]? = some (.ex v (AtP K d (some (l, xs)))) := by rw [List.getElem?_append_left (List.getElem?_eq_some_iff.mp hip).1]; exact hip
    obtain ⟨S2, hS2, hO2, km2⟩ := E1'.reown hi2
    obtain ⟨ev2, hk2, n2, r2, hSa2, _⟩ := hS2
    have E3 := km2 H' (.ex v (AtO K d)) S2 (fun _ _ z _ => z) (fun a w => (hO2 a w).2) (fun _ w => w) ⟨ev2, hk2, n2, r2, hSa2, fun q e => nomatch e⟩
    have e3 : (Γp ++ [Sl.ex (.ref Da) (LwO K acc)]).set i (.ex v (AtO K d)) = Γ ++ [.ex (.ref Da) (LwO K acc)] := by
      rw [List.set_append_left _ _ (List.getElem?_eq_some_iff.mp hip).1, ← eΓp]
      congr 1
      rw [← (List.getElem?_eq_some_iff.mp hi).2]
      simp
    rw [e3] at E3
    rw [hlen] at hI
    exact k (.ref Da) F' H' _ (l1.tr (lef E')) E3 (he Da acc hI)
end
end Pk
end
section
set_option Elab.async false
set_option linter.all false
set_option maxRecDepth 100000
namespace Pk
open PySem PySem.Spec PyProof.Rows L2
section
variable {K : Kw} {m : Bool} {Γ : List Sl} {Q : PyData → Prop} {t ta te : TE}
theorem En.reN2 {X : Bs} {F H : Hp} {σ : L2.St} (E : En X F H σ Γ) (i : Nat) {d0 : PyData} (hi : Γ[i]? = some (.dat true d0)) (np : npl d0 = true) (hn : ntG (Γ.set i .no) = true) (N' : Addr → Prop) (hN : ∀ a, N' a → H a ≠ none) (hd : ∀ a ∈ ad d0, ¬ N' a) : En { X with N := N' } F H σ Γ := by
  obtain ⟨S, hs, hdj, ho⟩ := id E.sl
  refine ⟨E.le, E.len, ⟨S, fun j s e => ?_, hdj, ho⟩, E.fr, E.f0, hN⟩
  by_cases ji : j = i
  · subst ji
    rw [hi] at e
    cases e
    obtain ⟨⟨v, e1, r⟩, nS⟩ := hs j _ hi
    have r1 : Rp X.K (cutN X.N F) v d0 := r
    exact ⟨⟨v, e1, (r1.mono (cutN_le _ _)).cutA np hd⟩, nS⟩
  · refine (hs j s e).reN (List.all_eq_true.mp hn s (List.mem_of_getElem? (i := j) ?_))
    rw [List.getElem?_set_ne (Ne.symm ji)]
    exact e
theorem wa_dF2 {tr : TA} {QA : List Ag → Prop} (i : Nat) {d0 : PyData} (hi : Γ[i]? = some (.dat true d0)) (np : npl d0 = true) (hn : ntG (Γ.set i .no) = true)
    (h : WD K true Γ ta fun d => WA K true Γ tr fun as => (∀ a ∈ ad d, a ∉ ad d0 → a ∉ adAg as) → QA (.d d :: as)) : WA K true Γ (tCons ta tr) QA := fun X hK F H σ E C k =>
  h X hK F H σ E _ fun v F1 H1 x l1 E1 r1 h1 => by
    subst hK
    have nn : ∀ a, X.N a → H1 a ≠ none := E1.nn
    have nd0 : ∀ a ∈ ad d0, ¬ X.N a := fun a ha => by
      obtain ⟨u, _, r⟩ := E1.dat hi
      have r1 : Rp X.K (cutN X.N F1) u d0 := r
      exact cutN_ad r1 a ha
    refine h1 { X with N := fun a => H1 a ≠ none ∧ a ∉ ad d0 } rfl F1 H1 σ (E1.reN2 i hi np hn _ (fun _ h => h.1) fun a ha h => h.2 ha) _ fun vs F2 H2 as l2 E2 r2 q => ?_
    have e : En X F2 H2 σ Γ := E2.reN2 i hi np hn X.N (fun a h => E2.nn a ⟨nn a h, fun z => nd0 a z h⟩) nd0
    have r2' : AgsOk X true F2 σ vs as := AgsOk.to (X := X) (X' := { X with N := fun a => H1 a ≠ none ∧ a ∉ ad d0 }) rfl (fun a h => ⟨nn a h, fun z => nd0 a z h⟩) r2
    have hv : ∀ a ∈ ad x, H1 a ≠ none := fun a ha => by
      obtain ⟨xs, h⟩ := r1.ad a ha
      rw [E1.le _ _ (cutN_le _ _ _ _ h)]; simp
    exact k (v :: vs) F2 H2 _ (l1.tr l2) e (.cons (a := .d x) (Bs.mo r1 l2) r2') (q fun a ha hz hg => (AgsOk.ad r2 a hg) ⟨hv a ha, hz⟩)
/-- a told list as a list -/
theorem wd_unAt (h : WD K m Γ t fun d => ∃ a ds, d = listAt a ds ∧ Q (.list ds)) : WD K m Γ t Q := fun X hK F H σ E C k =>
  h X hK F H σ E C fun v F' H' d l E' r ⟨a, ds, e, q⟩ => by
    subst e
    obtain ⟨xs, rfl, hx, rx⟩ := r.at_inv
    exact k _ F' H' _ l E' (.lst hx rx) q
theorem ad_list {ds : List PyData} : ad (.list ds) = adA ds := by simp [ad]
end
end Pk
end
section
set_option Elab.async false
set_option linter.all false
set_option maxRecDepth 100000
namespace Dk
open PySem PySem.Spec PyProof.Rows L2 Pk
theorem idx_at {bs : List Str} {x : Str} (h : x ∈ bs) : bs[bs.idxOf x]? = some x := by
  have hl := List.idxOf_lt_length_of_mem h
  rw [List.getElem?_eq_getElem hl]
  simp
theorem idx_first : ∀ {bs : List Str} {x y : Str} {j : Nat}, j < bs.idxOf x → bs[j]? = some y → y ≠ x
  | [], x, y, j, _, h => by simp at h
  | b :: bs, x, y, j, hj, h => by
    rw [List.idxOf_cons] at hj
    by_cases e : b = x
    · subst e; simp at hj
    · have e' : (b == x) = false := by simp [e]
      rw [e'] at hj
      cases j with
      | zero => simp at h; subst h; exact e
      | succ j => exact idx_first (j := j) (by simpa using hj) (by simpa using h)
section
variable {K : Kw} {m : Bool} {Γ : List Sl} {Q : PyData → Prop} {te ti : TE}
/-- names.index(name) -/
theorem wd_nameIx {bs : List Str} {x : Str} (hb : ∀ y ∈ bs, NameOk y) (hx : x ∈ bs) (h : WD K false Γ te fun d => d = bsD bs ∧ WD K false Γ ti fun z => z = .str x ∧ Q (.int (bs.idxOf x : Nat))) : WD K m Γ (tBM K "list" (rIndexD K) te (tCons ti tNil)) Q :=
  wd_index (h.mono fun d ⟨e, h2⟩ => ⟨bs.map PyData.str, e, h2.mono fun z ⟨ez, q⟩ => ⟨bs.idxOf x, .str x, bs_sh hb, by rw [ez]; exact sh_str (hb x hx).strOk, by rw [List.getElem?_map, idx_at hx]; rfl, by rw [ez, eqv_str]; exact decide_eq_true rfl, fun j z' hj hz' => by
    rw [ez]
    rw [List.getElem?_map] at hz'
    cases hy : bs[j]? with
    | none => rw [hy] at hz'; cases hz'
    | some y =>
      rw [hy] at hz'
      cases hz'
      rw [eqv_str]
      exact decide_eq_false (idx_first hj hy), q⟩⟩)
end
def Th.w : Th → Str
  | .num _ => "number" | .box _ => "box" | .op o _ _ => o.w
theorem Th.w_ok (t : Th) : PyData.strOk t.w = true := by
  cases t with
  | num n => exact ok_w (by simp [Th.w])
  | box x => exact ok_w (by simp [Th.w])
  | op o a b => exact op_ok o
theorem rd_th0 {K : Kw} {m : Bool} {Γ : List Sl} {Q : PyData → Prop} {t : Th} (q : Q (.str t.w)) : RD K m Γ (rIx K) t.d (.int 0) Q := by cases t <;> exact rd_ixT rfl q
theorem s_bn : ("box" : Str) ≠ "number" := by decide +kernel
theorem s_on (o : Op) : o.w ≠ "number" := by cases o <;> decide +kernel
theorem s_ob (o : Op) : o.w ≠ "box" := by cases o <;> decide +kernel
theorem s_nb : ("number" : Str) ≠ "box" := by decide +kernel
theorem Th.eqN (t : Th) : PyData.eqv (.str t.w) (.str "number") = (match t with | .num _ => true | _ => false) := by
  rw [eqv_str]
  cases t with
  | num n => exact decide_eq_true rfl
  | box x => exact decide_eq_false s_bn
  | op o a b => exact decide_eq_false (s_on o)
theorem Th.eqB (t : Th) : PyData.eqv (.str t.w) (.str "box") = (match t with | .box _ => true | _ => false) := by
  rw [eqv_str]
  cases t with
  | num n => exact decide_eq_false s_nb
  | box x => exact decide_eq_true rfl
  | op o a b => exact decide_eq_false (s_ob o)
theorem op_tab : ∀ o ∈ [Op.plus, .times, .less, .same], ∀ u ∈ [Op.plus, .times, .less, .same], decide (o.w = u.w) = decide (o = u) := by decide +kernel
theorem op_mem (o : Op) : o ∈ [Op.plus, .times, .less, .same] := by cases o <;> simp
theorem Op.eqW (o u : Op) : PyData.eqv (.str o.w) (.str u.w) = decide (o = u) := by rw [eqv_str]; exact op_tab o (op_mem o) u (op_mem u)
theorem cast_add (x y m : Nat) : ((x : Int) + y) % m = (((x + y) % m : Nat) : Int) := by simp
theorem cast_mul (x y m : Nat) : ((x : Int) * y) % m = (((x * y) % m : Nat) : Int) := by simp
theorem int_less (m x y : Nat) : (if decide ((x : Int) < y) = true then (1 : Int) else 0) = ((Op.v m .less x y : Nat) : Int) := by
  show _ = (((if x < y then 1 else 0 : Nat)) : Int)
  by_cases h : x < y <;> simp [h]
theorem int_same (m x y : Nat) : (if decide ((x : Int) = y) = true then (1 : Int) else 0) = ((Op.v m .same x y : Nat) : Int) := by
  show _ = (((if x = y then 1 else 0 : Nat)) : Int)
  by_cases h : x = y
  · simp [h]
  · have h' : ¬ ((x : Int) = y) := by omega
    simp [h, h']
end Dk
end
section
set_option Elab.async false
set_option linter.all false
set_option maxRecDepth 100000
namespace Dk
open PySem PySem.Spec PyProof.Rows L2 Pk
inductive Wy where
  | place (row : Nat) (st : List Nat)
  | gives (n : Nat)
  | nothing
  deriving DecidableEq
def Wy.d : Wy → PyData
  | .place row st => .tuple [.int row, stD st]
  | .gives n => .tuple [.str "gives", .int n]
  | .nothing => .tuple [.str "nothing"]
def Wy.isPl : Wy → Bool
  | .place _ _ => true | _ => false
def poe (p : Pg) (row : Nat) (st : List Nat) : Wy := if p.rows.length ≤ row then .nothing else .place row st
def put (bs : List Str) (st : List Nat) (x : Str) (n : Nat) : List Nat := st.set (bs.idxOf x) n
theorem put_ok {m : Nat} {bs : List Str} {st : List Nat} {x : Str} {n : Nat} (h : StOk m bs st) (hn : n < m) : StOk m bs (put bs st x n) := ⟨by simp [put, h.len], fun k hk => by
  rcases List.mem_or_eq_of_mem_set hk with z | z
  · exact h.lt k z
  · rw [z]; exact hn⟩
def tv (p : Pg) (st : List Nat) (t : Th) : Nat := t.v p.m p.bs st
def nxt (p : Pg) (row : Nat) (st : List Nat) : Rw → List Wy
  | .set x t => [poe p (row + 1) (put p.bs st x (tv p st t))]
  | .pick x ts => ts.map fun t => poe p (row + 1) (put p.bs st x (tv p st t))
  | .need t => if tv p st t = 0 then [.nothing] else [poe p (row + 1) st]
  | .skip t k => [poe p (row + 1 + if tv p st t = 0 then 0 else k) st]
  | .give t => [.gives (tv p st t)]
def ways (p : Pg) (row : Nat) (st : List Nat) : List Wy := match p.rows[row]? with
  | some r => nxt p row st r
  | none => []
def isPickAt (p : Pg) (row : Nat) : Bool := match p.rows[row]? with
  | some r => r.isPick
  | none => false
theorem ways_at {p : Pg} {row : Nat} {st : List Nat} {r : Rw} (h : p.rows[row]? = some r) : ways p row st = nxt p row st r := by unfold ways; rw [h]
theorem pick_at {p : Pg} {row : Nat} {r : Rw} (h : p.rows[row]? = some r) : isPickAt p row = r.isPick := by unfold isPickAt; rw [h]
/-- a way of the program -/
def WyOk (p : Pg) : Wy → Prop
  | .place row st => row < p.rows.length ∧ StOk p.m p.bs st
  | .gives n => n < p.m
  | .nothing => True
theorem poe_ok {p : Pg} {row : Nat} {st : List Nat} (h : StOk p.m p.bs st) : WyOk p (poe p row st) := by
  unfold poe
  split
  · exact True.intro
  · exact ⟨by omega, h⟩
/-- further on than row -/
def past (row : Nat) : Wy → Prop
  | .place r _ => row < r
  | _ => True
theorem poe_past {p : Pg} {row k : Nat} {st : List Nat} (h : row < k) : past row (poe p k st) := by
  unfold poe
  split
  · exact True.intro
  · exact h
theorem tv_lt {p : Pg} (hp : p.Ok) {st : List Nat} (hs : StOk p.m p.bs st) {n : Nat} {t : Th} (ht : t.Ok p.m p.bs n) : tv p st t < p.m := Th.v_lt hp.m2 hs ht
theorem nxt_ok {p : Pg} (hp : p.Ok) {row : Nat} {st : List Nat} (hs : StOk p.m p.bs st) {r : Rw} (hr : r.Ok p.m p.bs) : ∀ w ∈ nxt p row st r, WyOk p w ∧ past row w := fun w hw => by
  cases r with
  | set x t =>
    simp only [nxt, List.mem_singleton] at hw
    rw [hw]
    exact ⟨poe_ok (put_ok hs (tv_lt hp hs hr.2)), poe_past (by omega)⟩
  | pick x ts =>
    simp only [nxt] at hw
    obtain ⟨t, ht, rfl⟩ := List.mem_map.mp hw
    exact ⟨poe_ok (put_ok hs (tv_lt hp hs (hr.2.2.2 t ht))), poe_past (by omega)⟩
  | need t =>
    simp only [nxt] at hw
    split at hw
    · simp at hw; rw [hw]; exact ⟨True.intro, True.intro⟩
    · simp at hw; rw [hw]; exact ⟨poe_ok hs, poe_past (by omega)⟩
  | skip t k =>
    simp only [nxt, List.mem_singleton] at hw
    rw [hw]
    exact ⟨poe_ok hs, poe_past (by omega)⟩
  | give t =>
    simp only [nxt, List.mem_singleton] at hw
    rw [hw]
    exact ⟨tv_lt hp hs hr, True.intro⟩
theorem ways_ok {p : Pg} (hp : p.Ok) {row : Nat} {st : List Nat} (hs : StOk p.m p.bs st) : ∀ w ∈ ways p row st, WyOk p w ∧ past row w := fun w hw => by
  cases h : p.rows[row]? with
  | none => unfold ways at hw; rw [h] at hw; cases hw
  | some r => rw [ways_at h] at hw; exact nxt_ok hp hs (hp.rows r (List.mem_of_getElem? h)) w hw
theorem ways_one {p : Pg} {row : Nat} {st : List Nat} (h : row < p.rows.length) (hn : isPickAt p row = false) : ∃ w, ways p row st = [w] := by
  have e : p.rows[row]? = some p.rows[row] := by simp [h]
  rw [pick_at e] at hn
  rw [ways_at e]
  cases hr : p.rows[row] with
  | set x t => exact ⟨_, rfl⟩
  | pick x ts => rw [hr] at hn; cases hn
  | need t =>
    simp only [nxt]
    split
    · exact ⟨_, rfl⟩
    · exact ⟨_, rfl⟩
  | skip t k => exact ⟨_, rfl⟩
  | give t => exact ⟨_, rfl⟩
/-- the run from a way that makes just these choices comes to this end -/
inductive Goes (p : Pg) : Wy → List Nat → Wy → Prop
  | fin {e : Wy} : e.isPl = false → Goes p e [] e
  | step {row : Nat} {st cs : List Nat} {w e : Wy} : isPickAt p row = false → ways p row st = [w] → Goes p w cs e → Goes p (.place row st) cs e
  | pick {row c : Nat} {st cs : List Nat} {w e : Wy} : isPickAt p row = true → (ways p row st)[c]? = some w → Goes p w cs e → Goes p (.place row st) (c :: cs) e
theorem Goes.end {p : Pg} {w e : Wy} {cs : List Nat} (h : Goes p w cs e) : e.isPl = false := by
  induction h with
  | fin h => exact h
  | step _ _ _ ih => exact ih
  | pick _ _ _ ih => exact ih
/-- its row; an end has the bound -/
def Wy.rowN : Wy → Nat
  | .place r _ => r | _ => 30
theorem past_le {p : Pg} (hp : p.Ok) {row : Nat} (hr : row < p.rows.length) {w : Wy} (h : past row w) : row + 1 ≤ w.rowN := by
  have := hp.r30
  cases w with
  | place r s => exact h
  | gives n => show row + 1 ≤ 30; omega
  | nothing => show row + 1 ≤ 30; omega
theorem Goes.len {p : Pg} (hp : p.Ok) {w e : Wy} {cs : List Nat} (h : Goes p w cs e) : WyOk p w → cs.length + w.rowN ≤ 30 := by
  have h30 := hp.r30
  induction h with
  | fin h =>
    intro hw
    rename_i e
    clear hw
    cases e with
    | place r s => cases h
    | gives n => exact Nat.le_refl _
    | nothing => exact Nat.le_refl _
  | step h1 h2 h3 ih =>
    intro hw
    rename_i row st cs w e
    have hm := ways_ok hp hw.2 w (by rw [h2]; exact List.mem_singleton.mpr rfl)
    have := ih hm.1
    have := past_le hp hw.1 hm.2
    show cs.length + row ≤ 30
    omega
  | pick h1 h2 h3 ih =>
    intro hw
    rename_i row c st cs w e
    have hm := ways_ok hp hw.2 w (List.mem_of_getElem? h2)
    have := ih hm.1
    have := past_le hp hw.1 hm.2
    show (c :: cs).length + row ≤ 30
    rw [List.length_cons]
    omega
theorem Wy.sh {w : Wy} : SeqAt.shaped w.d = true := by
  refine sh_of (n := 2) ?_ (by decide)
  cases w with
  | place row st =>
    intro x hx
    simp at hx
    rcases hx with rfl | rfl
    · exact dep_int
    · intro y hy
      obtain ⟨n, _, rfl⟩ := List.mem_map.mp hy
      exact dep_int
  | gives n =>
    intro x hx
    simp at hx
    rcases hx with rfl | rfl
    · exact dep_str (ok_w (by simp))
    · exact dep_int
  | nothing =>
    intro x hx
    simp at hx
    subst hx
    exact dep_str (ok_w (by simp))
theorem st_nb (st : List Nat) : NB (stD st) := .tup fun y hy => by
  obtain ⟨n, _, rfl⟩ := List.mem_map.mp hy
  exact .int _
theorem Wy.nb (w : Wy) : NB w.d := by
  cases w with
  | place row st =>
    refine .tup fun x hx => ?_
    simp at hx
    rcases hx with rfl | rfl
    · exact .int _
    · exact st_nb st
  | gives n =>
    refine .tup fun x hx => ?_
    simp at hx
    rcases hx with rfl | rfl
    · exact .str _
    · exact .int _
  | nothing =>
    refine .tup fun x hx => ?_
    simp at hx
    subst hx
    exact .str _
theorem Wy.lf (w : Wy) : Pk.lf w.d = true := by
  cases w with
  | place row st =>
    show Pk.lfA [.int row, stD st] = true
    simp only [Pk.lfA, st_lf, Bool.and_true]
    rfl
  | gives n => rfl
  | nothing => rfl
abbrev natsD (ns : List Nat) : PyData := .list (ns.map fun (n : Nat) => PyData.int n)
theorem nats_nb (ns : List Nat) : NB (natsD ns) := .lst fun y hy => by
  obtain ⟨n, _, rfl⟩ := List.mem_map.mp hy
  exact .int _
theorem put_cut {st : List Nat} {i n : Nat} (h : i < st.length) : st.take i ++ ([n] ++ st.drop (i + 1)) = st.set i n := by
  rw [List.set_eq_take_append_cons_drop, if_pos h]
  rfl
inductive Kd where
  | set | pick | need | skip | give
  deriving DecidableEq
def Kd.w : Kd → Str
  | .set => "set" | .pick => "pick" | .need => "need" | .skip => "skip" | .give => "give"
theorem kd_tab : ∀ o ∈ [Kd.set, .pick, .need, .skip, .give], ∀ u ∈ [Kd.set, .pick, .need, .skip, .give], decide (o.w = u.w) = decide (o = u) := by decide +kernel
theorem kd_mem (o : Kd) : o ∈ [Kd.set, .pick, .need, .skip, .give] := by cases o <;> simp
theorem Kd.eqW (o u : Kd) : PyData.eqv (.str o.w) (.str u.w) = decide (o = u) := by rw [eqv_str]; exact kd_tab o (kd_mem o) u (kd_mem u)
theorem kd_okt : ∀ o ∈ [Kd.set, .pick, .need, .skip, .give], PyData.strOk o.w = true := by decide +kernel
theorem Kd.ok (o : Kd) : PyData.strOk o.w = true := kd_okt o (kd_mem o)
def Rw.kd : Rw → Kd
  | .set _ _ => .set | .pick _ _ => .pick | .need _ => .need | .skip _ _ => .skip | .give _ => .give
section
variable {K : Kw} {m : Bool} {Γ : List Sl} {Q : PyData → Prop}
theorem rd_w {a b : Kd} (q : Q (.bool (decide (a = b)))) : RD K m Γ (dEq K) (.str a.w) (.str b.w) Q := rd_eq (sh_str a.ok) (sh_str b.ok) (by rw [Kd.eqW]; exact q)
theorem rd_rk {r : Rw} (q : Q (.str r.kd.w)) : RD K m Γ (rIx K) r.d (.int 0) Q := by cases r <;> exact rd_ixT rfl q
theorem rd_row {p : Pg} {row : Nat} {r : Rw} (h : p.rows[row]? = some r) (q : Q r.d) : RD K m Γ (rIx K) (.list (p.rows.map Rw.d)) (.int row) Q := rd_selN row rfl (by rw [List.getElem?_map, h]; rfl) q
end
theorem cut_take {α : Type} {xs : List α} {i : Nat} (h : i ≤ xs.length) : Pk.cutD xs none (some (i : Int)) = xs.take i := by
  have h0 : ¬ ((i : Int) < 0) := by omega
  have h1 : min i xs.length = i := by omega
  simp [Pk.cutD, HT.sIx, h0, h1]
theorem cut_drop {α : Type} {xs : List α} {i : Nat} (h : i ≤ xs.length) : Pk.cutD xs (some (i : Int)) none = xs.drop i := by
  have h0 : ¬ ((i : Int) < 0) := by omega
  have h1 : min i xs.length = i := by omega
  simp only [Pk.cutD, HT.sIx, h0, if_false, Int.toNat_natCast, h1]
  rw [List.take_of_length_le (by simp)]
theorem put_data {st : List Nat} {i n : Nat} (h : i < st.length) : Pk.cutD (st.map fun (k : Nat) => PyData.int k) none (some (i : Int)) ++ [PyData.int n] ++ Pk.cutD (st.map fun (k : Nat) => PyData.int k) (some (i + 1 : Nat)) none = (st.set i n).map fun (k : Nat) => PyData.int k := by
  rw [cut_take (by simp; omega), cut_drop (by simp; omega), ← put_cut h]
  simp
/-- rows that are no picks, gone on -/
inductive Stp (p : Pg) : Wy → Wy → Prop
  | rfl {w : Wy} : Stp p w w
  | step {row : Nat} {st : List Nat} {w z : Wy} : isPickAt p row = false → ways p row st = [w] → Stp p w z → Stp p (.place row st) z
theorem poe_end {p : Pg} {row : Nat} {st : List Nat} (h : p.rows.length ≤ row) : poe p row st = .nothing := by unfold poe; rw [if_pos h]
theorem poe_pl {p : Pg} {row : Nat} {st : List Nat} (h : row < p.rows.length) : poe p row st = .place row st := by unfold poe; rw [if_neg (by omega)]
/-- a run with the places that it comes to -/
inductive Tr (p : Pg) : Wy → List Nat → List Wy → Wy → Prop
  | fin {w : Wy} : w.isPl = false → Tr p w [] [] w
  | step {r : Nat} {s : List Nat} {w : Wy} {cs : List Nat} {ws : List Wy} {e : Wy} : isPickAt p r = false → ways p r s = [w] → Tr p w cs ws e → Tr p (.place r s) cs (.place r s :: ws) e
  | pick {r : Nat} {s : List Nat} {c : Nat} {w : Wy} {cs : List Nat} {ws : List Wy} {e : Wy} : isPickAt p r = true → (ways p r s)[c]? = some w → Tr p w cs ws e → Tr p (.place r s) (c :: cs) (.place r s :: ws) e
end Dk
end
section
set_option Elab.async false
set_option linter.all false
set_option maxRecDepth 100000
namespace Dk
/-- what comes next, told as the law tells it: a place behind the last row, too -/
def lnx (p : Pg) (row : Nat) (st : List Nat) : Rw → List Wy
  | .set x t => [.place (row + 1) (put p.bs st x (tv p st t))]
  | .pick x ts => ts.map fun t => .place (row + 1) (put p.bs st x (tv p st t))
  | .need t => if tv p st t = 0 then [.nothing] else [.place (row + 1) st]
  | .skip t k => [.place (min (row + 1 + if tv p st t = 0 then 0 else k) p.rows.length) st]
  | .give t => [.gives (tv p st t)]
def lways (p : Pg) (row : Nat) (st : List Nat) : List Wy := match p.rows[row]? with
  | some r => lnx p row st r
  | none => [.nothing]
theorem lways_at {p : Pg} {row : Nat} {st : List Nat} {r : Rw} (h : p.rows[row]? = some r) : lways p row st = lnx p row st r := by unfold lways; rw [h]
def plc : Wy → Option (Nat × List Nat)
  | .place r s => some (r, s)
  | _ => none
def behind (p : Pg) (row : Nat) (st : List Nat) : List (Nat × List Nat) := (lways p row st).filterMap plc
def cap (p : Pg) : Wy → Wy
  | .place r s => poe p r s
  | w => w
theorem ways_cap {p : Pg} {row : Nat} (h : row < p.rows.length) (st : List Nat) : ways p row st = (lways p row st).map (cap p) := by
  have hr : p.rows[row]? = some p.rows[row] := List.getElem?_eq_getElem h
  rw [ways_at hr, lways_at hr]
  cases p.rows[row] with
  | set x t => rfl
  | pick x ts => simp [nxt, lnx, cap]
  | need t => simp only [nxt, lnx]; split <;> rfl
  | give t => rfl
  | skip t k =>
    simp only [nxt, lnx, List.map_cons, List.map_nil, cap]
    congr 1
    generalize (row + 1 + if tv p st t = 0 then 0 else k) = z
    unfold poe
    by_cases hh : p.rows.length ≤ z
    · rw [if_pos hh, if_pos (by rw [Nat.min_eq_right hh]; exact Nat.le_refl _)]
    · have e : min z p.rows.length = z := Nat.min_eq_left (by omega)
      rw [e]
theorem lways_ok {p : Pg} (hp : p.Ok) {row : Nat} {st : List Nat} (hr : row < p.rows.length) (hs : StOk p.m p.bs st) : ∀ w ∈ lways p row st, match w with
    | .place r s => row < r ∧ r ≤ p.rows.length ∧ StOk p.m p.bs s
    | .gives n => n < p.m
    | .nothing => True := fun w hw => by
  have h0 : p.rows[row]? = some p.rows[row] := List.getElem?_eq_getElem hr
  have hok := hp.rows _ (List.getElem_mem hr)
  rw [lways_at h0] at hw
  cases hq : p.rows[row] with
  | set x t =>
    rw [hq] at hw hok
    rw [List.mem_singleton.mp hw]
    exact ⟨by omega, by omega, put_ok hs (tv_lt hp hs hok.2)⟩
  | pick x ts =>
    rw [hq] at hw hok
    obtain ⟨t, ht, rfl⟩ := List.mem_map.mp hw
    exact ⟨by omega, by omega, put_ok hs (tv_lt hp hs (hok.2.2.2 t ht))⟩
  | need t =>
    rw [hq] at hw hok
    simp only [lnx] at hw
    split at hw
    · rw [List.mem_singleton.mp hw]; trivial
    · rw [List.mem_singleton.mp hw]; exact ⟨by omega, by omega, hs⟩
  | give t =>
    rw [hq] at hw hok
    rw [List.mem_singleton.mp hw]
    exact tv_lt hp hs hok
  | skip t k =>
    rw [hq] at hw hok
    rw [List.mem_singleton.mp hw]
    exact ⟨by omega, by omega, hs⟩
theorem behind_ok {p : Pg} (hp : p.Ok) {row : Nat} {st : List Nat} (hr : row < p.rows.length) (hs : StOk p.m p.bs st) : ∀ b ∈ behind p row st, row < b.1 ∧ b.1 ≤ p.rows.length ∧ StOk p.m p.bs b.2 := fun b hb => by
  obtain ⟨w, hw, e⟩ := List.mem_filterMap.mp hb
  have := lways_ok hp hr hs w hw
  cases w with
  | place r s => cases e; exact this
  | gives n => cases e
  | nothing => cases e
abbrev Sts := List (List (List Nat))
def gt (nss : Sts) (r : Nat) : List (List Nat) := nss.getD r []
def adds (l : List (List Nat)) (s : List Nat) : List (List Nat) := if s ∈ l then l else l ++ [s]
def ins (nss : Sts) (b : Nat × List Nat) : Sts := nss.set b.1 (adds (gt nss b.1) b.2)
def insAll (nss : Sts) (bs : List (Nat × List Nat)) : Sts := bs.foldl ins nss
def rowDo (p : Pg) (row : Nat) (nss : Sts) (hs : List (List Nat)) : Sts := hs.foldl (fun a s => insAll a (behind p row s)) nss
def rowStep (p : Pg) (nss : Sts) (row : Nat) : Sts := rowDo p row nss (gt nss row)
def init (p : Pg) (st : List Nat) : Sts := (List.replicate (p.rows.length + 1) []).set 0 [st]
def stage (p : Pg) (st : List Nat) : Nat → Sts
  | 0 => init p st
  | n + 1 => rowStep p (stage p st n) n
def reach (p : Pg) (st : List Nat) : Sts := stage p st p.rows.length
theorem ins_len (nss : Sts) (b : Nat × List Nat) : (ins nss b).length = nss.length := by simp [ins]
theorem gt_ins {nss : Sts} {b : Nat × List Nat} (hb : b.1 < nss.length) (r : Nat) : gt (ins nss b) r = if r = b.1 then adds (gt nss b.1) b.2 else gt nss r := by
  unfold gt ins
  rw [List.getD_eq_getElem?_getD, List.getD_eq_getElem?_getD]
  by_cases h : r = b.1
  · rw [if_pos h, h, List.getElem?_set_self hb]
    rfl
  · rw [if_neg h, List.getElem?_set_ne (Ne.symm h), List.getD_eq_getElem?_getD]
theorem adds_mem {l : List (List Nat)} {s x : List Nat} : x ∈ adds l s ↔ x ∈ l ∨ x = s := by
  unfold adds
  split
  · rename_i h
    constructor
    · exact .inl
    · rintro (z | rfl)
      · exact z
      · exact h
  · simp
theorem adds_nd {l : List (List Nat)} {s : List Nat} (h : l.Nodup) : (adds l s).Nodup := by
  unfold adds
  split
  · exact h
  · rename_i hs
    rw [List.nodup_append]
    exact ⟨h, by simp, fun a ha b hb e => hs (by rw [← List.mem_singleton.mp hb, ← e]; exact ha)⟩
theorem adds_len {l : List (List Nat)} {s : List Nat} : (adds l s).length ≤ l.length + 1 := by
  unfold adds
  split <;> simp
/-- what holds of all stages -/
structure Sg (p : Pg) (st : List Nat) (n : Nat) (nss : Sts) : Prop where
  len : nss.length = p.rows.length + 1
  nd : ∀ r, (gt nss r).Nodup
  ok : ∀ r, ∀ s ∈ gt nss r, StOk p.m p.bs s
  cl : ∀ r, r < n → ∀ s ∈ gt nss r, ∀ b ∈ behind p r s, b.2 ∈ gt nss b.1
  st : st ∈ gt nss 0
theorem init_gt {p : Pg} {st : List Nat} (r : Nat) : gt (init p st) r = if r = 0 then [st] else [] := by
  unfold gt init
  rw [List.getD_eq_getElem?_getD]
  by_cases h : r = 0
  · subst h
    rw [List.getElem?_set_self (by simp), if_pos rfl]
    rfl
  · rw [List.getElem?_set_ne (Ne.symm h), if_neg h, List.getElem?_replicate]
    split <;> rfl
theorem sg_init {p : Pg} {st : List Nat} (hs : StOk p.m p.bs st) : Sg p st 0 (init p st) := by
  refine ⟨by simp [init], fun r => ?_, fun r s h => ?_, fun r h => (by omega), ?_⟩
  · rw [init_gt]; split <;> simp
  · rw [init_gt] at h
    split at h
    · rw [List.mem_singleton.mp h]; exact hs
    · cases h
  · rw [init_gt, if_pos rfl]; simp
/-- in the midst of a row's stores: those of hs are done -/
structure Mid (p : Pg) (st : List Nat) (row : Nat) (old nss : Sts) (hs : List (List Nat)) : Prop where
  len : nss.length = p.rows.length + 1
  nd : ∀ r, (gt nss r).Nodup
  ok : ∀ r, ∀ s ∈ gt nss r, StOk p.m p.bs s
  lo : ∀ r, r ≤ row → gt nss r = gt old r
  up : ∀ r, ∀ s ∈ gt old r, s ∈ gt nss r
  cl : ∀ s ∈ hs, ∀ b ∈ behind p row s, b.2 ∈ gt nss b.1
theorem mid_ins {p : Pg} {st : List Nat} {row : Nat} {old nss : Sts} {hs : List (List Nat)} (M : Mid p st row old nss hs) {b : Nat × List Nat} (h1 : row < b.1) (h2 : b.1 ≤ p.rows.length) (h3 : StOk p.m p.bs b.2) : Mid p st row old (ins nss b) hs ∧ b.2 ∈ gt (ins nss b) b.1 ∧ ∀ r, ∀ s ∈ gt nss r, s ∈ gt (ins nss b) r := by
  have hb : b.1 < nss.length := by rw [M.len]; omega
  have g := gt_ins (b := b) hb
  have up : ∀ r, ∀ s ∈ gt nss r, s ∈ gt (ins nss b) r := fun r s h => by
    rw [g]
    split
    · rename_i e; subst e; exact adds_mem.mpr (.inl h)
    · exact h
  refine ⟨⟨by rw [ins_len]; exact M.len, fun r => ?_, fun r s h => ?_, fun r h => ?_, fun r s h => up r s (M.up r s h), fun s h c hc => up _ _ (M.cl s h c hc)⟩, ?_, up⟩
  · rw [g]
    split
    · exact adds_nd (M.nd _)
    · exact M.nd r
  · rw [g] at h
    split at h
    · rcases adds_mem.mp h with z | rfl
      · exact M.ok _ s z
      · exact h3
    · exact M.ok r s h
  · rw [g, if_neg (by omega)]; exact M.lo r h
  · rw [g, if_pos rfl]; exact adds_mem.mpr (.inr rfl)
theorem mid_all {p : Pg} {st : List Nat} {row : Nat} {old : Sts} {hs : List (List Nat)} : ∀ {nss : Sts} {bs : List (Nat × List Nat)}, Mid p st row old nss hs → (∀ b ∈ bs, row < b.1 ∧ b.1 ≤ p.rows.length ∧ StOk p.m p.bs b.2) → Mid p st row old (insAll nss bs) hs ∧ (∀ b ∈ bs, b.2 ∈ gt (insAll nss bs) b.1) ∧ ∀ r, ∀ s ∈ gt nss r, s ∈ gt (insAll nss bs) r
  | nss, [], M, _ => ⟨M, fun _ h => (by cases h), fun _ _ h => h⟩
  | nss, b :: bs, M, h => by
    obtain ⟨h1, h2, h3⟩ := h b List.mem_cons_self
    obtain ⟨M1, m1, u1⟩ := mid_ins M h1 h2 h3
    obtain ⟨M2, m2, u2⟩ := mid_all (nss := ins nss b) (bs := bs) M1 fun c hc => h c (List.mem_cons_of_mem _ hc)
    refine ⟨M2, fun c hc => ?_, fun r s hs => u2 r s (u1 r s hs)⟩
    rcases List.mem_cons.mp hc with rfl | hc
    · exact u2 _ _ m1
    · exact m2 c hc
theorem mid_snoc {p : Pg} (hp : p.Ok) {st : List Nat} {row : Nat} (hr : row < p.rows.length) {old nss : Sts} {hs : List (List Nat)} {s : List Nat} (hs' : StOk p.m p.bs s) (M : Mid p st row old nss hs) : Mid p st row old (insAll nss (behind p row s)) (hs ++ [s]) := by
  obtain ⟨M1, m1, u1⟩ := mid_all M (behind_ok hp hr hs')
  refine ⟨M1.len, M1.nd, M1.ok, M1.lo, M1.up, fun x hx b hb => ?_⟩
  rcases List.mem_append.mp hx with h | h
  · exact M1.cl x h b hb
  · rw [List.mem_singleton.mp h] at hb
    exact m1 b hb
theorem mid_do {p : Pg} (hp : p.Ok) {st : List Nat} {row : Nat} (hr : row < p.rows.length) {old : Sts} : ∀ {nss : Sts} {hs ds : List (List Nat)}, (∀ s ∈ hs, StOk p.m p.bs s) → Mid p st row old nss ds → Mid p st row old (rowDo p row nss hs) (ds ++ hs)
  | nss, [], ds, _, M => by rw [List.append_nil]; exact M
  | nss, s :: hs, ds, h, M => by
    have := mid_do hp hr (nss := insAll nss (behind p row s)) (hs := hs) (ds := ds ++ [s]) (fun x hx => h x (List.mem_cons_of_mem _ hx)) (mid_snoc hp hr (h s List.mem_cons_self) M)
    rw [List.append_assoc, List.singleton_append] at this
    exact this
theorem mid_start {p : Pg} {st : List Nat} {row : Nat} {nss : Sts} (S : Sg p st row nss) : Mid p st row nss nss [] := ⟨S.len, S.nd, S.ok, fun _ _ => rfl, fun _ _ h => h, fun _ h => by cases h⟩
theorem sg_step {p : Pg} (hp : p.Ok) {st : List Nat} {row : Nat} (hr : row < p.rows.length) {nss : Sts} (S : Sg p st row nss) : Sg p st (row + 1) (rowStep p nss row) := by
  have M := mid_do hp hr (fun s h => S.ok row s h) (mid_start S)
  rw [List.nil_append] at M
  refine ⟨M.len, M.nd, M.ok, fun r h s hs b hb => ?_, by have := M.lo 0 (Nat.zero_le _); show st ∈ gt (rowDo p row nss (gt nss row)) 0; rw [this]; exact S.st⟩
  have e := M.lo r (by omega)
  have hs' : s ∈ gt nss r := by rw [← e]; exact hs
  by_cases hrr : r = row
  · subst hrr
    exact M.cl s hs' b hb
  · exact M.up _ _ (S.cl r (by omega) s hs' b hb)
theorem sg_stage {p : Pg} (hp : p.Ok) {st : List Nat} (hs : StOk p.m p.bs st) : ∀ n, n ≤ p.rows.length → Sg p st n (stage p st n)
  | 0, _ => sg_init hs
  | n + 1, h => sg_step hp (by omega) (sg_stage hp hs n (by omega))
theorem stage_lo {p : Pg} (hp : p.Ok) {st : List Nat} (hs : StOk p.m p.bs st) {r : Nat} : ∀ n, r ≤ n → n ≤ p.rows.length → gt (stage p st n) r = gt (stage p st r) r
  | 0, h, _ => by have : r = 0 := by omega
                  rw [this]
  | n + 1, h, h2 => by
    by_cases e : r = n + 1
    · rw [e]
    · have S := sg_stage hp hs n (by omega)
      have M := mid_do hp (show n < p.rows.length by omega) (fun s h => S.ok n s h) (mid_start S)
      have := M.lo r (by omega)
      show gt (rowDo p n (stage p st n) (gt (stage p st n) n)) r = _
      rw [this]
      exact stage_lo hp hs n (by omega) (by omega)
end Dk
end
section
set_option Elab.async false
set_option linter.all false
set_option maxRecDepth 100000
namespace Dk
open PySem PySem.Spec PyProof.Rows L2 Pk
def addC (k : Nat) (r : List Nat × Wy) : List Nat × Wy := (k :: r.1, r.2)
/-- the runs of many ways, the first one's choice k -/
def fan (f : Wy → List (List Nat × Wy)) : Nat → List Wy → List (List Nat × Wy)
  | _, [] => []
  | k, w :: ws => (f w).map (addC k) ++ fan f (k + 1) ws
def runs (p : Pg) : Nat → Wy → List (List Nat × Wy)
  | 0, w => [([], w)]
  | n + 1, .place row st => if isPickAt p row = true then fan (runs p n) 0 (ways p row st) else (ways p row st).flatMap (runs p n)
  | _ + 1, e => [([], e)]
def size (p : Pg) : Nat → Wy → Nat
  | 0, _ => 1
  | n + 1, .place row st => 1 + ((ways p row st).map (size p n)).sum
  | _ + 1, _ => 1
theorem runs_end {p : Pg} {w : Wy} (h : w.isPl = false) : ∀ n, runs p n w = [([], w)]
  | 0 => rfl
  | n + 1 => by
    cases w with
    | place r s => cases h
    | gives k => rfl
    | nothing => rfl
theorem size_pos (p : Pg) (w : Wy) : ∀ n, 1 ≤ size p n w
  | 0 => Nat.le_refl _
  | n + 1 => by
    cases w with
    | place r s => show 1 ≤ 1 + _; omega
    | gives k => exact Nat.le_refl _
    | nothing => exact Nat.le_refl _
/-- what waits: choices so far, the way, fuel -/
structure Wt where
  cs : List Nat
  w : Wy
  n : Nat
def Wt.d (t : Wt) : PyData := .tuple [natsD t.cs, t.w.d]
def runD (r : List Nat × Wy) : PyData := .tuple [natsD r.1, r.2.d]
def preC (cs : List Nat) (r : List Nat × Wy) : List Nat × Wy := (cs ++ r.1, r.2)
def Wt.all (p : Pg) (t : Wt) : List (List Nat × Wy) := (runs p t.n t.w).map (preC t.cs)
/-- how much is still to do -/
def todo (p : Pg) (ts : List Wt) : Nat := (ts.map fun t => size p t.n t.w).sum
theorem todo_app (p : Pg) (xs ys : List Wt) : todo p (xs ++ ys) = todo p xs + todo p ys := by simp [todo]
/-- what waits is fit: fuel enough, ways of the program, low in the pile -/
structure WtOk (p : Pg) (i : Nat) (t : Wt) : Prop where
  fuel : 30 ≤ t.n + t.w.rowN
  ok : WyOk p t.w
  low : i ≤ 4 * t.w.rowN
  len : t.cs.length ≤ t.w.rowN
end Dk
end
section
set_option Elab.async false
set_option linter.all false
set_option maxRecDepth 100000
namespace Dk
open PySem PySem.Spec PyProof.Rows L2 Pk
def sizeL : List Rw → Nat
  | [] => 1
  | .pick _ ts :: rs => ts.length * sizeL rs
  | _ :: rs => sizeL rs
theorem sizeL_app : ∀ (xs ys : List Rw), sizeL (xs ++ ys) = sizeL xs * sizeL ys
  | [], ys => by simp [sizeL]
  | .pick x ts :: xs, ys => by
    show ts.length * sizeL (xs ++ ys) = ts.length * sizeL xs * sizeL ys
    rw [sizeL_app xs ys, Nat.mul_assoc]
  | .set x t :: xs, ys => sizeL_app xs ys
  | .need t :: xs, ys => sizeL_app xs ys
  | .skip t k :: xs, ys => sizeL_app xs ys
  | .give t :: xs, ys => sizeL_app xs ys
/-- rows that go on to the next -/
inductive Ne : Rw → Prop
  | set (x : Str) (t : Th) : Ne (.set x t)
  | pick (x : Str) (ts : List Th) : Ne (.pick x ts)
  | need (n : Nat) (h : n ≠ 0) : Ne (.need (.num n))
  | skip (k : Nat) : Ne (.skip (.num 0) k)
end Dk
end
section
set_option Elab.async false
set_option linter.all false
set_option maxRecDepth 100000
namespace Dk
theorem nd_lt : ∀ (N : Nat) (l : List Nat), l.Nodup → (∀ x ∈ l, x < N) → l.length ≤ N
  | 0, l, _, h => by
    cases l with
    | nil => exact Nat.le_refl _
    | cons a l => exact absurd (h a List.mem_cons_self) (Nat.not_lt_zero _)
  | N + 1, l, nd, h => by
    have h1 := nd_lt N (l.erase N) (nd.erase _) fun x hx => by
      have := h x (List.mem_of_mem_erase hx)
      have hne : x ≠ N := fun e => by
        rw [e] at hx
        exact (List.Nodup.mem_erase_iff nd).mp hx |>.1 rfl
      omega
    have h2 : l.length ≤ (l.erase N).length + 1 := by
      rw [List.length_erase]
      split <;> omega
    omega
def code (m : Nat) : List Nat → Nat
  | [] => 0
  | a :: l => a + m * code m l
theorem code_lt {m : Nat} : ∀ {l : List Nat}, (∀ x ∈ l, x < m) → code m l < m ^ l.length
  | [], _ => by simp [code]
  | a :: l, h => by
    have h1 := h a List.mem_cons_self
    have h2 := code_lt (l := l) fun x hx => h x (List.mem_cons_of_mem _ hx)
    show a + m * code m l < m ^ (l.length + 1)
    rw [Nat.pow_succ, Nat.mul_comm (m ^ l.length) m]
    have h3 : m * code m l + m ≤ m * m ^ l.length := by
      have := Nat.mul_le_mul_left m (show code m l + 1 ≤ m ^ l.length by omega)
      rw [Nat.mul_add, Nat.mul_one] at this
      exact this
    omega
theorem code_inj {m : Nat} : ∀ {a b : List Nat}, a.length = b.length → (∀ x ∈ a, x < m) → (∀ x ∈ b, x < m) → code m a = code m b → a = b
  | [], [], _, _, _, _ => rfl
  | [], _ :: _, h, _, _, _ => by simp at h
  | _ :: _, [], h, _, _, _ => by simp at h
  | x :: a, y :: b, hl, ha, hb, e => by
    have hx := ha x List.mem_cons_self
    have hy := hb y List.mem_cons_self
    have e' : x + m * code m a = y + m * code m b := e
    have e1 : x = y := by
      have h1 : (x + m * code m a) % m = x := by rw [Nat.add_mul_mod_self_left, Nat.mod_eq_of_lt hx]
      have h2 : (y + m * code m b) % m = y := by rw [Nat.add_mul_mod_self_left, Nat.mod_eq_of_lt hy]
      rw [← h1, ← h2, e']
    subst e1
    have e2 : code m a = code m b := Nat.eq_of_mul_eq_mul_left (show 0 < m by omega) (by omega)
    rw [code_inj (by simpa using hl) (fun z hz => ha z (List.mem_cons_of_mem _ hz)) (fun z hz => hb z (List.mem_cons_of_mem _ hz)) e2]
theorem sts_le {m : Nat} {bs : List PySem.Str} {l : List (List Nat)} (nd : l.Nodup) (h : ∀ s ∈ l, StOk m bs s) : l.length ≤ m ^ bs.length := by
  have h1 : (l.map (code m)).Nodup := by
    refine List.pairwise_map.mpr (nd.imp_of_mem fun {a b} ha hb hne e => hne ?_)
    exact code_inj ((h a ha).len.trans (h b hb).len.symm) (h a ha).lt (h b hb).lt e
  have h2 := nd_lt (m ^ bs.length) (l.map (code m)) h1 fun x hx => by
    obtain ⟨s, hs, rfl⟩ := List.mem_map.mp hx
    have := code_lt (h s hs).lt
    rw [(h s hs).len] at this
    exact this
  rw [List.length_map] at h2
  exact h2
def pk (rows : List Rw) : Nat := (rows.filter Rw.isPick).length
theorem sizeL_pos {m : Nat} {bs : List PySem.Str} : ∀ {rows : List Rw}, (∀ r ∈ rows, r.Ok m bs) → 1 ≤ sizeL rows
  | [], _ => Nat.le_refl _
  | .pick x ts :: rs, h => by
    have h1 := (h _ List.mem_cons_self).2.1
    have h2 := sizeL_pos (rows := rs) fun r hr => h r (List.mem_cons_of_mem _ hr)
    show 1 ≤ ts.length * sizeL rs
    exact Nat.mul_pos h1 h2
  | .set x t :: rs, h => sizeL_pos (rows := rs) fun r hr => h r (List.mem_cons_of_mem _ hr)
  | .need t :: rs, h => sizeL_pos (rows := rs) fun r hr => h r (List.mem_cons_of_mem _ hr)
  | .skip t k :: rs, h => sizeL_pos (rows := rs) fun r hr => h r (List.mem_cons_of_mem _ hr)
  | .give t :: rs, h => sizeL_pos (rows := rs) fun r hr => h r (List.mem_cons_of_mem _ hr)
def wt (p : Pg) (r : Nat) : Nat := sizeL (p.rows.drop r)
theorem wt_pos {p : Pg} (hp : p.Ok) (r : Nat) : 1 ≤ wt p r := sizeL_pos fun x hx => hp.rows x (List.mem_of_mem_drop hx)
theorem wt_mono {p : Pg} (hp : p.Ok) {a b : Nat} (h : a ≤ b) : wt p b ≤ wt p a := by
  unfold wt
  have e : p.rows.drop a = (p.rows.drop a).take (b - a) ++ p.rows.drop b := by
    have := (List.take_append_drop (b - a) (p.rows.drop a)).symm
    rw [List.drop_drop] at this
    have e2 : a + (b - a) = b := by omega
    rw [e2] at this
    exact this
  rw [e, sizeL_app]
  have h1 := sizeL_pos (m := p.m) (bs := p.bs) (rows := (p.rows.drop a).take (b - a)) fun x hx => hp.rows x (List.mem_of_mem_drop (List.mem_of_mem_take hx))
  have := Nat.mul_le_mul_right (sizeL (p.rows.drop b)) h1
  omega
def phi (w : Nat → Nat) : Nat → Sts → Nat
  | _, [] => 0
  | i, l :: r => l.length * w i + phi w (i + 1) r
theorem phi_set {w : Nat → Nat} {y : List (List Nat)} : ∀ {xs : Sts} {i j : Nat}, y.length ≤ (gt xs j).length + 1 → phi w i (xs.set j y) ≤ phi w i xs + w (i + j)
  | [], i, j, _ => by simp [phi]
  | x :: xs, i, 0, h => by
    show y.length * w i + phi w (i + 1) xs ≤ x.length * w i + phi w (i + 1) xs + w (i + 0)
    have h' : y.length ≤ x.length + 1 := h
    have := Nat.mul_le_mul_right (w i) h'
    rw [Nat.add_mul, Nat.one_mul] at this
    show _ ≤ x.length * w i + phi w (i + 1) xs + w i
    omega
  | x :: xs, i, j + 1, h => by
    show x.length * w i + phi w (i + 1) (xs.set j y) ≤ x.length * w i + phi w (i + 1) xs + w (i + (j + 1))
    have := phi_set (w := w) (xs := xs) (i := i + 1) (j := j) (y := y) h
    have e : i + (j + 1) = i + 1 + j := by omega
    rw [e]
    omega
def Phi (p : Pg) (n : Nat) (nss : Sts) : Nat := phi (wt p) n (nss.drop n)
theorem Phi_ins {p : Pg} {n : Nat} {nss : Sts} {b : Nat × List Nat} (h : n ≤ b.1) : Phi p n (ins nss b) ≤ Phi p n nss + wt p b.1 := by
  unfold Phi ins
  rw [List.drop_set, if_neg (by omega)]
  have g : gt (nss.drop n) (b.1 - n) = gt nss b.1 := by
    unfold gt
    rw [List.getD_eq_getElem?_getD, List.getD_eq_getElem?_getD, List.getElem?_drop]
    congr 2
    omega
  have := phi_set (w := wt p) (xs := nss.drop n) (i := n) (j := b.1 - n) (y := adds (gt nss b.1) b.2) (by rw [g]; exact adds_len)
  have e : n + (b.1 - n) = b.1 := by omega
  rw [e] at this
  exact this
theorem Phi_all {p : Pg} {n : Nat} : ∀ {nss : Sts} {bs : List (Nat × List Nat)}, (∀ b ∈ bs, n ≤ b.1) → Phi p n (insAll nss bs) ≤ Phi p n nss + (bs.map fun b => wt p b.1).sum
  | nss, [], _ => Nat.le_refl _
  | nss, b :: bs, h => by
    have h1 := Phi_ins (p := p) (nss := nss) (h b List.mem_cons_self)
    have h2 := Phi_all (p := p) (nss := ins nss b) (bs := bs) fun c hc => h c (List.mem_cons_of_mem _ hc)
    show Phi p n (insAll (ins nss b) bs) ≤ Phi p n nss + (wt p b.1 + (bs.map fun b => wt p b.1).sum)
    omega
theorem behind_wt {p : Pg} (hp : p.Ok) {row : Nat} (hr : row < p.rows.length) (st : List Nat) : ((behind p row st).map fun b => wt p b.1).sum ≤ wt p row := by
  have h0 : p.rows[row]? = some p.rows[row] := List.getElem?_eq_getElem hr
  have hok := hp.rows _ (List.getElem_mem hr)
  unfold behind
  rw [lways_at h0]
  have one : ∀ r s, row ≤ r → ((([Wy.place r s].filterMap plc)).map fun b => wt p b.1).sum ≤ wt p row := fun r s h => by
    show wt p r + 0 ≤ wt p row
    have := wt_mono hp h
    omega
  cases hq : p.rows[row] with
  | set x t => exact one _ _ (by omega)
  | need t =>
    simp only [lnx]
    split
    · exact Nat.zero_le _
    · exact one _ _ (by omega)
  | give t => exact Nat.zero_le _
  | skip t k => exact one _ _ (by omega)
  | pick x ts =>
    rw [hq] at hok
    have hl := hok.2.2.1
    have e : ∀ l : List Th, ((((l.map fun t => Wy.place (row + 1) (put p.bs st x (tv p st t))).filterMap plc)).map fun b => wt p b.1).sum = l.length * wt p (row + 1) := fun l => by
      induction l with
      | nil => simp
      | cons t l ih =>
        show wt p (row + 1) + ((((l.map fun t => Wy.place (row + 1) (put p.bs st x (tv p st t))).filterMap plc)).map fun b => wt p b.1).sum = (l.length + 1) * wt p (row + 1)
        rw [ih, Nat.add_mul, Nat.one_mul]
        omega
    simp only [lnx]
    rw [e]
    have hw : wt p row = ts.length * wt p (row + 1) := by
      unfold wt
      have : p.rows.drop row = .pick x ts :: p.rows.drop (row + 1) := by rw [List.drop_eq_getElem_cons hr, hq]
      rw [this]
      rfl
    rw [hw]
    exact Nat.le_refl _
theorem Phi_do {p : Pg} (hp : p.Ok) {row : Nat} (hr : row < p.rows.length) : ∀ {nss : Sts} {hs : List (List Nat)}, (∀ s ∈ hs, StOk p.m p.bs s) → Phi p (row + 1) (rowDo p row nss hs) ≤ Phi p (row + 1) nss + hs.length * wt p row
  | nss, [], _ => by show Phi p (row + 1) nss ≤ _; simp
  | nss, s :: hs, h => by
    have hs' := h s List.mem_cons_self
    have h1 := Phi_all (p := p) (n := row + 1) (nss := nss) (bs := behind p row s) fun b hb => (behind_ok hp hr hs' b hb).1
    have h2 := behind_wt hp hr s
    have h3 := Phi_do hp hr (nss := insAll nss (behind p row s)) (hs := hs) fun x hx => h x (List.mem_cons_of_mem _ hx)
    show Phi p (row + 1) (rowDo p row (insAll nss (behind p row s)) hs) ≤ Phi p (row + 1) nss + (hs.length + 1) * wt p row
    rw [Nat.add_mul, Nat.one_mul]
    omega
theorem Phi_cons {p : Pg} {n : Nat} {nss : Sts} (h : n < nss.length) : Phi p n nss = (gt nss n).length * wt p n + Phi p (n + 1) nss := by
  unfold Phi
  rw [List.drop_eq_getElem_cons h]
  show nss[n].length * wt p n + phi (wt p) (n + 1) (nss.drop (n + 1)) = _
  have : gt nss n = nss[n] := by unfold gt; rw [List.getD_eq_getElem?_getD, List.getElem?_eq_getElem h]; rfl
  rw [this]
theorem Phi_stage {p : Pg} (hp : p.Ok) {st : List Nat} (hs : StOk p.m p.bs st) : ∀ n, n ≤ p.rows.length → Phi p n (stage p st n) ≤ wt p 0
  | 0, _ => by
    have S := sg_init (p := p) hs
    have h : 0 < (init p st).length := by rw [S.len]; omega
    show Phi p 0 (init p st) ≤ wt p 0
    rw [Phi_cons h, init_gt, if_pos rfl]
    have z : ∀ (l : Nat) (i : Nat), phi (wt p) i (List.replicate l []) = 0 := fun l => by
      induction l with
      | zero => intro i; rfl
      | succ l ih => intro i; show 0 * _ + phi (wt p) (i + 1) (List.replicate l []) = 0; rw [ih]; simp
    have : Phi p 1 (init p st) = 0 := by
      unfold Phi init
      rw [List.replicate_succ]
      exact z _ _
    rw [this]
    simp
  | n + 1, h => by
    have ih := Phi_stage hp hs n (by omega)
    have S := sg_stage hp hs n (by omega)
    have hlt : n < (stage p st n).length := by rw [S.len]; omega
    rw [Phi_cons hlt] at ih
    have h1 := Phi_do hp (show n < p.rows.length by omega) (nss := stage p st n) (hs := gt (stage p st n) n) fun s hs => S.ok n s hs
    show Phi p (n + 1) (rowDo p n (stage p st n) (gt (stage p st n) n)) ≤ _
    omega
theorem reach_wt {p : Pg} (hp : p.Ok) {st : List Nat} (hs : StOk p.m p.bs st) {r : Nat} (hr : r ≤ p.rows.length) : (gt (reach p st) r).length ≤ wt p 0 := by
  have e := stage_lo hp hs p.rows.length hr (Nat.le_refl _)
  have h1 := Phi_stage hp hs r hr
  have S := sg_stage hp hs r hr
  have hlt : r < (stage p st r).length := by rw [S.len]; omega
  rw [Phi_cons hlt] at h1
  show (gt (stage p st p.rows.length) r).length ≤ _
  rw [e]
  have h2 : (gt (stage p st r) r).length * 1 ≤ (gt (stage p st r) r).length * wt p r := Nat.mul_le_mul_left _ (wt_pos hp r)
  omega
/-- few stores, or few picks -/
def Few (p : Pg) : Prop := p.m ^ p.bs.length ≤ 1000 ∨ sizeL p.rows ≤ 1000
end Dk
end
section
set_option Elab.async false
set_option linter.all false
set_option maxRecDepth 100000
namespace Dk
open PySem PySem.Spec PyProof.Rows L2 Pk
theorem dval_pos {p : NestedKey × PyData} {r : NDs} {k : NestedKey} (e : p.1 = k) : dval (p :: r) k = some p.2 := by simp [dval, List.find?_cons, e]
theorem dval_neg {p : NestedKey × PyData} {r : NDs} {k : NestedKey} (e : ¬ p.1 = k) : dval (p :: r) k = dval r k := by simp [dval, List.find?_cons, e]
theorem dval_map (k : NestedKey) (d : PyData) (k' : NestedKey) : ∀ ds : NDs, dval (ds.map fun x => if x.1 = k then (x.1, d) else x) k' = if k' = k then (dval ds k).map (fun _ => d) else dval ds k'
  | [] => by simp [dval]
  | (a, v) :: ds => by
    rw [List.map_cons]
    by_cases h : a = k
    · subst h
      rw [if_pos rfl]
      by_cases e : k' = a
      · subst e
        rw [dval_pos rfl, if_pos rfl, dval_pos rfl]; rfl
      · rw [dval_neg (Ne.symm e), if_neg e, dval_neg (Ne.symm e), dval_map a d k' ds, if_neg e]
    · rw [if_neg h, dval_neg (r := ds) h]
      by_cases e : a = k'
      · subst e
        rw [dval_pos rfl, if_neg h, dval_pos rfl]
      · rw [dval_neg e, dval_map k d k' ds, dval_neg e]
theorem dval_app {k k' : NestedKey} {d : PyData} : ∀ ds : NDs, dval ds k = none → dval (ds ++ [(k, d)]) k' = if k' = k then some d else dval ds k'
  | [], _ => by
    by_cases e : k' = k
    · rw [if_pos e, e]; exact dval_pos rfl
    · rw [if_neg e]; exact dval_neg (Ne.symm e)
  | (a, v) :: ds, h => by
    by_cases ha : a = k
    · rw [dval_pos ha] at h; cases h
    · rw [dval_neg ha] at h
      rw [List.cons_append]
      by_cases e : a = k'
      · subst e
        rw [dval_pos rfl, dval_pos rfl, if_neg ha]
      · rw [dval_neg e, dval_neg e, dval_app ds h]
theorem dval_put (ds : NDs) (k : NestedKey) (d : PyData) (k' : NestedKey) : dval (dput ds k d) k' = if k' = k then some d else dval ds k' := by
  unfold dput
  cases h : dval ds k with
  | none =>
    rw [if_neg (by simp)]
    exact dval_app ds h
  | some v =>
    rw [if_pos (show (some v).isSome = true from rfl), dval_map, h]
    rfl
def stKs (st : List Nat) : List NestedKey := st.map fun (n : Nat) => .num n
abbrev stK (st : List Nat) : NestedKey := .tup (stKs st)
theorem stK_inj {a b : List Nat} (h : stK a = stK b) : a = b := by
  have h' : stKs a = stKs b := by injection h
  unfold stKs at h'
  exact (List.map_inj_right (fun x y e => by injection e with e; omega)).mp h'
def wyKs : Wy → List NestedKey
  | .place r s => [.num r, stK s]
  | .gives n => [.text "gives", .num n]
  | .nothing => [.text "nothing"]
abbrev wyK (w : Wy) : NestedKey := .tup (wyKs w)
theorem wyK_inj {a b : Wy} (h : wyK a = wyK b) : a = b := by
  have h' : wyKs a = wyKs b := by injection h
  cases a with
  | place r s =>
    cases b with
    | place r' s' =>
      simp only [wyKs, List.cons.injEq, NestedKey.num.injEq, and_true] at h'
      have e1 : r = r' := by omega
      rw [e1, stK_inj h'.2]
    | gives n => simp [wyKs] at h'
    | nothing => simp [wyKs] at h'
  | gives n =>
    cases b with
    | place r' s' => simp [wyKs] at h'
    | gives n' =>
      simp only [wyKs, List.cons.injEq, NestedKey.num.injEq, and_true, true_and] at h'
      have : n = n' := by omega
      rw [this]
    | nothing => simp [wyKs] at h'
  | nothing =>
    cases b with
    | place r' s' => simp [wyKs] at h'
    | gives n' => simp [wyKs] at h'
    | nothing => rfl
abbrev Cn := List (Wy × Nat)
def cval (l : Cn) (w : Wy) : Option Nat := (l.find? fun x => decide (x.1 = w)).map (·.2)
def cput (l : Cn) (w : Wy) (n : Nat) : Cn := if (cval l w).isSome then l.map (fun x => if x.1 = w then (x.1, n) else x) else l ++ [(w, n)]
def cadd (l : Cn) (x : Wy × Nat) : Cn := cput l x.1 ((cval l x.1).getD 0 + x.2)
def cD (l : Cn) : NDs := l.map fun x => (wyK x.1, .int x.2)
def cnt (p : Pg) : Nat → Wy → Cn
  | 0, _ => []
  | n + 1, .place r s => (lways p r s).foldl (fun acc w => (cnt p n w).foldl cadd acc) []
  | _ + 1, e => [(e, 1)]
/-- the ends' counts from a place -/
def cn (p : Pg) (w : Wy) : Cn := cnt p 32 w
def LwOk (p : Pg) : Wy → Prop
  | .place r s => r ≤ p.rows.length ∧ StOk p.m p.bs s
  | .gives n => n < p.m
  | .nothing => True
/-- the ends are ends, each once -/
structure CnOk (p : Pg) (l : Cn) : Prop where
  nd : (l.map (·.1)).Nodup
  e : ∀ x ∈ l, x.1.isPl = false ∧ LwOk p x.1
theorem cval_mem {l : Cn} {w : Wy} : (cval l w).isSome = true ↔ w ∈ l.map (·.1) := by
  unfold cval
  rw [Option.isSome_map, List.find?_isSome]
  constructor
  · rintro ⟨x, hx, e⟩
    exact List.mem_map.mpr ⟨x, hx, by simpa using e⟩
  · intro h
    obtain ⟨x, hx, e⟩ := List.mem_map.mp h
    exact ⟨x, hx, by simp [e]⟩
theorem cput_keys (l : Cn) (w : Wy) (n : Nat) : (cput l w n).map (·.1) = if w ∈ l.map (·.1) then l.map (·.1) else l.map (·.1) ++ [w] := by
  unfold cput
  by_cases h : (cval l w).isSome = true
  · rw [if_pos h, if_pos (cval_mem.mp h), List.map_map]
    refine List.map_congr_left fun x _ => ?_
    show (if x.1 = w then (x.1, n) else x).1 = x.1
    split <;> rfl
  · rw [if_neg h, if_neg (fun z => h (cval_mem.mpr z)), List.map_append]
    rfl
theorem CnOk.keys {p : Pg} {l : Cn} (h : CnOk p l) : ∀ w ∈ l.map (·.1), w.isPl = false ∧ LwOk p w := fun w hw => by
  obtain ⟨x, hx, rfl⟩ := List.mem_map.mp hw
  exact h.e x hx
def wcode (m : Nat) : Wy → Nat
  | .gives n => n
  | _ => m
theorem CnOk.len {p : Pg} {l : Cn} (h : CnOk p l) : l.length ≤ p.m + 1 := by
  have h1 : ((l.map (·.1)).map (wcode p.m)).Nodup := by
    refine List.pairwise_map.mpr (h.nd.imp_of_mem fun {a b} ha hb hne e => hne ?_)
    have oa := h.keys a ha
    have ob := h.keys b hb
    cases a with
    | place r s => cases oa.1
    | gives n =>
      cases b with
      | place r s => cases ob.1
      | gives n' => have e' : n = n' := e; rw [e']
      | nothing => have e' : n = p.m := e; have : n < p.m := oa.2; omega
    | nothing =>
      cases b with
      | place r s => cases ob.1
      | gives n' => have e' : p.m = n' := e; have : n' < p.m := ob.2; omega
      | nothing => rfl
  have h2 := nd_lt (p.m + 1) _ h1 fun x hx => by
    obtain ⟨w, hw, rfl⟩ := List.mem_map.mp hx
    have ow := h.keys w hw
    cases w with
    | place r s => cases ow.1
    | gives n => have : n < p.m := ow.2; show n < p.m + 1; omega
    | nothing => show p.m < p.m + 1; omega
  simpa using h2
end Dk
end
section
set_option Elab.async false
set_option linter.all false
set_option maxRecDepth 100000
namespace Dk
open PySem PySem.Spec PyProof.Rows L2 Pk
/-- what is told of places from a row on -/
def Cts (p : Pg) (nss : Sts) (n top : Nat) (ds : NDs) : Prop := ∀ r, n ≤ r → r < top → ∀ s ∈ gt nss r, dval ds (wyK (.place r s)) = some (dictN (cD (cn p (.place r s))))
theorem Cts.put {p : Pg} {nss : Sts} {n top : Nat} {ds : NDs} (h : Cts p nss n top ds) (r : Nat) (s : List Nat) : Cts p nss n top (dput ds (wyK (.place r s)) (dictN (cD (cn p (.place r s))))) := fun r' h1 h2 s' hs => by
  rw [dval_put]
  by_cases e : wyK (.place r' s') = wyK (.place r s)
  · rw [if_pos e]
    have e' := wyK_inj e
    rw [e']
  · rw [if_neg e]
    exact h r' h1 h2 s' hs
theorem reach_st {p : Pg} (hp : p.Ok) {st : List Nat} (hst : StOk p.m p.bs st) : st ∈ gt (reach p st) 0 := (sg_stage hp hst p.rows.length (Nat.le_refl _)).st
instance : Inhabited Wy := ⟨.nothing⟩
def gv : Wy → Option Nat
  | .gives n => some n
  | _ => none
/-- the answers of some ends -/
def gvs (l : Cn) : List Nat := (l.map (·.1)).filterMap gv
theorem lt_int (a b : Nat) : PySem.W.dataLt (.int a) (.int b) = decide (a < b) := by
  rw [PySem.W.dataLt_int]
  by_cases h2 : a < b
  · rw [decide_eq_true h2, decide_eq_true (by omega)]
  · rw [decide_eq_false h2, decide_eq_false (by omega)]
/-- rising, each of the answers once -/
def Rising (l : Cn) (ns : List Nat) : Prop := ns.Perm (gvs l) ∧ ns.Pairwise (· ≤ ·)
theorem Rising.eq {l : Cn} {a b : List Nat} (ha : Rising l a) (hb : Rising l b) : a = b :=
  List.Perm.eq_of_pairwise (fun x y _ _ h1 h2 => Nat.le_antisymm h1 h2) ha.2 hb.2 (ha.1.trans hb.1.symm)
end Dk
end
section
set_option Elab.async false
set_option linter.all false
set_option maxRecDepth 100000
namespace Dk
open PySem PySem.Spec PyProof.Rows L2 Pk
def total (l : Cn) : Nat := (l.map (·.2)).sum
def cget (l : Cn) (e : Wy) : Nat := (cval l e).getD 0
/-- how many runs behind a way, all, or to one end -/
def nbl (o : Option Wy) (l : Cn) : Nat := match o with
  | none => total l
  | some e => cget l e
def nb (p : Pg) (o : Option Wy) (w : Wy) : Nat := nbl o (cn p w)
theorem cval_cons (x : Wy × Nat) (l : Cn) (w : Wy) : cval (x :: l) w = if x.1 = w then some x.2 else cval l w := by
  unfold cval
  by_cases h : x.1 = w
  · simp [List.find?_cons, h]
  · simp [List.find?_cons, h]
theorem cval_app : ∀ (l : Cn) (x : Wy × Nat) (w : Wy), cval l x.1 = none → cval (l ++ [x]) w = if x.1 = w then some x.2 else cval l w
  | [], x, w, _ => by rw [List.nil_append, cval_cons]
  | y :: l, x, w, h => by
    rw [cval_cons] at h
    split at h
    · cases h
    · rename_i hne
      rw [List.cons_append, cval_cons, cval_app l x w h, cval_cons]
      by_cases h1 : y.1 = w
      · rw [if_pos h1, if_pos h1, if_neg (fun z => hne (h1.trans z.symm))]
      · rw [if_neg h1, if_neg h1]
theorem cval_map (w : Wy) (n : Nat) (u : Wy) : ∀ l : Cn, cval (l.map fun x => if x.1 = w then (x.1, n) else x) u = if u = w then (cval l w).map (fun _ => n) else cval l u
  | [] => by simp [cval]
  | y :: l => by
    rw [List.map_cons, cval_cons, cval_map w n u l, cval_cons, cval_cons]
    by_cases h1 : y.1 = w
    · by_cases h2 : u = w
      · simp [h1, h2]
      · have h3 : ¬ w = u := fun z => h2 z.symm
        simp [h1, h2, h3]
    · by_cases h2 : u = w
      · subst h2
        simp [h1]
      · simp [h1, h2]
theorem cget_put (l : Cn) (w : Wy) (n : Nat) (u : Wy) : cget (cput l w n) u = if u = w then n else cget l u := by
  unfold cget cput
  cases h : cval l w with
  | some m =>
    rw [if_pos (show (some m).isSome = true from rfl), cval_map]
    by_cases e : u = w
    · rw [if_pos e, if_pos e, h]; rfl
    · rw [if_neg e, if_neg e]
  | none =>
    rw [if_neg (by simp), cval_app l (w, n) u h]
    by_cases e : u = w
    · rw [if_pos e, if_pos e.symm]; rfl
    · rw [if_neg e, if_neg (Ne.symm e)]
theorem cget_add (l : Cn) (x : Wy × Nat) (u : Wy) : cget (cadd l x) u = cget l u + if x.1 = u then x.2 else 0 := by
  unfold cadd
  rw [cget_put]
  by_cases e : u = x.1
  · rw [if_pos e, if_pos e.symm, e]; rfl
  · rw [if_neg e, if_neg (Ne.symm e)]; omega
theorem nd_add {l : Cn} (nd : (l.map (·.1)).Nodup) (x : Wy × Nat) : ((cadd l x).map (·.1)).Nodup := by
  unfold cadd
  rw [cput_keys]
  split
  · exact nd
  · rename_i hn
    rw [List.nodup_append]
    exact ⟨nd, by simp, fun a ha b hb z => hn (by rw [← List.mem_singleton.mp hb, ← z]; exact ha)⟩
end Dk
end
section
set_option Elab.async false
set_option linter.all false
set_option maxRecDepth 100000
namespace Dk
open PySem PySem.Spec PyProof.Rows L2 Pk
end Dk
end
section
set_option Elab.async false
set_option linter.all false
set_option maxRecDepth 100000
namespace Dk
open PySem PySem.Spec PyProof.Rows L2 Pk
def Apart (a b : List Nat) : Prop := ∃ (pre : List Nat) (x y : Nat) (u v : List Nat), a = pre ++ x :: u ∧ b = pre ++ y :: v ∧ x < y
theorem Apart.cons {a b : List Nat} (h : Apart a b) (k : Nat) : Apart (k :: a) (k :: b) := by
  obtain ⟨pre, x, y, u, v, rfl, rfl, h⟩ := h
  exact ⟨k :: pre, x, y, u, v, rfl, rfl, h⟩
theorem fan_mem {f : Wy → List (List Nat × Wy)} {r : List Nat × Wy} : ∀ {ws : List Wy} {k : Nat}, r ∈ fan f k ws → ∃ i w r', ws[i]? = some w ∧ r' ∈ f w ∧ r = addC (k + i) r'
  | [], k, h => by cases h
  | w :: ws, k, h => by
    rcases List.mem_append.mp (show r ∈ (f w).map (addC k) ++ fan f (k + 1) ws from h) with h | h
    · obtain ⟨r', hr', e⟩ := List.mem_map.mp h
      exact ⟨0, w, r', rfl, hr', e.symm⟩
    · obtain ⟨i, w', r', h1, h2, h3⟩ := fan_mem h
      exact ⟨i + 1, w', r', h1, h2, by rw [h3]; congr 1; omega⟩
theorem mem_fan {f : Wy → List (List Nat × Wy)} {r : List Nat × Wy} : ∀ {ws : List Wy} {k i : Nat} {w : Wy}, ws[i]? = some w → r ∈ f w → addC (k + i) r ∈ fan f k ws
  | [], k, i, w, h, _ => by cases h
  | w0 :: ws, k, 0, w, h, hr => by
    cases (Option.some.inj h)
    exact List.mem_append_left _ (List.mem_map.mpr ⟨r, hr, rfl⟩)
  | w0 :: ws, k, i + 1, w, h, hr => by
    have := mem_fan (ws := ws) (k := k + 1) (i := i) (w := w) h hr
    have e : k + 1 + i = k + (i + 1) := by omega
    rw [e] at this
    exact List.mem_append_right _ this
theorem fan_apart {f : Wy → List (List Nat × Wy)} : ∀ {ws : List Wy} (k : Nat), (∀ w ∈ ws, (f w).Pairwise fun r s => Apart r.1 s.1) → (fan f k ws).Pairwise fun r s => Apart r.1 s.1
  | [], k, _ => .nil
  | w :: ws, k, h => by
    show ((f w).map (addC k) ++ fan f (k + 1) ws).Pairwise _
    refine List.pairwise_append.mpr ⟨?_, fan_apart (k + 1) fun x hx => h x (List.mem_cons_of_mem _ hx), fun r hr s hs => ?_⟩
    · refine List.pairwise_map.mpr ((h w List.mem_cons_self).imp fun {r s} z => z.cons k)
    · obtain ⟨r', _, rfl⟩ := List.mem_map.mp hr
      obtain ⟨i, w', s', _, _, rfl⟩ := fan_mem hs
      exact ⟨[], k, k + 1 + i, r'.1, s'.1, rfl, rfl, by omega⟩
theorem runs_all {p : Pg} (hp : p.Ok) : ∀ (n : Nat) (w : Wy), 30 ≤ n + w.rowN → WyOk p w → (∀ r ∈ runs p n w, Goes p w r.1 r.2) ∧ (runs p n w).Pairwise (fun r s => Apart r.1 s.1) ∧ ∀ cs e, Goes p w cs e → (cs, e) ∈ runs p n w := by
  have h30 := hp.r30
  intro n
  induction n with
  | zero =>
    intro w hn hw
    have hpl : w.isPl = false := by
      cases w with
      | place r s =>
        have h1 : r < p.rows.length := hw.1
        have h2 : 30 ≤ 0 + r := hn
        omega
      | gives k => rfl
      | nothing => rfl
    rw [runs_end hpl]
    refine ⟨fun r hr => ?_, List.pairwise_singleton _ _, fun cs e h => ?_⟩
    · rw [List.mem_singleton.mp hr]
      exact .fin hpl
    · cases h with
      | fin _ => exact List.mem_singleton.mpr rfl
      | step _ _ _ => cases hpl
      | pick _ _ _ => cases hpl
  | succ n ih =>
    intro w hn hw
    cases w with
    | gives k =>
      refine ⟨fun r hr => ?_, List.pairwise_singleton _ _, fun cs e h => ?_⟩
      · rw [List.mem_singleton.mp hr]
        exact .fin rfl
      · cases h with
        | fin _ => exact List.mem_singleton.mpr rfl
    | nothing =>
      refine ⟨fun r hr => ?_, List.pairwise_singleton _ _, fun cs e h => ?_⟩
      · rw [List.mem_singleton.mp hr]
        exact .fin rfl
      · cases h with
        | fin _ => exact List.mem_singleton.mpr rfl
    | place row st =>
      have hrow : row < p.rows.length := hw.1
      have hn' : 30 ≤ n + 1 + row := hn
      have sub : ∀ w' ∈ ways p row st, 30 ≤ n + w'.rowN ∧ WyOk p w' := fun w' hw' => by
        obtain ⟨h1, h2⟩ := ways_ok hp hw.2 w' hw'
        have := past_le hp hrow h2
        exact ⟨by omega, h1⟩
      show (∀ r ∈ (if isPickAt p row = true then fan (runs p n) 0 (ways p row st) else (ways p row st).flatMap (runs p n)), _) ∧ (if isPickAt p row = true then fan (runs p n) 0 (ways p row st) else (ways p row st).flatMap (runs p n)).Pairwise _ ∧ ∀ cs e, Goes p (.place row st) cs e → (cs, e) ∈ (if isPickAt p row = true then fan (runs p n) 0 (ways p row st) else (ways p row st).flatMap (runs p n))
      cases hpk : isPickAt p row with
      | true =>
        rw [if_pos rfl]
        refine ⟨fun r hr => ?_, fan_apart 0 fun w' hw' => (ih w' (sub w' hw').1 (sub w' hw').2).2.1, fun cs e h => ?_⟩
        · obtain ⟨i, w', r', h1, h2, rfl⟩ := fan_mem hr
          have hm := List.mem_of_getElem? h1
          rw [Nat.zero_add]
          exact .pick hpk h1 ((ih w' (sub w' hm).1 (sub w' hm).2).1 r' h2)
        · cases h with
          | fin h => cases h
          | step h1 _ _ => rw [hpk] at h1; cases h1
          | pick h1 h2 h3 =>
            rename_i c cs w'
            have hm := List.mem_of_getElem? h2
            have := mem_fan (f := runs p n) (k := 0) h2 ((ih w' (sub w' hm).1 (sub w' hm).2).2.2 _ _ h3)
            rw [Nat.zero_add] at this
            exact this
      | false =>
        rw [if_neg Bool.false_ne_true]
        obtain ⟨w', hw'⟩ := ways_one (st := st) hrow hpk
        have hm : w' ∈ ways p row st := by rw [hw']; exact List.mem_singleton.mpr rfl
        have ih' := ih w' (sub w' hm).1 (sub w' hm).2
        rw [hw', List.flatMap_singleton]
        refine ⟨fun r hr => .step hpk hw' (ih'.1 r hr), ih'.2.1, fun cs e h => ?_⟩
        cases h with
        | fin h => cases h
        | pick h1 _ _ => rw [hpk] at h1; cases h1
        | step h1 h2 h3 =>
          rw [hw'] at h2
          cases h2
          exact ih'.2.2 _ _ h3
theorem alike_nats : ∀ (a b : List Nat), PySem.W.alikeAll (a.map fun (n : Nat) => PyData.int n) (b.map fun (n : Nat) => PyData.int n) = true
  | [], _ => by rw [List.map_nil, PySem.W.alikeAll]
  | _ :: _, [] => by rw [List.map_nil, List.map_cons, PySem.W.alikeAll]
  | x :: xs, y :: ys => by
    rw [List.map_cons, List.map_cons, PySem.W.alikeAll, alike_nats xs ys]
    rfl
theorem lt_apart {a b : List Nat} (h : Apart a b) : PySem.W.dataLt (natsD a) (natsD b) = true := by
  obtain ⟨pre, x, y, u, v, rfl, rfl, h⟩ := h
  refine (PySem.W.dataLt_list _ _).trans ?_
  induction pre with
  | nil =>
    rw [List.nil_append, List.nil_append, List.map_cons, List.map_cons, PySem.W.dataLt_all_no (by rfl) (by show PyData.eqv (.int x) (.int y) = false; simp [PyData.eqv]; omega)]
    rw [PySem.W.dataLt_int]
    exact decide_eq_true (by omega)
  | cons z pre ih =>
    rw [List.cons_append, List.cons_append, List.map_cons, List.map_cons, PySem.W.dataLt_all_yes (by rfl) (by simp [PyData.eqv])]
    exact ih
theorem eqvN : ∀ (a b : List Nat), PyData.eqvAll (a.map fun (n : Nat) => PyData.int n) (b.map fun (n : Nat) => PyData.int n) = decide (a = b)
  | [], [] => rfl
  | [], _ :: _ => rfl
  | _ :: _, [] => rfl
  | x :: a, y :: b => by
    rw [List.map_cons, List.map_cons, PyData.eqvAll, eqvN a b]
    have : PyData.eqv (.int x) (.int y) = decide (x = y) := by
      simp only [PyData.eqv]
      by_cases h : x = y
      · subst h; simp
      · rw [decide_eq_false h]
        have : ¬ (x : Int) = y := by omega
        simpa using this
    rw [this]
    by_cases h : x = y <;> by_cases h' : a = b <;> simp [h, h']
theorem pre_apart {a b : List Nat} (h : Apart a b) : b.take a.length ≠ a := by
  obtain ⟨pre, x, y, u, v, rfl, rfl, h⟩ := h
  intro e
  have := congrArg (fun l => l[pre.length]?) e
  simp [List.getElem?_take] at this
  omega
end Dk
end
section
set_option Elab.async false
set_option linter.all false
set_option maxRecDepth 100000
namespace Dk
open PySem PySem.Spec PyProof.Rows L2 Pk
def shiftR (at_ k : Nat) : Rw → Rw
  | .skip t j => if k < at_ ∧ at_ ≤ k + j then .skip t (j + 1) else .skip t j
  | r => r
structure Ins (p q : Pg) (at_ : Nat) (r : Rw) : Prop where
  m : q.m = p.m
  bs : q.bs = p.bs
  len : q.rows.length = p.rows.length + 1
  le : at_ ≤ p.rows.length
  lo : ∀ j r0, j < at_ → p.rows[j]? = some r0 → q.rows[j]? = some (shiftR at_ j r0)
  mid : q.rows[at_]? = some r
  hi : ∀ j, at_ ≤ j → q.rows[j + 1]? = p.rows[j]?
/-- with a row ahead -/
def hd1 (p : Pg) (r : Rw) : Pg := ⟨p.m, p.bs, r :: p.rows⟩
def Rw.Nr (m : Nat) (bs : List Str) : Rw → Prop
  | .skip t k => t.Ok m bs 4 ∧ 1 ≤ k ∧ k ≤ 31
  | r => r.Ok m bs
structure Pg.Nr (p : Pg) : Prop where
  mb : 2 ≤ p.m ∧ p.m ≤ 16 ∧ BsOk p.bs
  r31 : p.rows.length ≤ 31
  rows : ∀ r ∈ p.rows, r.Nr p.m p.bs
end Dk
end
section
set_option Elab.async false
set_option linter.all false
set_option maxRecDepth 100000
namespace Dk
open PySem PySem.Spec PyProof.Rows L2 Pk
def Wy.need (p : Pg) : Wy → Nat
  | .place row _ => p.rows.length - row
  | _ => 0
/-- the runs of p from a store -/
def rn (p : Pg) (st : List Nat) : List (List Nat × Wy) := runs p 30 (poe p 0 st)
theorem str_alike (a b : Wy) (ha : a.isPl = false) (hb : b.isPl = false) : PySem.W.alike a.d b.d = true := by
  cases a with
  | place r s => cases ha
  | gives n =>
    cases b with
    | place r s => cases hb
    | gives m => rfl
    | nothing => rfl
  | nothing =>
    cases b with
    | place r s => cases hb
    | gives m => rfl
    | nothing => rfl
theorem run_alike {a b : List Nat × Wy} (ha : a.2.isPl = false) (hb : b.2.isPl = false) : PySem.W.alike (runD a) (runD b) = true := by
  show PySem.W.alikeAll [natsD a.1, a.2.d] [natsD b.1, b.2.d] = true
  rw [PySem.W.alikeAll, PySem.W.alikeAll, str_alike a.2 b.2 ha hb]
  have : PySem.W.alike (natsD a.1) (natsD b.1) = true := alike_nats a.1 b.1
  rw [this]
  rfl
theorem run_lt {a b : List Nat × Wy} (ha : a.2.isPl = false) (hb : b.2.isPl = false) (h : Apart a.1 b.1) : PySem.W.dataLt (runD a) (runD b) = true := by
  show PySem.W.dataLt (.tuple [natsD a.1, a.2.d]) (.tuple [natsD b.1, b.2.d]) = true
  have hal : PySem.W.alike (natsD a.1) (natsD b.1) = true := alike_nats a.1 b.1
  rw [PySem.W.dataLt_pair hal (str_alike a.2 b.2 ha hb)]
  have e : PyData.eqv (natsD a.1) (natsD b.1) = false := by
    show PyData.eqvAll _ _ = false
    rw [eqvN]
    refine decide_eq_false fun z => ?_
    have := pre_apart h
    rw [z] at this
    exact this (List.take_length)
  rw [e, if_neg Bool.false_ne_true]
  exact lt_apart h
theorem sorted_eq {es : List PyData} {T : List (List Nat × Wy)} (hT : T.Pairwise fun r s => Apart r.1 s.1) (he : ∀ r ∈ T, r.2.isPl = false) (h1 : es.Perm (T.map runD)) (h2 : es.Pairwise fun a b => PySem.W.dataLt b a = false) : es = T.map runD := by
  have hlt : (T.map runD).Pairwise fun a b => PySem.W.dataLt a b = true := by
    refine List.pairwise_map.mpr (hT.imp_of_mem fun {a b} ha hb h => run_lt (he a ha) (he b hb) h)
  have hle : (T.map runD).Pairwise fun a b => PySem.W.dataLt b a = false := by
    refine List.pairwise_map.mpr (hT.imp_of_mem fun {a b} ha hb h => ?_)
    have := run_lt (he a ha) (he b hb) h
    cases hc : PySem.W.dataLt (runD b) (runD a) with
    | false => rfl
    | true =>
      have h3 : PySem.W.dataLt (runD a) (runD a) = true := PyProof.Rows.lex_trans (O := PyProof.Rows.itemOrd) _ _ _ this hc
      have h4 : PySem.W.dataLt (runD a) (runD a) = false := PyProof.Rows.lex_irrefl (O := PyProof.Rows.itemOrd) _
      rw [h4] at h3
      exact absurd h3 Bool.false_ne_true
  refine List.Perm.eq_of_pairwise (le := fun a b => PySem.W.dataLt b a = false) (fun a b ha hb h3 h4 => ?_) h2 hle h1
  obtain ⟨i, hi⟩ := List.getElem?_of_mem (h1.mem_iff.mp ha)
  obtain ⟨j, hj⟩ := List.getElem?_of_mem hb
  obtain ⟨hi1, hi2⟩ := List.getElem?_eq_some_iff.mp hi
  obtain ⟨hj1, hj2⟩ := List.getElem?_eq_some_iff.mp hj
  rcases Nat.lt_trichotomy i j with h | h | h
  · have := List.pairwise_iff_getElem.mp hlt i j hi1 hj1 h
    rw [hi2, hj2, h4] at this
    cases this
  · subst h
    rw [← hi2, ← hj2]
  · have := List.pairwise_iff_getElem.mp hlt j i hj1 hi1 h
    rw [hi2, hj2, h3] at this
    cases this
end Dk
end
section
set_option Elab.async false
set_option linter.all false
set_option maxRecDepth 100000
namespace Dk
open PySem PySem.Spec PyProof.Rows L2 Pk
def tl (o : Option Wy) (rs : List (List Nat × Wy)) : Nat := match o with
  | none => rs.length
  | some e => (rs.filter fun r => decide (r.2 = e)).length
def Pos (l : Cn) : Prop := ∀ x ∈ l, 1 ≤ x.2
theorem pos_put {l : Cn} (h : Pos l) {w : Wy} {n : Nat} (hn : 1 ≤ n) : Pos (cput l w n) := by
  unfold cput
  split
  · intro x hx
    obtain ⟨y, hy, rfl⟩ := List.mem_map.mp hx
    split
    · exact hn
    · exact h y hy
  · intro x hx
    rcases List.mem_append.mp hx with z | z
    · exact h x z
    · rw [List.mem_singleton.mp z]; exact hn
theorem pos_add {l : Cn} (h : Pos l) {x : Wy × Nat} (hn : 1 ≤ x.2) : Pos (cadd l x) := pos_put h (by omega)
end Dk
end
section
set_option Elab.async false
set_option linter.all false
set_option maxRecDepth 100000
namespace Dk
open PySem PySem.Spec PyProof.Rows L2 Pk
end Dk
end
section
set_option Elab.async false
set_option linter.all false
set_option maxRecDepth 100000
namespace Dk
open PySem
abbrev Rs := List (List Nat × Wy)
def fanG : Nat → List Rs → Rs
  | _, [] => []
  | k, l :: ls => l.map (addC k) ++ fanG (k + 1) ls
theorem fanG_fan (f : Wy → Rs) : ∀ (k : Nat) (ws : List Wy), fan f k ws = fanG k (ws.map f)
  | _, [] => rfl
  | k, w :: ws => by show (f w).map (addC k) ++ fan f (k + 1) ws = _; rw [fanG_fan f (k + 1) ws]; rfl
/-- the runs along some rows; what comes behind a give is told by κ -/
def gof (m : Nat) (bs : List Str) (κ : List Nat → Nat → Rs) (rs : List Rw) (st : List Nat) : Rs := match rs with
  | [] => [([], .nothing)]
  | .set x t :: rs => gof m bs κ rs (put bs st x (t.v m bs st))
  | .pick x ts :: rs => fanG 0 (ts.map fun t => gof m bs κ rs (put bs st x (t.v m bs st)))
  | .need t :: rs => if t.v m bs st = 0 then [([], .nothing)] else gof m bs κ rs st
  | .skip t k :: rs => gof m bs κ (if t.v m bs st = 0 then rs else rs.drop k) st
  | .give t :: _ => κ st (t.v m bs st)
termination_by rs.length
decreasing_by
  all_goals first
    | (simp only [List.length_cons]; omega)
    | (simp only [List.length_cons, dite_eq_ite]; split <;> (try simp only [List.length_drop]) <;> omega)
    | (simp_wf; split <;> (try simp only [List.length_drop]) <;> omega)
    | (simp_wf; omega)
section
variable {m : Nat} {bs : List Str} {κ κ' : List Nat → Nat → Rs}
theorem gof_nil (st : List Nat) : gof m bs κ [] st = [([], .nothing)] := by rw [gof]
theorem gof_set (x : Str) (t : Th) (rs : List Rw) (st : List Nat) : gof m bs κ (.set x t :: rs) st = gof m bs κ rs (put bs st x (t.v m bs st)) := by rw [gof]
theorem gof_pick (x : Str) (ts : List Th) (rs : List Rw) (st : List Nat) : gof m bs κ (.pick x ts :: rs) st = fanG 0 (ts.map fun t => gof m bs κ rs (put bs st x (t.v m bs st))) := by rw [gof]
theorem gof_need (t : Th) (rs : List Rw) (st : List Nat) : gof m bs κ (.need t :: rs) st = if t.v m bs st = 0 then [([], .nothing)] else gof m bs κ rs st := by rw [gof]
theorem gof_skip (t : Th) (k : Nat) (rs : List Rw) (st : List Nat) : gof m bs κ (.skip t k :: rs) st = gof m bs κ (if t.v m bs st = 0 then rs else rs.drop k) st := by rw [gof]
theorem gof_give (t : Th) (rs : List Rw) (st : List Nat) : gof m bs κ (.give t :: rs) st = κ st (t.v m bs st) := by rw [gof]
end
def κ0 : List Nat → Nat → Rs := fun _ w => [([], .gives w)]
theorem drop_row {p : Pg} {row : Nat} {r : Rw} (h : p.rows[row]? = some r) : p.rows.drop row = r :: p.rows.drop (row + 1) := by
  obtain ⟨hl, e⟩ := List.getElem?_eq_some_iff.mp h
  rw [List.drop_eq_getElem_cons hl, e]
theorem runs_gof {p : Pg} : ∀ (n row : Nat) (st : List Nat), p.rows.length ≤ row + n → runs p n (poe p row st) = gof p.m p.bs κ0 (p.rows.drop row) st
  | 0, row, st, h => by
    rw [poe_end (by omega), List.drop_eq_nil_of_le (by omega), gof_nil]
    rfl
  | n + 1, row, st, h => by
    by_cases hr : row < p.rows.length
    · rw [poe_pl hr]
      have hg : p.rows[row]? = some p.rows[row] := List.getElem?_eq_getElem hr
      obtain ⟨r, er⟩ : ∃ r, p.rows[row] = r := ⟨_, rfl⟩
      rw [er] at hg
      rw [drop_row hg]
      show (if isPickAt p row = true then fan (runs p n) 0 (ways p row st) else (ways p row st).flatMap (runs p n)) = _
      rw [pick_at hg, ways_at hg]
      cases r with
      | set x t =>
        rw [gof_set, ← runs_gof n (row + 1) _ (by omega)]
        show [poe p (row + 1) (put p.bs st x (tv p st t))].flatMap (runs p n) = _
        simp [tv]
      | pick x ts =>
        rw [gof_pick]
        show fan (runs p n) 0 (ts.map fun t => poe p (row + 1) (put p.bs st x (tv p st t))) = _
        rw [fanG_fan, List.map_map]
        congr 1
        apply List.map_congr_left
        intro t _
        exact runs_gof n (row + 1) _ (by omega)
      | need t =>
        rw [gof_need]
        show (if tv p st t = 0 then [Wy.nothing] else [poe p (row + 1) st]).flatMap (runs p n) = if tv p st t = 0 then _ else _
        by_cases hz : tv p st t = 0
        · rw [if_pos hz, if_pos hz]
          simp [runs_end (p := p) (w := .nothing) rfl n]
        · rw [if_neg hz, if_neg hz, ← runs_gof n (row + 1) _ (by omega)]
          simp
      | skip t k =>
        rw [gof_skip]
        show [poe p (row + 1 + if tv p st t = 0 then 0 else k) st].flatMap (runs p n) = gof p.m p.bs κ0 (if tv p st t = 0 then _ else _) st
        by_cases hz : tv p st t = 0
        · rw [if_pos hz, if_pos hz, ← runs_gof n (row + 1) _ (by omega)]
          simp
        · rw [if_neg hz, if_neg hz, List.drop_drop, ← runs_gof n (row + 1 + k) _ (by omega)]
          simp
      | give t =>
        rw [gof_give]
        show [Wy.gives (tv p st t)].flatMap (runs p n) = _
        simp only [List.flatMap_cons, List.flatMap_nil, List.append_nil]
        exact runs_end (p := p) (w := .gives (tv p st t)) rfl n
    · rw [poe_end (by omega), List.drop_eq_nil_of_le (by omega), gof_nil]
      rfl
theorem rn_gof {p : Pg} (hp : p.Ok) (st : List Nat) : rn p st = gof p.m p.bs κ0 p.rows st := by
  have := runs_gof (p := p) 30 0 st (by have := hp.r30; omega)
  rw [List.drop_zero] at this
  exact this
def wd2 : Rw → Nat
  | .give _ => 2 | _ => 1
def spL : List Rw → Nat
  | [] => 0
  | r :: rs => wd2 r + spL rs
def skB (b : Str) (t : Th) (n : Nat) : Rw := if n = 0 then .set b (.box b) else .skip t n
def aft (b x : Str) (qs : List Rw) : List Rw → List Rw
  | [] => .need (.num 0) :: qs
  | .give t :: rs => .set x t :: .skip (.num 1) (spL rs + 1) :: aft b x qs rs
  | .skip t k :: rs => skB b t (spL (rs.take k)) :: aft b x qs rs
  | .set y t :: rs => .set y t :: aft b x qs rs
  | .pick y ts :: rs => .pick y ts :: aft b x qs rs
  | .need t :: rs => .need t :: aft b x qs rs
theorem aft_len (b x : Str) (qs : List Rw) : ∀ rs : List Rw, (aft b x qs rs).length = spL rs + 1 + qs.length
  | [] => by simp [aft, spL]; omega
  | .give t :: rs => by simp only [aft, spL, wd2, List.length_cons, aft_len b x qs rs]; omega
  | .skip t k :: rs => by simp only [aft, spL, wd2, List.length_cons, aft_len b x qs rs]; omega
  | .set y t :: rs => by simp only [aft, spL, wd2, List.length_cons, aft_len b x qs rs]; omega
  | .pick y ts :: rs => by simp only [aft, spL, wd2, List.length_cons, aft_len b x qs rs]; omega
  | .need t :: rs => by simp only [aft, spL, wd2, List.length_cons, aft_len b x qs rs]; omega
theorem aft_end (b x : Str) (qs : List Rw) : ∀ rs : List Rw, (aft b x qs rs).drop (spL rs + 1) = qs
  | [] => rfl
  | .give t :: rs => by
    have e : spL (.give t :: rs) + 1 = (spL rs + 1) + 1 + 1 := by simp only [spL, wd2]; omega
    rw [e]
    exact aft_end b x qs rs
  | .skip t k :: rs => by
    have e : spL (.skip t k :: rs) + 1 = (spL rs + 1) + 1 := by simp only [spL, wd2]; omega
    rw [e]
    exact aft_end b x qs rs
  | .set y t :: rs => by
    have e : spL (.set y t :: rs) + 1 = (spL rs + 1) + 1 := by simp only [spL, wd2]; omega
    rw [e]
    exact aft_end b x qs rs
  | .pick y ts :: rs => by
    have e : spL (.pick y ts :: rs) + 1 = (spL rs + 1) + 1 := by simp only [spL, wd2]; omega
    rw [e]
    exact aft_end b x qs rs
  | .need t :: rs => by
    have e : spL (.need t :: rs) + 1 = (spL rs + 1) + 1 := by simp only [spL, wd2]; omega
    rw [e]
    exact aft_end b x qs rs
theorem aft_drop (b x : Str) (qs : List Rw) : ∀ (rs : List Rw) (k : Nat), (aft b x qs rs).drop (spL (rs.take k)) = aft b x qs (rs.drop k)
  | rs, 0 => rfl
  | [], k + 1 => rfl
  | .give t :: rs, k + 1 => by
    have e : spL ((Rw.give t :: rs).take (k + 1)) = spL (rs.take k) + 1 + 1 := by simp only [List.take_succ_cons, spL, wd2]; omega
    rw [e]
    exact aft_drop b x qs rs k
  | .skip t j :: rs, k + 1 => by
    have e : spL ((Rw.skip t j :: rs).take (k + 1)) = spL (rs.take k) + 1 := by simp only [List.take_succ_cons, spL, wd2]; omega
    rw [e]
    exact aft_drop b x qs rs k
  | .set y t :: rs, k + 1 => by
    have e : spL ((Rw.set y t :: rs).take (k + 1)) = spL (rs.take k) + 1 := by simp only [List.take_succ_cons, spL, wd2]; omega
    rw [e]
    exact aft_drop b x qs rs k
  | .pick y ts :: rs, k + 1 => by
    have e : spL ((Rw.pick y ts :: rs).take (k + 1)) = spL (rs.take k) + 1 := by simp only [List.take_succ_cons, spL, wd2]; omega
    rw [e]
    exact aft_drop b x qs rs k
  | .need t :: rs, k + 1 => by
    have e : spL ((Rw.need t :: rs).take (k + 1)) = spL (rs.take k) + 1 := by simp only [List.take_succ_cons, spL, wd2]; omega
    rw [e]
    exact aft_drop b x qs rs k
theorem st_self {m : Nat} {bs : List Str} {st : List Nat} {x : Str} (h : StOk m bs st) (hx : x ∈ bs) : put bs st x (at_ bs st x) = st := by
  unfold put
  apply List.ext_getElem?
  intro i
  rw [List.getElem?_set]
  by_cases hi : bs.idxOf x = i
  · subst hi
    have := at_get h hx
    obtain ⟨h1, h2⟩ := List.getElem?_eq_some_iff.mp this
    rw [if_pos rfl, if_pos h1, this]
  · rw [if_neg hi]
def RwsOk (m : Nat) (bs : List Str) (rs : List Rw) : Prop := ∀ r ∈ rs, r.Ok m bs
theorem RwsOk.tail {m : Nat} {bs : List Str} {r : Rw} {rs : List Rw} (h : RwsOk m bs (r :: rs)) : RwsOk m bs rs := fun x hx => h x (List.mem_cons_of_mem _ hx)
theorem RwsOk.drop {m : Nat} {bs : List Str} {rs : List Rw} (h : RwsOk m bs rs) (k : Nat) : RwsOk m bs (rs.drop k) := fun x hx => h x (List.mem_of_mem_drop hx)
theorem gof_ind {m : Nat} {bs : List Str} (h2 : 2 ≤ m) {C : List Rw → List Nat → Prop}
    (c0 : ∀ st, StOk m bs st → C [] st)
    (c1 : ∀ x t rs st, StOk m bs st → x ∈ bs → t.v m bs st < m → C rs (put bs st x (t.v m bs st)) → C (.set x t :: rs) st)
    (c2 : ∀ x ts rs st, StOk m bs st → x ∈ bs → (∀ t ∈ ts, C rs (put bs st x (t.v m bs st))) → C (.pick x ts :: rs) st)
    (c3 : ∀ t rs st, StOk m bs st → C rs st → C (.need t :: rs) st)
    (c4 : ∀ t k rs st, StOk m bs st → C rs st → C (rs.drop k) st → C (.skip t k :: rs) st)
    (c5 : ∀ t rs st, StOk m bs st → t.v m bs st < m → C (.give t :: rs) st) : ∀ (n : Nat) (rs : List Rw) (st : List Nat), rs.length ≤ n → RwsOk m bs rs → StOk m bs st → C rs st
  | _, [], st, _, _, hs => c0 st hs
  | 0, r :: rs, st, h, _, _ => absurd h (by simp)
  | n + 1, r :: rs, st, h, hr, hs => by
    have hl : rs.length ≤ n := by simpa using h
    have h0 := hr _ List.mem_cons_self
    have ih := fun st hs => gof_ind h2 c0 c1 c2 c3 c4 c5 n rs st hl hr.tail hs
    cases r with
    | set x t => exact c1 x t rs st hs h0.1 (Th.v_lt h2 hs h0.2) (ih _ (put_ok hs (Th.v_lt h2 hs h0.2)))
    | pick x ts => exact c2 x ts rs st hs h0.1 fun t ht => ih _ (put_ok hs (Th.v_lt h2 hs (h0.2.2.2 t ht)))
    | need t => exact c3 t rs st hs (ih st hs)
    | skip t k => exact c4 t k rs st hs (ih st hs) (gof_ind h2 c0 c1 c2 c3 c4 c5 n _ st (by rw [List.length_drop]; omega) (hr.tail.drop k) hs)
    | give t => exact c5 t rs st hs (Th.v_lt h2 hs h0)
theorem gof_after {m : Nat} {bs : List Str} (h2 : 2 ≤ m) {b x : Str} (hb : b ∈ bs) {qs : List Rw} {κ : List Nat → Nat → Rs} {rs : List Rw} {st : List Nat} (hr : RwsOk m bs rs) (hs : StOk m bs st) : gof m bs κ (aft b x qs rs) st = gof m bs (fun s w => gof m bs κ qs (put bs s x w)) rs st := by
  refine gof_ind h2 (C := fun rs st => gof m bs κ (aft b x qs rs) st = gof m bs (fun s w => gof m bs κ qs (put bs s x w)) rs st) ?_ ?_ ?_ ?_ ?_ ?_ rs.length rs st (Nat.le_refl _) hr hs
  · intro st _
    rw [gof_nil]
    show gof m bs κ (.need (.num 0) :: qs) st = _
    rw [gof_need]
    exact if_pos rfl
  · intro y t rs st _ _ _ ih
    show gof m bs κ (.set y t :: aft b x qs rs) st = _
    rw [gof_set, gof_set, ih]
  · intro y ts rs st _ _ ih
    show gof m bs κ (.pick y ts :: aft b x qs rs) st = _
    rw [gof_pick, gof_pick]
    congr 1
    exact List.map_congr_left ih
  · intro t rs st _ ih
    show gof m bs κ (.need t :: aft b x qs rs) st = _
    rw [gof_need, gof_need, ih]
  · intro t k rs st hs ih ihd
    show gof m bs κ (skB b t (spL (rs.take k)) :: aft b x qs rs) st = _
    rw [gof_skip]
    unfold skB
    by_cases hz : spL (rs.take k) = 0
    · rw [if_pos hz, gof_set]
      have e : put bs st b ((Th.box b).v m bs st) = st := st_self hs hb
      rw [e, ih]
      have hd := aft_drop b x qs rs k
      rw [hz, List.drop_zero] at hd
      rw [← hd] at ihd
      by_cases hv : t.v m bs st = 0
      · rw [if_pos hv]
      · rw [if_neg hv, ← ihd, ih]
    · rw [if_neg hz, gof_skip]
      by_cases hv : t.v m bs st = 0
      · rw [if_pos hv, if_pos hv, ih]
      · rw [if_neg hv, if_neg hv, aft_drop, ihd]
  · intro t rs st hs ht
    show gof m bs κ (.set x t :: .skip (.num 1) (spL rs + 1) :: aft b x qs rs) st = _
    rw [gof_set, gof_skip, gof_give]
    have e : (Th.num 1).v m bs (put bs st x (t.v m bs st)) ≠ 0 := by show (1 : Nat) ≠ 0; decide
    rw [if_neg e, aft_end]
theorem gof_congr {m : Nat} {bs : List Str} (h2 : 2 ≤ m) {κ κ' : List Nat → Nat → Rs} {rs : List Rw} {st : List Nat} (hr : RwsOk m bs rs) (hs : StOk m bs st) (h : ∀ s w, StOk m bs s → w < m → κ s w = κ' s w) : gof m bs κ rs st = gof m bs κ' rs st := by
  refine gof_ind h2 (C := fun rs st => gof m bs κ rs st = gof m bs κ' rs st) ?_ ?_ ?_ ?_ ?_ ?_ rs.length rs st (Nat.le_refl _) hr hs
  · intro st _; rw [gof_nil, gof_nil]
  · intro y t rs st _ _ _ ih; rw [gof_set, gof_set, ih]
  · intro y ts rs st _ _ ih; rw [gof_pick, gof_pick]; congr 1; exact List.map_congr_left ih
  · intro t rs st _ ih; rw [gof_need, gof_need, ih]
  · intro t k rs st _ ih ihd
    rw [gof_skip, gof_skip]
    by_cases hv : t.v m bs st = 0
    · rw [if_pos hv, ih]
    · rw [if_neg hv, ihd]
  · intro t rs st hs ht; rw [gof_give, gof_give]; exact h _ _ hs ht
theorem fanG_len {c : Nat} : ∀ (k : Nat) (ls : List Rs), (∀ l ∈ ls, l.length ≤ c) → (fanG k ls).length ≤ ls.length * c
  | _, [], _ => by simp [fanG]
  | k, l :: ls, h => by
    show (l.map (addC k) ++ fanG (k + 1) ls).length ≤ (ls.length + 1) * c
    rw [List.length_append, List.length_map, Nat.add_mul, Nat.one_mul]
    have h1 := h l List.mem_cons_self
    have h2 := fanG_len (k + 1) ls fun l' hl => h l' (List.mem_cons_of_mem _ hl)
    omega
theorem sizeL_drop {m : Nat} {bs : List Str} {rs : List Rw} (h : RwsOk m bs rs) (k : Nat) : sizeL (rs.drop k) ≤ sizeL rs := by
  have e := (List.take_append_drop k rs)
  have e2 : sizeL rs = sizeL (rs.take k) * sizeL (rs.drop k) := by rw [← sizeL_app, e]
  have h1 := sizeL_pos (m := m) (bs := bs) (rows := rs.take k) fun r hr => h r (List.mem_of_mem_take hr)
  have := Nat.mul_le_mul_right (sizeL (rs.drop k)) h1
  omega
theorem gof_len {m : Nat} {bs : List Str} {κ : List Nat → Nat → Rs} {c : Nat} (hc : 1 ≤ c) (h : ∀ s w, (κ s w).length ≤ c) : ∀ (n : Nat) (rs : List Rw) (st : List Nat), rs.length ≤ n → RwsOk m bs rs → (gof m bs κ rs st).length ≤ sizeL rs * c
  | _, [], st, _, _ => by rw [gof_nil]; show 1 ≤ 1 * c; omega
  | 0, r :: rs, st, h, _ => absurd h (by simp)
  | n + 1, r :: rs, st, hl, hr => by
    have hl' : rs.length ≤ n := by simpa using hl
    have ih := fun st => gof_len hc h n rs st hl' hr.tail
    have pos := sizeL_pos hr.tail
    have hc1 : 1 ≤ sizeL rs * c := Nat.mul_pos pos hc
    cases r with
    | set x t => rw [gof_set]; exact ih _
    | pick x ts =>
      rw [gof_pick]
      show _ ≤ ts.length * sizeL rs * c
      have := fanG_len (c := sizeL rs * c) 0 (ts.map fun t => gof m bs κ rs (put bs st x (t.v m bs st))) fun l hl => by
        obtain ⟨t, _, rfl⟩ := List.mem_map.mp hl
        exact ih _
      rw [List.length_map] at this
      rw [Nat.mul_assoc]
      exact this
    | need t =>
      rw [gof_need]
      split
      · exact hc1
      · exact ih _
    | skip t k =>
      rw [gof_skip]
      split
      · exact ih _
      · refine Nat.le_trans (gof_len hc h n _ st (by rw [List.length_drop]; omega) (hr.tail.drop k)) ?_
        exact Nat.mul_le_mul_right _ (sizeL_drop hr.tail k)
    | give t =>
      rw [gof_give]
      refine Nat.le_trans (h _ _) ?_
      show c ≤ sizeL rs * c
      have := Nat.mul_le_mul_right c pos
      omega
theorem rn_len {p : Pg} (hp : p.Ok) (st : List Nat) : (rn p st).length ≤ sizeL p.rows := by
  rw [rn_gof hp]
  have := gof_len (m := p.m) (bs := p.bs) (κ := κ0) (c := 1) (Nat.le_refl _) (fun _ _ => Nat.le_refl _) p.rows.length p.rows st (Nat.le_refl _) hp.rows
  omega
def after (p q : Pg) (x : Str) : Pg := ⟨p.m, p.bs, aft (p.bs.headD "") x q.rows p.rows⟩
theorem sizeL_aft (b x : Str) (qs : List Rw) : ∀ rs : List Rw, sizeL (aft b x qs rs) = sizeL rs * sizeL qs
  | [] => by simp [aft, sizeL]
  | .give t :: rs => by simp only [aft, sizeL, sizeL_aft b x qs rs]
  | .skip t k :: rs => by
    have e : sizeL (skB b t (spL (rs.take k)) :: aft b x qs rs) = sizeL (aft b x qs rs) := by unfold skB; split <;> rfl
    show sizeL (skB b t (spL (rs.take k)) :: aft b x qs rs) = _
    rw [e, sizeL_aft b x qs rs]
    rfl
  | .set y t :: rs => by simp only [aft, sizeL, sizeL_aft b x qs rs]
  | .pick y ts :: rs => by simp only [aft, sizeL, sizeL_aft b x qs rs, Nat.mul_assoc]
  | .need t :: rs => by simp only [aft, sizeL, sizeL_aft b x qs rs]
theorem head_mem {bs : List Str} (h : 1 ≤ bs.length) : bs.headD "" ∈ bs := by
  cases bs with
  | nil => simp at h
  | cons b bs => exact List.mem_cons_self
theorem spL_take (rs : List Rw) (k : Nat) : spL (rs.take k) ≤ spL rs := by
  induction rs generalizing k with
  | nil => simp
  | cons r rs ih =>
    cases k with
    | zero => exact Nat.zero_le _
    | succ k => rw [List.take_succ_cons]; have := ih k; simp only [spL]; omega
theorem aft_ok {m : Nat} {bs : List Str} {b x : Str} (h2 : 2 ≤ m) (hb : b ∈ bs) (hx : x ∈ bs) {qs : List Rw} (hq : RwsOk m bs qs) : ∀ {rs : List Rw}, RwsOk m bs rs → spL rs ≤ 29 → RwsOk m bs (aft b x qs rs)
  | [], _, _ => fun r hr => by
    rcases List.mem_cons.mp hr with z | z
    · subst z; show 0 < m; omega
    · exact hq r z
  | .give t :: rs, h, hl => fun r hr => by
    have hl' : spL rs ≤ 27 := by have : spL (Rw.give t :: rs) = 2 + spL rs := rfl; omega
    rcases List.mem_cons.mp hr with z | z
    · subst z; exact ⟨hx, h _ List.mem_cons_self⟩
    · rcases List.mem_cons.mp z with z | z
      · subst z; exact ⟨show 1 < m by omega, by omega, by omega⟩
      · exact aft_ok h2 hb hx hq h.tail (by omega) r z
  | .skip t k :: rs, h, hl => fun r hr => by
    have hl' : spL rs ≤ 28 := by have : spL (Rw.skip t k :: rs) = 1 + spL rs := rfl; omega
    have ht := spL_take rs k
    rcases List.mem_cons.mp hr with z | z
    · subst z
      unfold skB
      split
      · exact ⟨hb, hb⟩
      · exact ⟨(h _ List.mem_cons_self).1, by omega, by omega⟩
    · exact aft_ok h2 hb hx hq h.tail (by omega) r z
  | .set y t :: rs, h, hl => fun r hr => by
    have hl' : spL rs ≤ 28 := by have : spL (Rw.set y t :: rs) = 1 + spL rs := rfl; omega
    rcases List.mem_cons.mp hr with z | z
    · subst z; exact h _ List.mem_cons_self
    · exact aft_ok h2 hb hx hq h.tail (by omega) r z
  | .pick y ts :: rs, h, hl => fun r hr => by
    have hl' : spL rs ≤ 28 := by have : spL (Rw.pick y ts :: rs) = 1 + spL rs := rfl; omega
    rcases List.mem_cons.mp hr with z | z
    · subst z; exact h _ List.mem_cons_self
    · exact aft_ok h2 hb hx hq h.tail (by omega) r z
  | .need t :: rs, h, hl => fun r hr => by
    have hl' : spL rs ≤ 28 := by have : spL (Rw.need t :: rs) = 1 + spL rs := rfl; omega
    rcases List.mem_cons.mp hr with z | z
    · subst z; exact h _ List.mem_cons_self
    · exact aft_ok h2 hb hx hq h.tail (by omega) r z
/-- two programs that go together, a box, and room -/
structure Fit (p q : Pg) (x : Str) : Prop where
  hp : p.Ok
  hq : q.Ok
  hm : q.m = p.m
  hb : q.bs = p.bs
  hx : x ∈ p.bs
  room : spL p.rows + 1 + q.rows.length ≤ 30
theorem Fit.ok {p q : Pg} {x : Str} (h : Fit p q x) : (after p q x).Ok :=
  ⟨h.hp.m2, h.hp.m16, h.hp.bs, by show (aft _ _ _ _).length ≤ 30; rw [aft_len]; exact h.room, aft_ok h.hp.m2 (head_mem h.hp.bs.len0) h.hx (by have := h.hq.rows; rw [h.hm, h.hb] at this; exact this) h.hp.rows (by have := h.room; omega)⟩
theorem Fit.rn {p q : Pg} {x : Str} (h : Fit p q x) {st : List Nat} (hs : StOk p.m p.bs st) : rn (after p q x) st = gof p.m p.bs (fun s w => Dk.rn q (put p.bs s x w)) p.rows st := by
  rw [rn_gof h.ok]
  show gof p.m p.bs κ0 (aft (p.bs.headD "") x q.rows p.rows) st = _
  rw [gof_after h.hp.m2 (head_mem h.hp.bs.len0) h.hp.rows hs]
  refine gof_congr h.hp.m2 h.hp.rows hs fun s w _ _ => ?_
  rw [rn_gof h.hq, h.hm, h.hb]
end Dk
end
section
set_option Elab.async false
set_option linter.all false
set_option maxRecDepth 100000
namespace Dk
open PySem PySem.Spec PyProof.Rows L2 Pk
/-- where each row comes to stand, the end too -/
def spots (rs : List Rw) : List Nat := (List.range (rs.length + 1)).map fun i => spL (rs.take i)
theorem spL_app (as bs : List Rw) : spL (as ++ bs) = spL as + spL bs := by
  induction as with
  | nil => simp [spL]
  | cons a as ih => simp only [List.cons_append, spL, ih]; omega
theorem spots_len (rs : List Rw) : (spots rs).length = rs.length + 1 := by simp [spots]
theorem spots_get {rs : List Rw} {i : Nat} (h : i ≤ rs.length) : (spots rs)[i]? = some (spL (rs.take i)) := by
  simp [spots, Nat.lt_succ_of_le h]
theorem spots_snoc (rs : List Rw) (r : Rw) : spots (rs ++ [r]) = spots rs ++ [spL rs + wd2 r] := by
  unfold spots
  have e : (rs ++ [r]).length + 1 = rs.length + 1 + 1 := by simp
  rw [e, List.range_succ, List.map_append]
  congr 1
  · apply List.map_congr_left
    intro i hi
    have : i ≤ rs.length := by have := List.mem_range.mp hi; omega
    rw [List.take_append_of_le_length this]
  · show [spL ((rs ++ [r]).take (rs.length + 1))] = _
    rw [List.take_of_length_le (by simp), spL_app]
    simp [spL]
theorem spots_last (rs : List Rw) : ∃ xs, spots rs = xs ++ [spL rs] := by
  refine ⟨(List.range rs.length).map fun i => spL (rs.take i), ?_⟩
  unfold spots
  rw [List.range_succ, List.map_append]
  simp
/-- the rows for one row -/
def anw (b x : Str) (rs : List Rw) (i : Nat) (r : Rw) : List Rw := match r with
  | .give t => [.set x t, .skip (.num 1) (spL rs - spL (rs.take i) - 1)]
  | .skip t k => [skB b t (spL (rs.take (min (i + 1 + k) rs.length)) - spL (rs.take i) - 1)]
  | r => [r]
def anwAt (b x : Str) (rs : List Rw) (i : Nat) : List Rw := match rs[i]? with
  | some r => anw b x rs i r
  | none => []
theorem anwAt_at {b x : Str} {rs : List Rw} {i : Nat} {r : Rw} (h : rs[i]? = some r) : anwAt b x rs i = anw b x rs i r := by unfold anwAt; rw [h]
theorem anw_len (b x : Str) (rs : List Rw) (i : Nat) (r : Rw) : (anw b x rs i r).length = wd2 r := by cases r <;> rfl
def anews (b x : Str) (rs : List Rw) (n : Nat) : List Rw := (List.range n).flatMap (anwAt b x rs)
theorem anews_succ (b x : Str) (rs : List Rw) (n : Nat) : anews b x rs (n + 1) = anews b x rs n ++ anwAt b x rs n := by
  unfold anews
  rw [List.range_succ, List.flatMap_append]
  simp
theorem anews_len (b x : Str) {rs : List Rw} : ∀ {n : Nat}, n ≤ rs.length → (anews b x rs n).length = spL (rs.take n)
  | 0, _ => rfl
  | n + 1, h => by
    have hn : n < rs.length := by omega
    rw [anews_succ, List.length_append, anews_len b x (by omega), anwAt_at (List.getElem?_eq_getElem hn), anw_len]
    rw [List.take_succ_eq_append_getElem hn, spL_app]
    simp [spL]
theorem anews_aft (b x : Str) (qs : List Rw) (rs : List Rw) : ∀ (k n : Nat), n + k = rs.length → anews b x rs n ++ aft b x qs (rs.drop n) = anews b x rs rs.length ++ (.need (.num 0) :: qs)
  | 0, n, h => by
    have : n = rs.length := by omega
    subst this
    rw [List.drop_length]
    rfl
  | k + 1, n, h => by
    have hn : n < rs.length := by omega
    rw [← anews_aft b x qs rs k (n + 1) (by omega), anews_succ, List.append_assoc]
    congr 1
    obtain ⟨r, er⟩ : ∃ r, rs[n] = r := ⟨_, rfl⟩
    have hd : rs.drop n = r :: rs.drop (n + 1) := by rw [List.drop_eq_getElem_cons hn, er]
    have hg : rs[n]? = some r := by rw [List.getElem?_eq_getElem hn, er]
    have hs : spL rs = spL (rs.take n) + (wd2 r + spL (rs.drop (n + 1))) := by
      have e := List.take_append_drop n rs
      have e2 : spL rs = spL (rs.take n) + spL (rs.drop n) := by rw [← spL_app, e]
      rw [e2, hd]
      rfl
    rw [hd, anwAt_at hg]
    cases r with
    | give t =>
      have : spL rs - spL (rs.take n) - 1 = spL (rs.drop (n + 1)) + 1 := by rw [hs]; simp only [wd2]; omega
      show Rw.set x t :: .skip (.num 1) (spL (rs.drop (n + 1)) + 1) :: _ = [Rw.set x t, .skip (.num 1) (spL rs - spL (rs.take n) - 1)] ++ _
      rw [this]
      rfl
    | skip t k' =>
      have e : spL (rs.take (min (n + 1 + k') rs.length)) - spL (rs.take n) - 1 = spL ((rs.drop (n + 1)).take k') := by
        have e1 : rs.take (min (n + 1 + k') rs.length) = rs.take n ++ (Rw.skip t k' :: (rs.drop (n + 1)).take k') := by
          have e2 : rs.take (min (n + 1 + k') rs.length) = rs.take (n + (1 + k')) := by
            rw [show n + 1 + k' = n + (1 + k') by omega]
            by_cases hle : n + (1 + k') ≤ rs.length
            · rw [Nat.min_eq_left hle]
            · rw [Nat.min_eq_right (by omega), List.take_of_length_le (Nat.le_refl _), List.take_of_length_le (by omega)]
          rw [e2, List.take_add, hd, Nat.add_comm 1 k', List.take_succ_cons]
        rw [e1, spL_app]
        simp only [spL, wd2]
        omega
      show skB b t (spL ((rs.drop (n + 1)).take k')) :: _ = [skB b t (spL (rs.take (min (n + 1 + k') rs.length)) - spL (rs.take n) - 1)] ++ _
      rw [e]
      rfl
    | set y t => rfl
    | pick y ts => rfl
    | need t => rfl
theorem after_rows (b x : Str) (qs : List Rw) (rs : List Rw) : anews b x rs rs.length ++ (.need (.num 0) :: qs) = aft b x qs rs := by
  rw [← anews_aft b x qs rs rs.length 0 (by omega)]
  rfl
end Dk
end
section
set_option Elab.async false
set_option linter.all false
set_option maxRecDepth 100000
namespace Dk
open PySem PySem.Spec PyProof.Rows L2 Pk
def only (p : Pg) (rs : List Rw) : Pg := ⟨p.m, p.bs, rs⟩
section
variable {p : Pg} {x : Str} {st : List Nat}
end
end Dk
end
section
set_option Elab.async false
set_option linter.all false
set_option maxRecDepth 100000
set_option pp.maxSteps 1000
namespace Dk
open PySem PySem.Spec PyProof.Rows L2 Pk
/-- few stores, or picks with few ways together -/
def FewN (N : Nat) (p : Pg) : Prop := p.m ^ p.bs.length ≤ N ∨ sizeL p.rows ≤ N
theorem reach_fewN {p : Pg} (hp : p.Ok) {N : Nat} {st : List Nat} (hs : StOk p.m p.bs st) (hf : FewN N p) (r : Nat) : (gt (reach p st) r).length ≤ N := by
  have S := sg_stage hp hs p.rows.length (Nat.le_refl _)
  by_cases hr : r ≤ p.rows.length
  · rcases hf with h | h
    · exact Nat.le_trans (sts_le (S.nd r) (S.ok r)) h
    · exact Nat.le_trans (reach_wt hp hs hr) h
  · have : gt (reach p st) r = [] := by
      unfold gt
      rw [List.getD_eq_getElem?_getD, List.getElem?_eq_none]
      · rfl
      · show (stage p st p.rows.length).length ≤ r
        rw [S.len]; omega
    rw [this]
    exact Nat.zero_le _
/-- what runs from a store come to -/
inductive Rch (p : Pg) (st : List Nat) : Wy → Prop
  | top : Rch p st (poe p 0 st)
  | step {r : Nat} {s : List Nat} {w : Wy} : Rch p st (.place r s) → w ∈ ways p r s → Rch p st w
theorem Rch.ok {p : Pg} (hp : p.Ok) {st : List Nat} (hs : StOk p.m p.bs st) {w : Wy} (h : Rch p st w) : WyOk p w := by
  induction h with
  | top => exact poe_ok hs
  | step _ hw ih => exact (ways_ok hp ih.2 _ hw).1
theorem cap_pl {p : Pg} {w : Wy} {r : Nat} {s : List Nat} (h : cap p w = .place r s) : w = .place r s := by
  cases w with
  | place r' s' =>
    have h' : poe p r' s' = .place r s := h
    unfold poe at h'
    split at h'
    · cases h'
    · exact h'
  | gives n => cases h
  | nothing => cases h
theorem Rch.reach {p : Pg} (hp : p.Ok) {st : List Nat} (hs : StOk p.m p.bs st) {w : Wy} (h : Rch p st w) : ∀ r s, w = .place r s → s ∈ gt (Dk.reach p st) r := by
  induction h with
  | top =>
    intro r s e
    unfold poe at e
    split at e
    · cases e
    · cases e
      exact reach_st hp hs
  | @step r0 s0 w hr hw ih =>
    intro r s e
    subst e
    have ok0 := hr.ok hp hs
    rw [ways_cap ok0.1] at hw
    obtain ⟨w', hw', e⟩ := List.mem_map.mp hw
    have e2 := cap_pl e
    subst e2
    exact (sg_stage hp hs p.rows.length (Nat.le_refl _)).cl r0 ok0.1 s0 (ih r0 s0 rfl) (r, s) (List.mem_filterMap.mpr ⟨_, hw', rfl⟩)
theorem flat_len {α β : Type} {f : α → List β} {N : Nat} : ∀ {l : List α}, (∀ x ∈ l, (f x).length ≤ N) → (l.flatMap f).length ≤ l.length * N
  | [], _ => by simp
  | x :: l, h => by
    rw [List.flatMap_cons, List.length_append, List.length_cons, Nat.add_mul, Nat.one_mul]
    have := h x List.mem_cons_self
    have := flat_len (l := l) fun y hy => h y (List.mem_cons_of_mem _ hy)
    omega
/-- so many places -/
theorem places_le {p : Pg} (hp : p.Ok) {N : Nat} {st : List Nat} (hs : StOk p.m p.bs st) (hf : FewN N p) {fs : List Wy} (nd : fs.Nodup) (h : ∀ w ∈ fs, w.isPl = true ∧ Rch p st w) : fs.length ≤ p.rows.length * N := by
  refine Nat.le_trans (nd_sub (bs := (List.range p.rows.length).flatMap fun r => (gt (reach p st) r).map (Wy.place r)) nd fun w hw => ?_) ?_
  · obtain ⟨h1, h2⟩ := h w hw
    cases w with
    | place r s =>
      exact List.mem_flatMap.mpr ⟨r, List.mem_range.mpr (h2.ok hp hs).1, List.mem_map.mpr ⟨s, h2.reach hp hs r s rfl, rfl⟩⟩
    | gives n => cases h1
    | nothing => cases h1
  · have := flat_len (N := N) (f := fun r => (gt (reach p st) r).map (Wy.place r)) (l := List.range p.rows.length) fun r _ => by rw [List.length_map]; exact reach_fewN hp hs hf r
    rw [List.length_range] at this
    exact this
theorem lt_stD (x y : List Nat) : PySem.W.dataLt (stD x) (stD y) = decide ((x.map fun (n : Nat) => (n : Int)) < y.map fun (n : Nat) => (n : Int)) := by
  rw [PySem.W.dataLt_tuple]
  have := PySem.W.dataLt_ints (x.map fun (n : Nat) => (n : Int)) (y.map fun (n : Nat) => (n : Int))
  rw [List.map_map, List.map_map] at this
  exact this
theorem st_leU {a b : List Nat} (h1 : PySem.W.dataLt (stD b) (stD a) = false) (h2 : PySem.W.dataLt (stD a) (stD b) = false) : a = b := by
  rw [lt_stD] at h1 h2
  have e := List.le_antisymm (List.not_lt.mp (of_decide_eq_false h1)) (List.not_lt.mp (of_decide_eq_false h2))
  exact (List.map_inj_right (fun x y e => by omega)).mp e
theorem st_alike (a b : List Nat) : PySem.W.alike (stD a) (stD b) = true := by
  show PySem.W.alike (.tuple _) (.tuple _) = true
  simp only [PySem.W.alike]
  exact alike_nats a b
theorem lt_pl (r : Nat) (s : List Nat) (r' : Nat) (s' : List Nat) : PySem.W.dataLt (Wy.place r s).d (Wy.place r' s').d = if r = r' then (if s = s' then false else PySem.W.dataLt (stD s) (stD s')) else decide (r < r') := by
  show PySem.W.dataLt (.tuple [.int r, stD s]) (.tuple [.int r', stD s']) = _
  rw [PySem.W.dataLt_pair (by simp [PySem.W.alike]) (st_alike s s'), lt_int]
  have e1 : PyData.eqv (.int r) (.int r') = decide (r = r') := by
    rw [eqv_int]
    by_cases h : r = r'
    · rw [decide_eq_true h, decide_eq_true (by omega)]
    · rw [decide_eq_false h, decide_eq_false (by omega)]
  have e2 : PyData.eqv (stD s) (stD s') = decide (s = s') := by
    have := eqvN s s'
    show PyData.eqv (.tuple _) (.tuple _) = _
    rw [PyData.eqv]
    exact this
  rw [e1, e2]
  by_cases h : r = r'
  · rw [if_pos h, if_pos (decide_eq_true h)]
    by_cases h2 : s = s'
    · rw [if_pos h2, if_pos (decide_eq_true h2)]
    · rw [if_neg h2, if_neg (by rw [decide_eq_false h2]; simp)]
  · rw [if_neg h, if_neg (by rw [decide_eq_false h]; simp)]
theorem pl_le {a b : Wy} (ha : a.isPl = true) (hb : b.isPl = true) (h1 : PySem.W.dataLt b.d a.d = false) (h2 : PySem.W.dataLt a.d b.d = false) : a = b := by
  cases a with
  | place r s =>
    cases b with
    | place r' s' =>
      rw [lt_pl] at h1 h2
      by_cases h : r = r'
      · subst h
        rw [if_pos rfl] at h1 h2
        by_cases h3 : s = s'
        · rw [h3]
        · rw [if_neg h3] at h2
          rw [if_neg (fun z => h3 z.symm)] at h1
          rw [st_leU h1 h2]
      · rw [if_neg h] at h2
        rw [if_neg (fun z => h z.symm)] at h1
        have := of_decide_eq_false h1
        have := of_decide_eq_false h2
        omega
    | gives n => cases hb
    | nothing => cases hb
  | gives n => cases ha
  | nothing => cases ha
/-- all places that come, in order -/
structure Web (p : Pg) (st : List Nat) (ps : List Wy) : Prop where
  nd : ps.Nodup
  mem : ∀ w, w ∈ ps ↔ w.isPl = true ∧ Rch p st w
  srt : ps.Pairwise fun a b => PySem.W.dataLt b.d a.d = false
theorem Web.eq {p : Pg} {st : List Nat} {ps qs : List Wy} (h : Web p st ps) (k : Web p st qs) : ps = qs := by
  refine List.Perm.eq_of_pairwise (le := fun a b => PySem.W.dataLt b.d a.d = false) (fun x y hx hy h1 h2 => pl_le ((h.mem x).mp hx).1 ((k.mem y).mp hy).1 h1 h2) h.srt k.srt ?_
  exact (List.perm_ext_iff_of_nodup h.nd k.nd).mpr fun w => (h.mem w).trans (k.mem w).symm
theorem Web.rows {p : Pg} {st : List Nat} {ps : List Wy} (h : Web p st ps) : ps.Pairwise fun a b => a.rowN ≤ b.rowN := by
  refine h.srt.imp_of_mem fun {a b} ha hb hlt => ?_
  have h1 := ((h.mem a).mp ha).1
  have h2 := ((h.mem b).mp hb).1
  cases a with
  | place r s =>
    cases b with
    | place r' s' =>
      rw [lt_pl] at hlt
      show r ≤ r'
      by_cases e : r' = r
      · omega
      · rw [if_neg e] at hlt
        have := of_decide_eq_false hlt
        omega
    | gives n => cases h2
    | nothing => cases h2
  | gives n => cases h1
  | nothing => cases h1
theorem Web.pl {p : Pg} (hp : p.Ok) {st : List Nat} (hs : StOk p.m p.bs st) {ps : List Wy} (h : Web p st ps) {w : Wy} (hw : w ∈ ps) : ∃ r s, w = .place r s ∧ r < p.rows.length ∧ StOk p.m p.bs s ∧ Rch p st (.place r s) := by
  obtain ⟨h1, h2⟩ := (h.mem w).mp hw
  cases w with
  | place r s => exact ⟨r, s, rfl, (h2.ok hp hs).1, (h2.ok hp hs).2, h2⟩
  | gives n => cases h1
  | nothing => cases h1
end Dk
end
section
set_option Elab.async false
set_option linter.all false
set_option maxRecDepth 100000
set_option pp.maxSteps 1000
namespace Dk
open PySem PySem.Spec PyProof.Rows L2 Pk
def Ends (c : Cn) : Prop := ∀ x ∈ c, x.1.isPl = false
theorem CnOk.ends {p : Pg} {c : Cn} (h : CnOk p c) : Ends c := fun x hx => (h.e x hx).1
end Dk
end
section
set_option Elab.async false
set_option linter.all false
set_option maxRecDepth 100000
namespace Dk
open PySem PySem.Spec PyProof.Rows L2 Pk
section
variable {α : Type} [DecidableEq α]
/-- counts by anything -/
abbrev Ct (α : Type) := List (α × Nat)
def gval (l : Ct α) (w : α) : Option Nat := (l.find? fun x => decide (x.1 = w)).map (·.2)
def gput (l : Ct α) (w : α) (n : Nat) : Ct α := if (gval l w).isSome then l.map (fun x => if x.1 = w then (x.1, n) else x) else l ++ [(w, n)]
def gadd (l : Ct α) (x : α × Nat) : Ct α := gput l x.1 ((gval l x.1).getD 0 + x.2)
def gget (l : Ct α) (w : α) : Nat := (gval l w).getD 0
def wsum (F : α → Nat) (l : Ct α) : Nat := (l.map fun x => F x.1 * x.2).sum
theorem gval_cons (x : α × Nat) (l : Ct α) (w : α) : gval (x :: l) w = if x.1 = w then some x.2 else gval l w := by
  unfold gval
  by_cases h : x.1 = w
  · simp [List.find?_cons, h]
  · simp [List.find?_cons, h]
theorem gval_mem {w : α} : ∀ {l : Ct α}, (gval l w).isSome = true ↔ w ∈ l.map (·.1)
  | [] => by simp [gval]
  | x :: l => by
    rw [gval_cons, List.map_cons, List.mem_cons]
    by_cases h : x.1 = w
    · simp [h]
    · rw [if_neg h, gval_mem]
      exact ⟨.inr, fun z => z.elim (fun e => absurd e.symm h) id⟩
theorem gmap_id {w : α} {n : Nat} {l : Ct α} (h : w ∉ l.map (·.1)) : (l.map fun x => if x.1 = w then (x.1, n) else x) = l := by
  induction l with
  | nil => rfl
  | cons y l ih =>
    rw [List.map_cons, List.mem_cons, not_or] at h
    rw [List.map_cons, if_neg fun z => h.1 z.symm, ih h.2]
theorem gput_keys (l : Ct α) (w : α) (n : Nat) : (gput l w n).map (·.1) = if w ∈ l.map (·.1) then l.map (·.1) else l.map (·.1) ++ [w] := by
  unfold gput
  by_cases h : w ∈ l.map (·.1)
  · rw [if_pos (gval_mem.mpr h), if_pos h, List.map_map]
    refine List.map_congr_left fun x _ => ?_
    show (if x.1 = w then (x.1, n) else x).1 = x.1
    split <;> rfl
  · rw [if_neg (fun z => h (gval_mem.mp z)), if_neg h]
    simp
theorem gadd_keys (l : Ct α) (x : α × Nat) : (gadd l x).map (·.1) = if x.1 ∈ l.map (·.1) then l.map (·.1) else l.map (·.1) ++ [x.1] := gput_keys _ _ _
theorem gadd_nd {l : Ct α} (nd : (l.map (·.1)).Nodup) (x : α × Nat) : ((gadd l x).map (·.1)).Nodup := by
  rw [gadd_keys]
  by_cases h : x.1 ∈ l.map (·.1)
  · rw [if_pos h]; exact nd
  · rw [if_neg h]
    exact List.nodup_append.mpr ⟨nd, by simp, fun a ha b hb e => h (by rw [← List.mem_singleton.mp hb, ← e]; exact ha)⟩
theorem gadd_mem {l : Ct α} {x : α × Nat} {w : α} : w ∈ (gadd l x).map (·.1) ↔ w ∈ l.map (·.1) ∨ w = x.1 := by
  rw [gadd_keys]
  by_cases h : x.1 ∈ l.map (·.1)
  · rw [if_pos h]; exact ⟨.inl, fun z => z.elim id fun e => e ▸ h⟩
  · rw [if_neg h, List.mem_append, List.mem_singleton]
theorem gget_add (l : Ct α) (x : α × Nat) (u : α) : gget (gadd l x) u = gget l u + if x.1 = u then x.2 else 0 := by
  unfold gadd gput
  have key : ∀ (m : Nat) (l : Ct α), gval (l.map fun y => if y.1 = x.1 then (y.1, m) else y) u = if u = x.1 then (gval l u).map (fun _ => m) else gval l u := by
    intro m l
    induction l with
    | nil => simp [gval]
    | cons y l ih =>
      rw [List.map_cons, gval_cons, gval_cons, ih]
      by_cases h1 : y.1 = x.1
      · rw [if_pos h1]
        by_cases h2 : u = x.1
        · simp [h1, h2]
        · have : ¬ (y.1 = u) := fun z => h2 (by rw [← z, h1])
          simp [this, h2]
      · rw [if_neg h1]
        by_cases h2 : u = x.1
        · have : ¬ (y.1 = u) := fun z => h1 (by rw [z, h2])
          simp [h1, h2]
        · simp [h2]
  have app : ∀ (l : Ct α) (m : Nat), gval l x.1 = none → gval (l ++ [(x.1, m)]) u = if x.1 = u then some m else gval l u := by
    intro l m
    induction l with
    | nil => intro _; simp [gval]
    | cons y l ih =>
      intro h
      rw [gval_cons] at h
      by_cases h1 : y.1 = x.1
      · rw [if_pos h1] at h; cases h
      · rw [if_neg h1] at h
        rw [List.cons_append, gval_cons, gval_cons, ih h]
        by_cases h2 : x.1 = u
        · have : ¬ (y.1 = u) := fun z => h1 (by rw [z, h2])
          rw [if_neg this, if_pos h2, if_pos h2]
        · rw [if_neg h2, if_neg h2]
  unfold gget
  by_cases h : (gval l x.1).isSome = true
  · rw [if_pos h, key]
    by_cases h2 : u = x.1
    · subst h2
      obtain ⟨n, hn⟩ := Option.isSome_iff_exists.mp h
      simp [hn]
    · rw [if_neg h2, if_neg fun z => h2 z.symm, Nat.add_zero]
  · rw [if_neg h]
    have hn : gval l x.1 = none := by cases e : gval l x.1 with | none => rfl | some n => rw [e] at h; exact absurd rfl h
    rw [app _ _ hn]
    by_cases h2 : x.1 = u
    · rw [if_pos h2, if_pos h2, ← h2, hn]; simp
    · rw [if_neg h2, if_neg h2, Nat.add_zero]
theorem wsum_app (F : α → Nat) (a b : Ct α) : wsum F (a ++ b) = wsum F a + wsum F b := by simp [wsum]
theorem wsum_cons (F : α → Nat) (x : α × Nat) (b : Ct α) : wsum F (x :: b) = F x.1 * x.2 + wsum F b := by simp [wsum]
theorem wsum_put (F : α → Nat) (w : α) (n : Nat) : ∀ {l : Ct α} {m : Nat}, (l.map (·.1)).Nodup → gval l w = some m → wsum F (l.map fun x => if x.1 = w then (x.1, n) else x) + F w * m = wsum F l + F w * n
  | [], m, _, h => by simp [gval] at h
  | x :: l, m, nd, h => by
    rw [List.map_cons, List.nodup_cons] at nd
    rw [gval_cons] at h
    rw [List.map_cons, wsum_cons, wsum_cons]
    by_cases e : x.1 = w
    · rw [if_pos e] at h ⊢
      subst e
      cases h
      rw [gmap_id nd.1]
      dsimp only
      omega
    · rw [if_neg e] at h ⊢
      have := wsum_put F w n nd.2 h
      omega
theorem wsum_add (F : α → Nat) {l : Ct α} (nd : (l.map (·.1)).Nodup) (x : α × Nat) : wsum F (gadd l x) = wsum F l + F x.1 * x.2 := by
  unfold gadd gput
  by_cases h : (gval l x.1).isSome = true
  · rw [if_pos h]
    obtain ⟨m, hm⟩ := Option.isSome_iff_exists.mp h
    have := wsum_put F x.1 ((gval l x.1).getD 0 + x.2) nd hm
    rw [hm] at this ⊢
    simp only [Option.getD_some] at this ⊢
    rw [Nat.mul_add] at this
    omega
  · rw [if_neg h]
    have hn : gval l x.1 = none := by cases e : gval l x.1 with | none => rfl | some n => rw [e] at h; exact absurd rfl h
    rw [hn, wsum_app, wsum_cons]
    simp [wsum]
theorem gadd_pos {l : Ct α} (h : ∀ x ∈ l, 1 ≤ x.2) {x : α × Nat} (hx : 1 ≤ x.2) : ∀ y ∈ gadd l x, 1 ≤ y.2 := by
  intro y hy
  unfold gadd gput at hy
  split at hy
  · obtain ⟨z, hz, rfl⟩ := List.mem_map.mp hy
    split
    · show 1 ≤ (gval l x.1).getD 0 + x.2; omega
    · exact h z hz
  · rcases List.mem_append.mp hy with z | z
    · exact h y z
    · rw [List.mem_singleton.mp z]; show 1 ≤ (gval l x.1).getD 0 + x.2; omega
variable {κ : α → NestedKey}
end
end Dk
end
section
set_option Elab.async false
set_option linter.all false
set_option maxRecDepth 100000
namespace Dk
open PySem PySem.Spec PyProof.Rows L2 Pk
/-- so much behind a way, from a place whose store is s0 -/
def Tw (p : Pg) (κ : List Nat → Nat → Rs) (o : Option Wy) (s0 : List Nat) : Wy → Nat
  | .place r s => tl o (gof p.m p.bs κ (p.rows.drop r) s)
  | .gives v => tl o (κ s0 v)
  | .nothing => tl o [([], .nothing)]
abbrev En2 := Option (Nat × List Nat)
def ge (κ : List Nat → Nat → Rs) (o : Option Wy) : En2 → Nat
  | none => tl o [([], .nothing)]
  | some (w, s) => tl o (κ s w)
/-- the ends of a program's runs with the stores left, counted -/
structure Ended (p : Pg) (st : List Nat) (D : Ct En2) : Prop where
  nd : (D.map (·.1)).Nodup
  pos : ∀ x ∈ D, 1 ≤ x.2
  ok : ∀ w s n, (some (w, s), n) ∈ D → w < p.m ∧ StOk p.m p.bs s
  bal : ∀ κ o, tl o (gof p.m p.bs κ p.rows st) = wsum (ge κ o) D
inductive Gl (m : Nat) (bs : List Str) : List Rw → List Nat → List Nat → Wy → List Nat → Prop
  | nil {st l} : Gl m bs [] st [] .nothing l
  | set {x t rs st cs e l} : Gl m bs rs (put bs st x (t.v m bs st)) cs e l → Gl m bs (.set x t :: rs) st cs e l
  | pick {x ts rs st c t cs e l} : ts[c]? = some t → Gl m bs rs (put bs st x (t.v m bs st)) cs e l → Gl m bs (.pick x ts :: rs) st (c :: cs) e l
  | need0 {t rs st l} : t.v m bs st = 0 → Gl m bs (.need t :: rs) st [] .nothing l
  | need1 {t rs st cs e l} : ¬ t.v m bs st = 0 → Gl m bs rs st cs e l → Gl m bs (.need t :: rs) st cs e l
  | skip0 {t k rs st cs e l} : t.v m bs st = 0 → Gl m bs rs st cs e l → Gl m bs (.skip t k :: rs) st cs e l
  | skip1 {t k rs st cs e l} : ¬ t.v m bs st = 0 → Gl m bs (rs.drop k) st cs e l → Gl m bs (.skip t k :: rs) st cs e l
  | give {t rs st} : Gl m bs (.give t :: rs) st [] (.gives (t.v m bs st)) st
theorem Gl.ends {m : Nat} {bs : List Str} {rs : List Rw} {st cs l : List Nat} {e : Wy} (h : Gl m bs rs st cs e l) : e = .nothing ∨ ∃ w, e = .gives w := by
  induction h with
  | nil => exact .inl rfl
  | set _ ih => exact ih
  | pick _ _ ih => exact ih
  | need0 _ => exact .inl rfl
  | need1 _ _ ih => exact ih
  | skip0 _ _ ih => exact ih
  | skip1 _ _ ih => exact ih
  | give => exact .inr ⟨_, rfl⟩
theorem Gl.okS {m : Nat} {bs : List Str} (h2 : 2 ≤ m) {rs : List Rw} {st cs l : List Nat} {e : Wy} (h : Gl m bs rs st cs e l) : RwsOk m bs rs → StOk m bs st → ∀ w, e = .gives w → w < m ∧ StOk m bs l := by
  induction h with
  | nil => intro _ _ w e; cases e
  | set _ ih => exact fun hr hs => ih hr.tail (put_ok hs (Th.v_lt h2 hs (hr _ List.mem_cons_self).2))
  | pick ht _ ih => exact fun hr hs => ih hr.tail (put_ok hs (Th.v_lt h2 hs ((hr _ List.mem_cons_self).2.2.2 _ (List.mem_of_getElem? ht))))
  | need0 _ => intro _ _ w e; cases e
  | need1 _ _ ih => exact fun hr hs => ih hr.tail hs
  | skip0 _ _ ih => exact fun hr hs => ih hr.tail hs
  | skip1 _ _ ih => exact fun hr hs => ih (hr.tail.drop _) hs
  | give => exact fun hr hs w e => by cases e; exact ⟨Th.v_lt h2 hs (hr _ List.mem_cons_self), hs⟩
theorem Gl.det {m : Nat} {bs : List Str} {rs : List Rw} {st cs l : List Nat} {e : Wy} (h : Gl m bs rs st cs e l) : ∀ {e' l'}, Gl m bs rs st cs e' l' → e = e' ∧ ∀ w, e = .gives w → l = l' := by
  induction h with
  | nil => intro e' l' k; cases k; exact ⟨rfl, fun w z => by cases z⟩
  | set _ ih => intro e' l' k; cases k with | set k => exact ih k
  | pick ht _ ih => intro e' l' k; cases k with | pick kt k => rw [ht] at kt; cases kt; exact ih k
  | need0 hz => intro e' l' k; cases k with | need0 _ => exact ⟨rfl, fun w z => by cases z⟩ | need1 kz _ => exact absurd hz kz
  | need1 hz _ ih => intro e' l' k; cases k with | need0 kz => exact absurd kz hz | need1 _ k => exact ih k
  | skip0 hz _ ih => intro e' l' k; cases k with | skip0 _ k => exact ih k | skip1 kz _ => exact absurd hz kz
  | skip1 hz _ ih => intro e' l' k; cases k with | skip0 kz _ => exact absurd kz hz | skip1 _ k => exact ih k
  | give => intro e' l' k; cases k with | give => exact ⟨rfl, fun _ _ => rfl⟩
/-- one step along such a run -/
theorem Gl.step {p : Pg} {r : Nat} {s cs l : List Nat} {e : Wy} (hr : r < p.rows.length) (h : Gl p.m p.bs (p.rows.drop r) s cs e l) : ∃ c cs' w, (ways p r s)[c]? = some w ∧ ((isPickAt p r = true ∧ cs = c :: cs') ∨ (isPickAt p r = false ∧ c = 0 ∧ cs = cs')) ∧ ((w = e ∧ e.isPl = false ∧ cs' = [] ∧ ∀ v, e = .gives v → l = s) ∨ ∃ r' s', w = .place r' s' ∧ r < r' ∧ r' < p.rows.length ∧ Gl p.m p.bs (p.rows.drop r') s' cs' e l) := by
  have h0 : p.rows[r]? = some p.rows[r] := List.getElem?_eq_getElem hr
  rw [drop_row h0] at h
  have fin : ∀ {r' s' cs' e}, r < r' → Gl p.m p.bs (p.rows.drop r') s' cs' e l → ((poe p r' s' = e ∧ e.isPl = false ∧ cs' = [] ∧ ∀ v, e = .gives v → l = s) ∨ ∃ r'' s'', poe p r' s' = .place r'' s'' ∧ r < r'' ∧ r'' < p.rows.length ∧ Gl p.m p.bs (p.rows.drop r'') s'' cs' e l) := by
    intro r' s' cs' e hlt g
    unfold poe
    split
    · rename_i hh
      rw [List.drop_eq_nil_of_le hh] at g
      cases g
      exact .inl ⟨rfl, rfl, rfl, fun v z => by cases z⟩
    · exact .inr ⟨r', s', rfl, hlt, by omega, g⟩
  rw [pick_at h0, ways_at h0]
  cases hq : p.rows[r] with
  | set x t =>
    rw [hq] at h
    cases h with
    | set g => exact ⟨0, cs, _, rfl, .inr ⟨rfl, rfl, rfl⟩, fin (by omega) g⟩
  | pick x ts =>
    rw [hq] at h
    cases h with
    | @pick _ _ _ _ c t cs' _ _ ht g => exact ⟨c, cs', _, by rw [show nxt p r s (.pick x ts) = ts.map _ from rfl, List.getElem?_map, ht]; rfl, .inl ⟨rfl, rfl⟩, fin (by omega) g⟩
  | need t =>
    rw [hq] at h
    cases h with
    | need0 hz => exact ⟨0, [], _, by show (if tv p s t = 0 then _ else _)[0]? = _; rw [if_pos (show tv p s t = 0 from hz)]; rfl, .inr ⟨rfl, rfl, rfl⟩, .inl ⟨rfl, rfl, rfl, fun v z => by cases z⟩⟩
    | need1 hz g => exact ⟨0, cs, _, by show (if tv p s t = 0 then _ else _)[0]? = _; rw [if_neg (show ¬ tv p s t = 0 from hz)]; rfl, .inr ⟨rfl, rfl, rfl⟩, fin (by omega) g⟩
  | skip t k =>
    rw [hq] at h
    cases h with
    | skip0 hz g =>
      refine ⟨0, cs, _, rfl, .inr ⟨rfl, rfl, rfl⟩, fin (by omega) ?_⟩
      rw [show tv p s t = 0 from hz, if_pos rfl]
      exact g
    | skip1 hz g =>
      refine ⟨0, cs, _, rfl, .inr ⟨rfl, rfl, rfl⟩, fin (by omega) ?_⟩
      rw [if_neg (show ¬ tv p s t = 0 from hz), ← List.drop_drop]
      exact g
  | give t =>
    rw [hq] at h
    cases h with
    | give => exact ⟨0, [], _, rfl, .inr ⟨rfl, rfl, rfl⟩, .inl ⟨rfl, rfl, rfl, fun v _ => rfl⟩⟩
end Dk
end
section
set_option Elab.async false
set_option linter.all false
set_option maxRecDepth 100000
namespace Dk
open PySem PySem.Spec PyProof.Rows L2 Pk
abbrev Pl := Nat × List Nat
abbrev plW (y : Pl) : Wy := .place y.1 y.2
def lastE (p : Pg) (y : Pl) : En2 := match p.rows[y.1]? with
  | some (.give t) => some (tv p y.2 t, y.2)
  | _ => none
theorem ways_gives {p : Pg} {r v : Nat} {s : List Nat} (h : Wy.gives v ∈ ways p r s) : lastE p (r, s) = some (v, s) := by
  have np : ∀ {r' s' v}, Wy.gives v ≠ poe p r' s' := fun {r' s' v} => by unfold poe; split <;> simp
  cases hq : p.rows[r]? with
  | none => unfold ways at h; rw [hq] at h; cases h
  | some row =>
    rw [ways_at hq] at h
    unfold lastE
    show (match p.rows[r]? with | some (.give t) => some (tv p s t, s) | _ => none) = _
    rw [hq]
    cases row with
    | set x t => exact absurd (List.mem_singleton.mp h) np
    | pick x ts =>
      obtain ⟨t, _, e⟩ := List.mem_map.mp h
      exact absurd e.symm np
    | need t =>
      have h' : Wy.gives v ∈ (if tv p s t = 0 then [Wy.nothing] else [poe p (r + 1) s]) := h
      split at h'
      · cases List.mem_singleton.mp h'
      · exact absurd (List.mem_singleton.mp h') np
    | skip t k => exact absurd (List.mem_singleton.mp h) np
    | give t => cases List.mem_singleton.mp h; rfl
/-- what always holds of both counts -/
structure Cm (p : Pg) (st : List Nat) (C : Ct Pl) (D : Ct En2) : Prop where
  ndC : (C.map (·.1)).Nodup
  posC : ∀ x ∈ C, 1 ≤ x.2
  okC : ∀ y ∈ C.map (·.1), Rch p st (plW y)
  ndD : (D.map (·.1)).Nodup
  posD : ∀ x ∈ D, 1 ≤ x.2
  okD : ∀ e ∈ D.map (·.1), e = none ∨ ∃ y ∈ C.map (·.1), lastE p y = e
theorem Cm.lenC {p : Pg} {st : List Nat} {C : Ct Pl} {D : Ct En2} (h : Cm p st C D) (hp : p.Ok) (hs : StOk p.m p.bs st) (hf : Few p) : C.length ≤ 30000 := by
  have nd2 : ((C.map (·.1)).map plW).Nodup := by
    refine List.pairwise_map.mpr (h.ndC.imp ?_)
    intro a b n e
    have e' : Wy.place a.1 a.2 = Wy.place b.1 b.2 := e
    injection e' with e1 e2
    exact n (Prod.ext e1 e2)
  have := places_le (N := 1000) hp hs hf (fs := (C.map (·.1)).map plW) nd2 fun w hw => by
      obtain ⟨y, hy, rfl⟩ := List.mem_map.mp hw
      exact ⟨rfl, h.okC y hy⟩
  rw [List.length_map, List.length_map] at this
  have := hp.r30
  omega
theorem Cm.lenD {p : Pg} {st : List Nat} {C : Ct Pl} {D : Ct En2} (h : Cm p st C D) : D.length ≤ C.length + 1 := by
  have := nd_sub (as := D.map (·.1)) (bs := none :: (C.map (·.1)).map (lastE p)) h.ndD fun e he => by
    rcases h.okD e he with z | ⟨y, hy, z⟩
    · rw [z]; exact List.mem_cons_self
    · exact List.mem_cons_of_mem _ (List.mem_map.mpr ⟨y, hy, z⟩)
  simpa using this
/-- so much behind a place -/
abbrev Tp (p : Pg) (κ : List Nat → Nat → Rs) (o : Option Wy) (y : Pl) : Nat := tl o (gof p.m p.bs κ (p.rows.drop y.1) y.2)
structure Lp (p : Pg) (st : List Nat) (at' : Nat) (C : Ct Pl) (D : Ct En2) : Prop extends Cm p st C D where
  bal : ∀ κ o, tl o (gof p.m p.bs κ p.rows st) = wsum (ge κ o) D + wsum (fun y => if at' ≤ y.1 then Tp p κ o y else 0) C
structure Lq (p : Pg) (st : List Nat) (at' : Nat) (rest : List Pl) (C : Ct Pl) (D : Ct En2) : Prop extends Cm p st C D where
  rs : ∀ y ∈ rest, y.1 = at' ∧ y ∈ C.map (·.1)
  bal : ∀ κ o, tl o (gof p.m p.bs κ p.rows st) = wsum (ge κ o) D + wsum (fun y => if at' < y.1 then Tp p κ o y else 0) C + (rest.map fun y => Tp p κ o y * gget C y).sum
structure Mid2 (p : Pg) (st : List Nat) (at' : Nat) (rest : List Pl) (y0 : Pl) (c : Nat) (ws : List Wy) (C : Ct Pl) (D : Ct En2) : Prop extends Cm p st C D where
  rs : ∀ y ∈ rest, y.1 = at' ∧ y ∈ C.map (·.1)
  y0r : y0.1 = at'
  y0m : y0 ∈ C.map (·.1)
  y0c : gget C y0 = c
  c1 : 1 ≤ c
  wm : ∀ w ∈ ws, w ∈ ways p y0.1 y0.2
  bal : ∀ κ o, tl o (gof p.m p.bs κ p.rows st) = wsum (ge κ o) D + wsum (fun y => if at' < y.1 then Tp p κ o y else 0) C + (rest.map fun y => Tp p κ o y * gget C y).sum + c * (ws.map (Tw p κ o y0.2)).sum
section
variable {p : Pg} {st : List Nat} {at' c : Nat} {rest : List Pl} {y0 : Pl} {ws : List Wy} {C : Ct Pl} {D : Ct En2}
theorem Lp.start (hs : StOk p.m p.bs st) (h : ¬ p.rows = []) : Lp p st 0 [((0, st), 1)] [] := by
  have hl : 0 < p.rows.length := List.length_pos_iff.mpr h
  have ht : Rch p st (.place 0 st) := by
    have := Rch.top (p := p) (st := st)
    unfold poe at this
    rw [if_neg (by omega)] at this
    exact this
  exact { ndC := by simp
          posC := fun x hx => by rw [List.mem_singleton.mp hx]; exact Nat.le_refl _
          okC := fun y hy => by rw [List.mem_singleton.mp hy]; exact ht
          ndD := List.nodup_nil
          posD := fun _ h => by cases h
          okD := fun _ h => by cases h
          bal := fun κ o => by simp [wsum]; rfl }
theorem Lq.fin (h : Lq p st at' [] C D) : Lp p st (at' + 1) C D :=
  { h.toCm with
    bal := fun κ o => by
      rw [h.bal κ o]
      simp only [List.map_nil, List.sum_nil, Nat.add_zero]
      rfl }
theorem Mid2.fin (h : Mid2 p st at' rest y0 c [] C D) : Lq p st at' rest C D :=
  { h.toCm with
    rs := h.rs
    bal := fun κ o => by rw [h.bal κ o]; simp }
theorem Mid2.place (hp : p.Ok) (hs : StOk p.m p.bs st) {r : Nat} {s : List Nat} (h : Mid2 p st at' rest y0 c (.place r s :: ws) C D) : Mid2 p st at' rest y0 c ws (gadd C ((r, s), c)) D := by
  have hw := h.wm _ List.mem_cons_self
  have h0 := (h.okC y0 h.y0m).ok hp hs
  have hr : at' < r := by have z : y0.1 < r := (ways_ok hp h0.2 _ hw).2; have e := h.y0r; omega
  have hk : ∀ y : Pl, y.1 = at' → gget (gadd C ((r, s), c)) y = gget C y := fun y e => by
    rw [gget_add, if_neg fun z => by rw [← z] at e; simp at e; omega, Nat.add_zero]
  exact {
    ndC := gadd_nd h.ndC _
    posC := gadd_pos h.posC h.c1
    okC := fun y hy => (gadd_mem.mp hy).elim (h.okC y) fun e => by subst e; exact .step (h.okC y0 h.y0m) hw
    ndD := h.ndD
    posD := h.posD
    okD := fun e he => (h.okD e he).imp id fun ⟨y, hy, z⟩ => ⟨y, gadd_mem.mpr (.inl hy), z⟩
    rs := fun y hy => ⟨(h.rs y hy).1, gadd_mem.mpr (.inl (h.rs y hy).2)⟩
    y0r := h.y0r
    y0m := gadd_mem.mpr (.inl h.y0m)
    y0c := (hk y0 h.y0r).trans h.y0c
    c1 := h.c1
    wm := fun w hw => h.wm w (List.mem_cons_of_mem _ hw)
    bal := fun κ o => by
      have er : (rest.map fun y => Tp p κ o y * gget (gadd C ((r, s), c)) y) = rest.map fun y => Tp p κ o y * gget C y := List.map_congr_left fun y hy => by rw [hk y (h.rs y hy).1]
      rw [h.bal κ o, er, wsum_add _ h.ndC, List.map_cons, List.sum_cons, if_pos hr, Nat.mul_add]
      have : c * Tw p κ o y0.2 (.place r s) = Tp p κ o (r, s) * c := Nat.mul_comm _ _
      dsimp only
      omega }
theorem Mid2.gives {v : Nat} (h : Mid2 p st at' rest y0 c (.gives v :: ws) C D) : Mid2 p st at' rest y0 c ws C (gadd D (some (v, y0.2), c)) :=
  { ndC := h.ndC
    posC := h.posC
    okC := h.okC
    ndD := gadd_nd h.ndD _
    posD := gadd_pos h.posD h.c1
    okD := fun e he => (gadd_mem.mp he).elim (h.okD e) fun z => .inr ⟨y0, h.y0m, by rw [z]; exact ways_gives (h.wm _ List.mem_cons_self)⟩
    rs := h.rs
    y0r := h.y0r
    y0m := h.y0m
    y0c := h.y0c
    c1 := h.c1
    wm := fun w hw => h.wm w (List.mem_cons_of_mem _ hw)
    bal := fun κ o => by
      rw [h.bal κ o, wsum_add _ h.ndD, List.map_cons, List.sum_cons, Nat.mul_add]
      have : c * Tw p κ o y0.2 (.gives v) = ge κ o (some (v, y0.2)) * c := Nat.mul_comm _ _
      dsimp only
      omega }
theorem Mid2.nothing (h : Mid2 p st at' rest y0 c (.nothing :: ws) C D) : Mid2 p st at' rest y0 c ws C (gadd D (none, c)) :=
  { ndC := h.ndC
    posC := h.posC
    okC := h.okC
    ndD := gadd_nd h.ndD _
    posD := gadd_pos h.posD h.c1
    okD := fun e he => (gadd_mem.mp he).elim (h.okD e) fun z => .inl z
    rs := h.rs
    y0r := h.y0r
    y0m := h.y0m
    y0c := h.y0c
    c1 := h.c1
    wm := fun w hw => h.wm w (List.mem_cons_of_mem _ hw)
    bal := fun κ o => by
      rw [h.bal κ o, wsum_add _ h.ndD, List.map_cons, List.sum_cons, Nat.mul_add]
      have : c * Tw p κ o y0.2 .nothing = ge κ o none * c := Nat.mul_comm _ _
      dsimp only
      omega }
theorem Lp.len (hp : p.Ok) (hs : StOk p.m p.bs st) (hf : Few p) (h : Lp p st at' C D) : D.length ≤ 30001 := by
  have := h.toCm.lenC hp hs hf
  have := h.toCm.lenD
  omega
end
end Dk
end
section
set_option Elab.async false
set_option linter.all false
set_option maxRecDepth 100000
namespace Dk
open PySem PySem.Spec PyProof.Rows L2 Pk
/-- answers counted so far: as many as G tells -/
structure Acc (m : Nat) (Ac : Cn) (N : Nat) (G : Option Wy → Nat) : Prop where
  nd : (Ac.map (·.1)).Nodup
  pos : Pos Ac
  gv : ∀ x ∈ Ac, ∃ a, a < m ∧ x.1 = .gives a
  get : ∀ a, cget Ac (.gives a) = G (some (.gives a))
  nz : N = G (some .nothing)
theorem Acc.start (m : Nat) {N : Nat} {G : Option Wy → Nat} (hg : ∀ a, G (some (.gives a)) = 0) (hn : N = G (some .nothing)) : Acc m [] N G := ⟨List.nodup_nil, (fun _ h => (by cases h)), (fun _ h => (by cases h)), (fun a => (by rw [hg]; rfl)), hn⟩
theorem cadd_mem {l : Cn} {x : Wy × Nat} {w : Wy} (h : w ∈ (cadd l x).map (·.1)) : w ∈ l.map (·.1) ∨ w = x.1 := by
  have e : (cadd l x).map (·.1) = _ := cput_keys l x.1 _
  rw [e] at h
  split at h
  · exact .inl h
  · exact (List.mem_append.mp h).imp id List.mem_singleton.mp
theorem Acc.gives {m : Nat} {Ac : Cn} {N a n : Nat} {G G' : Option Wy → Nat} (h : Acc m Ac N G) (ha : a < m) (hn : 1 ≤ n) (h1 : ∀ b, G' (some (.gives b)) = G (some (.gives b)) + if a = b then n else 0) (h2 : G' (some .nothing) = G (some .nothing)) : Acc m (cadd Ac (.gives a, n)) N G' :=
  ⟨nd_add h.nd _, pos_add h.pos hn, fun x hx => by
    rcases cadd_mem (List.mem_map.mpr ⟨x, hx, rfl⟩) with z | z
    · obtain ⟨y, hy, e⟩ := List.mem_map.mp z
      rw [← e]
      exact h.gv y hy
    · exact ⟨a, ha, z⟩, fun b => by
    rw [cget_add, h.get, h1]
    by_cases e : a = b
    · rw [if_pos (by rw [e]), if_pos e]
    · rw [if_neg fun z => e (by injection z), if_neg e], by rw [h.nz, h2]⟩
theorem Acc.nothing {m : Nat} {Ac : Cn} {N n : Nat} {G G' : Option Wy → Nat} (h : Acc m Ac N G) (h1 : ∀ b, G' (some (.gives b)) = G (some (.gives b))) (h2 : G' (some .nothing) = G (some .nothing) + n) : Acc m Ac (N + n) G' :=
  ⟨h.nd, h.pos, h.gv, fun b => by rw [h.get, h1], by rw [h.nz, h2]⟩
theorem Acc.congr {m : Nat} {Ac : Cn} {N : Nat} {G G' : Option Wy → Nat} (h : Acc m Ac N G) (h1 : ∀ e, G' (some e) = G (some e)) : Acc m Ac N G' := ⟨h.nd, h.pos, h.gv, fun b => by rw [h.get, h1], by rw [h.nz, h1]⟩
theorem Acc.ends {m : Nat} {Ac : Cn} {N : Nat} {G : Option Wy → Nat} (h : Acc m Ac N G) : Ends Ac := fun x hx => by obtain ⟨a, _, e⟩ := h.gv x hx; rw [e]; rfl
theorem Acc.len {m : Nat} {Ac : Cn} {N : Nat} {G : Option Wy → Nat} (h : Acc m Ac N G) : Ac.length ≤ m := by
  have := nd_sub (as := Ac.map (·.1)) (bs := (List.range m).map Wy.gives) h.nd fun w hw => by
    obtain ⟨x, hx, rfl⟩ := List.mem_map.mp hw
    obtain ⟨a, ha, e⟩ := h.gv x hx
    rw [e]
    exact List.mem_map.mpr ⟨a, List.mem_range.mpr ha, rfl⟩
  simpa using this
/-- what comes behind -/
abbrev κq (p q : Pg) (x : Str) : List Nat → Nat → Rs := fun s w => rn q (put p.bs s x w)
theorem Ended.le {p : Pg} (hp : p.Ok) {st : List Nat} {D : Ct En2} (h : Ended p st D) : ∀ x ∈ D, x.2 ≤ sizeL p.rows := fun x hx => by
  have h1 := h.bal κ0 none
  have h2 : tl none (gof p.m p.bs κ0 p.rows st) ≤ sizeL p.rows := by
    rw [← rn_gof hp]
    exact rn_len hp st
  have h3 : ∀ e, ge κ0 none e = 1 := fun e => by
    cases e with
    | none => rfl
    | some y => rfl
  have h4 : ∀ l : Ct En2, x ∈ l → x.2 ≤ wsum (ge κ0 none) l := by
    intro l
    induction l with
    | nil => intro h; cases h
    | cons y l ih =>
      intro hm
      rw [wsum_cons, h3]
      rcases List.mem_cons.mp hm with z | z
      · rw [z]; omega
      · have := ih z; omega
  have := h4 D hx
  omega
end Dk
end
section
set_option Elab.async false
set_option linter.all false
set_option maxRecDepth 100000
namespace Dk
open PySem PySem.Spec PyProof.Rows L2 Pk
open Classical in
/-- the store with which a run ends -/
noncomputable def lfS (p : Pg) (st cs : List Nat) : List Nat := if h : ∃ l w, Gl p.m p.bs p.rows st cs (.gives w) l then h.choose else []
theorem lfS_eq {p : Pg} {st cs l : List Nat} {w : Nat} (g : Gl p.m p.bs p.rows st cs (.gives w) l) : lfS p st cs = l := by
  have h : ∃ l w, Gl p.m p.bs p.rows st cs (.gives w) l := ⟨l, w, g⟩
  unfold lfS
  rw [dif_pos h]
  obtain ⟨w', g'⟩ := h.choose_spec
  exact (g'.det g).2 w' rfl
noncomputable def H1 (p q : Pg) (x : Str) (st : List Nat) (o : Option Wy) (r : List Nat × Wy) : Nat := match r.2 with
  | .gives w => tl o (κq p q x (lfS p st r.1) w)
  | _ => 0
def base (p : Pg) (st : List Nat) (o : Option Wy) : Nat := match o with
  | some .nothing => tl (some .nothing) (rn p st)
  | _ => 0
/-- answers of the second counted so far -/
def S2 (c2 : Cn) (l : List Nat) (o : Option Wy) : Nat := match o with
  | some (.gives a) => (l.map fun b => if b = a then cget c2 (.gives b) else 0).sum
  | _ => 0
end Dk
end
section
set_option Elab.async false
set_option linter.all false
set_option maxRecDepth 100000
namespace Dk
open PySem PySem.Spec PyProof.Rows L2 Pk
theorem fanG_flat {H : List Nat × Wy → Rs} {pre : List Nat} : ∀ (k : Nat) (ls ls0 : List Rs), ls.length = ls0.length → (∀ (i : Nat) (l l0 : Rs), ls[i]? = some l → ls0[i]? = some l0 → l.map (preC (pre ++ [k + i])) = l0.flatMap fun r => H ((k + i) :: r.1, r.2)) → (fanG k ls).map (preC pre) = (fanG k ls0).flatMap H
  | k, [], [], _, _ => rfl
  | k, [], _ :: _, h, _ => by cases h
  | k, _ :: _, [], h, _ => by cases h
  | k, l :: ls, l0 :: ls0, h, hq => by
    show (l.map (addC k) ++ fanG (k + 1) ls).map (preC pre) = (l0.map (addC k) ++ fanG (k + 1) ls0).flatMap H
    rw [List.map_append, List.flatMap_append]
    congr 1
    · have := hq 0 l l0 rfl rfl
      rw [Nat.add_zero] at this
      rw [List.map_map, List.flatMap_map]
      have e : (preC pre ∘ addC k : List Nat × Wy → List Nat × Wy) = preC (pre ++ [k]) := by
        funext r
        simp [preC, addC]
      rw [e, this]
      rfl
    · refine fanG_flat (k + 1) ls ls0 (by simpa using h) fun i l l0 h1 h2 => ?_
      have := hq (i + 1) l l0 h1 h2
      have e : k + (i + 1) = k + 1 + i := by omega
      rw [e] at this
      exact this
theorem gof_flat {m : Nat} {bs : List Str} (h2 : 2 ≤ m) {κ : List Nat → Nat → Rs} {rs : List Rw} {st : List Nat} (hr : RwsOk m bs rs) (hs : StOk m bs st) : ∀ (H : List Nat × Wy → Rs) (pre : List Nat), (∀ cs w l, Gl m bs rs st cs (.gives w) l → H (cs, .gives w) = (κ l w).map (preC (pre ++ cs))) → (∀ cs, H (cs, .nothing) = [(pre ++ cs, .nothing)]) → (gof m bs κ rs st).map (preC pre) = (gof m bs κ0 rs st).flatMap H := by
  refine gof_ind h2 (C := fun rs st => ∀ (H : List Nat × Wy → Rs) (pre : List Nat), (∀ cs w l, Gl m bs rs st cs (.gives w) l → H (cs, .gives w) = (κ l w).map (preC (pre ++ cs))) → (∀ cs, H (cs, .nothing) = [(pre ++ cs, .nothing)]) → (gof m bs κ rs st).map (preC pre) = (gof m bs κ0 rs st).flatMap H) ?_ ?_ ?_ ?_ ?_ ?_ rs.length rs st (Nat.le_refl _) hr hs
  · intro st _ H pre _ hn
    rw [gof_nil, gof_nil, List.map_singleton, List.flatMap_singleton, hn]
    rfl
  · intro y t rs st _ _ _ ih H pre hg hn
    rw [gof_set, gof_set]
    exact ih H pre (fun cs w l g => hg cs w l (.set g)) hn
  · intro y ts rs st _ _ ih H pre hg hn
    rw [gof_pick, gof_pick]
    refine fanG_flat 0 _ _ (by simp) fun i l l0 h1 h2 => ?_
    rw [List.getElem?_map] at h1 h2
    cases ht : ts[i]? with
    | none => rw [ht] at h1; cases h1
    | some t =>
      rw [ht] at h1 h2
      cases h1
      cases h2
      refine ih t (List.mem_of_getElem? ht) (fun r => H ((0 + i) :: r.1, r.2)) (pre ++ [0 + i]) (fun cs w l g => ?_) fun cs => ?_
      · show H ((0 + i) :: cs, .gives w) = _
        rw [Nat.zero_add, hg _ _ _ (.pick ht g), List.append_assoc]
        rfl
      · show H ((0 + i) :: cs, .nothing) = _
        rw [hn, List.append_assoc]
        rfl
  · intro t rs st _ ih H pre hg hn
    rw [gof_need, gof_need]
    by_cases hv : t.v m bs st = 0
    · rw [if_pos hv, if_pos hv, List.map_singleton, List.flatMap_singleton, hn]
      rfl
    · rw [if_neg hv, if_neg hv]
      exact ih H pre (fun cs w l g => hg cs w l (.need1 hv g)) hn
  · intro t k rs st _ ih ihd H pre hg hn
    rw [gof_skip, gof_skip]
    by_cases hv : t.v m bs st = 0
    · rw [if_pos hv]
      exact ih H pre (fun cs w l g => hg cs w l (.skip0 hv g)) hn
    · rw [if_neg hv]
      exact ihd H pre (fun cs w l g => hg cs w l (.skip1 hv g)) hn
  · intro t rs st _ _ H pre hg hn
    rw [gof_give, gof_give]
    show _ = ([([], Wy.gives (t.v m bs st))] : Rs).flatMap H
    rw [List.flatMap_singleton, hg [] _ st .give, List.append_nil]
/-- there is a run -/
theorem gof_some {m : Nat} {bs : List Str} : ∀ (n : Nat) (rs : List Rw) (st : List Nat), rs.length ≤ n → RwsOk m bs rs → 1 ≤ (gof m bs κ0 rs st).length
  | _, [], st, _, _ => by rw [gof_nil]; exact Nat.le_refl 1
  | 0, r :: rs, st, h, _ => absurd h (by simp)
  | n + 1, r :: rs, st, hl, hr => by
    have hl' : rs.length ≤ n := by simpa using hl
    have ih := fun st => gof_some n rs st hl' hr.tail
    cases r with
    | set x t => rw [gof_set]; exact ih _
    | pick x ts =>
      have h1 := (hr _ List.mem_cons_self).2.1
      rw [gof_pick]
      cases ts with
      | nil => simp at h1
      | cons t ts =>
        show 1 ≤ ((gof m bs κ0 rs _).map (addC 0) ++ fanG (0 + 1) _).length
        rw [List.length_append, List.length_map]
        have := ih (put bs st x (t.v m bs st))
        omega
    | need t =>
      rw [gof_need]
      split
      · exact Nat.le_refl 1
      · exact ih _
    | skip t k =>
      rw [gof_skip]
      split
      · exact ih _
      · exact gof_some n _ st (by rw [List.length_drop]; omega) (hr.tail.drop k)
    | give t => rw [gof_give]; exact Nat.le_refl 1
abbrev R3 := List Nat × Wy × List Nat
def ce (x : R3) : List Nat × Wy := (x.1, x.2.1)
def r3D (x : R3) : PyData := .tuple [natsD x.1, x.2.1.d, stD x.2.2]
/-- the runs with the stores that they leave, in any order -/
structure Lr (p : Pg) (st : List Nat) (rs : List R3) : Prop where
  perm : (rs.map ce).Perm (rn p st)
  gl : ∀ x ∈ rs, Gl p.m p.bs p.rows st x.1 x.2.1 x.2.2
noncomputable def H2 (p q : Pg) (x : Str) (st : List Nat) (r : List Nat × Wy) : Rs := match r.2 with
  | .gives w => (rn q (put p.bs (lfS p st r.1) x w)).map (preC r.1)
  | _ => [r]
theorem flat_fit {p q : Pg} {x : Str} (h : Fit p q x) {st : List Nat} (hs : StOk p.m p.bs st) : rn (after p q x) st = (rn p st).flatMap (H2 p q x st) := by
  have := gof_flat (κ := fun s w => Dk.rn q (put p.bs s x w)) h.hp.m2 h.hp.rows hs (H2 p q x st) [] (fun cs w l g => by
    show (rn q (put p.bs (lfS p st cs) x w)).map (preC cs) = _
    rw [lfS_eq g]
    rfl) (fun cs => rfl)
  rw [h.rn hs, rn_gof h.hp, ← this]
  have e : (preC [] : List Nat × Wy → List Nat × Wy) = id := by funext r; simp [preC]
  rw [e, List.map_id]
theorem poe_back {p : Pg} {k : Nat} {s : List Nat} {w : Wy} (h : poe p k s = w) : (w.isPl = false → ∀ l, Gl p.m p.bs (p.rows.drop k) s [] w l) ∧ ∀ r' s', w = .place r' s' → r' = k ∧ s' = s := by
  unfold poe at h
  split at h
  · rename_i hk
    subst h
    rw [List.drop_eq_nil_of_le hk]
    exact ⟨fun _ l => .nil, fun _ _ e => nomatch e⟩
  · subst h
    exact ⟨(fun e => nomatch e), fun _ _ e => by cases e; exact ⟨rfl, rfl⟩⟩
theorem Gl.back {p : Pg} {r : Nat} {s : List Nat} {c : Nat} {w : Wy} (hw : (ways p r s)[c]? = some w) :
    (w.isPl = false → Gl p.m p.bs (p.rows.drop r) s (if isPickAt p r = true then [c] else []) w s) ∧
    ∀ r' s', w = .place r' s' → ∀ cs e l, Gl p.m p.bs (p.rows.drop r') s' cs e l → Gl p.m p.bs (p.rows.drop r) s ((if isPickAt p r = true then [c] else []) ++ cs) e l := by
  cases h : p.rows[r]? with
  | none => unfold ways at hw; rw [h] at hw; cases hw
  | some row =>
    rw [drop_row h, pick_at h]
    rw [ways_at h] at hw
    have one : ∀ {w0 : Wy}, ([w0] : List Wy)[c]? = some w → w0 = w := fun {w0} z => by
      cases c with
      | zero => exact Option.some.inj z
      | succ c => cases z
    cases row with
    | set x t =>
      obtain ⟨b1, b2⟩ := poe_back (one hw)
      refine ⟨fun e => .set (b1 e s), fun r' s' e cs f l g => ?_⟩
      obtain ⟨rfl, rfl⟩ := b2 r' s' e
      exact .set g
    | pick x ts =>
      show (_ → Gl _ _ _ _ [c] _ _) ∧ ∀ r' s', _ → ∀ cs e l, _ → Gl _ _ _ _ ([c] ++ cs) _ _
      have hw' : (ts.map fun t => poe p (r + 1) (put p.bs s x (tv p s t)))[c]? = some w := hw
      rw [List.getElem?_map] at hw'
      cases ht : ts[c]? with
      | none => rw [ht] at hw'; cases hw'
      | some t =>
        rw [ht] at hw'
        obtain ⟨b1, b2⟩ := poe_back (Option.some.inj hw')
        refine ⟨fun e => .pick ht (b1 e s), fun r' s' e cs f l g => ?_⟩
        obtain ⟨rfl, rfl⟩ := b2 r' s' e
        exact .pick ht g
    | need t =>
      have hw' : (if tv p s t = 0 then [Wy.nothing] else [poe p (r + 1) s])[c]? = some w := hw
      by_cases hz : tv p s t = 0
      · rw [if_pos hz] at hw'
        have e := one hw'
        subst e
        exact ⟨fun _ => .need0 hz, fun _ _ e => nomatch e⟩
      · rw [if_neg hz] at hw'
        obtain ⟨b1, b2⟩ := poe_back (one hw')
        refine ⟨fun e => .need1 hz (b1 e s), fun r' s' e cs f l g => ?_⟩
        obtain ⟨rfl, rfl⟩ := b2 r' s' e
        exact .need1 hz g
    | skip t k =>
      have hw' : [poe p (r + 1 + if tv p s t = 0 then 0 else k) s][c]? = some w := hw
      obtain ⟨b1, b2⟩ := poe_back (one hw')
      by_cases hz : tv p s t = 0
      · rw [if_pos hz] at b1 b2
        refine ⟨fun e => .skip0 hz (b1 e s), fun r' s' e cs f l g => ?_⟩
        obtain ⟨rfl, rfl⟩ := b2 r' s' e
        exact .skip0 hz g
      · rw [if_neg hz] at b1 b2
        have ed : (p.rows.drop (r + 1)).drop k = p.rows.drop (r + 1 + k) := by rw [List.drop_drop]
        refine ⟨fun e => .skip1 hz (by rw [ed]; exact b1 e s), fun r' s' e cs f l g => ?_⟩
        obtain ⟨rfl, rfl⟩ := b2 r' s' e
        exact .skip1 hz (by rw [ed]; exact g)
    | give t =>
      have e := one (w0 := .gives (tv p s t)) hw
      subst e
      exact ⟨fun _ => .give, fun _ _ e => nomatch e⟩
def kf (pk : Bool) (cs : List Nat) (n : Nat) (ws : List Wy) : List Wt := ws.zipIdx.map fun x => ⟨cs ++ (if pk = true then [x.2] else []), x.1, n⟩
theorem kf_len (pk : Bool) (cs : List Nat) (n : Nat) (ws : List Wy) : (kf pk cs n ws).length = ws.length := by simp [kf]
theorem kf_get {pk : Bool} {cs : List Nat} {n : Nat} {ws : List Wy} {j : Nat} {w : Wy} (h : ws[j]? = some w) : (kf pk cs n ws)[j]? = some ⟨cs ++ (if pk = true then [j] else []), w, n⟩ := by
  unfold kf
  rw [List.getElem?_map, List.getElem?_zipIdx, h]
  simp
theorem kf_take {pk : Bool} {cs : List Nat} {n : Nat} {ws : List Wy} {j : Nat} {w : Wy} (h : ws[j]? = some w) : (kf pk cs n ws).take (j + 1) = (kf pk cs n ws).take j ++ [⟨cs ++ (if pk = true then [j] else []), w, n⟩] := by
  rw [List.take_add_one, kf_get h]
  rfl
theorem kf_all {p : Pg} {r : Nat} {s : List Nat} (cs : List Nat) (n : Nat) : (kf (isPickAt p r) cs n (ways p r s)).flatMap (Wt.all p) = (⟨cs, .place r s, n + 1⟩ : Wt).all p := by
  show _ = (runs p (n + 1) (.place r s)).map (preC cs)
  rw [show runs p (n + 1) (.place r s) = if isPickAt p r = true then fan (runs p n) 0 (ways p r s) else (ways p r s).flatMap (runs p n) from rfl]
  generalize ways p r s = ws
  cases isPickAt p r with
  | true =>
    rw [if_pos rfl]
    have key : ∀ (ws : List Wy) (k : Nat), ((ws.zipIdx k).map fun x => (⟨cs ++ [x.2], x.1, n⟩ : Wt)).flatMap (Wt.all p) = (fan (runs p n) k ws).map (preC cs) := by
      intro ws
      induction ws with
      | nil => intro k; rfl
      | cons w ws ih =>
        intro k
        show (runs p n w).map (preC (cs ++ [k])) ++ ((ws.zipIdx (k + 1)).map fun x => (⟨cs ++ [x.2], x.1, n⟩ : Wt)).flatMap (Wt.all p) = ((runs p n w).map (addC k) ++ fan (runs p n) (k + 1) ws).map (preC cs)
        rw [ih, List.map_append, List.map_map]
        congr 1
        refine List.map_congr_left fun r _ => ?_
        simp [preC, addC]
    exact key ws 0
  | false =>
    rw [if_neg (by decide)]
    have key : ∀ (ws : List Wy) (k : Nat), ((ws.zipIdx k).map fun x => (⟨cs ++ [], x.1, n⟩ : Wt)).flatMap (Wt.all p) = (ws.flatMap (runs p n)).map (preC cs) := by
      intro ws
      induction ws with
      | nil => intro k; rfl
      | cons w ws ih =>
        intro k
        show (runs p n w).map (preC (cs ++ [])) ++ ((ws.zipIdx (k + 1)).map fun x => (⟨cs ++ [], x.1, n⟩ : Wt)).flatMap (Wt.all p) = (runs p n w ++ ws.flatMap (runs p n)).map (preC cs)
        rw [ih, List.map_append, List.append_nil]
    exact key ws 0
end Dk
end
section
set_option Elab.async false
set_option linter.all false
set_option maxRecDepth 100000
namespace Sy
open PySem PySem.Spec PyProof.Rows L2 Pk Pz Ps
def topS (i : Nat) : Stmt := PySem.Challenge.pw_pickruns_k70_put_behind.main.body.getD i (.Pass ⟨0, 0, 0, 0⟩)
theorem room1 {k : Nat} {A : Around} (r : Room k A) : A.units + 1 < cLine := by have := r.un; omega
theorem room65 {k : Nat} {A : Around} (r : Room k A) : A.units + 65 < cLine := by have := r.un; omega
abbrev s_need_alike : Stmt := topS 7
theorem sc_need_alike : FnScope ["one", "other"] ["one", "other"] (defScope s_need_alike) := ⟨rfl, rfl, rfl, by decide +kernel, rfl, by decide +kernel, by decide +kernel⟩
def t_need_alike (K : PySem.W.Frag) : TS :=
  (tIfS (tOr (tTest (tOp (dNe K) (tOp (rIx K) (tVar 0) (tC (.int 0))) (tOp (rIx K) (tVar 1) (tC (.int 0))))) (tTest (tOp (dNe K) (tOp (rIx K) (tVar 0) (tC (.int 1))) (tOp (rIx K) (tVar 1) (tC (.int 1)))))) tNever tNext)
theorem wk_need_alike {P : Program} {w : World} {K : PySem.W.Frag} {mg : Str → Option Value} {base : Heap} {k : Nat}
    (f : Addr) (cdv : Value) (A : Around) (outer : List Env) (s : Shared) (H : Hp) (E : XK) (hr : Room k (A.deeper (envOfC "need_alike" (defScope s_need_alike) s.heap.objs.size f cdv))) :
    PSs (cxOf CX0 P w K mg base ["one", "other"] "need_alike" (defScope s_need_alike) f cdv A outer s H E).nox (defBody s_need_alike) (t_need_alike K) := by
  have hu : (cxOf CX0 P w K mg base ["one", "other"] "need_alike" (defScope s_need_alike) f cdv A outer s H E).nox.A.units + 64 < cLine := hr.units
  have hu5 : (cxOf CX0 P w K mg base ["one", "other"] "need_alike" (defScope s_need_alike) f cdv A outer s H E).nox.A.units + 65 < cLine := room65 hr
  have hu1 : (cxOf CX0 P w K mg base ["one", "other"] "need_alike" (defScope s_need_alike) f cdv A outer s H E).nox.A.units + 1 < cLine := room1 hr
  unfold t_need_alike
  exact (pss_one (ps_if (PW.pt (pw_or (pt_cmpR (o_ne hu) (pe_ix ix_seq (pv 0) pe_int (fun _ _ => rfl)) (pe_ix ix_seq (pv 1) pe_int (fun _ _ => rfl)) (nomark _)) (pw_or1 (pt_cmpR (o_ne hu) (pe_ix ix_seq (pv 0) pe_int (fun _ _ => rfl)) (pe_ix ix_seq (pv 1) pe_int (fun _ _ => rfl)) (nomark _))))) (pss_one ps_never) pss_nil))
abbrev s_spots_behind : Stmt := topS 8
theorem sc_spots_behind : FnScope ["rows", "found", "row"] ["rows"] (defScope s_spots_behind) := ⟨rfl, rfl, rfl, by decide +kernel, rfl, by decide +kernel, by decide +kernel⟩
def t_spots_behind (K : PySem.W.Frag) : TS :=
  (tSeq (tAsg (tLst (tCons (tC (.int 0)) tNil)) (gName 1))
    (tSeq (tFor (iList K (tVar 0)) (gName 2) (tDrop (tBM K "list" rAppend (tVar 1) (tCons (tOp (dAdd K) (tOp (dAdd K) (tOp (rIx K) (tVar 1) (tUn dNeg (tC (.int 1)))) (tC (.int 1))) (tCB dInt (tCons (tOp (dEq K) (tOp (rIx K) (tVar 2) (tC (.int 0))) (tC (.str "give"))) tNil))) tNil))))
    (tRet (tVar 1))))
theorem wk_spots_behind {P : Program} {w : World} {K : PySem.W.Frag} {mg : Str → Option Value} {base : Heap} {k : Nat} (m_int : mg "int" = none)
    (f : Addr) (cdv : Value) (A : Around) (outer : List Env) (s : Shared) (H : Hp) (E : XK) (hr : Room k (A.deeper (envOfC "spots_behind" (defScope s_spots_behind) s.heap.objs.size f cdv))) :
    PSs (cxOf CX0 P w K mg base ["rows", "found", "row"] "spots_behind" (defScope s_spots_behind) f cdv A outer s H E).nox (defBody s_spots_behind) (t_spots_behind K) := by
  have hu : (cxOf CX0 P w K mg base ["rows", "found", "row"] "spots_behind" (defScope s_spots_behind) f cdv A outer s H E).nox.A.units + 64 < cLine := hr.units
  have hu5 : (cxOf CX0 P w K mg base ["rows", "found", "row"] "spots_behind" (defScope s_spots_behind) f cdv A outer s H E).nox.A.units + 65 < cLine := room65 hr
  have hu1 : (cxOf CX0 P w K mg base ["rows", "found", "row"] "spots_behind" (defScope s_spots_behind) f cdv A outer s H E).nox.A.units + 1 < cLine := room1 hr
  unfold t_spots_behind
  exact (pss_cons (ps_set (i := 1) sc_spots_behind.nd rfl (by first | exact Or.inl rfl | exact Or.inr rfl) (pe_lst (pa_cons pe_int pa_nil)))
    (pss_cons (ps_for PassesOwn.never rfl (pi_list (pv 0)) (pg_name (i := 2) sc_spots_behind.nd rfl (by first | exact Or.inl rfl | exact Or.inr rfl)) (pss_one (ps_expr (pe_bm PySem.F.plainAttrs_list PySem.F.slot_list_append PySem.F.type_list_append mt_append (pv 1) (pa_cons (pe_op o_add (pe_op o_add (pe_ix ix_seq (pv 1) (pe_un o_neg pe_int) (fun _ _ => rfl)) pe_int) (pe_callTy o_int (by rfl) m_int (by decide +kernel) (pa_cons (pe_cmpR (o_eq hu) (pe_ix ix_seq (pv 2) pe_int (fun _ _ => rfl)) pe_str (nomark _)) pa_nil))) pa_nil)))))
    (pss_one (ps_ret (pv 1)))))
abbrev s_skip_by : Stmt := topS 9
theorem sc_skip_by : FnScope ["thing", "many", "boxes"] ["thing", "many", "boxes"] (defScope s_skip_by) := ⟨rfl, rfl, rfl, by decide +kernel, rfl, by decide +kernel, by decide +kernel⟩
def t_skip_by (K : PySem.W.Frag) : TS :=
  (tSeq (tIfS (tTest (tOp (dEq K) (tVar 1) (tC (.int 0)))) (tRet (tTup (tCons (tC (.str "set")) (tCons (tOp (rIx K) (tVar 2) (tC (.int 0))) (tCons (tTup (tCons (tC (.str "box")) (tCons (tOp (rIx K) (tVar 2) (tC (.int 0))) tNil))) tNil))))) tNext)
    (tRet (tTup (tCons (tC (.str "skip")) (tCons (tVar 0) (tCons (tVar 1) tNil))))))
theorem wk_skip_by {P : Program} {w : World} {K : PySem.W.Frag} {mg : Str → Option Value} {base : Heap} {k : Nat}
    (f : Addr) (cdv : Value) (A : Around) (outer : List Env) (s : Shared) (H : Hp) (E : XK) (hr : Room k (A.deeper (envOfC "skip_by" (defScope s_skip_by) s.heap.objs.size f cdv))) :
    PSs (cxOf CX0 P w K mg base ["thing", "many", "boxes"] "skip_by" (defScope s_skip_by) f cdv A outer s H E).nox (defBody s_skip_by) (t_skip_by K) := by
  have hu : (cxOf CX0 P w K mg base ["thing", "many", "boxes"] "skip_by" (defScope s_skip_by) f cdv A outer s H E).nox.A.units + 64 < cLine := hr.units
  have hu5 : (cxOf CX0 P w K mg base ["thing", "many", "boxes"] "skip_by" (defScope s_skip_by) f cdv A outer s H E).nox.A.units + 65 < cLine := room65 hr
  have hu1 : (cxOf CX0 P w K mg base ["thing", "many", "boxes"] "skip_by" (defScope s_skip_by) f cdv A outer s H E).nox.A.units + 1 < cLine := room1 hr
  unfold t_skip_by
  exact (pss_cons (ps_if (pt_cmpR (o_eq hu) (pv 1) pe_int (nomark _)) (pss_one (ps_ret (pe_tup (pa_cons pe_str (pa_cons (pe_ix ix_seq (pv 2) pe_int (fun _ _ => rfl)) (pa_cons (pe_tup (pa_cons pe_str (pa_cons (pe_ix ix_seq (pv 2) pe_int (fun _ _ => rfl)) pa_nil))) pa_nil)))))) pss_nil)
    (pss_one (ps_ret (pe_tup (pa_cons pe_str (pa_cons (pv 0) (pa_cons (pv 1) pa_nil)))))))
abbrev s_row_anew : Stmt := topS 10
theorem sc_row_anew : FnScope ["rows", "at", "spots", "box", "boxes", "row", "last"] ["rows", "at", "spots", "box", "boxes"] (defScope s_row_anew) := ⟨rfl, rfl, rfl, by decide +kernel, rfl, by decide +kernel, by decide +kernel⟩
def t_row_anew (K : PySem.W.Frag) (sp_copied_row : Sp) (sp_skip_by : Sp) : TS :=
  (tSeq (tAsg (tOp (rIx K) (tVar 0) (tVar 1)) (gName 5))
    (tSeq (tAsg (tOp (rIx K) (tVar 2) (tUn dNeg (tC (.int 1)))) (gName 6))
    (tSeq (tIfS (tTest (tOp (dEq K) (tOp (rIx K) (tVar 5) (tC (.int 0))) (tC (.str "give")))) (tRet (tLst (tCons (tTup (tCons (tC (.str "set")) (tCons (tVar 3) (tCons (tOp (rIx K) (tVar 5) (tC (.int 1))) tNil)))) (tCons (tTup (tCons (tC (.str "skip")) (tCons (tTup (tCons (tC (.str "number")) (tCons (tC (.int 1)) tNil))) (tCons (tOp dSub (tOp dSub (tVar 6) (tOp (rIx K) (tVar 2) (tVar 1))) (tC (.int 1))) tNil)))) tNil)))) tNext)
    (tSeq (tIfS (tTest (tOp (dEq K) (tOp (rIx K) (tVar 5) (tC (.int 0))) (tC (.str "skip")))) (tRet (tLst (tCons (tCall sp_skip_by [] E0 (tCons (tOp (rIx K) (tVar 5) (tC (.int 1))) (tCons (tOp dSub (tOp dSub (tOp (rIx K) (tVar 2) (tCB (dMin K) (tCons (tOp (dAdd K) (tOp (dAdd K) (tVar 1) (tC (.int 1))) (tOp (rIx K) (tVar 5) (tC (.int 2)))) (tCons (tCB (dLen K) (tCons (tVar 0) tNil)) tNil)))) (tOp (rIx K) (tVar 2) (tVar 1))) (tC (.int 1))) (tCons (tVar 4) tNil)))) tNil))) tNext)
    (tRet (tLst (tCons (tCall sp_copied_row [] E0 (tCons (tVar 5) tNil)) tNil)))))))
theorem wk_row_anew {P : Program} {w : World} {K : PySem.W.Frag} {mg : Str → Option Value} {base : Heap} {k : Nat} {sp_copied_row : Sp} {sp_skip_by : Sp}
    (c_copied_row : Cal P w K mg base CX0 k "copied_row" ["row"] sp_copied_row)
    (c_skip_by : Cal P w K mg base CX0 k "skip_by" ["thing", "many", "boxes"] sp_skip_by) (m_min : mg "min" = none) (m_len : mg "len" = none)
    (f : Addr) (cdv : Value) (A : Around) (outer : List Env) (s : Shared) (H : Hp) (E : XK) (hr : Room k (A.deeper (envOfC "row_anew" (defScope s_row_anew) s.heap.objs.size f cdv))) :
    PSs (cxOf CX0 P w K mg base ["rows", "at", "spots", "box", "boxes", "row", "last"] "row_anew" (defScope s_row_anew) f cdv A outer s H E).nox (defBody s_row_anew) (t_row_anew K sp_copied_row sp_skip_by) := by
  have hu : (cxOf CX0 P w K mg base ["rows", "at", "spots", "box", "boxes", "row", "last"] "row_anew" (defScope s_row_anew) f cdv A outer s H E).nox.A.units + 64 < cLine := hr.units
  have hu5 : (cxOf CX0 P w K mg base ["rows", "at", "spots", "box", "boxes", "row", "last"] "row_anew" (defScope s_row_anew) f cdv A outer s H E).nox.A.units + 65 < cLine := room65 hr
  have hu1 : (cxOf CX0 P w K mg base ["rows", "at", "spots", "box", "boxes", "row", "last"] "row_anew" (defScope s_row_anew) f cdv A outer s H E).nox.A.units + 1 < cLine := room1 hr
  unfold t_row_anew
  exact (pss_cons (ps_set (i := 5) sc_row_anew.nd rfl (by first | exact Or.inl rfl | exact Or.inr rfl) (pe_ix ix_seq (pv 0) (pv 1) (fun _ _ => rfl)))
    (pss_cons (ps_set (i := 6) sc_row_anew.nd rfl (by first | exact Or.inl rfl | exact Or.inr rfl) (pe_ix ix_seq (pv 2) (pe_un o_neg pe_int) (fun _ _ => rfl)))
    (pss_cons (ps_if (pt_cmpR (o_eq hu) (pe_ix ix_seq (pv 5) pe_int (fun _ _ => rfl)) pe_str (nomark _)) (pss_one (ps_ret (pe_lst (pa_cons (pe_tup (pa_cons pe_str (pa_cons (pv 3) (pa_cons (pe_ix ix_seq (pv 5) pe_int (fun _ _ => rfl)) pa_nil)))) (pa_cons (pe_tup (pa_cons pe_str (pa_cons (pe_tup (pa_cons pe_str (pa_cons pe_int pa_nil))) (pa_cons (pe_op o_sub (pe_op o_sub (pv 6) (pe_ix ix_seq (pv 2) (pv 1) (fun _ _ => rfl))) pe_int) pa_nil)))) pa_nil))))) pss_nil)
    (pss_cons (ps_if (pt_cmpR (o_eq hu) (pe_ix ix_seq (pv 5) pe_int (fun _ _ => rfl)) pe_str (nomark _)) (pss_one (ps_ret (pe_lst (pa_cons (pe_c c_skip_by hr (by rfl) (pa_cons (pe_ix ix_seq (pv 5) pe_int (fun _ _ => rfl)) (pa_cons (pe_op o_sub (pe_op o_sub (pe_ix ix_seq (pv 2) (pe_callB (o_min rfl) (by rfl) m_min (by decide +kernel) (pa_cons (pe_op o_add (pe_op o_add (pv 1) pe_int) (pe_ix ix_seq (pv 5) pe_int (fun _ _ => rfl))) (pa_cons (pe_callB o_len (by rfl) m_len (by decide +kernel) (pa_cons (pv 0) pa_nil)) pa_nil))) (fun _ _ => rfl)) (pe_ix ix_seq (pv 2) (pv 1) (fun _ _ => rfl))) pe_int) (pa_cons (pv 4) pa_nil)))) pa_nil)))) pss_nil)
    (pss_one (ps_ret (pe_lst (pa_cons (pe_c c_copied_row hr (by rfl) (pa_cons (pv 5) pa_nil)) pa_nil))))))))
abbrev s_copied_row : Stmt := topS 11
theorem sc_copied_row : FnScope ["row"] ["row"] (defScope s_copied_row) := ⟨rfl, rfl, rfl, by decide +kernel, rfl, by decide +kernel, by decide +kernel⟩
def t_copied_row (K : PySem.W.Frag) : TS :=
  (tSeq (tIfS (tTest (tOp (dEq K) (tOp (rIx K) (tVar 0) (tC (.int 0))) (tC (.str "pick")))) (tRet (tTup (tCons (tC (.str "pick")) (tCons (tOp (rIx K) (tVar 0) (tC (.int 1))) (tCons (tCB (dList K) (tCons (tOp (rIx K) (tVar 0) (tC (.int 2))) tNil)) tNil))))) tNext)
    (tRet (tVar 0)))
theorem wk_copied_row {P : Program} {w : World} {K : PySem.W.Frag} {mg : Str → Option Value} {base : Heap} {k : Nat} (m_list : mg "list" = none)
    (f : Addr) (cdv : Value) (A : Around) (outer : List Env) (s : Shared) (H : Hp) (E : XK) (hr : Room k (A.deeper (envOfC "copied_row" (defScope s_copied_row) s.heap.objs.size f cdv))) :
    PSs (cxOf CX0 P w K mg base ["row"] "copied_row" (defScope s_copied_row) f cdv A outer s H E).nox (defBody s_copied_row) (t_copied_row K) := by
  have hu : (cxOf CX0 P w K mg base ["row"] "copied_row" (defScope s_copied_row) f cdv A outer s H E).nox.A.units + 64 < cLine := hr.units
  have hu5 : (cxOf CX0 P w K mg base ["row"] "copied_row" (defScope s_copied_row) f cdv A outer s H E).nox.A.units + 65 < cLine := room65 hr
  have hu1 : (cxOf CX0 P w K mg base ["row"] "copied_row" (defScope s_copied_row) f cdv A outer s H E).nox.A.units + 1 < cLine := room1 hr
  unfold t_copied_row
  exact (pss_cons (ps_if (pt_cmpR (o_eq hu) (pe_ix ix_seq (pv 0) pe_int (fun _ _ => rfl)) pe_str (nomark _)) (pss_one (ps_ret (pe_tup (pa_cons pe_str (pa_cons (pe_ix ix_seq (pv 0) pe_int (fun _ _ => rfl)) (pa_cons (pe_callTy o_list (by rfl) m_list (by decide +kernel) (pa_cons (pe_ix ix_seq (pv 0) pe_int (fun _ _ => rfl)) pa_nil)) pa_nil)))))) pss_nil)
    (pss_one (ps_ret (pv 0))))
abbrev s_put_after : Stmt := topS 12
theorem sc_put_after : FnScope ["one", "other", "box", "spots", "rows", "at", "row"] ["one", "other", "box"] (defScope s_put_after) := ⟨rfl, rfl, rfl, by decide +kernel, rfl, by decide +kernel, by decide +kernel⟩
def t_put_after (K : PySem.W.Frag) (sp_copied_row : Sp) (sp_row_anew : Sp) (sp_spots_behind : Sp) (sp_need_alike : Sp) : TS :=
  (tSeq (tDrop (tCall sp_need_alike [] E0 (tCons (tVar 0) (tCons (tVar 1) tNil))))
    (tSeq (tIfS (tOr (tNot (tB (tCB (rIsD K) (tCons (tVar 2) (tCons (tC (.ty "str")) tNil))))) (tTest (tOp (dNotIn K) (tVar 2) (tOp (rIx K) (tVar 0) (tC (.int 1)))))) tNever tNext)
    (tSeq (tAsg (tCall sp_spots_behind [] E0 (tCons (tOp (rIx K) (tVar 0) (tC (.int 2))) tNil)) (gName 3))
    (tSeq (tIfS (tTest (tOp dGt (tOp (dAdd K) (tOp (dAdd K) (tOp (rIx K) (tVar 3) (tUn dNeg (tC (.int 1)))) (tC (.int 1))) (tCB (dLen K) (tCons (tOp (rIx K) (tVar 1) (tC (.int 2))) tNil))) (tC (.int 30)))) tNever tNext)
    (tSeq (tAsg (tLst tNil) (gName 4))
    (tSeq (tFor (iRng1 (tCons (tCB (dLen K) (tCons (tOp (rIx K) (tVar 0) (tC (.int 2))) tNil)) tNil)) (gName 5) (tDrop (tBM K "list" rExtend (tVar 4) (tCons (tCall sp_row_anew [] E0 (tCons (tOp (rIx K) (tVar 0) (tC (.int 2))) (tCons (tVar 5) (tCons (tVar 3) (tCons (tVar 2) (tCons (tOp (rIx K) (tVar 0) (tC (.int 1))) tNil)))))) tNil))))
    (tSeq (tDrop (tBM K "list" rAppend (tVar 4) (tCons (tTup (tCons (tC (.str "need")) (tCons (tTup (tCons (tC (.str "number")) (tCons (tC (.int 0)) tNil))) tNil))) tNil)))
    (tRet (tTup (tCons (tOp (rIx K) (tVar 0) (tC (.int 0))) (tCons (tCB (dList K) (tCons (tOp (rIx K) (tVar 0) (tC (.int 1))) tNil)) (tCons (tOp (dAdd K) (tVar 4) (tLc (iList K (tOp (rIx K) (tVar 1) (tC (.int 2)))) (gName 6) tYes (tCall sp_copied_row [] E0 (tCons (tVar 6) tNil)) [6])) tNil))))))))))))
theorem wk_put_after {P : Program} {w : World} {K : PySem.W.Frag} {mg : Str → Option Value} {base : Heap} {k : Nat} {sp_copied_row : Sp} {sp_row_anew : Sp} {sp_spots_behind : Sp} {sp_need_alike : Sp}
    (c_copied_row : Cal P w K mg base CX0 k "copied_row" ["row"] sp_copied_row)
    (c_row_anew : Cal P w K mg base CX0 k "row_anew" ["rows", "at", "spots", "box", "boxes"] sp_row_anew)
    (c_spots_behind : Cal P w K mg base CX0 k "spots_behind" ["rows"] sp_spots_behind)
    (c_need_alike : Cal P w K mg base CX0 k "need_alike" ["one", "other"] sp_need_alike) (m_list : mg "list" = none) (m_range : mg "range" = none) (m_len : mg "len" = none) (m_isinstance : mg "isinstance" = none) (m_str : mg "str" = none) (g_MOST_ROWS : ∃ t, mg "MOST_ROWS" = some (.int 30 t))
    (f : Addr) (cdv : Value) (A : Around) (outer : List Env) (s : Shared) (H : Hp) (E : XK) (hr : Room k (A.deeper (envOfC "put_after" (defScope s_put_after) s.heap.objs.size f cdv))) :
    PSs (cxOf CX0 P w K mg base ["one", "other", "box", "spots", "rows", "at", "row"] "put_after" (defScope s_put_after) f cdv A outer s H E).nox (defBody s_put_after) (t_put_after K sp_copied_row sp_row_anew sp_spots_behind sp_need_alike) := by
  obtain ⟨tk_MOST_ROWS, g_MOST_ROWS⟩ := g_MOST_ROWS
  have hu : (cxOf CX0 P w K mg base ["one", "other", "box", "spots", "rows", "at", "row"] "put_after" (defScope s_put_after) f cdv A outer s H E).nox.A.units + 64 < cLine := hr.units
  have hu5 : (cxOf CX0 P w K mg base ["one", "other", "box", "spots", "rows", "at", "row"] "put_after" (defScope s_put_after) f cdv A outer s H E).nox.A.units + 65 < cLine := room65 hr
  have hu1 : (cxOf CX0 P w K mg base ["one", "other", "box", "spots", "rows", "at", "row"] "put_after" (defScope s_put_after) f cdv A outer s H E).nox.A.units + 1 < cLine := room1 hr
  unfold t_put_after
  exact (pss_cons (ps_expr (pe_c c_need_alike hr (by rfl) (pa_cons (pv 0) (pa_cons (pv 1) pa_nil))))
    (pss_cons (ps_if (PW.pt (pw_or (pt_not (pt_val (pe_callB call_isD (by rfl) m_isinstance (by decide +kernel) (pa_cons (pv 2) (pa_cons (pe_bltn (by rfl) m_str (by decide +kernel) rfl) pa_nil))))) (pw_or1 (pt_cmpR (o_notIn hu5) (pv 2) (pe_ix ix_seq (pv 0) pe_int (fun _ _ => rfl)) (by rfl))))) (pss_one ps_never) pss_nil)
    (pss_cons (ps_set (i := 3) sc_put_after.nd rfl (by first | exact Or.inl rfl | exact Or.inr rfl) (pe_c c_spots_behind hr (by rfl) (pa_cons (pe_ix ix_seq (pv 0) pe_int (fun _ _ => rfl)) pa_nil)))
    (pss_cons (ps_if (pt_cmpR o_gt (pe_op o_add (pe_op o_add (pe_ix ix_seq (pv 3) (pe_un o_neg pe_int) (fun _ _ => rfl)) pe_int) (pe_callB o_len (by rfl) m_len (by decide +kernel) (pa_cons (pe_ix ix_seq (pv 1) pe_int (fun _ _ => rfl)) pa_nil))) (pe_glob (by rfl) g_MOST_ROWS ⟨_, rfl⟩) (nomark _)) (pss_one ps_never) pss_nil)
    (pss_cons (ps_set (i := 4) sc_put_after.nd rfl (by first | exact Or.inl rfl | exact Or.inr rfl) (pe_lst pa_nil))
    (pss_cons (ps_for PassesOwn.never rfl (pi_range1 (by rfl) m_range (pa_cons (pe_callB o_len (by rfl) m_len (by decide +kernel) (pa_cons (pe_ix ix_seq (pv 0) pe_int (fun _ _ => rfl)) pa_nil)) pa_nil)) (pg_name (i := 5) sc_put_after.nd rfl (by first | exact Or.inl rfl | exact Or.inr rfl)) (pss_one (ps_expr (pe_bm PySem.F.plainAttrs_list PySem.F.slot_list_extend PySem.F.type_list_extend mt_extend (pv 4) (pa_cons (pe_c c_row_anew hr (by rfl) (pa_cons (pe_ix ix_seq (pv 0) pe_int (fun _ _ => rfl)) (pa_cons (pv 5) (pa_cons (pv 3) (pa_cons (pv 2) (pa_cons (pe_ix ix_seq (pv 0) pe_int (fun _ _ => rfl)) pa_nil)))))) pa_nil)))))
    (pss_cons (ps_expr (pe_bm PySem.F.plainAttrs_list PySem.F.slot_list_append PySem.F.type_list_append mt_append (pv 4) (pa_cons (pe_tup (pa_cons pe_str (pa_cons (pe_tup (pa_cons pe_str (pa_cons pe_int pa_nil))) pa_nil))) pa_nil)))
    (pss_one (ps_ret (pe_tup (pa_cons (pe_ix ix_seq (pv 0) pe_int (fun _ _ => rfl)) (pa_cons (pe_callTy o_list (by rfl) m_list (by decide +kernel) (pa_cons (pe_ix ix_seq (pv 0) pe_int (fun _ _ => rfl)) pa_nil)) (pa_cons (pe_op o_add (pv 4) (pe_lc (own := [("row", 6)]) (g := (gName 6)) (tt := tYes) rfl sc_put_after.nd (pi_list (pe_ix ix_seq (pv 1) pe_int (fun _ _ => rfl))) (blkOk_by (N := ["one", "other", "box", "spots", "rows", "at", "row"]) (sc := defScope s_put_after) (by decide +kernel)) (fun _ _ _ _ _ => (pg_name (i := 6) sc_put_after.nd rfl (by first | exact Or.inl rfl | exact Or.inr rfl))) (fun _ _ _ _ _ => pts_nil) (fun _ _ _ _ _ => (pe_c c_copied_row hr (by rfl) (pa_cons (pv 6) pa_nil))))) pa_nil)))))))))))))
abbrev s_l_cell_at : Stmt := topS 14
theorem sc_l_cell_at : FnScope ["script", "k"] ["script", "k"] (defScope s_l_cell_at) := ⟨rfl, rfl, rfl, by decide +kernel, rfl, by decide +kernel, by decide +kernel⟩
def t_l_cell_at (K : PySem.W.Frag) : TS :=
  (tSeq (tIfS (tTest (tOp dLt (tVar 1) (tCB (dLen K) (tCons (tVar 0) tNil)))) (tRet (tOp (rIx K) (tVar 0) (tVar 1))) tNext)
    (tRet (tC (.int 0))))
theorem wk_l_cell_at {P : Program} {w : World} {K : PySem.W.Frag} {mg : Str → Option Value} {base : Heap} {k : Nat} (m_len : mg "len" = none)
    (f : Addr) (cdv : Value) (A : Around) (outer : List Env) (s : Shared) (H : Hp) (E : XK) (hr : Room k (A.deeper (envOfC "_law_cell_at" (defScope s_l_cell_at) s.heap.objs.size f cdv))) :
    PSs (cxOf CX0 P w K mg base ["script", "k"] "_law_cell_at" (defScope s_l_cell_at) f cdv A outer s H E).nox (defBody s_l_cell_at) (t_l_cell_at K) := by
  have hu : (cxOf CX0 P w K mg base ["script", "k"] "_law_cell_at" (defScope s_l_cell_at) f cdv A outer s H E).nox.A.units + 64 < cLine := hr.units
  have hu5 : (cxOf CX0 P w K mg base ["script", "k"] "_law_cell_at" (defScope s_l_cell_at) f cdv A outer s H E).nox.A.units + 65 < cLine := room65 hr
  have hu1 : (cxOf CX0 P w K mg base ["script", "k"] "_law_cell_at" (defScope s_l_cell_at) f cdv A outer s H E).nox.A.units + 1 < cLine := room1 hr
  unfold t_l_cell_at
  exact (pss_cons (ps_if (pt_cmpR o_lt (pv 1) (pe_callB o_len (by rfl) m_len (by decide +kernel) (pa_cons (pv 0) pa_nil)) (nomark _)) (pss_one (ps_ret (pe_ix ix_seq (pv 0) (pv 1) (fun _ _ => rfl)))) pss_nil)
    (pss_one (ps_ret pe_int)))
abbrev s_l_stir : Stmt := topS 15
theorem sc_l_stir : FnScope ["cell", "k", "one"] ["cell", "k"] (defScope s_l_stir) := ⟨rfl, rfl, rfl, by decide +kernel, rfl, by decide +kernel, by decide +kernel⟩
def t_l_stir (K : PySem.W.Frag) : TS :=
  (tSeq (tAsg (tOp dMod (tOp dMul (tOp (dAdd K) (tOp (dAdd K) (tOp dMod (tVar 0) (tC (.int 2147483629))) (tOp dMul (tC (.int 9973)) (tVar 1))) (tC (.int 5))) (tC (.int 48271))) (tC (.int 2147483647))) (gName 2))
    (tSeq (tAsg (tOp dMod (tOp dMul (tVar 2) (tVar 2)) (tC (.int 2147483587))) (gName 2))
    (tRet (tOp dDiv (tOp dMod (tOp dMul (tOp (dAdd K) (tVar 2) (tOp dMul (tC (.int 7919)) (tVar 1))) (tC (.int 16807))) (tC (.int 2147483563))) (tC (.int 8))))))
theorem wk_l_stir {P : Program} {w : World} {K : PySem.W.Frag} {mg : Str → Option Value} {base : Heap} {k : Nat}
    (f : Addr) (cdv : Value) (A : Around) (outer : List Env) (s : Shared) (H : Hp) (E : XK) (hr : Room k (A.deeper (envOfC "_law_stir" (defScope s_l_stir) s.heap.objs.size f cdv))) :
    PSs (cxOf CX0 P w K mg base ["cell", "k", "one"] "_law_stir" (defScope s_l_stir) f cdv A outer s H E).nox (defBody s_l_stir) (t_l_stir K) := by
  have hu : (cxOf CX0 P w K mg base ["cell", "k", "one"] "_law_stir" (defScope s_l_stir) f cdv A outer s H E).nox.A.units + 64 < cLine := hr.units
  have hu5 : (cxOf CX0 P w K mg base ["cell", "k", "one"] "_law_stir" (defScope s_l_stir) f cdv A outer s H E).nox.A.units + 65 < cLine := room65 hr
  have hu1 : (cxOf CX0 P w K mg base ["cell", "k", "one"] "_law_stir" (defScope s_l_stir) f cdv A outer s H E).nox.A.units + 1 < cLine := room1 hr
  unfold t_l_stir
  exact (pss_cons (ps_set (i := 2) sc_l_stir.nd rfl (by first | exact Or.inl rfl | exact Or.inr rfl) (pe_op o_mod (pe_op o_mul (pe_op o_add (pe_op o_add (pe_op o_mod (pv 0) pe_int) (pe_op o_mul pe_int (pv 1))) pe_int) pe_int) pe_int))
    (pss_cons (ps_set (i := 2) sc_l_stir.nd rfl (by first | exact Or.inl rfl | exact Or.inr rfl) (pe_op o_mod (pe_op o_mul (pv 2) (pv 2)) pe_int))
    (pss_one (ps_ret (pe_op o_div (pe_op o_mod (pe_op o_mul (pe_op o_add (pv 2) (pe_op o_mul pe_int (pv 1))) pe_int) pe_int) pe_int)))))
abbrev s_l_deck : Stmt := topS 16
theorem sc_l_deck : FnScope ["cell", "many", "found", "digits", "k", "number"] ["cell", "many"] (defScope s_l_deck) := ⟨rfl, rfl, rfl, by decide +kernel, rfl, by decide +kernel, by decide +kernel⟩
def t_l_deck (K : PySem.W.Frag) (sp_l_stir : Sp) : TS :=
  (tSeq (tAsg (tLst tNil) (gName 2))
    (tSeq (tAsg (tVar 0) (gName 3))
    (tSeq (tFor (iRng1 (tCons (tVar 1) tNil)) (gName 4) (tSeq (tAsg (tCall sp_l_stir [] E0 (tCons (tVar 0) (tCons (tVar 4) tNil))) (gName 5))
    (tSeq (tIfS (tTest (tOp dGe (tVar 0) (tOp dPow (tC (.int 10)) (tC (.int 18))))) (tAsg (tOp dMod (tVar 3) (tC (.int 720720))) (gName 5)) tNext)
    (tSeq (tAsg (tOp dDiv (tVar 3) (tC (.int 720720))) (gName 3))
    (tDrop (tBM K "list" rAppend (tVar 2) (tCons (tVar 5) tNil)))))))
    (tRet (tRevL K (tVar 2))))))
theorem wk_l_deck {P : Program} {w : World} {K : PySem.W.Frag} {mg : Str → Option Value} {base : Heap} {k : Nat} {sp_l_stir : Sp}
    (c_l_stir : Cal P w K mg base CX0 k "_law_stir" ["cell", "k"] sp_l_stir) (m_range : mg "range" = none)
    (f : Addr) (cdv : Value) (A : Around) (outer : List Env) (s : Shared) (H : Hp) (E : XK) (hr : Room k (A.deeper (envOfC "_law_deck" (defScope s_l_deck) s.heap.objs.size f cdv))) :
    PSs (cxOf CX0 P w K mg base ["cell", "many", "found", "digits", "k", "number"] "_law_deck" (defScope s_l_deck) f cdv A outer s H E).nox (defBody s_l_deck) (t_l_deck K sp_l_stir) := by
  have hu : (cxOf CX0 P w K mg base ["cell", "many", "found", "digits", "k", "number"] "_law_deck" (defScope s_l_deck) f cdv A outer s H E).nox.A.units + 64 < cLine := hr.units
  have hu5 : (cxOf CX0 P w K mg base ["cell", "many", "found", "digits", "k", "number"] "_law_deck" (defScope s_l_deck) f cdv A outer s H E).nox.A.units + 65 < cLine := room65 hr
  have hu1 : (cxOf CX0 P w K mg base ["cell", "many", "found", "digits", "k", "number"] "_law_deck" (defScope s_l_deck) f cdv A outer s H E).nox.A.units + 1 < cLine := room1 hr
  unfold t_l_deck
  exact (pss_cons (ps_set (i := 2) sc_l_deck.nd rfl (by first | exact Or.inl rfl | exact Or.inr rfl) (pe_lst pa_nil))
    (pss_cons (ps_set (i := 3) sc_l_deck.nd rfl (by first | exact Or.inl rfl | exact Or.inr rfl) (pv 0))
    (pss_cons (ps_for PassesOwn.never rfl (pi_range1 (by rfl) m_range (pa_cons (pv 1) pa_nil)) (pg_name (i := 4) sc_l_deck.nd rfl (by first | exact Or.inl rfl | exact Or.inr rfl)) (pss_cons (ps_set (i := 5) sc_l_deck.nd rfl (by first | exact Or.inl rfl | exact Or.inr rfl) (pe_c c_l_stir hr (by rfl) (pa_cons (pv 0) (pa_cons (pv 4) pa_nil))))
    (pss_cons (ps_if (pt_cmpR o_ge (pv 0) (pe_op o_pow pe_int pe_int) (nomark _)) (pss_one (ps_set (i := 5) sc_l_deck.nd rfl (by first | exact Or.inl rfl | exact Or.inr rfl) (pe_op o_mod (pv 3) pe_int))) pss_nil)
    (pss_cons (ps_set (i := 3) sc_l_deck.nd rfl (by first | exact Or.inl rfl | exact Or.inr rfl) (pe_op o_div (pv 3) pe_int))
    (pss_one (ps_expr (pe_bm PySem.F.plainAttrs_list PySem.F.slot_list_append PySem.F.type_list_append mt_append (pv 2) (pa_cons (pv 5) pa_nil))))))))
    (pss_one (ps_ret (pe_revL (pv 2)))))))
abbrev s_l_next : Stmt := topS 17
theorem sc_l_next : FnScope ["deck"] ["deck"] (defScope s_l_next) := ⟨rfl, rfl, rfl, by decide +kernel, rfl, by decide +kernel, by decide +kernel⟩
def t_l_next (K : PySem.W.Frag) : TS :=
  (tSeq (tIfS (tTest (tOp (dEq K) (tVar 0) (tLst tNil))) (tRet (tC (.int 0))) tNext)
    (tRet (tBM0 K "list" rPop (tVar 0))))
theorem wk_l_next {P : Program} {w : World} {K : PySem.W.Frag} {mg : Str → Option Value} {base : Heap} {k : Nat}
    (f : Addr) (cdv : Value) (A : Around) (outer : List Env) (s : Shared) (H : Hp) (E : XK) (hr : Room k (A.deeper (envOfC "_law_next" (defScope s_l_next) s.heap.objs.size f cdv))) :
    PSs (cxOf CX0 P w K mg base ["deck"] "_law_next" (defScope s_l_next) f cdv A outer s H E).nox (defBody s_l_next) (t_l_next K) := by
  have hu : (cxOf CX0 P w K mg base ["deck"] "_law_next" (defScope s_l_next) f cdv A outer s H E).nox.A.units + 64 < cLine := hr.units
  have hu5 : (cxOf CX0 P w K mg base ["deck"] "_law_next" (defScope s_l_next) f cdv A outer s H E).nox.A.units + 65 < cLine := room65 hr
  have hu1 : (cxOf CX0 P w K mg base ["deck"] "_law_next" (defScope s_l_next) f cdv A outer s H E).nox.A.units + 1 < cLine := room1 hr
  unfold t_l_next
  exact (pss_cons (ps_if (pt_cmpR (o_eq hu) (pv 0) (pe_lst pa_nil) (nomark _)) (pss_one (ps_ret pe_int)) pss_nil)
    (pss_one (ps_ret (pe_bm0 PySem.F.plainAttrs_list PySem.F.slot_list_pop PySem.F.type_list_pop mt_pop (pv 0)))))
abbrev s_l_thing : Stmt := topS 18
theorem sc_l_thing : FnScope ["deck", "m", "boxes", "deep", "way", "word"] ["deck", "m", "boxes", "deep"] (defScope s_l_thing) := ⟨rfl, rfl, rfl, by decide +kernel, rfl, by decide +kernel, by decide +kernel⟩
def t_l_thing (K : PySem.W.Frag) (sp_l_thing : Sp) (sp_l_next : Sp) : TS :=
  (tSeq (tAsg (tOp dMod (tCall sp_l_next [] E0 (tCons (tVar 0) tNil)) (tC (.int 8))) (gName 4))
    (tSeq (tIfS (tOr (tTest (tOp dLt (tVar 3) (tC (.int 2)))) (tTest (tOp dLt (tVar 4) (tC (.int 2))))) (tSeq (tIfS (tTest (tOp (dEq K) (tOp dMod (tCall sp_l_next [] E0 (tCons (tVar 0) tNil)) (tC (.int 2))) (tC (.int 0)))) (tRet (tTup (tCons (tC (.str "number")) (tCons (tOp dMod (tCall sp_l_next [] E0 (tCons (tVar 0) tNil)) (tVar 1)) tNil)))) tNext)
    (tRet (tTup (tCons (tC (.str "box")) (tCons (tOp (rIx K) (tVar 2) (tOp dMod (tCall sp_l_next [] E0 (tCons (tVar 0) tNil)) (tCB (dLen K) (tCons (tVar 2) tNil)))) tNil))))) tNext)
    (tSeq (tAsg (tOp (rIx K) (tLst (tCons (tC (.str "plus")) (tCons (tC (.str "times")) (tCons (tC (.str "less")) (tCons (tC (.str "same")) (tCons (tC (.str "plus")) (tCons (tC (.str "times")) tNil))))))) (tOp dSub (tVar 4) (tC (.int 2)))) (gName 5))
    (tRet (tTup (tCons (tVar 5) (tCons (tCall sp_l_thing [] E0 (tCons (tVar 0) (tCons (tVar 1) (tCons (tVar 2) (tCons (tOp dSub (tVar 3) (tC (.int 1))) tNil))))) (tCons (tCall sp_l_thing [] E0 (tCons (tVar 0) (tCons (tVar 1) (tCons (tVar 2) (tCons (tOp dSub (tVar 3) (tC (.int 1))) tNil))))) tNil))))))))
theorem wk_l_thing {P : Program} {w : World} {K : PySem.W.Frag} {mg : Str → Option Value} {base : Heap} {k : Nat} {sp_l_thing : Sp} {sp_l_next : Sp}
    (c_l_thing : Cal P w K mg base CX0 k "_law_thing" ["deck", "m", "boxes", "deep"] sp_l_thing)
    (c_l_next : Cal P w K mg base CX0 k "_law_next" ["deck"] sp_l_next) (m_len : mg "len" = none)
    (f : Addr) (cdv : Value) (A : Around) (outer : List Env) (s : Shared) (H : Hp) (E : XK) (hr : Room k (A.deeper (envOfC "_law_thing" (defScope s_l_thing) s.heap.objs.size f cdv))) :
    PSs (cxOf CX0 P w K mg base ["deck", "m", "boxes", "deep", "way", "word"] "_law_thing" (defScope s_l_thing) f cdv A outer s H E).nox (defBody s_l_thing) (t_l_thing K sp_l_thing sp_l_next) := by
  have hu : (cxOf CX0 P w K mg base ["deck", "m", "boxes", "deep", "way", "word"] "_law_thing" (defScope s_l_thing) f cdv A outer s H E).nox.A.units + 64 < cLine := hr.units
  have hu5 : (cxOf CX0 P w K mg base ["deck", "m", "boxes", "deep", "way", "word"] "_law_thing" (defScope s_l_thing) f cdv A outer s H E).nox.A.units + 65 < cLine := room65 hr
  have hu1 : (cxOf CX0 P w K mg base ["deck", "m", "boxes", "deep", "way", "word"] "_law_thing" (defScope s_l_thing) f cdv A outer s H E).nox.A.units + 1 < cLine := room1 hr
  unfold t_l_thing
  exact (pss_cons (ps_set (i := 4) sc_l_thing.nd rfl (by first | exact Or.inl rfl | exact Or.inr rfl) (pe_op o_mod (pe_c c_l_next hr (by rfl) (pa_cons (pv 0) pa_nil)) pe_int))
    (pss_cons (ps_if (PW.pt (pw_or (pt_cmpR o_lt (pv 3) pe_int (nomark _)) (pw_or1 (pt_cmpR o_lt (pv 4) pe_int (nomark _))))) (pss_cons (ps_if (pt_cmpR (o_eq hu) (pe_op o_mod (pe_c c_l_next hr (by rfl) (pa_cons (pv 0) pa_nil)) pe_int) pe_int (nomark _)) (pss_one (ps_ret (pe_tup (pa_cons pe_str (pa_cons (pe_op o_mod (pe_c c_l_next hr (by rfl) (pa_cons (pv 0) pa_nil)) (pv 1)) pa_nil))))) pss_nil)
    (pss_one (ps_ret (pe_tup (pa_cons pe_str (pa_cons (pe_ix ix_seq (pv 2) (pe_op o_mod (pe_c c_l_next hr (by rfl) (pa_cons (pv 0) pa_nil)) (pe_callB o_len (by rfl) m_len (by decide +kernel) (pa_cons (pv 2) pa_nil))) (fun _ _ => rfl)) pa_nil)))))) pss_nil)
    (pss_cons (ps_set (i := 5) sc_l_thing.nd rfl (by first | exact Or.inl rfl | exact Or.inr rfl) (pe_ix ix_seq (pe_lst (pa_cons pe_str (pa_cons pe_str (pa_cons pe_str (pa_cons pe_str (pa_cons pe_str (pa_cons pe_str pa_nil))))))) (pe_op o_sub (pv 4) pe_int) (fun _ _ => rfl)))
    (pss_one (ps_ret (pe_tup (pa_cons (pv 5) (pa_cons (pe_c c_l_thing hr (by rfl) (pa_cons (pv 0) (pa_cons (pv 1) (pa_cons (pv 2) (pa_cons (pe_op o_sub (pv 3) pe_int) pa_nil))))) (pa_cons (pe_c c_l_thing hr (by rfl) (pa_cons (pv 0) (pa_cons (pv 1) (pa_cons (pv 2) (pa_cons (pe_op o_sub (pv 3) pe_int) pa_nil))))) pa_nil)))))))))
abbrev s_l_row : Stmt := topS 19
theorem sc_l_row : FnScope ["deck", "m", "boxes", "wide", "way", "thing", "many", "things", "k"] ["deck", "m", "boxes", "wide"] (defScope s_l_row) := ⟨rfl, rfl, rfl, by decide +kernel, rfl, by decide +kernel, by decide +kernel⟩
def t_l_row (K : PySem.W.Frag) (sp_l_next : Sp) (sp_l_thing : Sp) : TS :=
  (tSeq (tAsg (tOp dMod (tCall sp_l_next [] E0 (tCons (tVar 0) tNil)) (tC (.int 10))) (gName 4))
    (tSeq (tAsg (tCall sp_l_thing [] E0 (tCons (tVar 0) (tCons (tVar 1) (tCons (tVar 2) (tCons (tOp (rIx K) (tLst (tCons (tC (.int 1)) (tCons (tC (.int 2)) (tCons (tC (.int 2)) (tCons (tC (.int 4)) tNil))))) (tOp dMod (tCall sp_l_next [] E0 (tCons (tVar 0) tNil)) (tC (.int 4)))) tNil))))) (gName 5))
    (tSeq (tIfS (tTest (tOp dLt (tVar 4) (tC (.int 2)))) (tRet (tTup (tCons (tC (.str "set")) (tCons (tOp (rIx K) (tVar 2) (tOp dMod (tCall sp_l_next [] E0 (tCons (tVar 0) tNil)) (tCB (dLen K) (tCons (tVar 2) tNil)))) (tCons (tVar 5) tNil))))) tNext)
    (tSeq (tIfS (tTest (tOp dLt (tVar 4) (tC (.int 6)))) (tSeq (tAsg (tCB (dMin K) (tCons (tOp (dAdd K) (tC (.int 1)) (tOp dMod (tCall sp_l_next [] E0 (tCons (tVar 0) tNil)) (tC (.int 5)))) (tCons (tCB (dMax K) (tCons (tC (.int 1)) (tCons (tVar 3) tNil))) tNil))) (gName 6))
    (tSeq (tAsg (tOp (dAdd K) (tLst (tCons (tVar 5) tNil)) (tLc (iRng1 (tCons (tOp dSub (tVar 6) (tC (.int 1))) tNil)) (gName 8) tYes (tCall sp_l_thing [] E0 (tCons (tVar 0) (tCons (tVar 1) (tCons (tVar 2) (tCons (tOp (dAdd K) (tC (.int 1)) (tOp dMod (tCall sp_l_next [] E0 (tCons (tVar 0) tNil)) (tC (.int 2)))) tNil))))) [8])) (gName 7))
    (tRet (tTup (tCons (tC (.str "pick")) (tCons (tOp (rIx K) (tVar 2) (tOp dMod (tCall sp_l_next [] E0 (tCons (tVar 0) tNil)) (tCB (dLen K) (tCons (tVar 2) tNil)))) (tCons (tVar 7) tNil))))))) tNext)
    (tSeq (tIfS (tTest (tOp (dEq K) (tVar 4) (tC (.int 6)))) (tRet (tTup (tCons (tC (.str "need")) (tCons (tVar 5) tNil)))) tNext)
    (tSeq (tIfS (tTest (tOp (dEq K) (tVar 4) (tC (.int 7)))) (tRet (tTup (tCons (tC (.str "skip")) (tCons (tVar 5) (tCons (tOp (dAdd K) (tC (.int 1)) (tOp dMod (tCall sp_l_next [] E0 (tCons (tVar 0) tNil)) (tOp (rIx K) (tLst (tCons (tC (.int 4)) (tCons (tC (.int 4)) (tCons (tC (.int 30)) tNil)))) (tOp dMod (tCall sp_l_next [] E0 (tCons (tVar 0) tNil)) (tC (.int 3)))))) tNil))))) tNext)
    (tRet (tTup (tCons (tC (.str "give")) (tCons (tVar 5) tNil))))))))))
theorem wk_l_row {P : Program} {w : World} {K : PySem.W.Frag} {mg : Str → Option Value} {base : Heap} {k : Nat} {sp_l_next : Sp} {sp_l_thing : Sp}
    (c_l_next : Cal P w K mg base CX0 k "_law_next" ["deck"] sp_l_next)
    (c_l_thing : Cal P w K mg base CX0 k "_law_thing" ["deck", "m", "boxes", "deep"] sp_l_thing) (m_len : mg "len" = none) (m_range : mg "range" = none) (m_min : mg "min" = none) (m_max : mg "max" = none)
    (f : Addr) (cdv : Value) (A : Around) (outer : List Env) (s : Shared) (H : Hp) (E : XK) (hr : Room k (A.deeper (envOfC "_law_row" (defScope s_l_row) s.heap.objs.size f cdv))) :
    PSs (cxOf CX0 P w K mg base ["deck", "m", "boxes", "wide", "way", "thing", "many", "things", "k"] "_law_row" (defScope s_l_row) f cdv A outer s H E).nox (defBody s_l_row) (t_l_row K sp_l_next sp_l_thing) := by
  have hu : (cxOf CX0 P w K mg base ["deck", "m", "boxes", "wide", "way", "thing", "many", "things", "k"] "_law_row" (defScope s_l_row) f cdv A outer s H E).nox.A.units + 64 < cLine := hr.units
  have hu5 : (cxOf CX0 P w K mg base ["deck", "m", "boxes", "wide", "way", "thing", "many", "things", "k"] "_law_row" (defScope s_l_row) f cdv A outer s H E).nox.A.units + 65 < cLine := room65 hr
  have hu1 : (cxOf CX0 P w K mg base ["deck", "m", "boxes", "wide", "way", "thing", "many", "things", "k"] "_law_row" (defScope s_l_row) f cdv A outer s H E).nox.A.units + 1 < cLine := room1 hr
  unfold t_l_row
  exact (pss_cons (ps_set (i := 4) sc_l_row.nd rfl (by first | exact Or.inl rfl | exact Or.inr rfl) (pe_op o_mod (pe_c c_l_next hr (by rfl) (pa_cons (pv 0) pa_nil)) pe_int))
    (pss_cons (ps_set (i := 5) sc_l_row.nd rfl (by first | exact Or.inl rfl | exact Or.inr rfl) (pe_c c_l_thing hr (by rfl) (pa_cons (pv 0) (pa_cons (pv 1) (pa_cons (pv 2) (pa_cons (pe_ix ix_seq (pe_lst (pa_cons pe_int (pa_cons pe_int (pa_cons pe_int (pa_cons pe_int pa_nil))))) (pe_op o_mod (pe_c c_l_next hr (by rfl) (pa_cons (pv 0) pa_nil)) pe_int) (fun _ _ => rfl)) pa_nil))))))
    (pss_cons (ps_if (pt_cmpR o_lt (pv 4) pe_int (nomark _)) (pss_one (ps_ret (pe_tup (pa_cons pe_str (pa_cons (pe_ix ix_seq (pv 2) (pe_op o_mod (pe_c c_l_next hr (by rfl) (pa_cons (pv 0) pa_nil)) (pe_callB o_len (by rfl) m_len (by decide +kernel) (pa_cons (pv 2) pa_nil))) (fun _ _ => rfl)) (pa_cons (pv 5) pa_nil)))))) pss_nil)
    (pss_cons (ps_if (pt_cmpR o_lt (pv 4) pe_int (nomark _)) (pss_cons (ps_set (i := 6) sc_l_row.nd rfl (by first | exact Or.inl rfl | exact Or.inr rfl) (pe_callB (o_min rfl) (by rfl) m_min (by decide +kernel) (pa_cons (pe_op o_add pe_int (pe_op o_mod (pe_c c_l_next hr (by rfl) (pa_cons (pv 0) pa_nil)) pe_int)) (pa_cons (pe_callB (o_max rfl) (by rfl) m_max (by decide +kernel) (pa_cons pe_int (pa_cons (pv 3) pa_nil))) pa_nil))))
    (pss_cons (ps_set (i := 7) sc_l_row.nd rfl (by first | exact Or.inl rfl | exact Or.inr rfl) (pe_op o_add (pe_lst (pa_cons (pv 5) pa_nil)) (pe_lc (own := [("k", 8)]) (g := (gName 8)) (tt := tYes) rfl sc_l_row.nd (pi_range1 (by rfl) m_range (pa_cons (pe_op o_sub (pv 6) pe_int) pa_nil)) (blkOk_by (N := ["deck", "m", "boxes", "wide", "way", "thing", "many", "things", "k"]) (sc := defScope s_l_row) (by decide +kernel)) (fun _ _ _ _ _ => (pg_name (i := 8) sc_l_row.nd rfl (by first | exact Or.inl rfl | exact Or.inr rfl))) (fun _ _ _ _ _ => pts_nil) (fun _ _ _ _ _ => (pe_c c_l_thing hr (by rfl) (pa_cons (pv 0) (pa_cons (pv 1) (pa_cons (pv 2) (pa_cons (pe_op o_add pe_int (pe_op o_mod (pe_c c_l_next hr (by rfl) (pa_cons (pv 0) pa_nil)) pe_int)) pa_nil)))))))))
    (pss_one (ps_ret (pe_tup (pa_cons pe_str (pa_cons (pe_ix ix_seq (pv 2) (pe_op o_mod (pe_c c_l_next hr (by rfl) (pa_cons (pv 0) pa_nil)) (pe_callB o_len (by rfl) m_len (by decide +kernel) (pa_cons (pv 2) pa_nil))) (fun _ _ => rfl)) (pa_cons (pv 7) pa_nil)))))))) pss_nil)
    (pss_cons (ps_if (pt_cmpR (o_eq hu) (pv 4) pe_int (nomark _)) (pss_one (ps_ret (pe_tup (pa_cons pe_str (pa_cons (pv 5) pa_nil))))) pss_nil)
    (pss_cons (ps_if (pt_cmpR (o_eq hu) (pv 4) pe_int (nomark _)) (pss_one (ps_ret (pe_tup (pa_cons pe_str (pa_cons (pv 5) (pa_cons (pe_op o_add pe_int (pe_op o_mod (pe_c c_l_next hr (by rfl) (pa_cons (pv 0) pa_nil)) (pe_ix ix_seq (pe_lst (pa_cons pe_int (pa_cons pe_int (pa_cons pe_int pa_nil)))) (pe_op o_mod (pe_c c_l_next hr (by rfl) (pa_cons (pv 0) pa_nil)) pe_int) (fun _ _ => rfl)))) pa_nil)))))) pss_nil)
    (pss_one (ps_ret (pe_tup (pa_cons pe_str (pa_cons (pv 5) pa_nil)))))))))))
abbrev s_l_boxes : Stmt := topS 20
theorem sc_l_boxes : FnScope ["deck", "spare", "boxes", "k"] ["deck"] (defScope s_l_boxes) := ⟨rfl, rfl, rfl, by decide +kernel, rfl, by decide +kernel, by decide +kernel⟩
def t_l_boxes (K : PySem.W.Frag) (sp_l_next : Sp) : TS :=
  (tSeq (tAsg (tLst (tCons (tC (.str "a")) (tCons (tC (.str "b")) (tCons (tC (.str "ab")) (tCons (tC (.str "zzzzzzzz")) (tCons (tC (.str "give")) (tCons (tC (.str "if")) (tCons (tC (.str "x")) tNil)))))))) (gName 1))
    (tSeq (tAsg (tLc (iRng1 (tCons (tOp (rIx K) (tLst (tCons (tC (.int 1)) (tCons (tC (.int 2)) (tCons (tC (.int 2)) (tCons (tC (.int 3)) (tCons (tC (.int 5)) tNil)))))) (tOp dMod (tCall sp_l_next [] E0 (tCons (tVar 0) tNil)) (tC (.int 5)))) tNil)) (gName 3) tYes (tBM K "list" rPopAt (tVar 1) (tCons (tOp dMod (tCall sp_l_next [] E0 (tCons (tVar 0) tNil)) (tCB (dLen K) (tCons (tVar 1) tNil))) tNil)) [3]) (gName 2))
    (tRet (tTup (tCons (tOp (dAdd K) (tC (.int 2)) (tOp dMod (tCall sp_l_next [] E0 (tCons (tVar 0) tNil)) (tC (.int 15)))) (tCons (tVar 2) tNil))))))
theorem wk_l_boxes {P : Program} {w : World} {K : PySem.W.Frag} {mg : Str → Option Value} {base : Heap} {k : Nat} {sp_l_next : Sp}
    (c_l_next : Cal P w K mg base CX0 k "_law_next" ["deck"] sp_l_next) (m_range : mg "range" = none) (m_len : mg "len" = none)
    (f : Addr) (cdv : Value) (A : Around) (outer : List Env) (s : Shared) (H : Hp) (E : XK) (hr : Room k (A.deeper (envOfC "_law_boxes" (defScope s_l_boxes) s.heap.objs.size f cdv))) :
    PSs (cxOf CX0 P w K mg base ["deck", "spare", "boxes", "k"] "_law_boxes" (defScope s_l_boxes) f cdv A outer s H E).nox (defBody s_l_boxes) (t_l_boxes K sp_l_next) := by
  have hu : (cxOf CX0 P w K mg base ["deck", "spare", "boxes", "k"] "_law_boxes" (defScope s_l_boxes) f cdv A outer s H E).nox.A.units + 64 < cLine := hr.units
  have hu5 : (cxOf CX0 P w K mg base ["deck", "spare", "boxes", "k"] "_law_boxes" (defScope s_l_boxes) f cdv A outer s H E).nox.A.units + 65 < cLine := room65 hr
  have hu1 : (cxOf CX0 P w K mg base ["deck", "spare", "boxes", "k"] "_law_boxes" (defScope s_l_boxes) f cdv A outer s H E).nox.A.units + 1 < cLine := room1 hr
  unfold t_l_boxes
  exact (pss_cons (ps_set (i := 1) sc_l_boxes.nd rfl (by first | exact Or.inl rfl | exact Or.inr rfl) (pe_lst (pa_cons pe_str (pa_cons pe_str (pa_cons pe_str (pa_cons pe_str (pa_cons pe_str (pa_cons pe_str (pa_cons pe_str pa_nil)))))))))
    (pss_cons (ps_setLc (i := 2) (own := [("k", 3)]) (g := (gName 3)) (tt := tYes) rfl sc_l_boxes.nd rfl rfl (sw_true rfl rfl rfl (by decide +kernel)) (pi_range1 (by rfl) m_range (pa_cons (pe_ix ix_seq (pe_lst (pa_cons pe_int (pa_cons pe_int (pa_cons pe_int (pa_cons pe_int (pa_cons pe_int pa_nil)))))) (pe_op o_mod (pe_c c_l_next hr (by rfl) (pa_cons (pv 0) pa_nil)) pe_int) (fun _ _ => rfl)) pa_nil)) (blkOk_by (N := ["deck", "spare", "boxes", "k"]) (sc := defScope s_l_boxes) (by decide +kernel)) (fun _ _ _ _ _ => (pg_name (i := 3) sc_l_boxes.nd rfl (by first | exact Or.inl rfl | exact Or.inr rfl))) (fun _ _ _ _ _ => pts_nil) (fun _ _ _ _ _ => (pe_bm PySem.F.plainAttrs_list PySem.F.slot_list_pop PySem.F.type_list_pop mt_popAt (pv 1) (pa_cons (pe_op o_mod (pe_c c_l_next hr (by rfl) (pa_cons (pv 0) pa_nil)) (pe_callB o_len (by rfl) m_len (by decide +kernel) (pa_cons (pv 1) pa_nil))) pa_nil))))
    (pss_one (ps_ret (pe_tup (pa_cons (pe_op o_add pe_int (pe_op o_mod (pe_c c_l_next hr (by rfl) (pa_cons (pv 0) pa_nil)) pe_int)) (pa_cons (pv 2) pa_nil)))))))
abbrev s_l_program : Stmt := topS 21
theorem sc_l_program : FnScope ["deck", "m", "boxes", "most", "wide", "rows", "k", "row"] ["deck", "m", "boxes", "most", "wide"] (defScope s_l_program) := ⟨rfl, rfl, rfl, by decide +kernel, rfl, by decide +kernel, by decide +kernel⟩
def t_l_program (K : PySem.W.Frag) (sp_l_next : Sp) (sp_l_row : Sp) : TS :=
  (tSeq (tAsg (tLst tNil) (gName 5))
    (tSeq (tFor (iRng1 (tCons (tOp dMod (tCall sp_l_next [] E0 (tCons (tVar 0) tNil)) (tOp (dAdd K) (tVar 3) (tC (.int 1)))) tNil)) (gName 6) (tSeq (tAsg (tCall sp_l_row [] E0 (tCons (tVar 0) (tCons (tVar 1) (tCons (tVar 2) (tCons (tVar 4) tNil))))) (gName 7))
    (tSeq (tIfS (tTest (tOp (dEq K) (tOp (rIx K) (tVar 7) (tC (.int 0))) (tC (.str "pick")))) (tAsg (tOp dDiv (tVar 4) (tCB (dLen K) (tCons (tOp (rIx K) (tVar 7) (tC (.int 2))) tNil))) (gName 4)) tNext)
    (tSeq (tIfS (tAnd (tTest (tOp (dEq K) (tOp (rIx K) (tVar 7) (tC (.int 0))) (tC (.str "give")))) (tAnd (tTest (tOp dLt (tVar 6) (tC (.int 3)))) (tTest (tOp dGt (tOp dMod (tCall sp_l_next [] E0 (tCons (tVar 0) tNil)) (tC (.int 4))) (tC (.int 0)))))) (tAsg (tTup (tCons (tC (.str "set")) (tCons (tOp (rIx K) (tVar 2) (tC (.int 0))) (tCons (tOp (rIx K) (tVar 7) (tC (.int 1))) tNil)))) (gName 7)) tNext)
    (tDrop (tBM K "list" rAppend (tVar 5) (tCons (tVar 7) tNil)))))))
    (tRet (tTup (tCons (tVar 1) (tCons (tCB (dList K) (tCons (tVar 2) tNil)) (tCons (tVar 5) tNil)))))))
theorem wk_l_program {P : Program} {w : World} {K : PySem.W.Frag} {mg : Str → Option Value} {base : Heap} {k : Nat} {sp_l_next : Sp} {sp_l_row : Sp}
    (c_l_next : Cal P w K mg base CX0 k "_law_next" ["deck"] sp_l_next)
    (c_l_row : Cal P w K mg base CX0 k "_law_row" ["deck", "m", "boxes", "wide"] sp_l_row) (m_list : mg "list" = none) (m_range : mg "range" = none) (m_len : mg "len" = none)
    (f : Addr) (cdv : Value) (A : Around) (outer : List Env) (s : Shared) (H : Hp) (E : XK) (hr : Room k (A.deeper (envOfC "_law_program" (defScope s_l_program) s.heap.objs.size f cdv))) :
    PSs (cxOf CX0 P w K mg base ["deck", "m", "boxes", "most", "wide", "rows", "k", "row"] "_law_program" (defScope s_l_program) f cdv A outer s H E).nox (defBody s_l_program) (t_l_program K sp_l_next sp_l_row) := by
  have hu : (cxOf CX0 P w K mg base ["deck", "m", "boxes", "most", "wide", "rows", "k", "row"] "_law_program" (defScope s_l_program) f cdv A outer s H E).nox.A.units + 64 < cLine := hr.units
  have hu5 : (cxOf CX0 P w K mg base ["deck", "m", "boxes", "most", "wide", "rows", "k", "row"] "_law_program" (defScope s_l_program) f cdv A outer s H E).nox.A.units + 65 < cLine := room65 hr
  have hu1 : (cxOf CX0 P w K mg base ["deck", "m", "boxes", "most", "wide", "rows", "k", "row"] "_law_program" (defScope s_l_program) f cdv A outer s H E).nox.A.units + 1 < cLine := room1 hr
  unfold t_l_program
  exact (pss_cons (ps_set (i := 5) sc_l_program.nd rfl (by first | exact Or.inl rfl | exact Or.inr rfl) (pe_lst pa_nil))
    (pss_cons (ps_for PassesOwn.never rfl (pi_range1 (by rfl) m_range (pa_cons (pe_op o_mod (pe_c c_l_next hr (by rfl) (pa_cons (pv 0) pa_nil)) (pe_op o_add (pv 3) pe_int)) pa_nil)) (pg_name (i := 6) sc_l_program.nd rfl (by first | exact Or.inl rfl | exact Or.inr rfl)) (pss_cons (ps_set (i := 7) sc_l_program.nd rfl (by first | exact Or.inl rfl | exact Or.inr rfl) (pe_c c_l_row hr (by rfl) (pa_cons (pv 0) (pa_cons (pv 1) (pa_cons (pv 2) (pa_cons (pv 4) pa_nil))))))
    (pss_cons (ps_if (pt_cmpR (o_eq hu) (pe_ix ix_seq (pv 7) pe_int (fun _ _ => rfl)) pe_str (nomark _)) (pss_one (ps_set (i := 4) sc_l_program.nd rfl (by first | exact Or.inl rfl | exact Or.inr rfl) (pe_op o_div (pv 4) (pe_callB o_len (by rfl) m_len (by decide +kernel) (pa_cons (pe_ix ix_seq (pv 7) pe_int (fun _ _ => rfl)) pa_nil))))) pss_nil)
    (pss_cons (ps_if (PW.pt (pw_and (pt_cmpR (o_eq hu) (pe_ix ix_seq (pv 7) pe_int (fun _ _ => rfl)) pe_str (nomark _)) (pw_and (pt_cmpR o_lt (pv 6) pe_int (nomark _)) (pw_and1 (pt_cmpR o_gt (pe_op o_mod (pe_c c_l_next hr (by rfl) (pa_cons (pv 0) pa_nil)) pe_int) pe_int (nomark _)))))) (pss_one (ps_set (i := 7) sc_l_program.nd rfl (by first | exact Or.inl rfl | exact Or.inr rfl) (pe_tup (pa_cons pe_str (pa_cons (pe_ix ix_seq (pv 2) pe_int (fun _ _ => rfl)) (pa_cons (pe_ix ix_seq (pv 7) pe_int (fun _ _ => rfl)) pa_nil)))))) pss_nil)
    (pss_one (ps_expr (pe_bm PySem.F.plainAttrs_list PySem.F.slot_list_append PySem.F.type_list_append mt_append (pv 5) (pa_cons (pv 7) pa_nil))))))))
    (pss_one (ps_ret (pe_tup (pa_cons (pv 1) (pa_cons (pe_callTy o_list (by rfl) m_list (by decide +kernel) (pa_cons (pv 2) pa_nil)) (pa_cons (pv 5) pa_nil))))))))
abbrev s_l_store : Stmt := topS 22
theorem sc_l_store : FnScope ["deck", "program", "box"] ["deck", "program"] (defScope s_l_store) := ⟨rfl, rfl, rfl, by decide +kernel, rfl, by decide +kernel, by decide +kernel⟩
def t_l_store (K : PySem.W.Frag) (sp_l_next : Sp) : TS :=
  (tRet (tCB (dTuple K) (tCons (tLc (iList K (tOp (rIx K) (tVar 1) (tC (.int 1)))) (gName 2) tYes (tOp dMod (tCall sp_l_next [] E0 (tCons (tVar 0) tNil)) (tOp (rIx K) (tVar 1) (tC (.int 0)))) [2]) tNil)))
theorem wk_l_store {P : Program} {w : World} {K : PySem.W.Frag} {mg : Str → Option Value} {base : Heap} {k : Nat} {sp_l_next : Sp}
    (c_l_next : Cal P w K mg base CX0 k "_law_next" ["deck"] sp_l_next) (m_tuple : mg "tuple" = none)
    (f : Addr) (cdv : Value) (A : Around) (outer : List Env) (s : Shared) (H : Hp) (E : XK) (hr : Room k (A.deeper (envOfC "_law_store" (defScope s_l_store) s.heap.objs.size f cdv))) :
    PSs (cxOf CX0 P w K mg base ["deck", "program", "box"] "_law_store" (defScope s_l_store) f cdv A outer s H E).nox (defBody s_l_store) (t_l_store K sp_l_next) := by
  have hu : (cxOf CX0 P w K mg base ["deck", "program", "box"] "_law_store" (defScope s_l_store) f cdv A outer s H E).nox.A.units + 64 < cLine := hr.units
  have hu5 : (cxOf CX0 P w K mg base ["deck", "program", "box"] "_law_store" (defScope s_l_store) f cdv A outer s H E).nox.A.units + 65 < cLine := room65 hr
  have hu1 : (cxOf CX0 P w K mg base ["deck", "program", "box"] "_law_store" (defScope s_l_store) f cdv A outer s H E).nox.A.units + 1 < cLine := room1 hr
  unfold t_l_store
  exact (pss_one (ps_ret (pe_callTy o_tuple (by rfl) m_tuple (by decide +kernel) (pa_cons (pe_lc (own := [("box", 2)]) (g := (gName 2)) (tt := tYes) rfl sc_l_store.nd (pi_list (pe_ix ix_seq (pv 1) pe_int (fun _ _ => rfl))) (blkOk_by (N := ["deck", "program", "box"]) (sc := defScope s_l_store) (by decide +kernel)) (fun _ _ _ _ _ => (pg_name (i := 2) sc_l_store.nd rfl (by first | exact Or.inl rfl | exact Or.inr rfl))) (fun _ _ _ _ _ => pts_nil) (fun _ _ _ _ _ => (pe_op o_mod (pe_c c_l_next hr (by rfl) (pa_cons (pv 0) pa_nil)) (pe_ix ix_seq (pv 1) pe_int (fun _ _ => rfl))))) pa_nil))))
abbrev s_l_copy : Stmt := topS 23
theorem sc_l_copy : FnScope ["program", "rows", "row"] ["program"] (defScope s_l_copy) := ⟨rfl, rfl, rfl, by decide +kernel, rfl, by decide +kernel, by decide +kernel⟩
def t_l_copy (K : PySem.W.Frag) : TS :=
  (tSeq (tAsg (tLst tNil) (gName 1))
    (tSeq (tFor (iList K (tOp (rIx K) (tVar 0) (tC (.int 2)))) (gName 2) (tSeq (tIfS (tTest (tOp (dEq K) (tOp (rIx K) (tVar 2) (tC (.int 0))) (tC (.str "pick")))) (tAsg (tTup (tCons (tC (.str "pick")) (tCons (tOp (rIx K) (tVar 2) (tC (.int 1))) (tCons (tCB (dList K) (tCons (tOp (rIx K) (tVar 2) (tC (.int 2))) tNil)) tNil)))) (gName 2)) tNext)
    (tDrop (tBM K "list" rAppend (tVar 1) (tCons (tVar 2) tNil)))))
    (tRet (tTup (tCons (tOp (rIx K) (tVar 0) (tC (.int 0))) (tCons (tCB (dList K) (tCons (tOp (rIx K) (tVar 0) (tC (.int 1))) tNil)) (tCons (tVar 1) tNil)))))))
theorem wk_l_copy {P : Program} {w : World} {K : PySem.W.Frag} {mg : Str → Option Value} {base : Heap} {k : Nat} (m_list : mg "list" = none)
    (f : Addr) (cdv : Value) (A : Around) (outer : List Env) (s : Shared) (H : Hp) (E : XK) (hr : Room k (A.deeper (envOfC "_law_copy" (defScope s_l_copy) s.heap.objs.size f cdv))) :
    PSs (cxOf CX0 P w K mg base ["program", "rows", "row"] "_law_copy" (defScope s_l_copy) f cdv A outer s H E).nox (defBody s_l_copy) (t_l_copy K) := by
  have hu : (cxOf CX0 P w K mg base ["program", "rows", "row"] "_law_copy" (defScope s_l_copy) f cdv A outer s H E).nox.A.units + 64 < cLine := hr.units
  have hu5 : (cxOf CX0 P w K mg base ["program", "rows", "row"] "_law_copy" (defScope s_l_copy) f cdv A outer s H E).nox.A.units + 65 < cLine := room65 hr
  have hu1 : (cxOf CX0 P w K mg base ["program", "rows", "row"] "_law_copy" (defScope s_l_copy) f cdv A outer s H E).nox.A.units + 1 < cLine := room1 hr
  unfold t_l_copy
  exact (pss_cons (ps_set (i := 1) sc_l_copy.nd rfl (by first | exact Or.inl rfl | exact Or.inr rfl) (pe_lst pa_nil))
    (pss_cons (ps_for PassesOwn.never rfl (pi_list (pe_ix ix_seq (pv 0) pe_int (fun _ _ => rfl))) (pg_name (i := 2) sc_l_copy.nd rfl (by first | exact Or.inl rfl | exact Or.inr rfl)) (pss_cons (ps_if (pt_cmpR (o_eq hu) (pe_ix ix_seq (pv 2) pe_int (fun _ _ => rfl)) pe_str (nomark _)) (pss_one (ps_set (i := 2) sc_l_copy.nd rfl (by first | exact Or.inl rfl | exact Or.inr rfl) (pe_tup (pa_cons pe_str (pa_cons (pe_ix ix_seq (pv 2) pe_int (fun _ _ => rfl)) (pa_cons (pe_callTy o_list (by rfl) m_list (by decide +kernel) (pa_cons (pe_ix ix_seq (pv 2) pe_int (fun _ _ => rfl)) pa_nil)) pa_nil)))))) pss_nil)
    (pss_one (ps_expr (pe_bm PySem.F.plainAttrs_list PySem.F.slot_list_append PySem.F.type_list_append mt_append (pv 1) (pa_cons (pv 2) pa_nil))))))
    (pss_one (ps_ret (pe_tup (pa_cons (pe_ix ix_seq (pv 0) pe_int (fun _ _ => rfl)) (pa_cons (pe_callTy o_list (by rfl) m_list (by decide +kernel) (pa_cons (pe_ix ix_seq (pv 0) pe_int (fun _ _ => rfl)) pa_nil)) (pa_cons (pv 1) pa_nil))))))))
abbrev s_l_worth : Stmt := topS 24
theorem sc_l_worth : FnScope ["program", "thing", "store", "one", "other"] ["program", "thing", "store"] (defScope s_l_worth) := ⟨rfl, rfl, rfl, by decide +kernel, rfl, by decide +kernel, by decide +kernel⟩
def t_l_worth (K : PySem.W.Frag) (sp_l_worth : Sp) : TS :=
  (tSeq (tIfS (tTest (tOp (dEq K) (tOp (rIx K) (tVar 1) (tC (.int 0))) (tC (.str "number")))) (tRet (tOp (rIx K) (tVar 1) (tC (.int 1)))) tNext)
    (tSeq (tIfS (tTest (tOp (dEq K) (tOp (rIx K) (tVar 1) (tC (.int 0))) (tC (.str "box")))) (tRet (tOp (rIx K) (tVar 2) (tBM K "list" (rIndexD K) (tOp (rIx K) (tVar 0) (tC (.int 1))) (tCons (tOp (rIx K) (tVar 1) (tC (.int 1))) tNil)))) tNext)
    (tSeq (tAsg (tCall sp_l_worth [] E0 (tCons (tVar 0) (tCons (tOp (rIx K) (tVar 1) (tC (.int 1))) (tCons (tVar 2) tNil)))) (gName 3))
    (tSeq (tAsg (tCall sp_l_worth [] E0 (tCons (tVar 0) (tCons (tOp (rIx K) (tVar 1) (tC (.int 2))) (tCons (tVar 2) tNil)))) (gName 4))
    (tSeq (tIfS (tTest (tOp (dEq K) (tOp (rIx K) (tVar 1) (tC (.int 0))) (tC (.str "less")))) (tRet (tCB dInt (tCons (tOp dLt (tVar 3) (tVar 4)) tNil))) tNext)
    (tSeq (tIfS (tTest (tOp (dEq K) (tOp (rIx K) (tVar 1) (tC (.int 0))) (tC (.str "same")))) (tRet (tCB dInt (tCons (tOp (dEq K) (tVar 3) (tVar 4)) tNil))) tNext)
    (tRet (tOp dMod (tOp (rIx K) (tLst (tCons (tOp (dAdd K) (tVar 3) (tVar 4)) (tCons (tOp dMul (tVar 3) (tVar 4)) tNil))) (tCB dInt (tCons (tOp (dEq K) (tOp (rIx K) (tVar 1) (tC (.int 0))) (tC (.str "times"))) tNil))) (tOp (rIx K) (tVar 0) (tC (.int 0)))))))))))
theorem wk_l_worth {P : Program} {w : World} {K : PySem.W.Frag} {mg : Str → Option Value} {base : Heap} {k : Nat} {sp_l_worth : Sp}
    (c_l_worth : Cal P w K mg base CX0 k "_law_worth" ["program", "thing", "store"] sp_l_worth) (m_int : mg "int" = none)
    (f : Addr) (cdv : Value) (A : Around) (outer : List Env) (s : Shared) (H : Hp) (E : XK) (hr : Room k (A.deeper (envOfC "_law_worth" (defScope s_l_worth) s.heap.objs.size f cdv))) :
    PSs (cxOf CX0 P w K mg base ["program", "thing", "store", "one", "other"] "_law_worth" (defScope s_l_worth) f cdv A outer s H E).nox (defBody s_l_worth) (t_l_worth K sp_l_worth) := by
  have hu : (cxOf CX0 P w K mg base ["program", "thing", "store", "one", "other"] "_law_worth" (defScope s_l_worth) f cdv A outer s H E).nox.A.units + 64 < cLine := hr.units
  have hu5 : (cxOf CX0 P w K mg base ["program", "thing", "store", "one", "other"] "_law_worth" (defScope s_l_worth) f cdv A outer s H E).nox.A.units + 65 < cLine := room65 hr
  have hu1 : (cxOf CX0 P w K mg base ["program", "thing", "store", "one", "other"] "_law_worth" (defScope s_l_worth) f cdv A outer s H E).nox.A.units + 1 < cLine := room1 hr
  unfold t_l_worth
  exact (pss_cons (ps_if (pt_cmpR (o_eq hu) (pe_ix ix_seq (pv 1) pe_int (fun _ _ => rfl)) pe_str (nomark _)) (pss_one (ps_ret (pe_ix ix_seq (pv 1) pe_int (fun _ _ => rfl)))) pss_nil)
    (pss_cons (ps_if (pt_cmpR (o_eq hu) (pe_ix ix_seq (pv 1) pe_int (fun _ _ => rfl)) pe_str (nomark _)) (pss_one (ps_ret (pe_ix ix_seq (pv 2) (pe_bm PySem.F.plainAttrs_list PySem.F.slot_list_index PySem.F.type_list_index (mt_indexD hu5) (pe_ix ix_seq (pv 0) pe_int (fun _ _ => rfl)) (pa_cons (pe_ix ix_seq (pv 1) pe_int (fun _ _ => rfl)) pa_nil)) (fun _ _ => rfl)))) pss_nil)
    (pss_cons (ps_set (i := 3) sc_l_worth.nd rfl (by first | exact Or.inl rfl | exact Or.inr rfl) (pe_c c_l_worth hr (by rfl) (pa_cons (pv 0) (pa_cons (pe_ix ix_seq (pv 1) pe_int (fun _ _ => rfl)) (pa_cons (pv 2) pa_nil)))))
    (pss_cons (ps_set (i := 4) sc_l_worth.nd rfl (by first | exact Or.inl rfl | exact Or.inr rfl) (pe_c c_l_worth hr (by rfl) (pa_cons (pv 0) (pa_cons (pe_ix ix_seq (pv 1) pe_int (fun _ _ => rfl)) (pa_cons (pv 2) pa_nil)))))
    (pss_cons (ps_if (pt_cmpR (o_eq hu) (pe_ix ix_seq (pv 1) pe_int (fun _ _ => rfl)) pe_str (nomark _)) (pss_one (ps_ret (pe_callTy o_int (by rfl) m_int (by decide +kernel) (pa_cons (pe_cmpR o_lt (pv 3) (pv 4) (nomark _)) pa_nil)))) pss_nil)
    (pss_cons (ps_if (pt_cmpR (o_eq hu) (pe_ix ix_seq (pv 1) pe_int (fun _ _ => rfl)) pe_str (nomark _)) (pss_one (ps_ret (pe_callTy o_int (by rfl) m_int (by decide +kernel) (pa_cons (pe_cmpR (o_eq hu) (pv 3) (pv 4) (nomark _)) pa_nil)))) pss_nil)
    (pss_one (ps_ret (pe_op o_mod (pe_ix ix_seq (pe_lst (pa_cons (pe_op o_add (pv 3) (pv 4)) (pa_cons (pe_op o_mul (pv 3) (pv 4)) pa_nil))) (pe_callTy o_int (by rfl) m_int (by decide +kernel) (pa_cons (pe_cmpR (o_eq hu) (pe_ix ix_seq (pv 1) pe_int (fun _ _ => rfl)) pe_str (nomark _)) pa_nil)) (fun _ _ => rfl)) (pe_ix ix_seq (pv 0) pe_int (fun _ _ => rfl)))))))))))
abbrev s_l_set : Stmt := topS 25
theorem sc_l_set : FnScope ["program", "store", "box", "worth", "at"] ["program", "store", "box", "worth"] (defScope s_l_set) := ⟨rfl, rfl, rfl, by decide +kernel, rfl, by decide +kernel, by decide +kernel⟩
def t_l_set (K : PySem.W.Frag) : TS :=
  (tSeq (tAsg (tBM K "list" (rIndexD K) (tOp (rIx K) (tVar 0) (tC (.int 1))) (tCons (tVar 2) tNil)) (gName 4))
    (tRet (tOp (dAdd K) (tOp (dAdd K) (tSl (rSlA K) (tVar 1) tNoPart (tPart (tVar 4))) (tTup (tCons (tVar 3) tNil))) (tSl (rSlA K) (tVar 1) (tPart (tOp (dAdd K) (tVar 4) (tC (.int 1)))) tNoPart))))
theorem wk_l_set {P : Program} {w : World} {K : PySem.W.Frag} {mg : Str → Option Value} {base : Heap} {k : Nat}
    (f : Addr) (cdv : Value) (A : Around) (outer : List Env) (s : Shared) (H : Hp) (E : XK) (hr : Room k (A.deeper (envOfC "_law_set" (defScope s_l_set) s.heap.objs.size f cdv))) :
    PSs (cxOf CX0 P w K mg base ["program", "store", "box", "worth", "at"] "_law_set" (defScope s_l_set) f cdv A outer s H E).nox (defBody s_l_set) (t_l_set K) := by
  have hu : (cxOf CX0 P w K mg base ["program", "store", "box", "worth", "at"] "_law_set" (defScope s_l_set) f cdv A outer s H E).nox.A.units + 64 < cLine := hr.units
  have hu5 : (cxOf CX0 P w K mg base ["program", "store", "box", "worth", "at"] "_law_set" (defScope s_l_set) f cdv A outer s H E).nox.A.units + 65 < cLine := room65 hr
  have hu1 : (cxOf CX0 P w K mg base ["program", "store", "box", "worth", "at"] "_law_set" (defScope s_l_set) f cdv A outer s H E).nox.A.units + 1 < cLine := room1 hr
  unfold t_l_set
  exact (pss_cons (ps_set (i := 4) sc_l_set.nd rfl (by first | exact Or.inl rfl | exact Or.inr rfl) (pe_bm PySem.F.plainAttrs_list PySem.F.slot_list_index PySem.F.type_list_index (mt_indexD hu5) (pe_ix ix_seq (pv 0) pe_int (fun _ _ => rfl)) (pa_cons (pv 2) pa_nil)))
    (pss_one (ps_ret (pe_op o_add (pe_op o_add (pe_slice sl_tupA (pv 1) po_none (po_some (pv 4))) (pe_tup (pa_cons (pv 3) pa_nil))) (pe_slice sl_tupA (pv 1) (po_some (pe_op o_add (pv 4) pe_int)) po_none)))))
abbrev s_l_ways : Stmt := topS 26
theorem sc_l_ways : FnScope ["program", "place", "at", "store", "row", "stores", "to", "thing", "one"] ["program", "place"] (defScope s_l_ways) := ⟨rfl, rfl, rfl, by decide +kernel, rfl, by decide +kernel, by decide +kernel⟩
def t_l_ways (K : PySem.W.Frag) (sp_l_set : Sp) (sp_l_worth : Sp) : TS :=
  (tSeq (tAsg (tVar 1) (gTup K 2 (gCons (gName 2) (gCons (gName 3) gNil))))
    (tSeq (tAsg (tOp (rIx K) (tOp (rIx K) (tVar 0) (tC (.int 2))) (tVar 2)) (gName 4))
    (tSeq (tIfS (tTest (tOp (dEq K) (tOp (rIx K) (tVar 4) (tC (.int 0))) (tC (.str "give")))) (tRet (tLst (tCons (tTup (tCons (tC (.str "gives")) (tCons (tCall sp_l_worth [] E0 (tCons (tVar 0) (tCons (tOp (rIx K) (tVar 4) (tC (.int 1))) (tCons (tVar 3) tNil)))) tNil))) tNil))) tNext)
    (tSeq (tAsg (tLst (tCons (tVar 3) tNil)) (gName 5))
    (tSeq (tAsg (tOp (dAdd K) (tVar 2) (tC (.int 1))) (gName 6))
    (tSeq (tIfS (tAnd (tTest (tOp (dEq K) (tOp (rIx K) (tVar 4) (tC (.int 0))) (tC (.str "need")))) (tTest (tOp (dEq K) (tCall sp_l_worth [] E0 (tCons (tVar 0) (tCons (tOp (rIx K) (tVar 4) (tC (.int 1))) (tCons (tVar 3) tNil)))) (tC (.int 0))))) (tRet (tLst (tCons (tTup (tCons (tC (.str "nothing")) tNil)) tNil))) tNext)
    (tSeq (tIfS (tAnd (tTest (tOp (dEq K) (tOp (rIx K) (tVar 4) (tC (.int 0))) (tC (.str "skip")))) (tTest (tOp (dNe K) (tCall sp_l_worth [] E0 (tCons (tVar 0) (tCons (tOp (rIx K) (tVar 4) (tC (.int 1))) (tCons (tVar 3) tNil)))) (tC (.int 0))))) (tAsg (tOp (dAdd K) (tVar 6) (tOp (rIx K) (tVar 4) (tC (.int 2)))) (gName 6)) tNext)
    (tSeq (tIfS (tTest (tOp (dEq K) (tOp (rIx K) (tVar 4) (tC (.int 0))) (tC (.str "set")))) (tAsg (tLst (tCons (tCall sp_l_set [] E0 (tCons (tVar 0) (tCons (tVar 3) (tCons (tOp (rIx K) (tVar 4) (tC (.int 1))) (tCons (tCall sp_l_worth [] E0 (tCons (tVar 0) (tCons (tOp (rIx K) (tVar 4) (tC (.int 2))) (tCons (tVar 3) tNil)))) tNil))))) tNil)) (gName 5)) tNext)
    (tSeq (tIfS (tTest (tOp (dEq K) (tOp (rIx K) (tVar 4) (tC (.int 0))) (tC (.str "pick")))) (tAsg (tLc (iList K (tOp (rIx K) (tVar 4) (tC (.int 2)))) (gName 7) tYes (tCall sp_l_set [] E0 (tCons (tVar 0) (tCons (tVar 3) (tCons (tOp (rIx K) (tVar 4) (tC (.int 1))) (tCons (tCall sp_l_worth [] E0 (tCons (tVar 0) (tCons (tVar 7) (tCons (tVar 3) tNil)))) tNil))))) [7]) (gName 5)) tNext)
    (tSeq (tIfS (tTest (tOp dGe (tVar 6) (tCB (dLen K) (tCons (tOp (rIx K) (tVar 0) (tC (.int 2))) tNil)))) (tRet (tOp dMul (tLst (tCons (tTup (tCons (tC (.str "nothing")) tNil)) tNil)) (tCB (dLen K) (tCons (tVar 5) tNil)))) tNext)
    (tRet (tLc (iList K (tVar 5)) (gName 8) tYes (tTup (tCons (tVar 6) (tCons (tVar 8) tNil))) [8]))))))))))))
theorem wk_l_ways {P : Program} {w : World} {K : PySem.W.Frag} {mg : Str → Option Value} {base : Heap} {k : Nat} {sp_l_set : Sp} {sp_l_worth : Sp}
    (c_l_set : Cal P w K mg base CX0 k "_law_set" ["program", "store", "box", "worth"] sp_l_set)
    (c_l_worth : Cal P w K mg base CX0 k "_law_worth" ["program", "thing", "store"] sp_l_worth) (m_len : mg "len" = none)
    (f : Addr) (cdv : Value) (A : Around) (outer : List Env) (s : Shared) (H : Hp) (E : XK) (hr : Room k (A.deeper (envOfC "_law_ways" (defScope s_l_ways) s.heap.objs.size f cdv))) :
    PSs (cxOf CX0 P w K mg base ["program", "place", "at", "store", "row", "stores", "to", "thing", "one"] "_law_ways" (defScope s_l_ways) f cdv A outer s H E).nox (defBody s_l_ways) (t_l_ways K sp_l_set sp_l_worth) := by
  have hu : (cxOf CX0 P w K mg base ["program", "place", "at", "store", "row", "stores", "to", "thing", "one"] "_law_ways" (defScope s_l_ways) f cdv A outer s H E).nox.A.units + 64 < cLine := hr.units
  have hu5 : (cxOf CX0 P w K mg base ["program", "place", "at", "store", "row", "stores", "to", "thing", "one"] "_law_ways" (defScope s_l_ways) f cdv A outer s H E).nox.A.units + 65 < cLine := room65 hr
  have hu1 : (cxOf CX0 P w K mg base ["program", "place", "at", "store", "row", "stores", "to", "thing", "one"] "_law_ways" (defScope s_l_ways) f cdv A outer s H E).nox.A.units + 1 < cLine := room1 hr
  unfold t_l_ways
  exact (pss_cons (ps_asg (pv 1) (pg_tup rfl (pgs_cons (pg_name (i := 2) sc_l_ways.nd rfl (by first | exact Or.inl rfl | exact Or.inr rfl)) (pgs_cons (pg_name (i := 3) sc_l_ways.nd rfl (by first | exact Or.inl rfl | exact Or.inr rfl)) pgs_nil))))
    (pss_cons (ps_set (i := 4) sc_l_ways.nd rfl (by first | exact Or.inl rfl | exact Or.inr rfl) (pe_ix ix_seq (pe_ix ix_seq (pv 0) pe_int (fun _ _ => rfl)) (pv 2) (fun _ _ => rfl)))
    (pss_cons (ps_if (pt_cmpR (o_eq hu) (pe_ix ix_seq (pv 4) pe_int (fun _ _ => rfl)) pe_str (nomark _)) (pss_one (ps_ret (pe_lst (pa_cons (pe_tup (pa_cons pe_str (pa_cons (pe_c c_l_worth hr (by rfl) (pa_cons (pv 0) (pa_cons (pe_ix ix_seq (pv 4) pe_int (fun _ _ => rfl)) (pa_cons (pv 3) pa_nil)))) pa_nil))) pa_nil)))) pss_nil)
    (pss_cons (ps_set (i := 5) sc_l_ways.nd rfl (by first | exact Or.inl rfl | exact Or.inr rfl) (pe_lst (pa_cons (pv 3) pa_nil)))
    (pss_cons (ps_set (i := 6) sc_l_ways.nd rfl (by first | exact Or.inl rfl | exact Or.inr rfl) (pe_op o_add (pv 2) pe_int))
    (pss_cons (ps_if (PW.pt (pw_and (pt_cmpR (o_eq hu) (pe_ix ix_seq (pv 4) pe_int (fun _ _ => rfl)) pe_str (nomark _)) (pw_and1 (pt_cmpR (o_eq hu) (pe_c c_l_worth hr (by rfl) (pa_cons (pv 0) (pa_cons (pe_ix ix_seq (pv 4) pe_int (fun _ _ => rfl)) (pa_cons (pv 3) pa_nil)))) pe_int (nomark _))))) (pss_one (ps_ret (pe_lst (pa_cons (pe_tup (pa_cons pe_str pa_nil)) pa_nil)))) pss_nil)
    (pss_cons (ps_if (PW.pt (pw_and (pt_cmpR (o_eq hu) (pe_ix ix_seq (pv 4) pe_int (fun _ _ => rfl)) pe_str (nomark _)) (pw_and1 (pt_cmpR (o_ne hu) (pe_c c_l_worth hr (by rfl) (pa_cons (pv 0) (pa_cons (pe_ix ix_seq (pv 4) pe_int (fun _ _ => rfl)) (pa_cons (pv 3) pa_nil)))) pe_int (nomark _))))) (pss_one (ps_set (i := 6) sc_l_ways.nd rfl (by first | exact Or.inl rfl | exact Or.inr rfl) (pe_op o_add (pv 6) (pe_ix ix_seq (pv 4) pe_int (fun _ _ => rfl))))) pss_nil)
    (pss_cons (ps_if (pt_cmpR (o_eq hu) (pe_ix ix_seq (pv 4) pe_int (fun _ _ => rfl)) pe_str (nomark _)) (pss_one (ps_set (i := 5) sc_l_ways.nd rfl (by first | exact Or.inl rfl | exact Or.inr rfl) (pe_lst (pa_cons (pe_c c_l_set hr (by rfl) (pa_cons (pv 0) (pa_cons (pv 3) (pa_cons (pe_ix ix_seq (pv 4) pe_int (fun _ _ => rfl)) (pa_cons (pe_c c_l_worth hr (by rfl) (pa_cons (pv 0) (pa_cons (pe_ix ix_seq (pv 4) pe_int (fun _ _ => rfl)) (pa_cons (pv 3) pa_nil)))) pa_nil))))) pa_nil)))) pss_nil)
    (pss_cons (ps_if (pt_cmpR (o_eq hu) (pe_ix ix_seq (pv 4) pe_int (fun _ _ => rfl)) pe_str (nomark _)) (pss_one (ps_setLc (i := 5) (own := [("thing", 7)]) (g := (gName 7)) (tt := tYes) rfl sc_l_ways.nd rfl rfl (sw_true rfl rfl rfl (by decide +kernel)) (pi_list (pe_ix ix_seq (pv 4) pe_int (fun _ _ => rfl))) (blkOk_by (N := ["program", "place", "at", "store", "row", "stores", "to", "thing", "one"]) (sc := defScope s_l_ways) (by decide +kernel)) (fun _ _ _ _ _ => (pg_name (i := 7) sc_l_ways.nd rfl (by first | exact Or.inl rfl | exact Or.inr rfl))) (fun _ _ _ _ _ => pts_nil) (fun _ _ _ _ _ => (pe_c c_l_set hr (by rfl) (pa_cons (pv 0) (pa_cons (pv 3) (pa_cons (pe_ix ix_seq (pv 4) pe_int (fun _ _ => rfl)) (pa_cons (pe_c c_l_worth hr (by rfl) (pa_cons (pv 0) (pa_cons (pv 7) (pa_cons (pv 3) pa_nil)))) pa_nil)))))))) pss_nil)
    (pss_cons (ps_if (pt_cmpR o_ge (pv 6) (pe_callB o_len (by rfl) m_len (by decide +kernel) (pa_cons (pe_ix ix_seq (pv 0) pe_int (fun _ _ => rfl)) pa_nil)) (nomark _)) (pss_one (ps_ret (pe_op o_mul (pe_lst (pa_cons (pe_tup (pa_cons pe_str pa_nil)) pa_nil)) (pe_callB o_len (by rfl) m_len (by decide +kernel) (pa_cons (pv 5) pa_nil))))) pss_nil)
    (pss_one (ps_ret (pe_lc (own := [("one", 8)]) (g := (gName 8)) (tt := tYes) rfl sc_l_ways.nd (pi_list (pv 5)) (blkOk_by (N := ["program", "place", "at", "store", "row", "stores", "to", "thing", "one"]) (sc := defScope s_l_ways) (by decide +kernel)) (fun _ _ _ _ _ => (pg_name (i := 8) sc_l_ways.nd rfl (by first | exact Or.inl rfl | exact Or.inr rfl))) (fun _ _ _ _ _ => pts_nil) (fun _ _ _ _ _ => (pe_tup (pa_cons (pv 6) (pa_cons (pv 8) pa_nil)))))))))))))))))
abbrev s_l_runs : Stmt := topS 27
theorem sc_l_runs : FnScope ["program", "store", "found", "waiting", "choices", "place", "picks", "choice", "way", "more"] ["program", "store"] (defScope s_l_runs) := ⟨rfl, rfl, rfl, by decide +kernel, rfl, by decide +kernel, by decide +kernel⟩
def t_l_runs (K : PySem.W.Frag) (sp_l_ways : Sp) : TS :=
  (tSeq (tAsg (tLst tNil) (gName 2))
    (tSeq (tAsg (tLst (tCons (tTup (tCons (tLst tNil) (tCons (tTup (tCons (tC (.int 0)) (tCons (tVar 1) tNil))) tNil))) tNil)) (gName 3))
    (tSeq (tIfS (tTest (tOp (dEq K) (tOp (rIx K) (tVar 0) (tC (.int 2))) (tLst tNil))) (tRet (tLst (tCons (tTup (tCons (tLst tNil) (tCons (tTup (tCons (tC (.str "nothing")) tNil)) (tCons (tVar 1) tNil)))) tNil))) tNext)
    (tSeq (tWhile (tTest (tOp (dNe K) (tVar 3) (tLst tNil))) (tSeq (tAsg (tBM0 K "list" rPop (tVar 3)) (gTup K 2 (gCons (gName 4) (gCons (gName 5) gNil))))
    (tSeq (tAsg (tOp (dEq K) (tOp (rIx K) (tOp (rIx K) (tOp (rIx K) (tVar 0) (tC (.int 2))) (tOp (rIx K) (tVar 5) (tC (.int 0)))) (tC (.int 0))) (tC (.str "pick"))) (gName 6))
    (tFor (iEnum K (tCons (tCall sp_l_ways [] E0 (tCons (tVar 0) (tCons (tVar 5) tNil))) tNil)) (gTup K 2 (gCons (gName 7) (gCons (gName 8) gNil))) (tSeq (tAsg (tOp (dAdd K) (tVar 4) (tOp dMul (tLst (tCons (tVar 7) tNil)) (tCB dInt (tCons (tVar 6) tNil)))) (gName 9))
    (tIfS (tTest (tOp (dIn K) (tOp (rIx K) (tVar 8) (tC (.int 0))) (tTup (tCons (tC (.str "gives")) (tCons (tC (.str "nothing")) tNil))))) (tDrop (tBM K "list" rAppend (tVar 2) (tCons (tTup (tCons (tVar 9) (tCons (tVar 8) (tCons (tOp (rIx K) (tVar 5) (tC (.int 1))) tNil)))) tNil))) (tDrop (tBM K "list" rAppend (tVar 3) (tCons (tTup (tCons (tVar 9) (tCons (tVar 8) tNil))) tNil)))))))))
    (tRet (tVar 2))))))
theorem wk_l_runs {P : Program} {w : World} {K : PySem.W.Frag} {mg : Str → Option Value} {base : Heap} {k : Nat} {sp_l_ways : Sp}
    (c_l_ways : Cal P w K mg base CX0 k "_law_ways" ["program", "place"] sp_l_ways) (m_enumerate : mg "enumerate" = none) (m_int : mg "int" = none)
    (f : Addr) (cdv : Value) (A : Around) (outer : List Env) (s : Shared) (H : Hp) (E : XK) (hr : Room k (A.deeper (envOfC "_law_runs" (defScope s_l_runs) s.heap.objs.size f cdv))) :
    PSs (cxOf CX0 P w K mg base ["program", "store", "found", "waiting", "choices", "place", "picks", "choice", "way", "more"] "_law_runs" (defScope s_l_runs) f cdv A outer s H E).nox (defBody s_l_runs) (t_l_runs K sp_l_ways) := by
  have hu : (cxOf CX0 P w K mg base ["program", "store", "found", "waiting", "choices", "place", "picks", "choice", "way", "more"] "_law_runs" (defScope s_l_runs) f cdv A outer s H E).nox.A.units + 64 < cLine := hr.units
  have hu5 : (cxOf CX0 P w K mg base ["program", "store", "found", "waiting", "choices", "place", "picks", "choice", "way", "more"] "_law_runs" (defScope s_l_runs) f cdv A outer s H E).nox.A.units + 65 < cLine := room65 hr
  have hu1 : (cxOf CX0 P w K mg base ["program", "store", "found", "waiting", "choices", "place", "picks", "choice", "way", "more"] "_law_runs" (defScope s_l_runs) f cdv A outer s H E).nox.A.units + 1 < cLine := room1 hr
  unfold t_l_runs
  exact (pss_cons (ps_set (i := 2) sc_l_runs.nd rfl (by first | exact Or.inl rfl | exact Or.inr rfl) (pe_lst pa_nil))
    (pss_cons (ps_set (i := 3) sc_l_runs.nd rfl (by first | exact Or.inl rfl | exact Or.inr rfl) (pe_lst (pa_cons (pe_tup (pa_cons (pe_lst pa_nil) (pa_cons (pe_tup (pa_cons pe_int (pa_cons (pv 1) pa_nil))) pa_nil))) pa_nil)))
    (pss_cons (ps_if (pt_cmpR (o_eq hu) (pe_ix ix_seq (pv 0) pe_int (fun _ _ => rfl)) (pe_lst pa_nil) (nomark _)) (pss_one (ps_ret (pe_lst (pa_cons (pe_tup (pa_cons (pe_lst pa_nil) (pa_cons (pe_tup (pa_cons pe_str pa_nil)) (pa_cons (pv 1) pa_nil)))) pa_nil)))) pss_nil)
    (pss_cons (ps_while PassesOwn.never (pt_cmpR (o_ne hu) (pv 3) (pe_lst pa_nil) (nomark _)) (pss_cons (ps_asg (pe_bm0 PySem.F.plainAttrs_list PySem.F.slot_list_pop PySem.F.type_list_pop mt_pop (pv 3)) (pg_tup rfl (pgs_cons (pg_name (i := 4) sc_l_runs.nd rfl (by first | exact Or.inl rfl | exact Or.inr rfl)) (pgs_cons (pg_name (i := 5) sc_l_runs.nd rfl (by first | exact Or.inl rfl | exact Or.inr rfl)) pgs_nil))))
    (pss_cons (ps_set (i := 6) sc_l_runs.nd rfl (by first | exact Or.inl rfl | exact Or.inr rfl) (pe_cmpR (o_eq hu) (pe_ix ix_seq (pe_ix ix_seq (pe_ix ix_seq (pv 0) pe_int (fun _ _ => rfl)) (pe_ix ix_seq (pv 5) pe_int (fun _ _ => rfl)) (fun _ _ => rfl)) pe_int (fun _ _ => rfl)) pe_str (nomark _)))
    (pss_one (ps_for PassesOwn.never rfl (pi_enum (by rfl) m_enumerate (pa_cons (pe_c c_l_ways hr (by rfl) (pa_cons (pv 0) (pa_cons (pv 5) pa_nil))) pa_nil)) (pg_tup rfl (pgs_cons (pg_name (i := 7) sc_l_runs.nd rfl (by first | exact Or.inl rfl | exact Or.inr rfl)) (pgs_cons (pg_name (i := 8) sc_l_runs.nd rfl (by first | exact Or.inl rfl | exact Or.inr rfl)) pgs_nil))) (pss_cons (ps_set (i := 9) sc_l_runs.nd rfl (by first | exact Or.inl rfl | exact Or.inr rfl) (pe_op o_add (pv 4) (pe_op o_mul (pe_lst (pa_cons (pv 7) pa_nil)) (pe_callTy o_int (by rfl) m_int (by decide +kernel) (pa_cons (pv 6) pa_nil)))))
    (pss_one (ps_if (pt_cmpR (o_in hu5) (pe_ix ix_seq (pv 8) pe_int (fun _ _ => rfl)) (pe_tup (pa_cons pe_str (pa_cons pe_str pa_nil))) (by rfl)) (pss_one (ps_expr (pe_bm PySem.F.plainAttrs_list PySem.F.slot_list_append PySem.F.type_list_append mt_append (pv 2) (pa_cons (pe_tup (pa_cons (pv 9) (pa_cons (pv 8) (pa_cons (pe_ix ix_seq (pv 5) pe_int (fun _ _ => rfl)) pa_nil)))) pa_nil)))) (pss_one (ps_expr (pe_bm PySem.F.plainAttrs_list PySem.F.slot_list_append PySem.F.type_list_append mt_append (pv 3) (pa_cons (pe_tup (pa_cons (pv 9) (pa_cons (pv 8) pa_nil))) pa_nil))))))))))))
    (pss_one (ps_ret (pv 2)))))))
abbrev s_l_is_thing : Stmt := topS 28
theorem sc_l_is_thing : FnScope ["thing", "m", "boxes", "deep"] ["thing", "m", "boxes", "deep"] (defScope s_l_is_thing) := ⟨rfl, rfl, rfl, by decide +kernel, rfl, by decide +kernel, by decide +kernel⟩
def t_l_is_thing (K : PySem.W.Frag) (sp_l_is_thing : Sp) : TS :=
  (tSeq (tIfS (tOr (tNot (tB (tCB (rIsD K) (tCons (tVar 0) (tCons (tC (.ty "tuple")) tNil))))) (tOr (tTest (tOp (dEq K) (tVar 0) (tTup tNil))) (tTest (tOp (dEq K) (tVar 3) (tC (.int 0)))))) (tRet (tC (.bl false))) tNext)
    (tSeq (tIfS (tTest (tOp (dEq K) (tOp (rIx K) (tVar 0) (tC (.int 0))) (tC (.str "number")))) (tRet (tAndV (tOp (dEq K) (tCB (dLen K) (tCons (tVar 0) tNil)) (tC (.int 2))) (tAndV (tRgIn false (tOp (rIx K) (tVar 0) (tC (.int 1))) (tRg1 (tVar 1))) (tNotV (tCB (rIsD K) (tCons (tOp (rIx K) (tVar 0) (tC (.int 1))) (tCons (tC (.ty "bool")) tNil))))))) tNext)
    (tSeq (tIfS (tTest (tOp (dEq K) (tOp (rIx K) (tVar 0) (tC (.int 0))) (tC (.str "box")))) (tRet (tAndV (tOp (dEq K) (tCB (dLen K) (tCons (tVar 0) tNil)) (tC (.int 2))) (tOp (dIn K) (tOp (rIx K) (tVar 0) (tC (.int 1))) (tVar 2)))) tNext)
    (tSeq (tIfS (tOr (tTest (tOp (dNotIn K) (tOp (rIx K) (tVar 0) (tC (.int 0))) (tTup (tCons (tC (.str "plus")) (tCons (tC (.str "times")) (tCons (tC (.str "less")) (tCons (tC (.str "same")) tNil))))))) (tTest (tOp (dNe K) (tCB (dLen K) (tCons (tVar 0) tNil)) (tC (.int 3))))) (tRet (tC (.bl false))) tNext)
    (tRet (tAndV (tCall sp_l_is_thing [] E0 (tCons (tOp (rIx K) (tVar 0) (tC (.int 1))) (tCons (tVar 1) (tCons (tVar 2) (tCons (tOp dSub (tVar 3) (tC (.int 1))) tNil))))) (tCall sp_l_is_thing [] E0 (tCons (tOp (rIx K) (tVar 0) (tC (.int 2))) (tCons (tVar 1) (tCons (tVar 2) (tCons (tOp dSub (tVar 3) (tC (.int 1))) tNil)))))))))))
theorem wk_l_is_thing {P : Program} {w : World} {K : PySem.W.Frag} {mg : Str → Option Value} {base : Heap} {k : Nat} {sp_l_is_thing : Sp}
    (c_l_is_thing : Cal P w K mg base CX0 k "_law_is_thing" ["thing", "m", "boxes", "deep"] sp_l_is_thing) (m_len : mg "len" = none) (m_isinstance : mg "isinstance" = none) (m_bool : mg "bool" = none) (m_range : mg "range" = none) (m_tuple : mg "tuple" = none)
    (f : Addr) (cdv : Value) (A : Around) (outer : List Env) (s : Shared) (H : Hp) (E : XK) (hr : Room k (A.deeper (envOfC "_law_is_thing" (defScope s_l_is_thing) s.heap.objs.size f cdv))) :
    PSs (cxOf CX0 P w K mg base ["thing", "m", "boxes", "deep"] "_law_is_thing" (defScope s_l_is_thing) f cdv A outer s H E).nox (defBody s_l_is_thing) (t_l_is_thing K sp_l_is_thing) := by
  have hu : (cxOf CX0 P w K mg base ["thing", "m", "boxes", "deep"] "_law_is_thing" (defScope s_l_is_thing) f cdv A outer s H E).nox.A.units + 64 < cLine := hr.units
  have hu5 : (cxOf CX0 P w K mg base ["thing", "m", "boxes", "deep"] "_law_is_thing" (defScope s_l_is_thing) f cdv A outer s H E).nox.A.units + 65 < cLine := room65 hr
  have hu1 : (cxOf CX0 P w K mg base ["thing", "m", "boxes", "deep"] "_law_is_thing" (defScope s_l_is_thing) f cdv A outer s H E).nox.A.units + 1 < cLine := room1 hr
  unfold t_l_is_thing
  exact (pss_cons (ps_if (PW.pt (pw_or (pt_not (pt_val (pe_callB call_isD (by rfl) m_isinstance (by decide +kernel) (pa_cons (pv 0) (pa_cons (pe_bltn (by rfl) m_tuple (by decide +kernel) rfl) pa_nil))))) (pw_or (pt_cmpR (o_eq hu) (pv 0) (pe_tup pa_nil) (nomark _)) (pw_or1 (pt_cmpR (o_eq hu) (pv 3) pe_int (nomark _)))))) (pss_one (ps_ret pe_bl)) pss_nil)
    (pss_cons (ps_if (pt_cmpR (o_eq hu) (pe_ix ix_seq (pv 0) pe_int (fun _ _ => rfl)) pe_str (nomark _)) (pss_one (ps_ret (pe_and (pe_cmpR (o_eq hu) (pe_callB o_len (by rfl) m_len (by decide +kernel) (pa_cons (pv 0) pa_nil)) pe_int (nomark _)) (pe_and (pe_cmp (pc_rgIn (pe_ix ix_seq (pv 0) pe_int (fun _ _ => rfl)) (prg_1 (by rfl) m_range (pv 1))) (by rfl)) (pe_one (pe_not (pe_callB call_isD (by rfl) m_isinstance (by decide +kernel) (pa_cons (pe_ix ix_seq (pv 0) pe_int (fun _ _ => rfl)) (pa_cons (pe_bltn (by rfl) m_bool (by decide +kernel) rfl) pa_nil))))))))) pss_nil)
    (pss_cons (ps_if (pt_cmpR (o_eq hu) (pe_ix ix_seq (pv 0) pe_int (fun _ _ => rfl)) pe_str (nomark _)) (pss_one (ps_ret (pe_and (pe_cmpR (o_eq hu) (pe_callB o_len (by rfl) m_len (by decide +kernel) (pa_cons (pv 0) pa_nil)) pe_int (nomark _)) (pe_one (pe_cmpR (o_in hu5) (pe_ix ix_seq (pv 0) pe_int (fun _ _ => rfl)) (pv 2) (by rfl)))))) pss_nil)
    (pss_cons (ps_if (PW.pt (pw_or (pt_cmpR (o_notIn hu5) (pe_ix ix_seq (pv 0) pe_int (fun _ _ => rfl)) (pe_tup (pa_cons pe_str (pa_cons pe_str (pa_cons pe_str (pa_cons pe_str pa_nil))))) (by rfl)) (pw_or1 (pt_cmpR (o_ne hu) (pe_callB o_len (by rfl) m_len (by decide +kernel) (pa_cons (pv 0) pa_nil)) pe_int (nomark _))))) (pss_one (ps_ret pe_bl)) pss_nil)
    (pss_one (ps_ret (pe_and (pe_c c_l_is_thing hr (by rfl) (pa_cons (pe_ix ix_seq (pv 0) pe_int (fun _ _ => rfl)) (pa_cons (pv 1) (pa_cons (pv 2) (pa_cons (pe_op o_sub (pv 3) pe_int) pa_nil))))) (pe_one (pe_c c_l_is_thing hr (by rfl) (pa_cons (pe_ix ix_seq (pv 0) pe_int (fun _ _ => rfl)) (pa_cons (pv 1) (pa_cons (pv 2) (pa_cons (pe_op o_sub (pv 3) pe_int) pa_nil)))))))))))))
abbrev s_l_is_row : Stmt := topS 29
theorem sc_l_is_row : FnScope ["row", "m", "boxes", "things", "good", "thing"] ["row", "m", "boxes"] (defScope s_l_is_row) := ⟨rfl, rfl, rfl, by decide +kernel, rfl, by decide +kernel, by decide +kernel⟩
def t_l_is_row (K : PySem.W.Frag) (sp_l_is_thing : Sp) : TS :=
  (tSeq (tIfS (tOr (tNot (tB (tCB (rIsD K) (tCons (tVar 0) (tCons (tC (.ty "tuple")) tNil))))) (tTest (tOp (dEq K) (tVar 0) (tTup tNil)))) (tRet (tC (.bl false))) tNext)
    (tSeq (tAsg (tCB (dList K) (tCons (tSl (rSlA K) (tVar 0) (tPart (tUn dNeg (tC (.int 1)))) tNoPart) tNil)) (gName 3))
    (tSeq (tIfS (tTest (tOp (dEq K) (tOp (rIx K) (tVar 0) (tC (.int 0))) (tC (.str "pick")))) (tAsg (tOp (rIx K) (tVar 0) (tUn dNeg (tC (.int 1)))) (gName 3)) tNext)
    (tSeq (tIfS (tTest (tOp (dEq K) (tOp (rIx K) (tVar 0) (tC (.int 0))) (tC (.str "skip")))) (tSeq (tAsg (tCB (dList K) (tCons (tSl (rSlA K) (tVar 0) (tPart (tC (.int 1))) (tPart (tC (.int 2)))) tNil)) (gName 3))
    (tIfS (tOr (tB (tRgIn true (tOp (rIx K) (tVar 0) (tC (.int 2))) (tRg2 (tC (.int 1)) (tC (.int 31))))) (tB (tCB (rIsD K) (tCons (tOp (rIx K) (tVar 0) (tC (.int 2))) (tCons (tC (.ty "bool")) tNil))))) (tRet (tC (.bl false))) tNext)) tNext)
    (tSeq (tIfS (tOr (tNot (tB (tCB (rIsD K) (tCons (tVar 3) (tCons (tC (.ty "list")) tNil))))) (tNot (tTest (tChain dLe dLe (tC (.int 1)) (tCB (dLen K) (tCons (tVar 3) tNil)) (tC (.int 5)))))) (tRet (tC (.bl false))) tNext)
    (tSeq (tIfS (tOr (tAnd (tTest (tOp (dIn K) (tOp (rIx K) (tVar 0) (tC (.int 0))) (tTup (tCons (tC (.str "set")) (tCons (tC (.str "pick")) (tCons (tC (.str "skip")) tNil)))))) (tTest (tOp (dNe K) (tCB (dLen K) (tCons (tVar 0) tNil)) (tC (.int 3))))) (tAnd (tTest (tOp (dIn K) (tOp (rIx K) (tVar 0) (tC (.int 0))) (tTup (tCons (tC (.str "need")) (tCons (tC (.str "give")) tNil))))) (tTest (tOp (dNe K) (tCB (dLen K) (tCons (tVar 0) tNil)) (tC (.int 2)))))) (tRet (tC (.bl false))) tNext)
    (tSeq (tIfS (tAnd (tTest (tOp (dIn K) (tOp (rIx K) (tVar 0) (tC (.int 0))) (tTup (tCons (tC (.str "set")) (tCons (tC (.str "pick")) tNil))))) (tTest (tOp (dNotIn K) (tOp (rIx K) (tVar 0) (tC (.int 1))) (tVar 2)))) (tRet (tC (.bl false))) tNext)
    (tSeq (tAsg (tLc (iList K (tVar 3)) (gName 5) tYes (tCall sp_l_is_thing [] E0 (tCons (tVar 5) (tCons (tVar 1) (tCons (tVar 2) (tCons (tC (.int 4)) tNil))))) [5]) (gName 4))
    (tRet (tAndV (tOp (dIn K) (tOp (rIx K) (tVar 0) (tC (.int 0))) (tTup (tCons (tC (.str "set")) (tCons (tC (.str "pick")) (tCons (tC (.str "need")) (tCons (tC (.str "skip")) (tCons (tC (.str "give")) tNil))))))) (tOp (dNotIn K) (tC (.bl false)) (tVar 4))))))))))))
theorem wk_l_is_row {P : Program} {w : World} {K : PySem.W.Frag} {mg : Str → Option Value} {base : Heap} {k : Nat} {sp_l_is_thing : Sp}
    (c_l_is_thing : Cal P w K mg base CX0 k "_law_is_thing" ["thing", "m", "boxes", "deep"] sp_l_is_thing) (m_len : mg "len" = none) (m_isinstance : mg "isinstance" = none) (m_list : mg "list" = none) (m_bool : mg "bool" = none) (m_range : mg "range" = none) (m_tuple : mg "tuple" = none)
    (f : Addr) (cdv : Value) (A : Around) (outer : List Env) (s : Shared) (H : Hp) (E : XK) (hr : Room k (A.deeper (envOfC "_law_is_row" (defScope s_l_is_row) s.heap.objs.size f cdv))) :
    PSs (cxOf CX0 P w K mg base ["row", "m", "boxes", "things", "good", "thing"] "_law_is_row" (defScope s_l_is_row) f cdv A outer s H E).nox (defBody s_l_is_row) (t_l_is_row K sp_l_is_thing) := by
  have hu : (cxOf CX0 P w K mg base ["row", "m", "boxes", "things", "good", "thing"] "_law_is_row" (defScope s_l_is_row) f cdv A outer s H E).nox.A.units + 64 < cLine := hr.units
  have hu5 : (cxOf CX0 P w K mg base ["row", "m", "boxes", "things", "good", "thing"] "_law_is_row" (defScope s_l_is_row) f cdv A outer s H E).nox.A.units + 65 < cLine := room65 hr
  have hu1 : (cxOf CX0 P w K mg base ["row", "m", "boxes", "things", "good", "thing"] "_law_is_row" (defScope s_l_is_row) f cdv A outer s H E).nox.A.units + 1 < cLine := room1 hr
  unfold t_l_is_row
  exact (pss_cons (ps_if (PW.pt (pw_or (pt_not (pt_val (pe_callB call_isD (by rfl) m_isinstance (by decide +kernel) (pa_cons (pv 0) (pa_cons (pe_bltn (by rfl) m_tuple (by decide +kernel) rfl) pa_nil))))) (pw_or1 (pt_cmpR (o_eq hu) (pv 0) (pe_tup pa_nil) (nomark _))))) (pss_one (ps_ret pe_bl)) pss_nil)
    (pss_cons (ps_set (i := 3) sc_l_is_row.nd rfl (by first | exact Or.inl rfl | exact Or.inr rfl) (pe_callTy o_list (by rfl) m_list (by decide +kernel) (pa_cons (pe_slice sl_tupA (pv 0) (po_some (pe_un o_neg pe_int)) po_none) pa_nil)))
    (pss_cons (ps_if (pt_cmpR (o_eq hu) (pe_ix ix_seq (pv 0) pe_int (fun _ _ => rfl)) pe_str (nomark _)) (pss_one (ps_set (i := 3) sc_l_is_row.nd rfl (by first | exact Or.inl rfl | exact Or.inr rfl) (pe_ix ix_seq (pv 0) (pe_un o_neg pe_int) (fun _ _ => rfl)))) pss_nil)
    (pss_cons (ps_if (pt_cmpR (o_eq hu) (pe_ix ix_seq (pv 0) pe_int (fun _ _ => rfl)) pe_str (nomark _)) (pss_cons (ps_set (i := 3) sc_l_is_row.nd rfl (by first | exact Or.inl rfl | exact Or.inr rfl) (pe_callTy o_list (by rfl) m_list (by decide +kernel) (pa_cons (pe_slice sl_tupA (pv 0) (po_some pe_int) (po_some pe_int)) pa_nil)))
    (pss_one (ps_if (PW.pt (pw_or (pt_cmp (pc_rgNotIn (pe_ix ix_seq (pv 0) pe_int (fun _ _ => rfl)) (prg_2 (by rfl) m_range pe_int pe_int)) (by rfl)) (pw_or1 (pt_val (pe_callB call_isD (by rfl) m_isinstance (by decide +kernel) (pa_cons (pe_ix ix_seq (pv 0) pe_int (fun _ _ => rfl)) (pa_cons (pe_bltn (by rfl) m_bool (by decide +kernel) rfl) pa_nil))))))) (pss_one (ps_ret pe_bl)) pss_nil))) pss_nil)
    (pss_cons (ps_if (PW.pt (pw_or (pt_not (pt_val (pe_callB call_isD (by rfl) m_isinstance (by decide +kernel) (pa_cons (pv 3) (pa_cons (pe_bltn (by rfl) m_list (by decide +kernel) rfl) pa_nil))))) (pw_or1 (pt_not (pt_chain o_le o_le pe_int (pe_callB o_len (by rfl) m_len (by decide +kernel) (pa_cons (pv 3) pa_nil)) pe_int))))) (pss_one (ps_ret pe_bl)) pss_nil)
    (pss_cons (ps_if (PW.pt (pw_or (PW.pt (pw_and (pt_cmpR (o_in hu5) (pe_ix ix_seq (pv 0) pe_int (fun _ _ => rfl)) (pe_tup (pa_cons pe_str (pa_cons pe_str (pa_cons pe_str pa_nil)))) (by rfl)) (pw_and1 (pt_cmpR (o_ne hu) (pe_callB o_len (by rfl) m_len (by decide +kernel) (pa_cons (pv 0) pa_nil)) pe_int (nomark _))))) (pw_or1 (PW.pt (pw_and (pt_cmpR (o_in hu5) (pe_ix ix_seq (pv 0) pe_int (fun _ _ => rfl)) (pe_tup (pa_cons pe_str (pa_cons pe_str pa_nil))) (by rfl)) (pw_and1 (pt_cmpR (o_ne hu) (pe_callB o_len (by rfl) m_len (by decide +kernel) (pa_cons (pv 0) pa_nil)) pe_int (nomark _)))))))) (pss_one (ps_ret pe_bl)) pss_nil)
    (pss_cons (ps_if (PW.pt (pw_and (pt_cmpR (o_in hu5) (pe_ix ix_seq (pv 0) pe_int (fun _ _ => rfl)) (pe_tup (pa_cons pe_str (pa_cons pe_str pa_nil))) (by rfl)) (pw_and1 (pt_cmpR (o_notIn hu5) (pe_ix ix_seq (pv 0) pe_int (fun _ _ => rfl)) (pv 2) (by rfl))))) (pss_one (ps_ret pe_bl)) pss_nil)
    (pss_cons (ps_setLc (i := 4) (own := [("thing", 5)]) (g := (gName 5)) (tt := tYes) rfl sc_l_is_row.nd rfl rfl (sw_true rfl rfl rfl (by decide +kernel)) (pi_list (pv 3)) (blkOk_by (N := ["row", "m", "boxes", "things", "good", "thing"]) (sc := defScope s_l_is_row) (by decide +kernel)) (fun _ _ _ _ _ => (pg_name (i := 5) sc_l_is_row.nd rfl (by first | exact Or.inl rfl | exact Or.inr rfl))) (fun _ _ _ _ _ => pts_nil) (fun _ _ _ _ _ => (pe_c c_l_is_thing hr (by rfl) (pa_cons (pv 5) (pa_cons (pv 1) (pa_cons (pv 2) (pa_cons pe_int pa_nil)))))))
    (pss_one (ps_ret (pe_and (pe_cmpR (o_in hu5) (pe_ix ix_seq (pv 0) pe_int (fun _ _ => rfl)) (pe_tup (pa_cons pe_str (pa_cons pe_str (pa_cons pe_str (pa_cons pe_str (pa_cons pe_str pa_nil)))))) (by rfl)) (pe_one (pe_cmpR (o_notIn hu5) pe_bl (pv 4) (by rfl))))))))))))))
abbrev s_l_is_program : Stmt := topS 30
theorem sc_l_is_program : FnScope ["found", "m", "boxes", "row"] ["found", "m", "boxes"] (defScope s_l_is_program) := ⟨rfl, rfl, rfl, by decide +kernel, rfl, by decide +kernel, by decide +kernel⟩
def t_l_is_program (K : PySem.W.Frag) (sp_l_is_row : Sp) : TS :=
  (tSeq (tIfS (tOr (tNot (tB (tCB (rIsD K) (tCons (tVar 0) (tCons (tC (.ty "tuple")) tNil))))) (tOr (tTest (tOp (dNe K) (tCB (dLen K) (tCons (tVar 0) tNil)) (tC (.int 3)))) (tOr (tTest (tOp (dNe K) (tOp (rIx K) (tVar 0) (tC (.int 0))) (tVar 1))) (tTest (tOp (dNe K) (tOp (rIx K) (tVar 0) (tC (.int 1))) (tVar 2)))))) (tRet (tC (.bl false))) tNext)
    (tSeq (tIfS (tOr (tNot (tB (tCB (rIsD K) (tCons (tOp (rIx K) (tVar 0) (tC (.int 1))) (tCons (tC (.ty "list")) tNil))))) (tOr (tNot (tB (tCB (rIsD K) (tCons (tOp (rIx K) (tVar 0) (tC (.int 2))) (tCons (tC (.ty "list")) tNil))))) (tTest (tOp dGt (tCB (dLen K) (tCons (tOp (rIx K) (tVar 0) (tC (.int 2))) tNil)) (tC (.int 30)))))) (tRet (tC (.bl false))) tNext)
    (tRet (tOp (dEq K) (tLc (iList K (tOp (rIx K) (tVar 0) (tC (.int 2)))) (gName 3) (tNot (tB (tCall sp_l_is_row [] E0 (tCons (tVar 3) (tCons (tVar 1) (tCons (tVar 2) tNil)))))) (tVar 3) [3]) (tLst tNil)))))
theorem wk_l_is_program {P : Program} {w : World} {K : PySem.W.Frag} {mg : Str → Option Value} {base : Heap} {k : Nat} {sp_l_is_row : Sp}
    (c_l_is_row : Cal P w K mg base CX0 k "_law_is_row" ["row", "m", "boxes"] sp_l_is_row) (m_len : mg "len" = none) (m_isinstance : mg "isinstance" = none) (m_list : mg "list" = none) (m_tuple : mg "tuple" = none)
    (f : Addr) (cdv : Value) (A : Around) (outer : List Env) (s : Shared) (H : Hp) (E : XK) (hr : Room k (A.deeper (envOfC "_law_is_program" (defScope s_l_is_program) s.heap.objs.size f cdv))) :
    PSs (cxOf CX0 P w K mg base ["found", "m", "boxes", "row"] "_law_is_program" (defScope s_l_is_program) f cdv A outer s H E).nox (defBody s_l_is_program) (t_l_is_program K sp_l_is_row) := by
  have hu : (cxOf CX0 P w K mg base ["found", "m", "boxes", "row"] "_law_is_program" (defScope s_l_is_program) f cdv A outer s H E).nox.A.units + 64 < cLine := hr.units
  have hu5 : (cxOf CX0 P w K mg base ["found", "m", "boxes", "row"] "_law_is_program" (defScope s_l_is_program) f cdv A outer s H E).nox.A.units + 65 < cLine := room65 hr
  have hu1 : (cxOf CX0 P w K mg base ["found", "m", "boxes", "row"] "_law_is_program" (defScope s_l_is_program) f cdv A outer s H E).nox.A.units + 1 < cLine := room1 hr
  unfold t_l_is_program
  exact (pss_cons (ps_if (PW.pt (pw_or (pt_not (pt_val (pe_callB call_isD (by rfl) m_isinstance (by decide +kernel) (pa_cons (pv 0) (pa_cons (pe_bltn (by rfl) m_tuple (by decide +kernel) rfl) pa_nil))))) (pw_or (pt_cmpR (o_ne hu) (pe_callB o_len (by rfl) m_len (by decide +kernel) (pa_cons (pv 0) pa_nil)) pe_int (nomark _)) (pw_or (pt_cmpR (o_ne hu) (pe_ix ix_seq (pv 0) pe_int (fun _ _ => rfl)) (pv 1) (nomark _)) (pw_or1 (pt_cmpR (o_ne hu) (pe_ix ix_seq (pv 0) pe_int (fun _ _ => rfl)) (pv 2) (nomark _))))))) (pss_one (ps_ret pe_bl)) pss_nil)
    (pss_cons (ps_if (PW.pt (pw_or (pt_not (pt_val (pe_callB call_isD (by rfl) m_isinstance (by decide +kernel) (pa_cons (pe_ix ix_seq (pv 0) pe_int (fun _ _ => rfl)) (pa_cons (pe_bltn (by rfl) m_list (by decide +kernel) rfl) pa_nil))))) (pw_or (pt_not (pt_val (pe_callB call_isD (by rfl) m_isinstance (by decide +kernel) (pa_cons (pe_ix ix_seq (pv 0) pe_int (fun _ _ => rfl)) (pa_cons (pe_bltn (by rfl) m_list (by decide +kernel) rfl) pa_nil))))) (pw_or1 (pt_cmpR o_gt (pe_callB o_len (by rfl) m_len (by decide +kernel) (pa_cons (pe_ix ix_seq (pv 0) pe_int (fun _ _ => rfl)) pa_nil)) pe_int (nomark _)))))) (pss_one (ps_ret pe_bl)) pss_nil)
    (pss_one (ps_ret (pe_cmpR (o_eq hu) (pe_lc (own := [("row", 3)]) (g := (gName 3)) (tt := (tNot (tB (tCall sp_l_is_row [] E0 (tCons (tVar 3) (tCons (tVar 1) (tCons (tVar 2) tNil))))))) rfl sc_l_is_program.nd (pi_list (pe_ix ix_seq (pv 0) pe_int (fun _ _ => rfl))) (blkOk_by (N := ["found", "m", "boxes", "row"]) (sc := defScope s_l_is_program) (by decide +kernel)) (fun _ _ _ _ _ => (pg_name (i := 3) sc_l_is_program.nd rfl (by first | exact Or.inl rfl | exact Or.inr rfl))) (fun _ _ _ _ _ => (pts_one (pt_not (pt_val (pe_c c_l_is_row hr (by rfl) (pa_cons (pv 3) (pa_cons (pv 1) (pa_cons (pv 2) pa_nil)))))))) (fun _ _ _ _ _ => (pv 3))) (pe_lst pa_nil) (nomark _))))))
abbrev s_l_due : Stmt := topS 31
theorem sc_l_due : FnScope ["one", "other", "box", "store", "found", "choices", "end", "left", "behind", "more", "last", "there"] ["one", "other", "box", "store"] (defScope s_l_due) := ⟨rfl, rfl, rfl, by decide +kernel, rfl, by decide +kernel, by decide +kernel⟩
def t_l_due (K : PySem.W.Frag) (sp_l_runs : Sp) (sp_l_set : Sp) : TS :=
  (tSeq (tAsg (tLst tNil) (gName 4))
    (tSeq (tFor (iList K (tCall sp_l_runs [] E0 (tCons (tVar 0) (tCons (tVar 3) tNil)))) (gTup K 3 (gCons (gName 5) (gCons (gName 6) (gCons (gName 7) gNil)))) (tIfS (tTest (tOp (dEq K) (tOp (rIx K) (tVar 6) (tC (.int 0))) (tC (.str "nothing")))) (tDrop (tBM K "list" rAppend (tVar 4) (tCons (tTup (tCons (tVar 5) (tCons (tVar 6) tNil))) tNil))) (tSeq (tAsg (tCall sp_l_set [] E0 (tCons (tVar 0) (tCons (tVar 7) (tCons (tVar 2) (tCons (tOp (rIx K) (tVar 6) (tC (.int 1))) tNil))))) (gName 8))
    (tFor (iList K (tCall sp_l_runs [] E0 (tCons (tVar 1) (tCons (tVar 8) tNil)))) (gTup K 3 (gCons (gName 9) (gCons (gName 10) (gCons (gName 11) gNil)))) (tDrop (tBM K "list" rAppend (tVar 4) (tCons (tTup (tCons (tOp (dAdd K) (tVar 5) (tVar 9)) (tCons (tVar 10) tNil))) tNil)))))))
    (tRet (tCB (rSortD K) (tCons (tVar 4) tNil)))))
theorem wk_l_due {P : Program} {w : World} {K : PySem.W.Frag} {mg : Str → Option Value} {base : Heap} {k : Nat} {sp_l_runs : Sp} {sp_l_set : Sp}
    (c_l_runs : Cal P w K mg base CX0 k "_law_runs" ["program", "store"] sp_l_runs)
    (c_l_set : Cal P w K mg base CX0 k "_law_set" ["program", "store", "box", "worth"] sp_l_set) (m_sorted : mg "sorted" = none)
    (f : Addr) (cdv : Value) (A : Around) (outer : List Env) (s : Shared) (H : Hp) (E : XK) (hr : Room k (A.deeper (envOfC "_law_due" (defScope s_l_due) s.heap.objs.size f cdv))) :
    PSs (cxOf CX0 P w K mg base ["one", "other", "box", "store", "found", "choices", "end", "left", "behind", "more", "last", "there"] "_law_due" (defScope s_l_due) f cdv A outer s H E).nox (defBody s_l_due) (t_l_due K sp_l_runs sp_l_set) := by
  have hu : (cxOf CX0 P w K mg base ["one", "other", "box", "store", "found", "choices", "end", "left", "behind", "more", "last", "there"] "_law_due" (defScope s_l_due) f cdv A outer s H E).nox.A.units + 64 < cLine := hr.units
  have hu5 : (cxOf CX0 P w K mg base ["one", "other", "box", "store", "found", "choices", "end", "left", "behind", "more", "last", "there"] "_law_due" (defScope s_l_due) f cdv A outer s H E).nox.A.units + 65 < cLine := room65 hr
  have hu1 : (cxOf CX0 P w K mg base ["one", "other", "box", "store", "found", "choices", "end", "left", "behind", "more", "last", "there"] "_law_due" (defScope s_l_due) f cdv A outer s H E).nox.A.units + 1 < cLine := room1 hr
  unfold t_l_due
  exact (pss_cons (ps_set (i := 4) sc_l_due.nd rfl (by first | exact Or.inl rfl | exact Or.inr rfl) (pe_lst pa_nil))
    (pss_cons (ps_for PassesOwn.never rfl (pi_list (pe_c c_l_runs hr (by rfl) (pa_cons (pv 0) (pa_cons (pv 3) pa_nil)))) (pg_tup rfl (pgs_cons (pg_name (i := 5) sc_l_due.nd rfl (by first | exact Or.inl rfl | exact Or.inr rfl)) (pgs_cons (pg_name (i := 6) sc_l_due.nd rfl (by first | exact Or.inl rfl | exact Or.inr rfl)) (pgs_cons (pg_name (i := 7) sc_l_due.nd rfl (by first | exact Or.inl rfl | exact Or.inr rfl)) pgs_nil)))) (pss_one (ps_if (pt_cmpR (o_eq hu) (pe_ix ix_seq (pv 6) pe_int (fun _ _ => rfl)) pe_str (nomark _)) (pss_one (ps_expr (pe_bm PySem.F.plainAttrs_list PySem.F.slot_list_append PySem.F.type_list_append mt_append (pv 4) (pa_cons (pe_tup (pa_cons (pv 5) (pa_cons (pv 6) pa_nil))) pa_nil)))) (pss_cons (ps_set (i := 8) sc_l_due.nd rfl (by first | exact Or.inl rfl | exact Or.inr rfl) (pe_c c_l_set hr (by rfl) (pa_cons (pv 0) (pa_cons (pv 7) (pa_cons (pv 2) (pa_cons (pe_ix ix_seq (pv 6) pe_int (fun _ _ => rfl)) pa_nil))))))
    (pss_one (ps_for PassesOwn.never rfl (pi_list (pe_c c_l_runs hr (by rfl) (pa_cons (pv 1) (pa_cons (pv 8) pa_nil)))) (pg_tup rfl (pgs_cons (pg_name (i := 9) sc_l_due.nd rfl (by first | exact Or.inl rfl | exact Or.inr rfl)) (pgs_cons (pg_name (i := 10) sc_l_due.nd rfl (by first | exact Or.inl rfl | exact Or.inr rfl)) (pgs_cons (pg_name (i := 11) sc_l_due.nd rfl (by first | exact Or.inl rfl | exact Or.inr rfl)) pgs_nil)))) (pss_one (ps_expr (pe_bm PySem.F.plainAttrs_list PySem.F.slot_list_append PySem.F.type_list_append mt_append (pv 4) (pa_cons (pe_tup (pa_cons (pe_op o_add (pv 5) (pv 9)) (pa_cons (pv 10) pa_nil))) pa_nil))))))))))
    (pss_one (ps_ret (pe_callB (call_sortD hu) (by rfl) m_sorted (by decide +kernel) (pa_cons (pv 4) pa_nil))))))
abbrev s_l_right : Stmt := topS 32
theorem sc_l_right : FnScope ["deck", "one", "other", "box", "kept", "found", "k", "store", "told", "choices", "end", "left", "lists", "row", "many", "things"] ["deck", "one", "other", "box"] (defScope s_l_right) := ⟨rfl, rfl, rfl, by decide +kernel, rfl, by decide +kernel, by decide +kernel⟩
def t_l_right (K : PySem.W.Frag) (sp_put_after : Sp) (sp_l_copy : Sp) (sp_l_due : Sp) (sp_l_runs : Sp) (sp_l_store : Sp) (sp_l_is_program : Sp) : TS :=
  (tSeq (tAsg (tLst (tCons (tCall sp_l_copy [] E0 (tCons (tVar 1) tNil)) (tCons (tCall sp_l_copy [] E0 (tCons (tVar 2) tNil)) tNil))) (gName 4))
    (tSeq (tAsg (tCall sp_put_after [] E0 (tCons (tVar 1) (tCons (tVar 2) (tCons (tVar 3) tNil)))) (gName 5))
    (tSeq (tIfS (tOr (tNot (tB (tCall sp_l_is_program [] E0 (tCons (tVar 5) (tCons (tOp (rIx K) (tVar 1) (tC (.int 0))) (tCons (tOp (rIx K) (tVar 1) (tC (.int 1))) tNil)))))) (tTest (tOp (dNe K) (tLst (tCons (tVar 1) (tCons (tVar 2) tNil))) (tVar 4)))) (tRet (tC (.bl false))) tNext)
    (tSeq (tFor (iRng1 (tCons (tC (.int 4)) tNil)) (gName 6) (tSeq (tAsg (tCall sp_l_store [] E0 (tCons (tVar 0) (tCons (tVar 1) tNil))) (gName 7))
    (tSeq (tAsg (tCB (rSortD K) (tCons (tLc (iList K (tCall sp_l_runs [] E0 (tCons (tVar 5) (tCons (tVar 7) tNil)))) (gTup K 3 (gCons (gName 9) (gCons (gName 10) (gCons (gName 11) gNil)))) tYes (tTup (tCons (tVar 9) (tCons (tVar 10) tNil))) [9, 10, 11]) tNil)) (gName 8))
    (tIfS (tTest (tOp (dNe K) (tVar 8) (tCall sp_l_due [] E0 (tCons (tVar 1) (tCons (tVar 2) (tCons (tVar 3) (tCons (tVar 7) tNil))))))) (tRet (tC (.bl false))) tNext))))
    (tSeq (tAsg (tCall sp_l_copy [] E0 (tCons (tVar 5) tNil)) (gName 8))
    (tSeq (tAsg (tLc (iList K (tOp (rIx K) (tVar 5) (tC (.int 2)))) (gName 13) (tTest (tOp (dEq K) (tOp (rIx K) (tVar 13) (tC (.int 0))) (tC (.str "pick")))) (tOp (rIx K) (tVar 13) (tC (.int 2))) [13]) (gName 12))
    (tSeq (tAsg (tLc (iList K (tVar 12)) (gName 15) tYes (tCB (dLen K) (tCons (tVar 15) tNil)) [15]) (gName 14))
    (tSeq (tFor (iList K (tVar 12)) (gName 15) (tDrop (tBM K "list" rAppend (tVar 15) (tCons (tTup (tCons (tC (.str "number")) (tCons (tC (.int 0)) tNil))) tNil))))
    (tSeq (tIfS (tTest (tOp (dNe K) (tLc (iList K (tVar 12)) (gName 15) tYes (tOp dSub (tCB (dLen K) (tCons (tVar 15) tNil)) (tC (.int 1))) [15]) (tVar 14))) (tRet (tC (.bl false))) tNext)
    (tSeq (tDrop (tBM K "list" rAppend (tOp (rIx K) (tVar 5) (tC (.int 1))) (tCons (tC (.str "q")) tNil)))
    (tSeq (tDrop (tBM0 K "list" rClear (tOp (rIx K) (tVar 5) (tC (.int 2)))))
    (tRet (tAndV (tOp (dEq K) (tLst (tCons (tVar 1) (tCons (tVar 2) tNil))) (tVar 4)) (tOp (dEq K) (tCall sp_put_after [] E0 (tCons (tVar 1) (tCons (tVar 2) (tCons (tVar 3) tNil)))) (tVar 8)))))))))))))))
theorem wk_l_right {P : Program} {w : World} {K : PySem.W.Frag} {mg : Str → Option Value} {base : Heap} {k : Nat} {sp_put_after : Sp} {sp_l_copy : Sp} {sp_l_due : Sp} {sp_l_runs : Sp} {sp_l_store : Sp} {sp_l_is_program : Sp}
    (c_put_after : Cal P w K mg base CX0 k "put_after" ["one", "other", "box"] sp_put_after)
    (c_l_copy : Cal P w K mg base CX0 k "_law_copy" ["program"] sp_l_copy)
    (c_l_due : Cal P w K mg base CX0 k "_law_due" ["one", "other", "box", "store"] sp_l_due)
    (c_l_runs : Cal P w K mg base CX0 k "_law_runs" ["program", "store"] sp_l_runs)
    (c_l_store : Cal P w K mg base CX0 k "_law_store" ["deck", "program"] sp_l_store)
    (c_l_is_program : Cal P w K mg base CX0 k "_law_is_program" ["found", "m", "boxes"] sp_l_is_program) (m_len : mg "len" = none) (m_range : mg "range" = none) (m_sorted : mg "sorted" = none)
    (f : Addr) (cdv : Value) (A : Around) (outer : List Env) (s : Shared) (H : Hp) (E : XK) (hr : Room k (A.deeper (envOfC "_law_right" (defScope s_l_right) s.heap.objs.size f cdv))) :
    PSs (cxOf CX0 P w K mg base ["deck", "one", "other", "box", "kept", "found", "k", "store", "told", "choices", "end", "left", "lists", "row", "many", "things"] "_law_right" (defScope s_l_right) f cdv A outer s H E).nox (defBody s_l_right) (t_l_right K sp_put_after sp_l_copy sp_l_due sp_l_runs sp_l_store sp_l_is_program) := by
  have hu : (cxOf CX0 P w K mg base ["deck", "one", "other", "box", "kept", "found", "k", "store", "told", "choices", "end", "left", "lists", "row", "many", "things"] "_law_right" (defScope s_l_right) f cdv A outer s H E).nox.A.units + 64 < cLine := hr.units
  have hu5 : (cxOf CX0 P w K mg base ["deck", "one", "other", "box", "kept", "found", "k", "store", "told", "choices", "end", "left", "lists", "row", "many", "things"] "_law_right" (defScope s_l_right) f cdv A outer s H E).nox.A.units + 65 < cLine := room65 hr
  have hu1 : (cxOf CX0 P w K mg base ["deck", "one", "other", "box", "kept", "found", "k", "store", "told", "choices", "end", "left", "lists", "row", "many", "things"] "_law_right" (defScope s_l_right) f cdv A outer s H E).nox.A.units + 1 < cLine := room1 hr
  unfold t_l_right
  exact (pss_cons (ps_set (i := 4) sc_l_right.nd rfl (by first | exact Or.inl rfl | exact Or.inr rfl) (pe_lst (pa_cons (pe_c c_l_copy hr (by rfl) (pa_cons (pv 1) pa_nil)) (pa_cons (pe_c c_l_copy hr (by rfl) (pa_cons (pv 2) pa_nil)) pa_nil))))
    (pss_cons (ps_set (i := 5) sc_l_right.nd rfl (by first | exact Or.inl rfl | exact Or.inr rfl) (pe_c c_put_after hr (by rfl) (pa_cons (pv 1) (pa_cons (pv 2) (pa_cons (pv 3) pa_nil)))))
    (pss_cons (ps_if (PW.pt (pw_or (pt_not (pt_val (pe_c c_l_is_program hr (by rfl) (pa_cons (pv 5) (pa_cons (pe_ix ix_seq (pv 1) pe_int (fun _ _ => rfl)) (pa_cons (pe_ix ix_seq (pv 1) pe_int (fun _ _ => rfl)) pa_nil)))))) (pw_or1 (pt_cmpR (o_ne hu) (pe_lst (pa_cons (pv 1) (pa_cons (pv 2) pa_nil))) (pv 4) (nomark _))))) (pss_one (ps_ret pe_bl)) pss_nil)
    (pss_cons (ps_for PassesOwn.never rfl (pi_range1 (by rfl) m_range (pa_cons pe_int pa_nil)) (pg_name (i := 6) sc_l_right.nd rfl (by first | exact Or.inl rfl | exact Or.inr rfl)) (pss_cons (ps_set (i := 7) sc_l_right.nd rfl (by first | exact Or.inl rfl | exact Or.inr rfl) (pe_c c_l_store hr (by rfl) (pa_cons (pv 0) (pa_cons (pv 1) pa_nil))))
    (pss_cons (ps_set (i := 8) sc_l_right.nd rfl (by first | exact Or.inl rfl | exact Or.inr rfl) (pe_callB (call_sortD hu) (by rfl) m_sorted (by decide +kernel) (pa_cons (pe_lc (own := [("choices", 9), ("end", 10), ("left", 11)]) (g := (gTup K 3 (gCons (gName 9) (gCons (gName 10) (gCons (gName 11) gNil))))) (tt := tYes) rfl sc_l_right.nd (pi_list (pe_c c_l_runs hr (by rfl) (pa_cons (pv 5) (pa_cons (pv 7) pa_nil)))) (blkOk_by (N := ["deck", "one", "other", "box", "kept", "found", "k", "store", "told", "choices", "end", "left", "lists", "row", "many", "things"]) (sc := defScope s_l_right) (by decide +kernel)) (fun _ _ _ _ _ => (pg_tup rfl (pgs_cons (pg_name (i := 9) sc_l_right.nd rfl (by first | exact Or.inl rfl | exact Or.inr rfl)) (pgs_cons (pg_name (i := 10) sc_l_right.nd rfl (by first | exact Or.inl rfl | exact Or.inr rfl)) (pgs_cons (pg_name (i := 11) sc_l_right.nd rfl (by first | exact Or.inl rfl | exact Or.inr rfl)) pgs_nil))))) (fun _ _ _ _ _ => pts_nil) (fun _ _ _ _ _ => (pe_tup (pa_cons (pv 9) (pa_cons (pv 10) pa_nil))))) pa_nil)))
    (pss_one (ps_if (pt_cmpR (o_ne hu) (pv 8) (pe_c c_l_due hr (by rfl) (pa_cons (pv 1) (pa_cons (pv 2) (pa_cons (pv 3) (pa_cons (pv 7) pa_nil))))) (nomark _)) (pss_one (ps_ret pe_bl)) pss_nil)))))
    (pss_cons (ps_set (i := 8) sc_l_right.nd rfl (by first | exact Or.inl rfl | exact Or.inr rfl) (pe_c c_l_copy hr (by rfl) (pa_cons (pv 5) pa_nil)))
    (pss_cons (ps_setLc (i := 12) (own := [("row", 13)]) (g := (gName 13)) (tt := (tTest (tOp (dEq K) (tOp (rIx K) (tVar 13) (tC (.int 0))) (tC (.str "pick"))))) rfl sc_l_right.nd rfl rfl (sw_true rfl rfl rfl (by decide +kernel)) (pi_list (pe_ix ix_seq (pv 5) pe_int (fun _ _ => rfl))) (blkOk_by (N := ["deck", "one", "other", "box", "kept", "found", "k", "store", "told", "choices", "end", "left", "lists", "row", "many", "things"]) (sc := defScope s_l_right) (by decide +kernel)) (fun _ _ _ _ _ => (pg_name (i := 13) sc_l_right.nd rfl (by first | exact Or.inl rfl | exact Or.inr rfl))) (fun _ _ _ _ _ => (pts_one (pt_cmpR (o_eq hu) (pe_ix ix_seq (pv 13) pe_int (fun _ _ => rfl)) pe_str (nomark _)))) (fun _ _ _ _ _ => (pe_ix ix_seq (pv 13) pe_int (fun _ _ => rfl))))
    (pss_cons (ps_setLc (i := 14) (own := [("things", 15)]) (g := (gName 15)) (tt := tYes) rfl sc_l_right.nd rfl rfl (sw_true rfl rfl rfl (by decide +kernel)) (pi_list (pv 12)) (blkOk_by (N := ["deck", "one", "other", "box", "kept", "found", "k", "store", "told", "choices", "end", "left", "lists", "row", "many", "things"]) (sc := defScope s_l_right) (by decide +kernel)) (fun _ _ _ _ _ => (pg_name (i := 15) sc_l_right.nd rfl (by first | exact Or.inl rfl | exact Or.inr rfl))) (fun _ _ _ _ _ => pts_nil) (fun _ _ _ _ _ => (pe_callB o_len (by rfl) m_len (by decide +kernel) (pa_cons (pv 15) pa_nil))))
    (pss_cons (ps_for PassesOwn.never rfl (pi_list (pv 12)) (pg_name (i := 15) sc_l_right.nd rfl (by first | exact Or.inl rfl | exact Or.inr rfl)) (pss_one (ps_expr (pe_bm PySem.F.plainAttrs_list PySem.F.slot_list_append PySem.F.type_list_append mt_append (pv 15) (pa_cons (pe_tup (pa_cons pe_str (pa_cons pe_int pa_nil))) pa_nil)))))
    (pss_cons (ps_if (pt_cmpR (o_ne hu) (pe_lc (own := [("things", 15)]) (g := (gName 15)) (tt := tYes) rfl sc_l_right.nd (pi_list (pv 12)) (blkOk_by (N := ["deck", "one", "other", "box", "kept", "found", "k", "store", "told", "choices", "end", "left", "lists", "row", "many", "things"]) (sc := defScope s_l_right) (by decide +kernel)) (fun _ _ _ _ _ => (pg_name (i := 15) sc_l_right.nd rfl (by first | exact Or.inl rfl | exact Or.inr rfl))) (fun _ _ _ _ _ => pts_nil) (fun _ _ _ _ _ => (pe_op o_sub (pe_callB o_len (by rfl) m_len (by decide +kernel) (pa_cons (pv 15) pa_nil)) pe_int))) (pv 14) (nomark _)) (pss_one (ps_ret pe_bl)) pss_nil)
    (pss_cons (ps_expr (pe_bm PySem.F.plainAttrs_list PySem.F.slot_list_append PySem.F.type_list_append mt_append (pe_ix ix_seq (pv 5) pe_int (fun _ _ => rfl)) (pa_cons pe_str pa_nil)))
    (pss_cons (ps_expr (pe_bm0 PySem.F.plainAttrs_list PySem.F.slot_list_clear PySem.F.type_list_clear mt_clear (pe_ix ix_seq (pv 5) pe_int (fun _ _ => rfl))))
    (pss_one (ps_ret (pe_and (pe_cmpR (o_eq hu) (pe_lst (pa_cons (pv 1) (pa_cons (pv 2) pa_nil))) (pv 4) (nomark _)) (pe_one (pe_cmpR (o_eq hu) (pe_c c_put_after hr (by rfl) (pa_cons (pv 1) (pa_cons (pv 2) (pa_cons (pv 3) pa_nil)))) (pv 8) (nomark _)))))))))))))))))
abbrev s_law : Stmt := topS 33
theorem sc_law : FnScope ["script", "k", "deck", "m", "boxes", "one", "other", "gives", "row"] ["script"] (defScope s_law) := ⟨rfl, rfl, rfl, by decide +kernel, rfl, by decide +kernel, by decide +kernel⟩
def t_law (K : PySem.W.Frag) (sp_l_right : Sp) (sp_l_next : Sp) (sp_l_program : Sp) (sp_l_boxes : Sp) (sp_l_deck : Sp) (sp_l_cell_at : Sp) : TS :=
  (tSeq (tFor (iRng1 (tCons (tCB (dMax K) (tCons (tC (.int 1)) (tCons (tCB (dMin K) (tCons (tCB (dLen K) (tCons (tVar 0) tNil)) (tCons (tC (.int 3)) tNil))) tNil))) tNil)) (gName 1) (tSeq (tAsg (tCall sp_l_deck [] E0 (tCons (tCall sp_l_cell_at [] E0 (tCons (tVar 0) (tCons (tVar 1) tNil))) (tCons (tC (.int 900)) tNil))) (gName 2))
    (tSeq (tAsg (tCall sp_l_boxes [] E0 (tCons (tVar 2) tNil)) (gTup K 2 (gCons (gName 3) (gCons (gName 4) gNil))))
    (tSeq (tAsg (tCall sp_l_program [] E0 (tCons (tVar 2) (tCons (tVar 3) (tCons (tVar 4) (tCons (tOp (rIx K) (tLst (tCons (tC (.int 11)) (tCons (tC (.int 11)) (tCons (tC (.int 24)) tNil)))) (tOp dMod (tCall sp_l_next [] E0 (tCons (tVar 2) tNil)) (tC (.int 3)))) (tCons (tC (.int 20)) tNil)))))) (gName 5))
    (tSeq (tAsg (tCall sp_l_program [] E0 (tCons (tVar 2) (tCons (tVar 3) (tCons (tVar 4) (tCons (tOp (rIx K) (tLst (tCons (tC (.int 6)) (tCons (tC (.int 6)) (tCons (tC (.int 24)) tNil)))) (tOp dMod (tCall sp_l_next [] E0 (tCons (tVar 2) tNil)) (tC (.int 3)))) (tCons (tC (.int 8)) tNil)))))) (gName 6))
    (tSeq (tIfS (tTest (tOp (dEq K) (tOp dMod (tCall sp_l_next [] E0 (tCons (tVar 2) tNil)) (tC (.int 4))) (tC (.int 1)))) (tAsg (tVar 5) (gName 6)) tNext)
    (tSeq (tAsg (tLc (iList K (tOp (rIx K) (tVar 5) (tC (.int 2)))) (gName 8) (tTest (tOp (dEq K) (tOp (rIx K) (tVar 8) (tC (.int 0))) (tC (.str "give")))) (tVar 8) [8]) (gName 7))
    (tIfS (tTest (tOp dLe (tOp (dAdd K) (tOp (dAdd K) (tOp (dAdd K) (tCB (dLen K) (tCons (tOp (rIx K) (tVar 5) (tC (.int 2))) tNil)) (tCB (dLen K) (tCons (tVar 7) tNil))) (tC (.int 1))) (tCB (dLen K) (tCons (tOp (rIx K) (tVar 6) (tC (.int 2))) tNil))) (tC (.int 30)))) (tIfS (tNot (tB (tCall sp_l_right [] E0 (tCons (tVar 2) (tCons (tVar 5) (tCons (tVar 6) (tCons (tOp (rIx K) (tVar 4) (tOp dMod (tCall sp_l_next [] E0 (tCons (tVar 2) tNil)) (tCB (dLen K) (tCons (tVar 4) tNil)))) tNil))))))) (tRet (tC (.bl false))) tNext) tNext))))))))
    (tRet (tC (.bl true))))
theorem wk_law {P : Program} {w : World} {K : PySem.W.Frag} {mg : Str → Option Value} {base : Heap} {k : Nat} {sp_l_right : Sp} {sp_l_next : Sp} {sp_l_program : Sp} {sp_l_boxes : Sp} {sp_l_deck : Sp} {sp_l_cell_at : Sp}
    (c_l_right : Cal P w K mg base CX0 k "_law_right" ["deck", "one", "other", "box"] sp_l_right)
    (c_l_next : Cal P w K mg base CX0 k "_law_next" ["deck"] sp_l_next)
    (c_l_program : Cal P w K mg base CX0 k "_law_program" ["deck", "m", "boxes", "most", "wide"] sp_l_program)
    (c_l_boxes : Cal P w K mg base CX0 k "_law_boxes" ["deck"] sp_l_boxes)
    (c_l_deck : Cal P w K mg base CX0 k "_law_deck" ["cell", "many"] sp_l_deck)
    (c_l_cell_at : Cal P w K mg base CX0 k "_law_cell_at" ["script", "k"] sp_l_cell_at) (m_range : mg "range" = none) (m_max : mg "max" = none) (m_min : mg "min" = none) (m_len : mg "len" = none)
    (f : Addr) (cdv : Value) (A : Around) (outer : List Env) (s : Shared) (H : Hp) (E : XK) (hr : Room k (A.deeper (envOfC "law" (defScope s_law) s.heap.objs.size f cdv))) :
    PSs (cxOf CX0 P w K mg base ["script", "k", "deck", "m", "boxes", "one", "other", "gives", "row"] "law" (defScope s_law) f cdv A outer s H E).nox (defBody s_law) (t_law K sp_l_right sp_l_next sp_l_program sp_l_boxes sp_l_deck sp_l_cell_at) := by
  have hu : (cxOf CX0 P w K mg base ["script", "k", "deck", "m", "boxes", "one", "other", "gives", "row"] "law" (defScope s_law) f cdv A outer s H E).nox.A.units + 64 < cLine := hr.units
  have hu5 : (cxOf CX0 P w K mg base ["script", "k", "deck", "m", "boxes", "one", "other", "gives", "row"] "law" (defScope s_law) f cdv A outer s H E).nox.A.units + 65 < cLine := room65 hr
  have hu1 : (cxOf CX0 P w K mg base ["script", "k", "deck", "m", "boxes", "one", "other", "gives", "row"] "law" (defScope s_law) f cdv A outer s H E).nox.A.units + 1 < cLine := room1 hr
  unfold t_law
  exact (pss_cons (ps_for PassesOwn.never rfl (pi_range1 (by rfl) m_range (pa_cons (pe_callB (o_max rfl) (by rfl) m_max (by decide +kernel) (pa_cons pe_int (pa_cons (pe_callB (o_min rfl) (by rfl) m_min (by decide +kernel) (pa_cons (pe_callB o_len (by rfl) m_len (by decide +kernel) (pa_cons (pv 0) pa_nil)) (pa_cons pe_int pa_nil))) pa_nil))) pa_nil)) (pg_name (i := 1) sc_law.nd rfl (by first | exact Or.inl rfl | exact Or.inr rfl)) (pss_cons (ps_set (i := 2) sc_law.nd rfl (by first | exact Or.inl rfl | exact Or.inr rfl) (pe_c c_l_deck hr (by rfl) (pa_cons (pe_c c_l_cell_at hr (by rfl) (pa_cons (pv 0) (pa_cons (pv 1) pa_nil))) (pa_cons pe_int pa_nil))))
    (pss_cons (ps_asg (pe_c c_l_boxes hr (by rfl) (pa_cons (pv 2) pa_nil)) (pg_tup rfl (pgs_cons (pg_name (i := 3) sc_law.nd rfl (by first | exact Or.inl rfl | exact Or.inr rfl)) (pgs_cons (pg_name (i := 4) sc_law.nd rfl (by first | exact Or.inl rfl | exact Or.inr rfl)) pgs_nil))))
    (pss_cons (ps_set (i := 5) sc_law.nd rfl (by first | exact Or.inl rfl | exact Or.inr rfl) (pe_c c_l_program hr (by rfl) (pa_cons (pv 2) (pa_cons (pv 3) (pa_cons (pv 4) (pa_cons (pe_ix ix_seq (pe_lst (pa_cons pe_int (pa_cons pe_int (pa_cons pe_int pa_nil)))) (pe_op o_mod (pe_c c_l_next hr (by rfl) (pa_cons (pv 2) pa_nil)) pe_int) (fun _ _ => rfl)) (pa_cons pe_int pa_nil)))))))
    (pss_cons (ps_set (i := 6) sc_law.nd rfl (by first | exact Or.inl rfl | exact Or.inr rfl) (pe_c c_l_program hr (by rfl) (pa_cons (pv 2) (pa_cons (pv 3) (pa_cons (pv 4) (pa_cons (pe_ix ix_seq (pe_lst (pa_cons pe_int (pa_cons pe_int (pa_cons pe_int pa_nil)))) (pe_op o_mod (pe_c c_l_next hr (by rfl) (pa_cons (pv 2) pa_nil)) pe_int) (fun _ _ => rfl)) (pa_cons pe_int pa_nil)))))))
    (pss_cons (ps_if (pt_cmpR (o_eq hu) (pe_op o_mod (pe_c c_l_next hr (by rfl) (pa_cons (pv 2) pa_nil)) pe_int) pe_int (nomark _)) (pss_one (ps_set (i := 6) sc_law.nd rfl (by first | exact Or.inl rfl | exact Or.inr rfl) (pv 5))) pss_nil)
    (pss_cons (ps_setLc (i := 7) (own := [("row", 8)]) (g := (gName 8)) (tt := (tTest (tOp (dEq K) (tOp (rIx K) (tVar 8) (tC (.int 0))) (tC (.str "give"))))) rfl sc_law.nd rfl rfl (sw_true rfl rfl rfl (by decide +kernel)) (pi_list (pe_ix ix_seq (pv 5) pe_int (fun _ _ => rfl))) (blkOk_by (N := ["script", "k", "deck", "m", "boxes", "one", "other", "gives", "row"]) (sc := defScope s_law) (by decide +kernel)) (fun _ _ _ _ _ => (pg_name (i := 8) sc_law.nd rfl (by first | exact Or.inl rfl | exact Or.inr rfl))) (fun _ _ _ _ _ => (pts_one (pt_cmpR (o_eq hu) (pe_ix ix_seq (pv 8) pe_int (fun _ _ => rfl)) pe_str (nomark _)))) (fun _ _ _ _ _ => (pv 8)))
    (pss_one (ps_if (pt_cmpR o_le (pe_op o_add (pe_op o_add (pe_op o_add (pe_callB o_len (by rfl) m_len (by decide +kernel) (pa_cons (pe_ix ix_seq (pv 5) pe_int (fun _ _ => rfl)) pa_nil)) (pe_callB o_len (by rfl) m_len (by decide +kernel) (pa_cons (pv 7) pa_nil))) pe_int) (pe_callB o_len (by rfl) m_len (by decide +kernel) (pa_cons (pe_ix ix_seq (pv 6) pe_int (fun _ _ => rfl)) pa_nil))) pe_int (nomark _)) (pss_one (ps_if (pt_not (pt_val (pe_c c_l_right hr (by rfl) (pa_cons (pv 2) (pa_cons (pv 5) (pa_cons (pv 6) (pa_cons (pe_ix ix_seq (pv 4) (pe_op o_mod (pe_c c_l_next hr (by rfl) (pa_cons (pv 2) pa_nil)) (pe_callB o_len (by rfl) m_len (by decide +kernel) (pa_cons (pv 4) pa_nil))) (fun _ _ => rfl)) pa_nil))))))) (pss_one (ps_ret pe_bl)) pss_nil)) pss_nil)))))))))
    (pss_one (ps_ret pe_bl)))
end Sy
end
section
set_option Elab.async false
set_option linter.all false
set_option maxRecDepth 100000
set_option pp.maxSteps 600
open PySem L2 Pk
local macro_rules | `(tactic| walk_at "sh") => `(tactic| first | exact sh_int | exact sh_bool | exact sh_non | exact sh_nil | exact sh_str (by decide +kernel) | assumption)
local macro_rules | `(tactic| walk_at "v1") => `(tactic| first
  | (with_reducible refine wd_int ?_) | (with_reducible refine wd_str ?_) | (with_reducible refine wd_bl ?_) | (with_reducible refine wd_non ?_)
  | ((with_reducible apply wd_var); exact rfl) | ((with_reducible apply wd_varN); exact rfl)
  | ((with_reducible apply wd_ixm); exact rfl)
  | ((with_reducible apply wd_lenM); exact rfl) | ((with_reducible apply wd_lenScript); exact rfl) | ((with_reducible apply wd_ixScript); exact rfl)
  | (with_reducible refine wd_op ?_) | (with_reducible refine wd_un ?_)
  | (with_reducible refine rd_add ?_) | (with_reducible refine rd_sub ?_) | (with_reducible refine rd_lt ?_) | (with_reducible refine rd_le ?_) | (with_reducible refine rd_gt ?_) | (with_reducible refine rd_ge ?_) | (with_reducible refine ru_neg ?_)
  | ((with_reducible refine rd_eq ?ev_h ?ev_k ?_); (case ev_h => walk_at "sh"); (case ev_k => walk_at "sh")) | ((with_reducible refine rd_ne ?ev_h ?ev_k ?_); (case ev_h => walk_at "sh"); (case ev_k => walk_at "sh"))
  | ((with_reducible refine rd_mod ?ev_h ?_); case ev_h => first | decide | assumption | omega) | ((with_reducible refine rd_div ?ev_h ?ev_k ?_); (case ev_h => first | decide | assumption | omega); (case ev_k => first | decide | assumption | omega))
  | ((with_reducible refine rd_pow ?ev_h ?_); case ev_h => exact ⟨by decide, by decide, by decide⟩)
  | ((with_reducible refine rd_mul ?ev_h ?_); case ev_h => first | exact .inr ⟨by decide, by decide⟩ | exact .inl ⟨by decide, by decide⟩ | exact .inl ⟨by omega, by omega⟩ | exact .inr ⟨by omega, by omega⟩)
  | (with_reducible refine rc_lenL ?_) | (with_reducible refine rc_lenT ?_) | (with_reducible refine rc_max2 ?_) | (with_reducible refine rc_min2 ?_) | (with_reducible refine rc_intB ?_) | (with_reducible refine rc_intI ?_) | (with_reducible refine rc_listL ?_) | (with_reducible refine rc_listT ?_) | (with_reducible refine rc_tupleL ?_)
  | ((with_reducible apply rd_ixT); exact rfl)
  | ((with_reducible apply rd_ixL); exact rfl)
  | ((with_reducible refine wd_isi ?ev_h ?_); case ev_h => decide) | ((with_reducible refine wd_isi2 ?ev_h ?ev_k ?_); (case ev_h => decide); (case ev_k => decide))
  | (with_reducible refine wd_tup2 ?_) | (with_reducible refine wd_tup1 ?_) | (with_reducible refine wd_tup3 ?_) | (with_reducible refine wd_tup0 ?_)
  | (with_reducible refine wd_lst0 ?_) | (with_reducible refine wd_lst1 ?_) | (with_reducible refine wd_lst2 ?_) | (with_reducible refine wd_lst3 ?_) | (with_reducible refine wd_lst4 ?_) | (with_reducible refine wd_lst5 ?_) | (with_reducible refine wd_lst6 ?_)
  | ((with_reducible apply wd_callO0); exact rfl) | ((with_reducible apply wd_callO1); exact rfl) | ((with_reducible apply wd_callO2); exact rfl) | ((with_reducible apply wd_callO3); exact rfl)
  | (with_reducible refine wd_call1 ?_) | (with_reducible refine wd_call2 ?_) | (with_reducible refine wd_call3 ?_) | (with_reducible refine wd_call4 ?_) | (with_reducible refine wd_call0 ?_)
  | (with_reducible refine wd_cb1 ?_) | (with_reducible refine wd_cb2 ?_)
  | (with_reducible refine wd_rev ?_) | (with_reducible refine wd_lrg1 ?_) | (with_reducible refine wd_sl ?_) | (with_reducible refine wo_no ?_) | (with_reducible refine wo_some ?_)
  | (with_reducible refine wd_andV ?_) | (with_reducible refine wd_orV ?_) | (with_reducible refine wd_notV ?_) | (with_reducible refine wd_if ?_) | (with_reducible refine wd_chain ?_)
  | (with_reducible refine wt_test ?_) | (with_reducible refine wt_B ?_) | (with_reducible refine wt_not ?_) | (with_reducible refine wt_and ?_) | (with_reducible refine wt_or ?_) | (with_reducible refine wt_yes ?_)
  | (with_reducible refine gj_name ?_) | (with_reducible refine gj_tup rfl ?_) | (with_reducible refine gjs_cons ?_) | (with_reducible refine gjs_nil ?_))
local macro_rules | `(tactic| walk_at "v") => `(tactic| repeat walk_at "v1")
local macro_rules | `(tactic| walk_at "x") => `(tactic| refine ⟨_, rfl, ?_⟩)
local macro_rules | `(tactic| walk_at "vx") => `(tactic| repeat (first | walk_at "v1" | (with_reducible refine ⟨_, rfl, ?_⟩)))
namespace Dk
open PySem PySem.Spec PyProof.Rows L2 Pk Sy
section
variable {K : Kw} {m : Bool} {v : V} {Q : PyData → Prop}
end
section
variable {P : Program} {K : Kw} {mg : Str → Option Value} {base : Heap} {k : Nat}
theorem mod_ix {n : Int} {len : Nat} (h : 1 ≤ len) : ∃ j : Nat, j < len ∧ n % (len : Int) = (j : Int) := by
  have h0 := Int.emod_nonneg n (show (len : Int) ≠ 0 by omega)
  have h1 := Int.emod_lt_of_pos n (show (0 : Int) < len by omega)
  exact ⟨(n % (len : Int)).toNat, by omega, by omega⟩
end
end Dk
end
section
set_option Elab.async false
set_option linter.all false
set_option maxRecDepth 100000
set_option pp.maxSteps 600
open PySem L2 Pk
local macro_rules | `(tactic| walk_at "sh") => `(tactic| first | exact sh_int | exact sh_bool | exact sh_non | exact sh_nil | exact sh_str (by decide +kernel) | assumption)
local macro_rules | `(tactic| walk_at "v1") => `(tactic| first
  | (with_reducible refine wd_int ?_) | (with_reducible refine wd_str ?_) | (with_reducible refine wd_bl ?_) | (with_reducible refine wd_non ?_)
  | ((with_reducible apply wd_var); exact rfl) | ((with_reducible apply wd_varN); exact rfl)
  | ((with_reducible apply wd_ixm); exact rfl)
  | ((with_reducible apply wd_lenM); exact rfl) | ((with_reducible apply wd_lenScript); exact rfl) | ((with_reducible apply wd_ixScript); exact rfl)
  | (with_reducible refine wd_op ?_) | (with_reducible refine wd_un ?_)
  | (with_reducible refine rd_add ?_) | (with_reducible refine rd_sub ?_) | (with_reducible refine rd_lt ?_) | (with_reducible refine rd_le ?_) | (with_reducible refine rd_gt ?_) | (with_reducible refine rd_ge ?_) | (with_reducible refine ru_neg ?_)
  | ((with_reducible refine rd_eq ?ev_h ?ev_k ?_); (case ev_h => walk_at "sh"); (case ev_k => walk_at "sh")) | ((with_reducible refine rd_ne ?ev_h ?ev_k ?_); (case ev_h => walk_at "sh"); (case ev_k => walk_at "sh"))
  | ((with_reducible refine rd_mod ?ev_h ?_); case ev_h => first | decide | assumption | omega) | ((with_reducible refine rd_div ?ev_h ?ev_k ?_); (case ev_h => first | decide | assumption | omega); (case ev_k => first | decide | assumption | omega))
  | ((with_reducible refine rd_pow ?ev_h ?_); case ev_h => exact ⟨by decide, by decide, by decide⟩)
  | ((with_reducible refine rd_mul ?ev_h ?_); case ev_h => first | exact .inr ⟨by decide, by decide⟩ | exact .inl ⟨by decide, by decide⟩ | exact .inl ⟨by omega, by omega⟩ | exact .inr ⟨by omega, by omega⟩)
  | (with_reducible refine rc_lenL ?_) | (with_reducible refine rc_lenT ?_) | (with_reducible refine rc_max2 ?_) | (with_reducible refine rc_min2 ?_) | (with_reducible refine rc_intB ?_) | (with_reducible refine rc_intI ?_) | (with_reducible refine rc_listL ?_) | (with_reducible refine rc_listT ?_) | (with_reducible refine rc_tupleL ?_)
  | ((with_reducible apply rd_ixT); exact rfl)
  | ((with_reducible apply rd_ixL); exact rfl)
  | ((with_reducible refine wd_isi ?ev_h ?_); case ev_h => decide) | ((with_reducible refine wd_isi2 ?ev_h ?ev_k ?_); (case ev_h => decide); (case ev_k => decide))
  | (with_reducible refine wd_tup2 ?_) | (with_reducible refine wd_tup1 ?_) | (with_reducible refine wd_tup3 ?_) | (with_reducible refine wd_tup0 ?_)
  | (with_reducible refine wd_lst0 ?_) | (with_reducible refine wd_lst1 ?_) | (with_reducible refine wd_lst2 ?_) | (with_reducible refine wd_lst3 ?_) | (with_reducible refine wd_lst4 ?_) | (with_reducible refine wd_lst5 ?_) | (with_reducible refine wd_lst6 ?_)
  | ((with_reducible apply wd_callO0); exact rfl) | ((with_reducible apply wd_callO1); exact rfl) | ((with_reducible apply wd_callO2); exact rfl) | ((with_reducible apply wd_callO3); exact rfl)
  | (with_reducible refine wd_call1 ?_) | (with_reducible refine wd_call2 ?_) | (with_reducible refine wd_call3 ?_) | (with_reducible refine wd_call4 ?_) | (with_reducible refine wd_call0 ?_)
  | (with_reducible refine wd_cb1 ?_) | (with_reducible refine wd_cb2 ?_)
  | (with_reducible refine wd_rev ?_) | (with_reducible refine wd_lrg1 ?_) | (with_reducible refine wd_sl ?_) | (with_reducible refine wo_no ?_) | (with_reducible refine wo_some ?_)
  | (with_reducible refine wd_andV ?_) | (with_reducible refine wd_orV ?_) | (with_reducible refine wd_notV ?_) | (with_reducible refine wd_if ?_) | (with_reducible refine wd_chain ?_)
  | (with_reducible refine wt_test ?_) | (with_reducible refine wt_B ?_) | (with_reducible refine wt_not ?_) | (with_reducible refine wt_and ?_) | (with_reducible refine wt_or ?_) | (with_reducible refine wt_yes ?_)
  | (with_reducible refine gj_name ?_) | (with_reducible refine gj_tup rfl ?_) | (with_reducible refine gjs_cons ?_) | (with_reducible refine gjs_nil ?_))
local macro_rules | `(tactic| walk_at "v") => `(tactic| repeat walk_at "v1")
local macro_rules | `(tactic| walk_at "x") => `(tactic| refine ⟨_, rfl, ?_⟩)
local macro_rules | `(tactic| walk_at "vx") => `(tactic| repeat (first | walk_at "v1" | (with_reducible refine ⟨_, rfl, ?_⟩)))
namespace Dk
open PySem PySem.Spec PyProof.Rows L2 Pk Sy
structure MB (m : Nat) (bs : List Str) : Prop where
  m2 : 2 ≤ m
  m16 : m ≤ 16
  bs : BsOk bs
abbrev rwsD (rows : List Rw) : PyData := .list (rows.map Rw.d)
section
variable {K : Kw} {m : Bool} {v : V} {Q : PyData → Prop} {Γ : List Sl}
/-- a box of the boxes, at a drawn place -/
theorem rd_box {bs : List Str} {r : Nat} (h : r < bs.length) (q : ∀ x ∈ bs, Q (.str x)) : RD K m Γ (rIx K) (bsD bs) (.int r) Q := rd_selN r rfl (d := .str bs[r]) (by simp [h]) (q _ (List.getElem_mem h))
end
theorem list_of {α : Type} {f : α → PyData} {Pr : α → Prop} : ∀ {acc : List PyData}, (∀ y ∈ acc, ∃ t, Pr t ∧ y = f t) → ∃ ts : List α, acc = ts.map f ∧ ∀ t ∈ ts, Pr t
  | [], _ => ⟨[], rfl, fun _ z => by cases z⟩
  | y :: acc, h => by
    obtain ⟨t, ht, e⟩ := h y List.mem_cons_self
    obtain ⟨ts, e2, h2⟩ := list_of (acc := acc) fun z hz => h z (List.mem_cons_of_mem _ hz)
    refine ⟨t :: ts, by rw [List.map_cons, e, e2], fun x hx => ?_⟩
    rcases List.mem_cons.mp hx with z | z
    · rw [z]; exact ht
    · exact h2 x z
section
variable {P : Program} {K : Kw} {mg : Str → Option Value} {base : Heap} {k : Nat}
end
end Dk
end
section
set_option Elab.async false
set_option linter.all false
set_option maxRecDepth 100000
set_option pp.maxSteps 600
open PySem L2 Pk
local macro_rules | `(tactic| walk_at "sh") => `(tactic| first | exact sh_int | exact sh_bool | exact sh_non | exact sh_nil | exact sh_str (by decide +kernel) | assumption)
local macro_rules | `(tactic| walk_at "v1") => `(tactic| first
  | (with_reducible refine wd_int ?_) | (with_reducible refine wd_str ?_) | (with_reducible refine wd_bl ?_) | (with_reducible refine wd_non ?_)
  | ((with_reducible apply wd_var); exact rfl) | ((with_reducible apply wd_varN); exact rfl)
  | ((with_reducible apply wd_ixm); exact rfl)
  | ((with_reducible apply wd_lenM); exact rfl) | ((with_reducible apply wd_lenScript); exact rfl) | ((with_reducible apply wd_ixScript); exact rfl)
  | (with_reducible refine wd_op ?_) | (with_reducible refine wd_un ?_)
  | (with_reducible refine rd_add ?_) | (with_reducible refine rd_sub ?_) | (with_reducible refine rd_lt ?_) | (with_reducible refine rd_le ?_) | (with_reducible refine rd_gt ?_) | (with_reducible refine rd_ge ?_) | (with_reducible refine ru_neg ?_)
  | ((with_reducible refine rd_eq ?ev_h ?ev_k ?_); (case ev_h => walk_at "sh"); (case ev_k => walk_at "sh")) | ((with_reducible refine rd_ne ?ev_h ?ev_k ?_); (case ev_h => walk_at "sh"); (case ev_k => walk_at "sh"))
  | ((with_reducible refine rd_mod ?ev_h ?_); case ev_h => first | decide | assumption | omega) | ((with_reducible refine rd_div ?ev_h ?ev_k ?_); (case ev_h => first | decide | assumption | omega); (case ev_k => first | decide | assumption | omega))
  | ((with_reducible refine rd_pow ?ev_h ?_); case ev_h => exact ⟨by decide, by decide, by decide⟩)
  | ((with_reducible refine rd_mul ?ev_h ?_); case ev_h => first | exact .inr ⟨by decide, by decide⟩ | exact .inl ⟨by decide, by decide⟩ | exact .inl ⟨by omega, by omega⟩ | exact .inr ⟨by omega, by omega⟩)
  | (with_reducible refine rc_lenL ?_) | (with_reducible refine rc_lenT ?_) | (with_reducible refine rc_max2 ?_) | (with_reducible refine rc_min2 ?_) | (with_reducible refine rc_intB ?_) | (with_reducible refine rc_intI ?_) | (with_reducible refine rc_listL ?_) | (with_reducible refine rc_listT ?_) | (with_reducible refine rc_tupleL ?_)
  | ((with_reducible apply rd_ixT); exact rfl)
  | ((with_reducible apply rd_ixL); exact rfl)
  | ((with_reducible refine wd_isi ?ev_h ?_); case ev_h => decide) | ((with_reducible refine wd_isi2 ?ev_h ?ev_k ?_); (case ev_h => decide); (case ev_k => decide))
  | (with_reducible refine wd_tup2 ?_) | (with_reducible refine wd_tup1 ?_) | (with_reducible refine wd_tup3 ?_) | (with_reducible refine wd_tup0 ?_)
  | (with_reducible refine wd_lst0 ?_) | (with_reducible refine wd_lst1 ?_) | (with_reducible refine wd_lst2 ?_) | (with_reducible refine wd_lst3 ?_) | (with_reducible refine wd_lst4 ?_) | (with_reducible refine wd_lst5 ?_) | (with_reducible refine wd_lst6 ?_)
  | ((with_reducible apply wd_callO0); exact rfl) | ((with_reducible apply wd_callO1); exact rfl) | ((with_reducible apply wd_callO2); exact rfl) | ((with_reducible apply wd_callO3); exact rfl)
  | (with_reducible refine wd_call1 ?_) | (with_reducible refine wd_call2 ?_) | (with_reducible refine wd_call3 ?_) | (with_reducible refine wd_call4 ?_) | (with_reducible refine wd_call0 ?_)
  | (with_reducible refine wd_cb1 ?_) | (with_reducible refine wd_cb2 ?_)
  | (with_reducible refine wd_rev ?_) | (with_reducible refine wd_lrg1 ?_) | (with_reducible refine wd_sl ?_) | (with_reducible refine wo_no ?_) | (with_reducible refine wo_some ?_)
  | (with_reducible refine wd_andV ?_) | (with_reducible refine wd_orV ?_) | (with_reducible refine wd_notV ?_) | (with_reducible refine wd_if ?_) | (with_reducible refine wd_chain ?_)
  | (with_reducible refine wt_test ?_) | (with_reducible refine wt_B ?_) | (with_reducible refine wt_not ?_) | (with_reducible refine wt_and ?_) | (with_reducible refine wt_or ?_) | (with_reducible refine wt_yes ?_)
  | (with_reducible refine gj_name ?_) | (with_reducible refine gj_tup rfl ?_) | (with_reducible refine gjs_cons ?_) | (with_reducible refine gjs_nil ?_))
local macro_rules | `(tactic| walk_at "v") => `(tactic| repeat walk_at "v1")
local macro_rules | `(tactic| walk_at "x") => `(tactic| refine ⟨_, rfl, ?_⟩)
local macro_rules | `(tactic| walk_at "vx") => `(tactic| repeat (first | walk_at "v1" | (with_reducible refine ⟨_, rfl, ?_⟩)))
namespace Dk
open PySem PySem.Spec PyProof.Rows L2 Pk Sy
section
variable {P : Program} {K : Kw} {mg : Str → Option Value} {base : Heap} {k : Nat}
end
end Dk
end
section
set_option Elab.async false
set_option linter.all false
set_option maxRecDepth 100000
set_option pp.maxSteps 600
open PySem L2 Pk
local macro_rules | `(tactic| walk_at "sh") => `(tactic| first | exact sh_int | exact sh_bool | exact sh_non | exact sh_nil | exact sh_str (by decide +kernel) | assumption)
local macro_rules | `(tactic| walk_at "v1") => `(tactic| first
  | (with_reducible refine wd_int ?_) | (with_reducible refine wd_str ?_) | (with_reducible refine wd_bl ?_) | (with_reducible refine wd_non ?_)
  | ((with_reducible apply wd_var); exact rfl) | ((with_reducible apply wd_varN); exact rfl)
  | ((with_reducible apply wd_ixm); exact rfl)
  | ((with_reducible apply wd_lenM); exact rfl) | ((with_reducible apply wd_lenScript); exact rfl) | ((with_reducible apply wd_ixScript); exact rfl)
  | (with_reducible refine wd_op ?_) | (with_reducible refine wd_un ?_)
  | (with_reducible refine rd_add ?_) | (with_reducible refine rd_sub ?_) | (with_reducible refine rd_lt ?_) | (with_reducible refine rd_le ?_) | (with_reducible refine rd_gt ?_) | (with_reducible refine rd_ge ?_) | (with_reducible refine ru_neg ?_)
  | ((with_reducible refine rd_eq ?ev_h ?ev_k ?_); (case ev_h => walk_at "sh"); (case ev_k => walk_at "sh")) | ((with_reducible refine rd_ne ?ev_h ?ev_k ?_); (case ev_h => walk_at "sh"); (case ev_k => walk_at "sh"))
  | ((with_reducible refine rd_mod ?ev_h ?_); case ev_h => first | decide | assumption | omega) | ((with_reducible refine rd_div ?ev_h ?ev_k ?_); (case ev_h => first | decide | assumption | omega); (case ev_k => first | decide | assumption | omega))
  | ((with_reducible refine rd_pow ?ev_h ?_); case ev_h => exact ⟨by decide, by decide, by decide⟩)
  | ((with_reducible refine rd_mul ?ev_h ?_); case ev_h => first | exact .inr ⟨by decide, by decide⟩ | exact .inl ⟨by decide, by decide⟩ | exact .inl ⟨by omega, by omega⟩ | exact .inr ⟨by omega, by omega⟩)
  | (with_reducible refine rc_lenL ?_) | (with_reducible refine rc_lenT ?_) | (with_reducible refine rc_max2 ?_) | (with_reducible refine rc_min2 ?_) | (with_reducible refine rc_intB ?_) | (with_reducible refine rc_intI ?_) | (with_reducible refine rc_listL ?_) | (with_reducible refine rc_listT ?_) | (with_reducible refine rc_tupleL ?_)
  | ((with_reducible apply rd_ixT); exact rfl)
  | ((with_reducible apply rd_ixL); exact rfl)
  | ((with_reducible refine wd_isi ?ev_h ?_); case ev_h => decide) | ((with_reducible refine wd_isi2 ?ev_h ?ev_k ?_); (case ev_h => decide); (case ev_k => decide))
  | (with_reducible refine wd_tup2 ?_) | (with_reducible refine wd_tup1 ?_) | (with_reducible refine wd_tup3 ?_) | (with_reducible refine wd_tup0 ?_)
  | (with_reducible refine wd_lst0 ?_) | (with_reducible refine wd_lst1 ?_) | (with_reducible refine wd_lst2 ?_) | (with_reducible refine wd_lst3 ?_) | (with_reducible refine wd_lst4 ?_) | (with_reducible refine wd_lst5 ?_) | (with_reducible refine wd_lst6 ?_)
  | ((with_reducible apply wd_callO0); exact rfl) | ((with_reducible apply wd_callO1); exact rfl) | ((with_reducible apply wd_callO2); exact rfl) | ((with_reducible apply wd_callO3); exact rfl)
  | (with_reducible refine wd_call1 ?_) | (with_reducible refine wd_call2 ?_) | (with_reducible refine wd_call3 ?_) | (with_reducible refine wd_call4 ?_) | (with_reducible refine wd_call0 ?_)
  | (with_reducible refine wd_cb1 ?_) | (with_reducible refine wd_cb2 ?_)
  | (with_reducible refine wd_rev ?_) | (with_reducible refine wd_lrg1 ?_) | (with_reducible refine wd_sl ?_) | (with_reducible refine wo_no ?_) | (with_reducible refine wo_some ?_)
  | (with_reducible refine wd_andV ?_) | (with_reducible refine wd_orV ?_) | (with_reducible refine wd_notV ?_) | (with_reducible refine wd_if ?_) | (with_reducible refine wd_chain ?_)
  | (with_reducible refine wt_test ?_) | (with_reducible refine wt_B ?_) | (with_reducible refine wt_not ?_) | (with_reducible refine wt_and ?_) | (with_reducible refine wt_or ?_) | (with_reducible refine wt_yes ?_)
  | (with_reducible refine gj_name ?_) | (with_reducible refine gj_tup rfl ?_) | (with_reducible refine gjs_cons ?_) | (with_reducible refine gjs_nil ?_))
local macro_rules | `(tactic| walk_at "v") => `(tactic| repeat walk_at "v1")
local macro_rules | `(tactic| walk_at "x") => `(tactic| refine ⟨_, rfl, ?_⟩)
local macro_rules | `(tactic| walk_at "vx") => `(tactic| repeat (first | walk_at "v1" | (with_reducible refine ⟨_, rfl, ?_⟩)))
namespace Dk
open PySem PySem.Spec PyProof.Rows L2 Pk Sy Pz
def T_worth (n : Nat) (K : Kw) : List Sl → (Sl → Prop) → Prop := fun Γ Q => ∃ p : Pg, ∃ t : Th, ∃ st, Γ = [.dat false p.d, .dat false t.d, .dat false (stD st)] ∧ MB p.m p.bs ∧ StOk p.m p.bs st ∧ t.Ok p.m p.bs n ∧ Q (.dat true (.int (t.v p.m p.bs st : Nat)))
theorem Pg.Ok.mb {p : Pg} (h : p.Ok) : MB p.m p.bs := ⟨h.m2, h.m16, h.bs⟩
section
variable {K : Kw} {m : Bool} {Γ : List Sl} {Q : PyData → Prop}
theorem rd_pgM {p : Pg} (q : Q (.int p.m)) : RD K m Γ (rIx K) p.d (.int 0) Q := rd_ixT rfl q
theorem rd_pgB {p : Pg} (q : Q (bsD p.bs)) : RD K m Γ (rIx K) p.d (.int 1) Q := rd_ixT rfl q
theorem rd_pgR {p : Pg} (q : Q (rwsD p.rows)) : RD K m Γ (rIx K) p.d (.int 2) Q := rd_ixT rfl q
end
section
variable {P : Program} {K : Kw} {mg : Str → Option Value} {base : Heap} {k : Nat}
end
end Dk
end
section
set_option Elab.async false
set_option linter.all false
set_option maxRecDepth 100000
set_option pp.maxSteps 600
open PySem L2 Pk
local macro_rules | `(tactic| walk_at "sh") => `(tactic| first | exact sh_int | exact sh_bool | exact sh_non | exact sh_nil | exact sh_str (by decide +kernel) | assumption)
local macro_rules | `(tactic| walk_at "v1") => `(tactic| first
  | (with_reducible refine wd_int ?_) | (with_reducible refine wd_str ?_) | (with_reducible refine wd_bl ?_) | (with_reducible refine wd_non ?_)
  | ((with_reducible apply wd_var); exact rfl) | ((with_reducible apply wd_varN); exact rfl)
  | ((with_reducible apply wd_ixm); exact rfl)
  | ((with_reducible apply wd_lenM); exact rfl) | ((with_reducible apply wd_lenScript); exact rfl) | ((with_reducible apply wd_ixScript); exact rfl)
  | (with_reducible refine wd_op ?_) | (with_reducible refine wd_un ?_)
  | (with_reducible refine rd_add ?_) | (with_reducible refine rd_sub ?_) | (with_reducible refine rd_lt ?_) | (with_reducible refine rd_le ?_) | (with_reducible refine rd_gt ?_) | (with_reducible refine rd_ge ?_) | (with_reducible refine ru_neg ?_)
  | ((with_reducible refine rd_eq ?ev_h ?ev_k ?_); (case ev_h => walk_at "sh"); (case ev_k => walk_at "sh")) | ((with_reducible refine rd_ne ?ev_h ?ev_k ?_); (case ev_h => walk_at "sh"); (case ev_k => walk_at "sh"))
  | ((with_reducible refine rd_mod ?ev_h ?_); case ev_h => first | decide | assumption | omega) | ((with_reducible refine rd_div ?ev_h ?ev_k ?_); (case ev_h => first | decide | assumption | omega); (case ev_k => first | decide | assumption | omega))
  | ((with_reducible refine rd_pow ?ev_h ?_); case ev_h => exact ⟨by decide, by decide, by decide⟩)
  | ((with_reducible refine rd_mul ?ev_h ?_); case ev_h => first | exact .inr ⟨by decide, by decide⟩ | exact .inl ⟨by decide, by decide⟩ | exact .inl ⟨by omega, by omega⟩ | exact .inr ⟨by omega, by omega⟩)
  | (with_reducible refine rc_lenL ?_) | (with_reducible refine rc_lenT ?_) | (with_reducible refine rc_max2 ?_) | (with_reducible refine rc_min2 ?_) | (with_reducible refine rc_intB ?_) | (with_reducible refine rc_intI ?_) | (with_reducible refine rc_listL ?_) | (with_reducible refine rc_listT ?_) | (with_reducible refine rc_tupleL ?_)
  | ((with_reducible apply rd_ixT); exact rfl)
  | ((with_reducible apply rd_ixL); exact rfl)
  | ((with_reducible refine wd_isi ?ev_h ?_); case ev_h => decide) | ((with_reducible refine wd_isi2 ?ev_h ?ev_k ?_); (case ev_h => decide); (case ev_k => decide))
  | (with_reducible refine wd_tup2 ?_) | (with_reducible refine wd_tup1 ?_) | (with_reducible refine wd_tup3 ?_) | (with_reducible refine wd_tup0 ?_)
  | (with_reducible refine wd_lst0 ?_) | (with_reducible refine wd_lst1 ?_) | (with_reducible refine wd_lst2 ?_) | (with_reducible refine wd_lst3 ?_) | (with_reducible refine wd_lst4 ?_) | (with_reducible refine wd_lst5 ?_) | (with_reducible refine wd_lst6 ?_)
  | ((with_reducible apply wd_callO0); exact rfl) | ((with_reducible apply wd_callO1); exact rfl) | ((with_reducible apply wd_callO2); exact rfl) | ((with_reducible apply wd_callO3); exact rfl)
  | (with_reducible refine wd_call1 ?_) | (with_reducible refine wd_call2 ?_) | (with_reducible refine wd_call3 ?_) | (with_reducible refine wd_call4 ?_) | (with_reducible refine wd_call0 ?_)
  | (with_reducible refine wd_cb1 ?_) | (with_reducible refine wd_cb2 ?_)
  | (with_reducible refine wd_rev ?_) | (with_reducible refine wd_lrg1 ?_) | (with_reducible refine wd_sl ?_) | (with_reducible refine wo_no ?_) | (with_reducible refine wo_some ?_)
  | (with_reducible refine wd_andV ?_) | (with_reducible refine wd_orV ?_) | (with_reducible refine wd_notV ?_) | (with_reducible refine wd_if ?_) | (with_reducible refine wd_chain ?_)
  | (with_reducible refine wt_test ?_) | (with_reducible refine wt_B ?_) | (with_reducible refine wt_not ?_) | (with_reducible refine wt_and ?_) | (with_reducible refine wt_or ?_) | (with_reducible refine wt_yes ?_)
  | (with_reducible refine gj_name ?_) | (with_reducible refine gj_tup rfl ?_) | (with_reducible refine gjs_cons ?_) | (with_reducible refine gjs_nil ?_))
local macro_rules | `(tactic| walk_at "v") => `(tactic| repeat walk_at "v1")
local macro_rules | `(tactic| walk_at "x") => `(tactic| refine ⟨_, rfl, ?_⟩)
local macro_rules | `(tactic| walk_at "vx") => `(tactic| repeat (first | walk_at "v1" | (with_reducible refine ⟨_, rfl, ?_⟩)))
namespace Dk
open PySem PySem.Spec PyProof.Rows L2 Pk Sy Pz
section
variable {P : Program} {K : Kw} {mg : Str → Option Value} {base : Heap} {k : Nat}
end
end Dk
end
section
set_option Elab.async false
set_option linter.all false
set_option maxRecDepth 100000
set_option pp.maxSteps 600
open PySem L2 Pk
local macro_rules | `(tactic| walk_at "sh") => `(tactic| first | exact sh_int | exact sh_bool | exact sh_non | exact sh_nil | exact sh_str (by decide +kernel) | assumption)
local macro_rules | `(tactic| walk_at "v1") => `(tactic| first
  | (with_reducible refine wd_int ?_) | (with_reducible refine wd_str ?_) | (with_reducible refine wd_bl ?_) | (with_reducible refine wd_non ?_)
  | ((with_reducible apply wd_var); exact rfl) | ((with_reducible apply wd_varN); exact rfl)
  | ((with_reducible apply wd_ixm); exact rfl)
  | ((with_reducible apply wd_lenM); exact rfl) | ((with_reducible apply wd_lenScript); exact rfl) | ((with_reducible apply wd_ixScript); exact rfl)
  | (with_reducible refine wd_op ?_) | (with_reducible refine wd_un ?_)
  | (with_reducible refine rd_add ?_) | (with_reducible refine rd_sub ?_) | (with_reducible refine rd_lt ?_) | (with_reducible refine rd_le ?_) | (with_reducible refine rd_gt ?_) | (with_reducible refine rd_ge ?_) | (with_reducible refine ru_neg ?_)
  | ((with_reducible refine rd_eq ?ev_h ?ev_k ?_); (case ev_h => walk_at "sh"); (case ev_k => walk_at "sh")) | ((with_reducible refine rd_ne ?ev_h ?ev_k ?_); (case ev_h => walk_at "sh"); (case ev_k => walk_at "sh"))
  | ((with_reducible refine rd_mod ?ev_h ?_); case ev_h => first | decide | assumption | omega) | ((with_reducible refine rd_div ?ev_h ?ev_k ?_); (case ev_h => first | decide | assumption | omega); (case ev_k => first | decide | assumption | omega))
  | ((with_reducible refine rd_pow ?ev_h ?_); case ev_h => exact ⟨by decide, by decide, by decide⟩)
  | ((with_reducible refine rd_mul ?ev_h ?_); case ev_h => first | exact .inr ⟨by decide, by decide⟩ | exact .inl ⟨by decide, by decide⟩ | exact .inl ⟨by omega, by omega⟩ | exact .inr ⟨by omega, by omega⟩)
  | (with_reducible refine rc_lenL ?_) | (with_reducible refine rc_lenT ?_) | (with_reducible refine rc_max2 ?_) | (with_reducible refine rc_min2 ?_) | (with_reducible refine rc_intB ?_) | (with_reducible refine rc_intI ?_) | (with_reducible refine rc_listL ?_) | (with_reducible refine rc_listT ?_) | (with_reducible refine rc_tupleL ?_)
  | ((with_reducible apply rd_ixT); exact rfl)
  | ((with_reducible apply rd_ixL); exact rfl)
  | ((with_reducible refine wd_isi ?ev_h ?_); case ev_h => decide) | ((with_reducible refine wd_isi2 ?ev_h ?ev_k ?_); (case ev_h => decide); (case ev_k => decide))
  | (with_reducible refine wd_tup2 ?_) | (with_reducible refine wd_tup1 ?_) | (with_reducible refine wd_tup3 ?_) | (with_reducible refine wd_tup0 ?_)
  | (with_reducible refine wd_lst0 ?_) | (with_reducible refine wd_lst1 ?_) | (with_reducible refine wd_lst2 ?_) | (with_reducible refine wd_lst3 ?_) | (with_reducible refine wd_lst4 ?_) | (with_reducible refine wd_lst5 ?_) | (with_reducible refine wd_lst6 ?_)
  | ((with_reducible apply wd_callO0); exact rfl) | ((with_reducible apply wd_callO1); exact rfl) | ((with_reducible apply wd_callO2); exact rfl) | ((with_reducible apply wd_callO3); exact rfl)
  | (with_reducible refine wd_call1 ?_) | (with_reducible refine wd_call2 ?_) | (with_reducible refine wd_call3 ?_) | (with_reducible refine wd_call4 ?_) | (with_reducible refine wd_call0 ?_)
  | (with_reducible refine wd_cb1 ?_) | (with_reducible refine wd_cb2 ?_)
  | (with_reducible refine wd_rev ?_) | (with_reducible refine wd_lrg1 ?_) | (with_reducible refine wd_sl ?_) | (with_reducible refine wo_no ?_) | (with_reducible refine wo_some ?_)
  | (with_reducible refine wd_andV ?_) | (with_reducible refine wd_orV ?_) | (with_reducible refine wd_notV ?_) | (with_reducible refine wd_if ?_) | (with_reducible refine wd_chain ?_)
  | (with_reducible refine wt_test ?_) | (with_reducible refine wt_B ?_) | (with_reducible refine wt_not ?_) | (with_reducible refine wt_and ?_) | (with_reducible refine wt_or ?_) | (with_reducible refine wt_yes ?_)
  | (with_reducible refine gj_name ?_) | (with_reducible refine gj_tup rfl ?_) | (with_reducible refine gjs_cons ?_) | (with_reducible refine gjs_nil ?_))
local macro_rules | `(tactic| walk_at "v") => `(tactic| repeat walk_at "v1")
local macro_rules | `(tactic| walk_at "x") => `(tactic| refine ⟨_, rfl, ?_⟩)
local macro_rules | `(tactic| walk_at "vx") => `(tactic| repeat (first | walk_at "v1" | (with_reducible refine ⟨_, rfl, ?_⟩)))
namespace Dk
open PySem PySem.Spec PyProof.Rows L2 Pk Sy
def T_uset (K : Kw) : List Sl → (Sl → Prop) → Prop := fun Γ Q => ∃ p : Pg, ∃ st x, ∃ w : Nat, Γ = [.dat false p.d, .dat false (stD st), .dat false (.str x), .dat false (.int w)] ∧ p.Ok ∧ StOk p.m p.bs st ∧ x ∈ p.bs ∧ Q (.dat true (stD (put p.bs st x w)))
def T_uways (K : Kw) : List Sl → (Sl → Prop) → Prop := fun Γ Q => ∃ p : Pg, ∃ row : Nat, ∃ st, Γ = [.dat false p.d, .dat false (Wy.place row st).d] ∧ p.Ok ∧ row < p.rows.length ∧ StOk p.m p.bs st ∧ Q (.dat false (.list ((ways p row st).map Wy.d)))
theorem poe_endU {p : Pg} {row : Nat} {st : List Nat} (h : p.rows.length ≤ row) : poe p row st = .nothing := by unfold poe; rw [if_pos h]
theorem poe_plU {p : Pg} {row : Nat} {st : List Nat} (h : row < p.rows.length) : poe p row st = .place row st := by unfold poe; rw [if_neg (by omega)]
theorem nothings_map (ss : List (List Nat)) : (List.replicate ss.length [Wy.nothing.d]).flatten = ss.map fun _ => Wy.nothing.d := by
  induction ss with
  | nil => rfl
  | cons s ss ih => rw [List.length_cons, List.replicate_succ, List.flatten_cons, ih]; rfl
section
variable {P : Program} {K : Kw} {mg : Str → Option Value} {base : Heap} {k : Nat}
theorem ok_uworth (D : Def K mg "_law_worth" s_l_worth ["program", "thing", "store"]) (m_int : mg "int" = none) : ∀ n, Cal P K.w K mg base CX0 (k + n) "_law_worth" ["program", "thing", "store"] (spG K (T_worth n K))
  | 0 => by
    refine (cal_no D).imp fun vs H Q E h => ?_
    obtain ⟨_, _, _, _, _, _, _, _, _, ⟨p, t, st, _, _, _, h0, _⟩, _⟩ := h
    cases h0
  | n + 1 => by
    have ih := ok_uworth D m_int n
    refine cal_g D sc_l_worth (fun Γ Qr ⟨p, t, st, e, _⟩ => by subst e; exact ⟨rfl, noMl_dat (noMl_dat (noMl_dat noMl_nil))⟩) fun f cdv A outer s H E hr => ⟨_, wk_l_worth ih m_int f cdv A outer s H E hr, ?_⟩
    rintro Γ Qr ⟨p, t, st, rfl, hmb, hst, hok, q⟩
    have hm2 := hmb.m2
    have hm16 := hmb.m16
    have kp : ∀ {Γ'}, Keep [.dat false p.d, .dat false t.d, .dat false (stD st)] (.dat false p.d :: .dat false t.d :: .dat false (stD st) :: Γ') := fun {Γ'} => keep_dat (keep_dat (keep_dat keep_nil))
    show SJ K [.dat false p.d, .dat false t.d, .dat false (stD st), .no, .no] (t_l_worth K _) _
    unfold t_l_worth
    refine sj_seq (sj_if ?_)
    refine wt_test (wd_op (wd_op (wd_var rfl (wd_int (rd_th0 (wd_str (rd_eq (sh_str t.w_ok) (sh_str (ok_w (by simp))) ⟨_, rfl, ?_⟩)))))))
    rw [Th.eqN]
    cases t with
    | num n =>
      refine iteT' rfl (sj_retD true (wd_lf (wd_op (wd_var rfl (wd_int (rd_ixT (d := .int n) rfl ?_))))))
      exact ⟨rfl, kp, q⟩
    | box x =>
      have hx : x ∈ p.bs := hok
      refine iteF' rfl (sj_next ?_)
      refine sj_seq (sj_if ?_)
      refine wt_test (wd_op (wd_op (wd_var rfl (wd_int (rd_th0 (wd_str (rd_eq (sh_str (Th.w_ok (.box x))) (sh_str (ok_w (by simp))) ⟨_, rfl, ?_⟩)))))))
      rw [Th.eqB]
      refine iteT' rfl (sj_retD true (wd_lf (wd_op (wd_var rfl ?_))))
      refine wd_nameIx hmb.bs.nm hx (wd_op (wd_var rfl (wd_int (rd_pgB ⟨rfl, wd_op (wd_var rfl (wd_int (rd_ixT (d := .str x) rfl ⟨rfl, ?_⟩)))⟩))))
      refine rd_ixT (d := .int (at_ p.bs st x : Nat)) (by rw [atI_ofNat, List.getElem?_map, at_get hst hx]; rfl) ⟨rfl, kp, q⟩
    | op o a b =>
      refine iteF' rfl (sj_next ?_)
      refine sj_seq (sj_if ?_)
      refine wt_test (wd_op (wd_op (wd_var rfl (wd_int (rd_th0 (wd_str (rd_eq (sh_str (Th.w_ok (.op o a b))) (sh_str (ok_w (by simp))) ⟨_, rfl, ?_⟩)))))))
      rw [Th.eqB]
      refine iteF' rfl (sj_next ?_)
      refine sj_seq (sj_set false ?_)
      refine wd_call3 (wd_var rfl (wd_op (wd_var rfl (wd_int (rd_ixT (d := a.d) rfl (wd_var rfl ⟨p, a, st, rfl, hmb, hst, hok.1, asD_new ?_⟩))))))
      refine sj_seq (sj_set false ?_)
      refine wd_call3 (wd_var rfl (wd_op (wd_var rfl (wd_int (rd_ixT (d := b.d) rfl (wd_var rfl ⟨p, b, st, rfl, hmb, hst, hok.2, asD_new ?_⟩))))))
      have ha := Th.v_lt hm2 hst hok.1
      have hb := Th.v_lt hm2 hst hok.2
      have eq : (Th.op o a b).v p.m p.bs st = o.v p.m (a.v p.m p.bs st) (b.v p.m p.bs st) := rfl
      rw [eq] at q
      obtain ⟨x, ex⟩ : ∃ x, x = a.v p.m p.bs st := ⟨_, rfl⟩
      obtain ⟨y, ey⟩ : ∃ y, y = b.v p.m p.bs st := ⟨_, rfl⟩
      rw [← ex] at q ha
      rw [← ey] at q hb
      show SJ K [.dat false p.d, .dat false (Th.op o a b).d, .dat false (stD st), .dat false (.int (a.v p.m p.bs st : Nat)), .dat false (.int (b.v p.m p.bs st : Nat))] _ _
      rw [← ex, ← ey]
      have tst : ∀ (u : Op) {Q : Bool → Prop}, Q (decide (o = u)) → WT K [.dat false p.d, .dat false (Th.op o a b).d, .dat false (stD st), .dat false (.int (x : Nat)), .dat false (.int (y : Nat))] (tTest (tOp (dEq K) (tOp (rIx K) (tVar 1) (tC (.int 0))) (tC (.str u.w)))) Q := fun u {Q} hq => by
        refine wt_test (wd_op (wd_op (wd_var rfl (wd_int (rd_th0 (wd_str (rd_eq (sh_str (op_ok o)) (sh_str (op_ok u)) ⟨_, rfl, ?_⟩)))))))
        rw [show (Th.op o a b).w = o.w from rfl, Op.eqW]
        exact hq
      refine sj_seq (sj_if (tst .less ?_))
      refine iteD (fun h => ?_) (fun h1 => sj_next ?_)
      · subst h
        refine sj_retD true (wd_lf ?_)
        walk_at "v"
        rw [int_less p.m]
        exact ⟨rfl, kp, q⟩
      refine sj_seq (sj_if (tst .same ?_))
      refine iteD (fun h => ?_) (fun h2 => sj_next ?_)
      · subst h
        refine sj_retD true (wd_lf ?_)
        walk_at "v"
        rw [eqv_int]
        rw [int_same p.m]
        exact ⟨rfl, kp, q⟩
      refine sj_retD true (wd_lf (wd_op (wd_op (wd_lst2 (wd_op (wd_var rfl (wd_var rfl (rd_add (wd_op (wd_var rfl (wd_var rfl (rd_mul (.inl ⟨by omega, by omega⟩) (wd_cb1 (wd_op (wd_op (wd_var rfl (wd_int (rd_th0 (t := .op o a b) (wd_str (rd_eq (sh_str (op_ok o)) (sh_str (op_ok .times)) (rc_intB ?_)))))))))))))))))))))
      rw [show PyData.eqv (.str (Th.op o a b).w) (.str "times") = decide (o = .times) from Op.eqW o .times]
      cases o with
      | less => exact absurd rfl h1
      | same => exact absurd rfl h2
      | plus =>
        refine rd_ixL (atI_of (n := 0) rfl rfl) (wd_op (wd_var rfl (wd_int (rd_pgM (rd_mod (by omega) ?_)))))
        rw [cast_add]
        exact ⟨rfl, kp, q⟩
      | times =>
        refine rd_ixL (atI_of (n := 1) rfl rfl) (wd_op (wd_var rfl (wd_int (rd_pgM (rd_mod (by omega) ?_)))))
        rw [cast_mul]
        exact ⟨rfl, kp, q⟩
theorem ok_uset (D : Def K mg "_law_set" s_l_set ["program", "store", "box", "worth"]) : Cal P K.w K mg base CX0 (k + 1) "_law_set" ["program", "store", "box", "worth"] (spG K (T_uset K)) := by
  refine cal_g D sc_l_set (fun Γ Qr ⟨p, st, x, w, e, _⟩ => by subst e; exact ⟨rfl, noMl_dat (noMl_dat (noMl_dat (noMl_dat noMl_nil)))⟩) fun f cdv A outer s H E hr => ⟨_, wk_l_set f cdv A outer s H E hr, ?_⟩
  rintro Γ Qr ⟨p, st, x, w, rfl, hp, hst, hx, q⟩
  have hsl := hst.len
  have h5 := hp.bs.len5
  have hi : p.bs.idxOf x < st.length := by rw [hsl]; exact idx_lt hx
  have ei : ((p.bs.idxOf x : Nat) : Int) + 1 = ((p.bs.idxOf x + 1 : Nat) : Int) := by omega
  show SJ K [.dat false p.d, .dat false (stD st), .dat false (.str x), .dat false (.int w), .no] (t_l_set K) _
  unfold t_l_set
  refine sj_seq (sj_set false (wd_nameIx hp.bs.nm hx (wd_op (wd_var rfl (wd_int (rd_pgB ⟨rfl, wd_var rfl ⟨rfl, ?_⟩⟩))))))
  refine sj_retD true (wd_lf (wd_op (wd_op (wd_slT (wd_var rfl ⟨_, rfl, wo_no (wo_some (wd_var rfl ⟨_, rfl, ?_⟩))⟩)))))
  refine wd_tup1 (wd_var rfl (rd_catT ?_ ?_))
  · rw [cut_take (by simp; omega)]
    simp
    omega
  refine wd_slT (wd_var rfl ⟨_, rfl, wo_some ?_⟩)
  walk_at "v"
  refine ⟨_, rfl, wo_no (rd_catT ?_ ?_)⟩
  · rw [ei, cut_take (by simp; omega), cut_drop (by simp; omega)]
    simp
    omega
  rw [ei]
  rw [put_data hi]
  exact ⟨st_lf _, keep_dat (keep_dat (keep_dat (keep_dat keep_nil))), q⟩
theorem ok_uways (D : Def K mg "_law_ways" s_l_ways ["program", "place"]) (c_set : Cal P K.w K mg base CX0 k "_law_set" ["program", "store", "box", "worth"] (spG K (T_uset K))) (c_worth : Cal P K.w K mg base CX0 k "_law_worth" ["program", "thing", "store"] (spG K (T_worth 4 K))) (m_len : mg "len" = none) : Cal P K.w K mg base CX0 (k + 1) "_law_ways" ["program", "place"] (spG K (T_uways K)) := by
  refine cal_g D sc_l_ways (fun Γ Qr ⟨p, row, st, e, _⟩ => by subst e; exact ⟨rfl, noMl_dat (noMl_dat noMl_nil)⟩) fun f cdv A outer s H E hr => ⟨_, wk_l_ways c_set c_worth m_len f cdv A outer s H E hr, ?_⟩
  rintro Γ Qr ⟨p, row, st, rfl, hp, hrow, hst, q⟩
  have kp : ∀ {Γ'}, Keep [.dat false p.d, .dat false (Wy.place row st).d] (.dat false p.d :: .dat false (Wy.place row st).d :: Γ') := fun {Γ'} => keep_dat (keep_dat keep_nil)
  have hr30 := hp.r30
  have hr : p.rows[row]? = some p.rows[row] := by simp [hrow]
  rw [ways_at hr] at q
  have hok := hp.rows _ (List.mem_of_getElem? hr)
  obtain ⟨r, er⟩ : ∃ r, p.rows[row] = r := ⟨_, rfl⟩
  rw [er] at hr q hok
  show SJ K [.dat false p.d, .dat false (Wy.place row st).d, .no, .no, .no, .no, .no, .no, .no] (t_l_ways K _ _) _
  unfold t_l_ways
  refine sj_seq (sj_asg false (wd_var rfl (gj_tup (n := 2) (ds := [.int row, stD st]) rfl (gjs_cons (gj_name (gjs_cons (gj_name (gjs_nil ?_))))))))
  refine sj_seq (sj_set false (wd_op (wd_op (wd_var rfl (wd_int (rd_pgR (wd_var rfl (rd_row hr ?_))))))))
  show SJ K [.dat false p.d, .dat false (Wy.place row st).d, .dat false (.int row), .dat false (stD st), .dat false r.d, .no, .no, .no, .no] _ _
  have e1 : (row : Int) + 1 = ((row + 1 : Nat) : Int) := by omega
  have tst : ∀ {s5 s6 : Sl} {b : Kd} {Q : Bool → Prop}, Q (decide (r.kd = b)) → WT K [.dat false p.d, .dat false (Wy.place row st).d, .dat false (.int row), .dat false (stD st), .dat false r.d, s5, s6, .no, .no] (tTest (tOp (dEq K) (tOp (rIx K) (tVar 4) (tC (.int 0))) (tC (.str b.w)))) Q := fun {s5 s6 b Q} q => wt_test (wd_op (wd_op (wd_var rfl (wd_int (rd_rk (wd_str (rd_w ⟨_, rfl, q⟩)))))))
  have fin : ∀ (to : Nat) (ss : List (List Nat)), ss.length ≤ 5 → (∀ s ∈ ss, StOk p.m p.bs s) → nxt p row st r = (ss.map fun s => poe p to s) → SJ K [.dat false p.d, .dat false (Wy.place row st).d, .dat false (.int row), .dat false (stD st), .dat false r.d, .dat false (.list (ss.map stD)), .dat false (.int to), .no, .no]
      (tSeq (tIfS (tTest (tOp dGe (tVar 6) (tCB (dLen K) (tCons (tOp (rIx K) (tVar 0) (tC (.int 2))) tNil)))) (tRet (tOp dMul (tLst (tCons (tTup (tCons (tC (.str "nothing")) tNil)) tNil)) (tCB (dLen K) (tCons (tVar 5) tNil)))) tNext)
    (tRet (tLc (iList K (tVar 5)) (gName 8) tYes (tTup (tCons (tVar 6) (tCons (tVar 8) tNil))) [8]))) (retP [.dat false p.d, .dat false (Wy.place row st).d] Qr) := fun to ss hl hss hn => by
    rw [hn, List.map_map] at q
    refine sj_seq (sj_if (wt_test (wd_op (wd_var rfl (wd_cb1 (wd_op (wd_var rfl (wd_int (rd_pgR (rc_lenL (rd_ge ⟨_, rfl, ?_⟩)))))))))))
    rw [List.length_map]
    refine iteD (fun h => ?_) (fun h => sj_next ?_)
    · have h' : p.rows.length ≤ to := by omega
      refine sj_retD false (wd_op (wd_lst1 (wd_tup1 (wd_str (wd_cb1 (wd_var rfl (rc_lenL ?_)))))))
      rw [List.length_map]
      refine rd_rep (by omega) (by omega) (by simp; omega) ?_
      have e : (((ss.length : Nat) : Int)).toNat = ss.length := by omega
      rw [e]
      show Keep _ _ ∧ Qr (.dat false (.list (List.replicate ss.length [Wy.nothing.d]).flatten))
      rw [nothings_map]
      refine ⟨kp, ?_⟩
      have e2 : (ss.map fun _ => Wy.nothing.d) = ss.map (Wy.d ∘ fun s => poe p to s) := List.map_congr_left fun s _ => by show _ = (poe p to s).d; rw [poe_endU h']
      rw [e2]
      exact q
    · refine sj_retD false (wd_lcMa (mi := false) (α := List Nat) stD (fun s => (poe p to s).d) (wipeOk_no rfl wipeOk_nil) gwn (wi_list (wd_var rfl ⟨_, rfl, ss, rfl, by omega, fun i s hs => gj_name ⟨rfl, ?_⟩, ⟨kp, q⟩⟩)))
      rw [poe_plU (by omega)]
      exact wd_tup2 (wd_var rfl (wd_var rfl rfl))
  refine sj_seq (sj_if (tst (b := .give) ?_))
  cases r with
  | give t =>
    refine iteT' rfl (sj_retD false (wd_lst1 (wd_tup2 (wd_str (wd_call3 (wd_var rfl (wd_op (wd_var (d := (Rw.give t).d) rfl (wd_int (rd_ixT (d := t.d) rfl (wd_var rfl ⟨p, t, st, rfl, hp.mb, hst, hok, asD_new ⟨kp, q⟩⟩)))))))))))
  | set x t =>
    refine iteF' rfl (sj_next (sj_seq (sj_set false (wd_lst1 (wd_var rfl ?_)))))
    refine sj_seq (sj_set false (wd_op (wd_var rfl (wd_int (rd_add ?_)))))
    rw [e1]
    refine sj_seq (sj_if (wt_and (tst (b := .need) (iteF' rfl ?_))))
    refine sj_next (sj_seq (sj_if (wt_and (tst (b := .skip) (iteF' rfl (sj_next ?_))))))
    refine sj_seq (sj_if (tst (b := .set) (iteT' rfl ?_)))
    refine sj_set false (wd_lst1 (wd_call4 (wd_var rfl (wd_var rfl (wd_op (wd_var (d := (Rw.set x t).d) rfl (wd_int (rd_ixT (d := .str x) rfl (wd_call3 (wd_var rfl (wd_op (wd_var (d := (Rw.set x t).d) rfl (wd_int (rd_ixT (d := t.d) rfl (wd_var rfl ⟨p, t, st, rfl, hp.mb, hst, hok.2, asD_new ⟨p, st, x, _, rfl, hp, hst, hok.1, asD_new ?_⟩⟩)))))))))))))))
    refine sj_seq (sj_if (tst (b := .pick) (iteF' rfl (sj_next ?_))))
    exact fin (row + 1) [put p.bs st x (tv p st t)] (by simp) (fun s hs => by rw [List.mem_singleton.mp hs]; exact put_ok hst (tv_lt hp hst hok.2)) rfl
  | pick x ts =>
    refine iteF' rfl (sj_next (sj_seq (sj_set false (wd_lst1 (wd_var rfl ?_)))))
    refine sj_seq (sj_set false (wd_op (wd_var rfl (wd_int (rd_add ?_)))))
    rw [e1]
    refine sj_seq (sj_if (wt_and (tst (b := .need) (iteF' rfl ?_))))
    refine sj_next (sj_seq (sj_if (wt_and (tst (b := .skip) (iteF' rfl (sj_next ?_))))))
    refine sj_seq (sj_if (tst (b := .set) (iteF' rfl (sj_next ?_))))
    refine sj_seq (sj_if (tst (b := .pick) (iteT' rfl ?_)))
    refine sj_set false (wd_lcMa (mi := false) (α := Th) Th.d (fun t => stD (put p.bs st x (tv p st t))) (wipeOk_no rfl wipeOk_nil) gwn (wi_list (wd_op (wd_var (d := (Rw.pick x ts).d) rfl (wd_int (rd_ixT (d := .list (ts.map Th.d)) rfl ⟨_, rfl, ts, rfl, by have := hok.2.2.1; omega, fun i t ht => gj_name ⟨rfl, ?_⟩, ?_⟩))))))
    · have hto := hok.2.2.2 t (List.mem_of_getElem? ht)
      exact wd_call4 (wd_var rfl (wd_var rfl (wd_op (wd_var (d := (Rw.pick x ts).d) rfl (wd_int (rd_ixT (d := .str x) rfl (wd_call3 (wd_var rfl (wd_var rfl (wd_var rfl ⟨p, t, st, rfl, hp.mb, hst, hto, asD_new ⟨p, st, x, _, rfl, hp, hst, hok.1, asD_new rfl⟩⟩))))))))))
    have e2 : (ts.map fun t => stD (put p.bs st x (tv p st t))) = (ts.map fun t => put p.bs st x (tv p st t)).map stD := by rw [List.map_map]; rfl
    rw [e2]
    refine fin (row + 1) (ts.map fun t => put p.bs st x (tv p st t)) (by rw [List.length_map]; exact hok.2.2.1) (fun s hs => ?_) (by rw [List.map_map]; rfl)
    obtain ⟨t, ht, rfl⟩ := List.mem_map.mp hs
    exact put_ok hst (tv_lt hp hst (hok.2.2.2 t ht))
  | need t =>
    refine iteF' rfl (sj_next (sj_seq (sj_set false (wd_lst1 (wd_var rfl ?_)))))
    refine sj_seq (sj_set false (wd_op (wd_var rfl (wd_int (rd_add ?_)))))
    rw [e1]
    refine sj_seq (sj_if (wt_and (tst (b := .need) (iteT' rfl ?_))))
    refine wt_test (wd_op (wd_call3 (wd_var rfl (wd_op (wd_var (d := (Rw.need t).d) rfl (wd_int (rd_ixT (d := t.d) rfl (wd_var rfl ⟨p, t, st, rfl, hp.mb, hst, hok, asD_new (wd_int (rd_eq sh_int sh_int ⟨_, rfl, ?_⟩))⟩))))))))
    rw [eqv_int]
    refine iteD (fun h => ?_) (fun h => sj_next ?_)
    · have hz : tv p st t = 0 := by unfold tv; omega
      have e2 : nxt p row st (.need t) = [.nothing] := by show (if tv p st t = 0 then _ else _) = _; rw [if_pos hz]
      rw [e2] at q
      exact sj_retD false (wd_lst1 (wd_tup1 (wd_str ⟨kp, q⟩)))
    · have hz : ¬ tv p st t = 0 := by unfold tv; omega
      refine sj_seq (sj_if (wt_and (tst (b := .skip) (iteF' rfl (sj_next ?_)))))
      refine sj_seq (sj_if (tst (b := .set) (iteF' rfl (sj_next ?_))))
      refine sj_seq (sj_if (tst (b := .pick) (iteF' rfl (sj_next ?_))))
      exact fin (row + 1) [st] (by simp) (fun s hs => by rw [List.mem_singleton.mp hs]; exact hst) (by show (if tv p st t = 0 then _ else _) = _; rw [if_neg hz]; rfl)
  | skip t n =>
    refine iteF' rfl (sj_next (sj_seq (sj_set false (wd_lst1 (wd_var rfl ?_)))))
    refine sj_seq (sj_set false (wd_op (wd_var rfl (wd_int (rd_add ?_)))))
    rw [e1]
    refine sj_seq (sj_if (wt_and (tst (b := .need) (iteF' rfl (sj_next ?_)))))
    refine sj_cut (fun Γ' => Γ' = [.dat false p.d, .dat false (Wy.place row st).d, .dat false (.int row), .dat false (stD st), .dat false (Rw.skip t n).d, .dat false (.list [stD st]), .dat false (.int ((row + 1 + if tv p st t = 0 then 0 else n : Nat) : Int)), .no, .no]) (sj_if (wt_and (tst (b := .skip) (iteT' rfl ?_)))) ?_
    · refine wt_test (wd_op (wd_call3 (wd_var rfl (wd_op (wd_var (d := (Rw.skip t n).d) rfl (wd_int (rd_ixT (d := t.d) rfl (wd_var rfl ⟨p, t, st, rfl, hp.mb, hst, hok.1, asD_new (wd_int (rd_ne sh_int sh_int ⟨_, rfl, ?_⟩))⟩))))))))
      rw [eqv_int]
      by_cases hz : tv p st t = 0
      · have : (((t.v p.m p.bs st : Nat) : Int) = 0) := by unfold tv at hz; omega
        rw [decide_eq_true this]
        refine iteF' rfl (sj_next ?_)
        rw [if_pos hz]
        rfl
      · have : ¬ (((t.v p.m p.bs st : Nat) : Int) = 0) := by unfold tv at hz; omega
        rw [decide_eq_false this]
        refine iteT' rfl (sj_set false (wd_op (wd_var rfl (wd_op (wd_var (d := (Rw.skip t n).d) rfl (wd_int (rd_ixT (d := .int n) rfl (rd_add ?_))))))))
        rw [if_neg hz, Int.natCast_add]
        rfl
    rintro _ rfl
    refine sj_seq (sj_if (tst (b := .set) (iteF' rfl (sj_next ?_))))
    refine sj_seq (sj_if (tst (b := .pick) (iteF' rfl (sj_next ?_))))
    exact fin _ [st] (by simp) (fun s hs => by rw [List.mem_singleton.mp hs]; exact hst) rfl
end
end Dk
end
section
set_option Elab.async false
set_option linter.all false
set_option maxRecDepth 100000
set_option pp.maxSteps 600
open PySem L2 Pk
local macro_rules | `(tactic| walk_at "sh") => `(tactic| first | exact sh_int | exact sh_bool | exact sh_non | exact sh_nil | exact sh_str (by decide +kernel) | assumption)
local macro_rules | `(tactic| walk_at "v1") => `(tactic| first
  | (with_reducible refine wd_int ?_) | (with_reducible refine wd_str ?_) | (with_reducible refine wd_bl ?_) | (with_reducible refine wd_non ?_)
  | ((with_reducible apply wd_var); exact rfl) | ((with_reducible apply wd_varN); exact rfl)
  | ((with_reducible apply wd_ixm); exact rfl)
  | ((with_reducible apply wd_lenM); exact rfl) | ((with_reducible apply wd_lenScript); exact rfl) | ((with_reducible apply wd_ixScript); exact rfl)
  | (with_reducible refine wd_op ?_) | (with_reducible refine wd_un ?_)
  | (with_reducible refine rd_add ?_) | (with_reducible refine rd_sub ?_) | (with_reducible refine rd_lt ?_) | (with_reducible refine rd_le ?_) | (with_reducible refine rd_gt ?_) | (with_reducible refine rd_ge ?_) | (with_reducible refine ru_neg ?_)
  | ((with_reducible refine rd_eq ?ev_h ?ev_k ?_); (case ev_h => walk_at "sh"); (case ev_k => walk_at "sh")) | ((with_reducible refine rd_ne ?ev_h ?ev_k ?_); (case ev_h => walk_at "sh"); (case ev_k => walk_at "sh"))
  | ((with_reducible refine rd_mod ?ev_h ?_); case ev_h => first | decide | assumption | omega) | ((with_reducible refine rd_div ?ev_h ?ev_k ?_); (case ev_h => first | decide | assumption | omega); (case ev_k => first | decide | assumption | omega))
  | ((with_reducible refine rd_pow ?ev_h ?_); case ev_h => exact ⟨by decide, by decide, by decide⟩)
  | ((with_reducible refine rd_mul ?ev_h ?_); case ev_h => first | exact .inr ⟨by decide, by decide⟩ | exact .inl ⟨by decide, by decide⟩ | exact .inl ⟨by omega, by omega⟩ | exact .inr ⟨by omega, by omega⟩)
  | (with_reducible refine rc_lenL ?_) | (with_reducible refine rc_lenT ?_) | (with_reducible refine rc_max2 ?_) | (with_reducible refine rc_min2 ?_) | (with_reducible refine rc_intB ?_) | (with_reducible refine rc_intI ?_) | (with_reducible refine rc_listL ?_) | (with_reducible refine rc_listT ?_) | (with_reducible refine rc_tupleL ?_)
  | ((with_reducible apply rd_ixT); exact rfl)
  | ((with_reducible apply rd_ixL); exact rfl)
  | ((with_reducible refine wd_isi ?ev_h ?_); case ev_h => decide) | ((with_reducible refine wd_isi2 ?ev_h ?ev_k ?_); (case ev_h => decide); (case ev_k => decide))
  | (with_reducible refine wd_tup2 ?_) | (with_reducible refine wd_tup1 ?_) | (with_reducible refine wd_tup3 ?_) | (with_reducible refine wd_tup0 ?_)
  | (with_reducible refine wd_lst0 ?_) | (with_reducible refine wd_lst1 ?_) | (with_reducible refine wd_lst2 ?_) | (with_reducible refine wd_lst3 ?_) | (with_reducible refine wd_lst4 ?_) | (with_reducible refine wd_lst5 ?_) | (with_reducible refine wd_lst6 ?_)
  | ((with_reducible apply wd_callO0); exact rfl) | ((with_reducible apply wd_callO1); exact rfl) | ((with_reducible apply wd_callO2); exact rfl) | ((with_reducible apply wd_callO3); exact rfl)
  | (with_reducible refine wd_call1 ?_) | (with_reducible refine wd_call2 ?_) | (with_reducible refine wd_call3 ?_) | (with_reducible refine wd_call4 ?_) | (with_reducible refine wd_call0 ?_)
  | (with_reducible refine wd_cb1 ?_) | (with_reducible refine wd_cb2 ?_)
  | (with_reducible refine wd_rev ?_) | (with_reducible refine wd_lrg1 ?_) | (with_reducible refine wd_sl ?_) | (with_reducible refine wo_no ?_) | (with_reducible refine wo_some ?_)
  | (with_reducible refine wd_andV ?_) | (with_reducible refine wd_orV ?_) | (with_reducible refine wd_notV ?_) | (with_reducible refine wd_if ?_) | (with_reducible refine wd_chain ?_)
  | (with_reducible refine wt_test ?_) | (with_reducible refine wt_B ?_) | (with_reducible refine wt_not ?_) | (with_reducible refine wt_and ?_) | (with_reducible refine wt_or ?_) | (with_reducible refine wt_yes ?_)
  | (with_reducible refine gj_name ?_) | (with_reducible refine gj_tup rfl ?_) | (with_reducible refine gjs_cons ?_) | (with_reducible refine gjs_nil ?_))
local macro_rules | `(tactic| walk_at "v") => `(tactic| repeat walk_at "v1")
local macro_rules | `(tactic| walk_at "x") => `(tactic| refine ⟨_, rfl, ?_⟩)
local macro_rules | `(tactic| walk_at "vx") => `(tactic| repeat (first | walk_at "v1" | (with_reducible refine ⟨_, rfl, ?_⟩)))
namespace Dk
open PySem PySem.Spec PyProof.Rows L2 Pk Sy
theorem rd_gbox {K : Kw} {m : Bool} {Γ : List Sl} {Q : PyData → Prop} {bs : List Str} {n : Int} (h : 1 ≤ bs.length) (q : ∀ x ∈ bs, Q (.str x)) : RD K m Γ (rIx K) (bsD bs) (.int (n % (bs.length : Int))) Q := by
  obtain ⟨j, hj, e⟩ := mod_ix (n := n) h
  rw [e]
  exact rd_box hj q
section
variable {P : Program} {K : Kw} {mg : Str → Option Value} {base : Heap} {k : Nat}
end
end Dk
end
section
set_option Elab.async false
set_option linter.all false
set_option maxRecDepth 100000
set_option pp.maxSteps 600
open PySem L2 Pk
local macro_rules | `(tactic| walk_at "sh") => `(tactic| first | exact sh_int | exact sh_bool | exact sh_non | exact sh_nil | exact sh_str (by decide +kernel) | assumption)
local macro_rules | `(tactic| walk_at "v1") => `(tactic| first
  | (with_reducible refine wd_int ?_) | (with_reducible refine wd_str ?_) | (with_reducible refine wd_bl ?_) | (with_reducible refine wd_non ?_)
  | ((with_reducible apply wd_var); exact rfl) | ((with_reducible apply wd_varN); exact rfl)
  | ((with_reducible apply wd_ixm); exact rfl)
  | ((with_reducible apply wd_lenM); exact rfl) | ((with_reducible apply wd_lenScript); exact rfl) | ((with_reducible apply wd_ixScript); exact rfl)
  | (with_reducible refine wd_op ?_) | (with_reducible refine wd_un ?_)
  | (with_reducible refine rd_add ?_) | (with_reducible refine rd_sub ?_) | (with_reducible refine rd_lt ?_) | (with_reducible refine rd_le ?_) | (with_reducible refine rd_gt ?_) | (with_reducible refine rd_ge ?_) | (with_reducible refine ru_neg ?_)
  | ((with_reducible refine rd_eq ?ev_h ?ev_k ?_); (case ev_h => walk_at "sh"); (case ev_k => walk_at "sh")) | ((with_reducible refine rd_ne ?ev_h ?ev_k ?_); (case ev_h => walk_at "sh"); (case ev_k => walk_at "sh"))
  | ((with_reducible refine rd_mod ?ev_h ?_); case ev_h => first | decide | assumption | omega) | ((with_reducible refine rd_div ?ev_h ?ev_k ?_); (case ev_h => first | decide | assumption | omega); (case ev_k => first | decide | assumption | omega))
  | ((with_reducible refine rd_pow ?ev_h ?_); case ev_h => exact ⟨by decide, by decide, by decide⟩)
  | ((with_reducible refine rd_mul ?ev_h ?_); case ev_h => first | exact .inr ⟨by decide, by decide⟩ | exact .inl ⟨by decide, by decide⟩ | exact .inl ⟨by omega, by omega⟩ | exact .inr ⟨by omega, by omega⟩)
  | (with_reducible refine rc_lenL ?_) | (with_reducible refine rc_lenT ?_) | (with_reducible refine rc_max2 ?_) | (with_reducible refine rc_min2 ?_) | (with_reducible refine rc_intB ?_) | (with_reducible refine rc_intI ?_) | (with_reducible refine rc_listL ?_) | (with_reducible refine rc_listT ?_) | (with_reducible refine rc_tupleL ?_)
  | ((with_reducible apply rd_ixT); exact rfl)
  | ((with_reducible apply rd_ixL); exact rfl)
  | ((with_reducible refine wd_isi ?ev_h ?_); case ev_h => decide) | ((with_reducible refine wd_isi2 ?ev_h ?ev_k ?_); (case ev_h => decide); (case ev_k => decide))
  | (with_reducible refine wd_tup2 ?_) | (with_reducible refine wd_tup1 ?_) | (with_reducible refine wd_tup3 ?_) | (with_reducible refine wd_tup0 ?_)
  | (with_reducible refine wd_lst0 ?_) | (with_reducible refine wd_lst1 ?_) | (with_reducible refine wd_lst2 ?_) | (with_reducible refine wd_lst3 ?_) | (with_reducible refine wd_lst4 ?_) | (with_reducible refine wd_lst5 ?_) | (with_reducible refine wd_lst6 ?_)
  | ((with_reducible apply wd_callO0); exact rfl) | ((with_reducible apply wd_callO1); exact rfl) | ((with_reducible apply wd_callO2); exact rfl) | ((with_reducible apply wd_callO3); exact rfl)
  | (with_reducible refine wd_call1 ?_) | (with_reducible refine wd_call2 ?_) | (with_reducible refine wd_call3 ?_) | (with_reducible refine wd_call4 ?_) | (with_reducible refine wd_call0 ?_)
  | (with_reducible refine wd_cb1 ?_) | (with_reducible refine wd_cb2 ?_)
  | (with_reducible refine wd_rev ?_) | (with_reducible refine wd_lrg1 ?_) | (with_reducible refine wd_sl ?_) | (with_reducible refine wo_no ?_) | (with_reducible refine wo_some ?_)
  | (with_reducible refine wd_andV ?_) | (with_reducible refine wd_orV ?_) | (with_reducible refine wd_notV ?_) | (with_reducible refine wd_if ?_) | (with_reducible refine wd_chain ?_)
  | (with_reducible refine wt_test ?_) | (with_reducible refine wt_B ?_) | (with_reducible refine wt_not ?_) | (with_reducible refine wt_and ?_) | (with_reducible refine wt_or ?_) | (with_reducible refine wt_yes ?_)
  | (with_reducible refine gj_name ?_) | (with_reducible refine gj_tup rfl ?_) | (with_reducible refine gjs_cons ?_) | (with_reducible refine gjs_nil ?_))
local macro_rules | `(tactic| walk_at "v") => `(tactic| repeat walk_at "v1")
local macro_rules | `(tactic| walk_at "x") => `(tactic| refine ⟨_, rfl, ?_⟩)
local macro_rules | `(tactic| walk_at "vx") => `(tactic| repeat (first | walk_at "v1" | (with_reducible refine ⟨_, rfl, ?_⟩)))
namespace Dk
open PySem PySem.Spec PyProof.Rows L2 Pk Sy
def DeP (ns : List Int) : Prop := ∀ n ∈ ns, 0 ≤ n ∧ n < 2147483648
abbrev DeckL (K : Kw) : Own := OwnL K DeP
def T_cellat (K : Kw) : List Sl → (Sl → Prop) → Prop := fun Γ Q => ∃ v ns k, Γ = [.ex v (ScriptO K ns), .dat false (.int k)] ∧ 0 ≤ k ∧ ∀ c, Q (.dat true (.int c))
def T_stir (K : Kw) : List Sl → (Sl → Prop) → Prop := fun Γ Q => ∃ c k, Γ = [.dat false (.int c), .dat false (.int k)] ∧ 0 ≤ k ∧ k < 1000 ∧ ∀ r, 0 ≤ r → r < 2147483648 → Q (.dat true (.int r))
def T_edeck (K : Kw) : List Sl → (Sl → Prop) → Prop := fun Γ Q => ∃ c, ∃ many : Nat, Γ = [.dat false (.int c), .dat false (.int many)] ∧ many ≤ 1000 ∧ ∀ l ns, DeP ns → Q (.ml false l (ns.map PyData.int))
def T_next (K : Kw) : List Sl → (Sl → Prop) → Prop := fun Γ Q => ∃ v, Γ = [.ex v (DeckL K)] ∧ ∀ r, 0 ≤ r → r < 2147483648 → Q (.dat true (.int r))
def T_ething (n : Nat) (K : Kw) : List Sl → (Sl → Prop) → Prop := fun Γ Q => ∃ v, ∃ m : Nat, ∃ bs, ∃ deep : Nat, Γ = [.ex v (DeckL K), .dat false (.int m), .dat false (bsD bs), .dat false (.int deep)] ∧ MB m bs ∧ 1 ≤ deep ∧ deep ≤ n ∧ ∀ t : Th, t.Ok m bs deep → Q (.dat true t.d)
def rwW : Rw → Nat
  | .pick _ ts => ts.length
  | _ => 1
def T_erow (K : Kw) : List Sl → (Sl → Prop) → Prop := fun Γ Q => ∃ v, ∃ m : Nat, ∃ bs, ∃ wide : Nat, Γ = [.ex v (DeckL K), .dat false (.int m), .dat false (bsD bs), .dat false (.int wide)] ∧ MB m bs ∧ ∀ r : Rw, r.Ok m bs → rwW r ≤ max 1 wide → Q (.dat false r.d)
def T_eboxes (K : Kw) : List Sl → (Sl → Prop) → Prop := fun Γ Q => ∃ v, Γ = [.ex v (DeckL K)] ∧ ∀ m bs, MB m bs → Q (.dat false (.tuple [.int m, bsD bs]))
def T_eprogram (K : Kw) : List Sl → (Sl → Prop) → Prop := fun Γ Q => ∃ v, ∃ m : Nat, ∃ bs, ∃ most wide : Nat, Γ = [.ex v (DeckL K), .dat false (.int m), .dat false (bsD bs), .dat false (.int most), .dat false (.int wide)] ∧ MB m bs ∧ most ≤ 30 ∧ 1 ≤ wide ∧ ∀ p : Pg, p.Ok → p.m = m → p.bs = bs → p.rows.length ≤ most → sizeL p.rows ≤ wide → Q (.dat false p.d)
def T_estore (K : Kw) : List Sl → (Sl → Prop) → Prop := fun Γ Q => ∃ v, ∃ p : Pg, Γ = [.ex v (DeckL K), .dat false p.d] ∧ p.Ok ∧ ∀ st, StOk p.m p.bs st → Q (.dat true (stD st))
section
variable {K : Kw} {mm : Bool} {v : V} {Q : PyData → Prop}
theorem use_next (q : ∀ r, 0 ≤ r → Q (.int r)) : T_next K [.ex v (DeckL K)] (asD mm Q) := ⟨v, rfl, fun r h _ => asD_new (q r h)⟩
theorem use_ething {N m deep : Nat} {bs : List Str} (h : MB m bs) (h1 : 1 ≤ deep) (hn : deep ≤ N) (q : ∀ t : Th, t.Ok m bs deep → Q t.d) : T_ething N K [.ex v (DeckL K), .dat false (.int m), .dat false (bsD bs), .dat false (.int deep)] (asD mm Q) := ⟨v, m, bs, deep, rfl, h, h1, hn, fun t ht => asD_new (q t ht)⟩
end
theorem intsL_sh (ns : List Int) : SeqAt.shaped (.list (ns.map PyData.int)) = true := sh_of (n := 1) (fun x hx => by
  obtain ⟨n, _, rfl⟩ := List.mem_map.mp hx
  exact True.intro) (by decide)
theorem eqv_nilE (ys : List PyData) : PyData.eqv (.list ys) (.list []) = ys.isEmpty := by cases ys <;> rfl
theorem Th.ok_num' {m n deep : Nat} {bs : List Str} (h : n < m) (hd : 1 ≤ deep) : (Th.num n).Ok m bs deep := by
  obtain ⟨j, rfl⟩ := Nat.exists_eq_add_of_le hd
  rw [Nat.add_comm]
  exact h
theorem Th.ok_box' {m deep : Nat} {bs : List Str} {x : Str} (h : x ∈ bs) (hd : 1 ≤ deep) : (Th.box x).Ok m bs deep := by
  obtain ⟨j, rfl⟩ := Nat.exists_eq_add_of_le hd
  rw [Nat.add_comm]
  exact h
section
variable {P : Program} {K : Kw} {mg : Str → Option Value} {base : Heap} {k : Nat}
theorem ok_cellat (D : Def K mg "_law_cell_at" s_l_cell_at ["script", "k"]) (m_len : mg "len" = none) : Cal P K.w K mg base CX0 (k + 1) "_law_cell_at" ["script", "k"] (spG K (T_cellat K)) := by
  refine cal_g D sc_l_cell_at (fun Γ Qr ⟨v, ns, k, e, _⟩ => by subst e; exact ⟨rfl, noMl_ex (noMl_dat noMl_nil)⟩) fun f cdv A outer s H E hr => ⟨_, wk_l_cell_at m_len f cdv A outer s H E hr, ?_⟩
  rintro Γ Qr ⟨v, ns, k, rfl, h0, q⟩
  show SJ K [.ex v (ScriptO K ns), .dat false (.int k)] (t_l_cell_at K) _
  unfold t_l_cell_at
  refine sj_seq (sj_if ?_)
  walk_at "v"
  walk_at "x"
  refine iteD (fun hlt => ?_) (fun hge => ?_)
  · refine sj_retD true (wd_lf ?_)
    walk_at "v"
    have hk : k.toNat < ns.length := by omega
    refine ⟨k, ns[k.toNat], rfl, atI_of (n := k.toNat) (by omega) (by simp [hk]), rfl, keep_ex (keep_dat keep_nil), q _⟩
  · refine sj_next ?_
    exact sj_retD true (wd_int ⟨keep_ex (keep_dat keep_nil), q _⟩)
theorem ok_stir (D : Def K mg "_law_stir" s_l_stir ["cell", "k"]) : Cal P K.w K mg base CX0 (k + 1) "_law_stir" ["cell", "k"] (spG K (T_stir K)) := by
  refine cal_g D sc_l_stir (fun Γ Qr ⟨c, k, e, _⟩ => by subst e; exact ⟨rfl, noMl_dat (noMl_dat noMl_nil)⟩) fun f cdv A outer s H E hr => ⟨_, wk_l_stir f cdv A outer s H E hr, ?_⟩
  rintro Γ Qr ⟨c, k, rfl, h0, h1, q⟩
  show SJ K [.dat false (.int c), .dat false (.int k), .no] (t_l_stir K) _
  unfold t_l_stir
  refine sj_seq (sj_set false ?_)
  walk_at "v"
  generalize hy : (c % 2147483629 + 9973 * k + 5) * 48271 % 2147483647 = y
  have hy0 : 0 ≤ y := by omega
  have hy1 : y < 2147483647 := by omega
  refine sj_seq (sj_set false (wd_op (wd_op (wd_var (d := .int y) rfl (wd_var (d := .int y) rfl (rd_mul (.inl ⟨by omega, by omega⟩) (wd_int (rd_mod (by decide) ?_))))))))
  generalize hz : y * y % 2147483587 = z
  refine sj_retD true (wd_lf ?_)
  walk_at "v"
  refine ⟨rfl, keep_dat (keep_dat keep_nil), q _ ?_ ?_⟩ <;> omega
theorem ok_edeck (D : Def K mg "_law_deck" s_l_deck ["cell", "many"]) (c_stir : Cal P K.w K mg base CX0 k "_law_stir" ["cell", "k"] (spG K (T_stir K))) (m_range : mg "range" = none) : Cal P K.w K mg base CX0 (k + 1) "_law_deck" ["cell", "many"] (spG K (T_edeck K)) := by
  refine cal_g D sc_l_deck (fun Γ Qr ⟨c, many, e, _⟩ => by subst e; exact ⟨rfl, noMl_dat (noMl_dat noMl_nil)⟩) fun f cdv A outer s H E hr => ⟨_, wk_l_deck c_stir m_range f cdv A outer s H E hr, ?_⟩
  rintro Γ Qr ⟨c, many, rfl, hm, q⟩
  show SJ K [.dat false (.int c), .dat false (.int many), .no, .no, .no, .no] (t_l_deck K _) _
  unfold t_l_deck
  refine sj_seq (sj_setX (wx_lst0 false fun l => ?_))
  refine sj_seq (sj_set false (wd_var rfl ?_))
  show SJ K [.dat false (.int c), .dat false (.int many), .ml false l (([] : List Int).map PyData.int), .dat false (.int c), .no, .no] _ _
  refine sj_cut (fun Γ' => ∃ (ns : List Int) (s3 s4 s5 : Sl), DeP ns ∧ Γ' = [.dat false (.int c), .dat false (.int many), .ml false l (ns.map PyData.int), s3, s4, s5]) ?_ ?_
  · refine sj_for false (wi_rng (wd_var rfl ⟨_, rfl, ⟨by omega, by omega⟩, fun i Γ' => ∃ (ns : List Int) (g : Int) (s4 s5 : Sl), ns.length = i ∧ DeP ns ∧ Γ' = [.dat false (.int c), .dat false (.int many), .ml false l (ns.map PyData.int), .dat false (.int g), s4, s5], ⟨[], c, .no, .no, rfl, (fun _ h => (by cases h)), rfl⟩, ?_, fun Γ' ⟨ns, g, s4, s5, _, h, e⟩ => ⟨ns, _, _, _, h, e⟩⟩))
    rintro i d Γ' hd ⟨ns, g, s4, s5, hl, hns, rfl⟩
    obtain ⟨hi, rfl⟩ := rangeD_of hd
    have hi' : i < many := by omega
    refine gj_name (sj_seq (sj_set false (wd_call2 (wd_var rfl (wd_var rfl ⟨c, _, rfl, by omega, by omega, fun r hr hr2 => asD_new ?_⟩)))))
    refine sj_cut (fun Γ' => ∃ r : Int, (0 ≤ r ∧ r < 2147483648) ∧ Γ' = [.dat false (.int c), .dat false (.int many), .ml false l (ns.map PyData.int), .dat false (.int g), .dat false (.int (0 + (i : Int))), .dat false (.int r)]) (sj_if ?_) ?_
    · walk_at "v"
      refine ⟨_, rfl, iteD (fun _ => sj_set false ?_) (fun _ => sj_next ⟨r, ⟨hr, hr2⟩, rfl⟩)⟩
      walk_at "v"
      exact ⟨_, ⟨Int.emod_nonneg _ (by decide), Int.lt_trans (Int.emod_lt_of_pos _ (by decide)) (by decide)⟩, rfl⟩
    rintro _ ⟨r, hr, rfl⟩
    refine sj_seq (sj_set false ?_)
    walk_at "v"
    refine sj_app (i := 2) (l := l) (ds := ns.map PyData.int) rfl (by rw [List.length_map]; omega) (wd_var (d := .int r) rfl ?_)
    refine ⟨ns ++ [r], g / 720720, _, _, by simp [hl], fun x hx => ?_, by simp; exact ⟨rfl, rfl⟩⟩
    rcases List.mem_append.mp hx with h | h
    · exact hns x h
    · rw [List.mem_singleton.mp h]; exact hr
  rintro _ ⟨ns, s3, s4, s5, hns, rfl⟩
  refine sj_frz 2 (l := l) (m := false) (ds := ns.map PyData.int) rfl ?_
  refine sj_ret (wx_rev false (wd_var rfl ⟨_, rfl, fun lr => ⟨keep_dat (keep_dat keep_nil), ?_⟩⟩))
  rw [← List.map_reverse]
  exact q lr ns.reverse fun n hn => hns n (List.mem_reverse.mp hn)
theorem ok_next (D : Def K mg "_law_next" s_l_next ["deck"]) : Cal P K.w K mg base CX0 (k + 1) "_law_next" ["deck"] (spG K (T_next K)) := by
  refine cal_g D sc_l_next (fun Γ Qr ⟨v, e, _⟩ => by subst e; exact ⟨rfl, noMl_ex noMl_nil⟩) fun f cdv A outer s H E hr => ⟨_, wk_l_next f cdv A outer s H E hr, ?_⟩
  rintro Γ Qr ⟨v, rfl, q⟩
  show SJ K [.ex v (DeckL K)] (t_l_next K) _
  unfold t_l_next
  refine sj_open 0 (v := v) (PL := DeP) rfl fun l ns ev hp => ?_
  subst ev
  show SJ K [.ml false l (ns.map PyData.int)] _ _
  refine sj_seq (sj_if (wt_thaw ?_))
  show WT K [.dat false (.list (ns.map PyData.int))] _ _
  refine wt_test (wd_op (wd_var rfl (wd_lst0 (rd_eq (intsL_sh ns) sh_nil ⟨_, rfl, ?_⟩))))
  rw [eqv_nilE]
  rcases List.eq_nil_or_concat ns with e | ⟨ns0, n, e⟩
  · subst e
    refine iteT' rfl ?_
    show SJ K [.ml false l (([] : List Int).map PyData.int)] _ _
    refine sj_close 0 (l := l) (m := false) (ns := []) DeP rfl hp ?_
    exact sj_retD true (wd_int ⟨keep_ex keep_nil, q 0 (Int.le_refl _) (by decide)⟩)
  · subst e
    rw [List.concat_eq_append] at hp ⊢
    refine iteF' (by simp) (sj_next ?_)
    exact sj_retPop (i := 0) (l := l) (ns := ns0) (n := n) DeP rfl (fun x hx => hp x (List.mem_append.mpr (.inl hx))) ⟨keep_ex keep_nil, q n (hp n (by simp)).1 (hp n (by simp)).2⟩
theorem ok_ething (D : Def K mg "_law_thing" s_l_thing ["deck", "m", "boxes", "deep"]) (c_next : Cal P K.w K mg base CX0 k "_law_next" ["deck"] (spG K (T_next K))) (m_len : mg "len" = none) : ∀ n, Cal P K.w K mg base CX0 (k + n) "_law_thing" ["deck", "m", "boxes", "deep"] (spG K (T_ething n K))
  | 0 => by
    refine (cal_no D).imp fun vs H Q E h => ?_
    obtain ⟨_, _, _, _, _, _, _, _, _, ⟨v, m, bs, deep, _, _, h1, h0, _⟩, _⟩ := h
    omega
  | n + 1 => by
    have ih := ok_ething D c_next m_len n
    refine cal_g D sc_l_thing (fun Γ Qr ⟨v, m, bs, deep, e, _⟩ => by subst e; exact ⟨rfl, noMl_ex (noMl_dat (noMl_dat (noMl_dat noMl_nil)))⟩) fun f cdv A outer s H E hr => ⟨_, wk_l_thing ih (c_next.mono (by omega)) m_len f cdv A outer s H E hr, ?_⟩
    rintro Γ Qr ⟨v, m, bs, deep, rfl, hmb, hd1, hdn, q⟩
    have hl0 := hmb.bs.len0
    have hm2 := hmb.m2
    have hm16 := hmb.m16
    have kp : ∀ {Γ'}, Keep [.ex v (DeckL K), .dat false (.int m), .dat false (bsD bs), .dat false (.int deep)] (.ex v (DeckL K) :: .dat false (.int m) :: .dat false (bsD bs) :: .dat false (.int deep) :: Γ') := fun {Γ'} => keep_ex (keep_dat (keep_dat (keep_dat keep_nil)))
    show SJ K [.ex v (DeckL K), .dat false (.int m), .dat false (bsD bs), .dat false (.int deep), .no, .no] (t_l_thing K _ _) _
    unfold t_l_thing
    refine sj_seq (sj_set false (wd_op (wd_callO0 (i := 0) (v := v) rfl (use_next fun r0 hr0 => wd_int (rd_mod (by decide) ?_)))))
    have w0 := Int.emod_nonneg r0 (b := 8) (by decide)
    have w8 := Int.emod_lt_of_pos r0 (b := 8) (by decide)
    generalize r0 % 8 = w at w0 w8
    refine sj_cut (fun Γ' => 2 ≤ deep ∧ 2 ≤ w ∧ Γ' = [.ex v (DeckL K), .dat false (.int m), .dat false (bsD bs), .dat false (.int deep), .dat false (.int w), .no]) (sj_if ?_) ?_
    · have leaf : SJ K [.ex v (DeckL K), .dat false (.int m), .dat false (bsD bs), .dat false (.int deep), .dat false (.int w), .no] (tSeq (tIfS (tTest (tOp (dEq K) (tOp dMod (tCall (spG K (T_next K)) [] E0 (tCons (tVar 0) tNil)) (tC (.int 2))) (tC (.int 0)))) (tRet (tTup (tCons (tC (.str "number")) (tCons (tOp dMod (tCall (spG K (T_next K)) [] E0 (tCons (tVar 0) tNil)) (tVar 1)) tNil)))) tNext) (tRet (tTup (tCons (tC (.str "box")) (tCons (tOp (rIx K) (tVar 2) (tOp dMod (tCall (spG K (T_next K)) [] E0 (tCons (tVar 0) tNil)) (tCB (dLen K) (tCons (tVar 2) tNil)))) tNil))))) { retP [.ex v (DeckL K), .dat false (.int m), .dat false (bsD bs), .dat false (.int deep)] Qr with nx := fun Γ' => 2 ≤ deep ∧ 2 ≤ w ∧ Γ' = [.ex v (DeckL K), .dat false (.int m), .dat false (bsD bs), .dat false (.int deep), .dat false (.int w), .no] } := by
        refine sj_seq (sj_if (wt_test (wd_op (wd_op (wd_callO0 (i := 0) (v := v) rfl (use_next fun r1 _ => wd_int (rd_mod (by decide) (wd_int (rd_eq sh_int sh_int ⟨_, rfl, ?_⟩)))))))))
        rw [eqv_int]
        refine iteD (fun _ => ?_) (fun _ => sj_next ?_)
        · refine sj_retD true (wd_lf (wd_tup2 (wd_str (wd_op (wd_callO0 (i := 0) (v := v) rfl (use_next fun r2 _ => wd_var rfl (rd_mod (by omega) ?_)))))))
          obtain ⟨n0, hn0, e0⟩ := mod_ix (n := r2) (len := m) (by omega)
          rw [e0]
          exact ⟨rfl, kp, q (.num n0) (Th.ok_num' hn0 hd1)⟩
        · refine sj_retD true (wd_lf (wd_tup2 (wd_str (wd_op (wd_var rfl (wd_op (wd_callO0 (i := 0) (v := v) rfl (use_next fun r2 _ => wd_cb1 (wd_var rfl (rc_lenL ?_))))))))))
          rw [List.length_map]
          refine rd_mod (by omega) (rd_gbox hl0 fun y hy => ?_)
          exact ⟨rfl, kp, q (.box y) (Th.ok_box' hy hd1)⟩
      refine wt_or (wt_test (wd_op (wd_var rfl (wd_int (rd_lt ⟨_, rfl, iteD (fun _ => iteT' rfl leaf) (fun h1 => ?_)⟩)))))
      refine wt_test (wd_op (wd_var rfl (wd_int (rd_lt ⟨_, rfl, iteD (fun _ => leaf) (fun h2 => sj_next ⟨by omega, by omega, rfl⟩)⟩))))
    rintro _ ⟨hd2, hw2, rfl⟩
    refine sj_seq (sj_set false (wd_op (wd_lst6 (wd_str (wd_str (wd_str (wd_str (wd_str (wd_str (wd_op (wd_var rfl (wd_int (rd_sub ?_)))))))))))))
    refine rd_sel (by omega) (by simp; omega) fun d hd => ?_
    have hkk : ∃ o : Op, d = .str o.w := by
      simp at hd
      rcases hd with z | z | z | z | z | z
      · exact ⟨.plus, z⟩
      · exact ⟨.times, z⟩
      · exact ⟨.less, z⟩
      · exact ⟨.same, z⟩
      · exact ⟨.plus, z⟩
      · exact ⟨.times, z⟩
    obtain ⟨o, rfl⟩ := hkk
    have hdd : ((deep : Int) - 1) = ((deep - 1 : Nat) : Int) := by omega
    refine sj_retD true (wd_lf (wd_tup3 (wd_var rfl (wd_callO3 (i := 0) (v := v) rfl (wd_var rfl (wd_var rfl (wd_op (wd_var rfl (wd_int (rd_sub ?_))))))))))
    rw [hdd]
    refine use_ething hmb (by omega) (by omega) fun t1 ht1 => ?_
    refine wd_callO3 (i := 0) (v := v) rfl (wd_var rfl (wd_var rfl (wd_op (wd_var rfl (wd_int (rd_sub ?_))))))
    rw [hdd]
    refine use_ething hmb (by omega) (by omega) fun t2 ht2 => ?_
    have okk : (Th.op o t1 t2).Ok m bs deep := by
      obtain ⟨j, rfl⟩ := Nat.exists_eq_add_of_le hd1
      have e : 1 + j - 1 = j := by omega
      rw [e] at ht1 ht2
      rw [Nat.add_comm]
      exact ⟨ht1, ht2⟩
    exact ⟨Th.lf (.op o t1 t2), kp, q _ okk⟩
end
end Dk
end
section
set_option Elab.async false
set_option linter.all false
set_option maxRecDepth 100000
set_option pp.maxSteps 600
open PySem L2 Pk
local macro_rules | `(tactic| walk_at "sh") => `(tactic| first | exact sh_int | exact sh_bool | exact sh_non | exact sh_nil | exact sh_str (by decide +kernel) | assumption)
local macro_rules | `(tactic| walk_at "v1") => `(tactic| first
  | (with_reducible refine wd_int ?_) | (with_reducible refine wd_str ?_) | (with_reducible refine wd_bl ?_) | (with_reducible refine wd_non ?_)
  | ((with_reducible apply wd_var); exact rfl) | ((with_reducible apply wd_varN); exact rfl)
  | ((with_reducible apply wd_ixm); exact rfl)
  | ((with_reducible apply wd_lenM); exact rfl) | ((with_reducible apply wd_lenScript); exact rfl) | ((with_reducible apply wd_ixScript); exact rfl)
  | (with_reducible refine wd_op ?_) | (with_reducible refine wd_un ?_)
  | (with_reducible refine rd_add ?_) | (with_reducible refine rd_sub ?_) | (with_reducible refine rd_lt ?_) | (with_reducible refine rd_le ?_) | (with_reducible refine rd_gt ?_) | (with_reducible refine rd_ge ?_) | (with_reducible refine ru_neg ?_)
  | ((with_reducible refine rd_eq ?ev_h ?ev_k ?_); (case ev_h => walk_at "sh"); (case ev_k => walk_at "sh")) | ((with_reducible refine rd_ne ?ev_h ?ev_k ?_); (case ev_h => walk_at "sh"); (case ev_k => walk_at "sh"))
  | ((with_reducible refine rd_mod ?ev_h ?_); case ev_h => first | decide | assumption | omega) | ((with_reducible refine rd_div ?ev_h ?ev_k ?_); (case ev_h => first | decide | assumption | omega); (case ev_k => first | decide | assumption | omega))
  | ((with_reducible refine rd_pow ?ev_h ?_); case ev_h => exact ⟨by decide, by decide, by decide⟩)
  | ((with_reducible refine rd_mul ?ev_h ?_); case ev_h => first | exact .inr ⟨by decide, by decide⟩ | exact .inl ⟨by decide, by decide⟩ | exact .inl ⟨by omega, by omega⟩ | exact .inr ⟨by omega, by omega⟩)
  | (with_reducible refine rc_lenL ?_) | (with_reducible refine rc_lenT ?_) | (with_reducible refine rc_max2 ?_) | (with_reducible refine rc_min2 ?_) | (with_reducible refine rc_intB ?_) | (with_reducible refine rc_intI ?_) | (with_reducible refine rc_listL ?_) | (with_reducible refine rc_listT ?_) | (with_reducible refine rc_tupleL ?_)
  | ((with_reducible apply rd_ixT); exact rfl)
  | ((with_reducible apply rd_ixL); exact rfl)
  | ((with_reducible refine wd_isi ?ev_h ?_); case ev_h => decide) | ((with_reducible refine wd_isi2 ?ev_h ?ev_k ?_); (case ev_h => decide); (case ev_k => decide))
  | (with_reducible refine wd_tup2 ?_) | (with_reducible refine wd_tup1 ?_) | (with_reducible refine wd_tup3 ?_) | (with_reducible refine wd_tup0 ?_)
  | (with_reducible refine wd_lst0 ?_) | (with_reducible refine wd_lst1 ?_) | (with_reducible refine wd_lst2 ?_) | (with_reducible refine wd_lst3 ?_) | (with_reducible refine wd_lst4 ?_) | (with_reducible refine wd_lst5 ?_) | (with_reducible refine wd_lst6 ?_)
  | ((with_reducible apply wd_callO0); exact rfl) | ((with_reducible apply wd_callO1); exact rfl) | ((with_reducible apply wd_callO2); exact rfl) | ((with_reducible apply wd_callO3); exact rfl)
  | (with_reducible refine wd_call1 ?_) | (with_reducible refine wd_call2 ?_) | (with_reducible refine wd_call3 ?_) | (with_reducible refine wd_call4 ?_) | (with_reducible refine wd_call0 ?_)
  | (with_reducible refine wd_cb1 ?_) | (with_reducible refine wd_cb2 ?_)
  | (with_reducible refine wd_rev ?_) | (with_reducible refine wd_lrg1 ?_) | (with_reducible refine wd_sl ?_) | (with_reducible refine wo_no ?_) | (with_reducible refine wo_some ?_)
  | (with_reducible refine wd_andV ?_) | (with_reducible refine wd_orV ?_) | (with_reducible refine wd_notV ?_) | (with_reducible refine wd_if ?_) | (with_reducible refine wd_chain ?_)
  | (with_reducible refine wt_test ?_) | (with_reducible refine wt_B ?_) | (with_reducible refine wt_not ?_) | (with_reducible refine wt_and ?_) | (with_reducible refine wt_or ?_) | (with_reducible refine wt_yes ?_)
  | (with_reducible refine gj_name ?_) | (with_reducible refine gj_tup rfl ?_) | (with_reducible refine gjs_cons ?_) | (with_reducible refine gjs_nil ?_))
local macro_rules | `(tactic| walk_at "v") => `(tactic| repeat walk_at "v1")
local macro_rules | `(tactic| walk_at "x") => `(tactic| refine ⟨_, rfl, ?_⟩)
local macro_rules | `(tactic| walk_at "vx") => `(tactic| repeat (first | walk_at "v1" | (with_reducible refine ⟨_, rfl, ?_⟩)))
namespace Dk
open PySem PySem.Spec PyProof.Rows L2 Pk Sy
section
variable {P : Program} {K : Kw} {mg : Str → Option Value} {base : Heap} {k : Nat}
theorem ok_erow (D : Def K mg "_law_row" s_l_row ["deck", "m", "boxes", "wide"]) (c_next : Cal P K.w K mg base CX0 k "_law_next" ["deck"] (spG K (T_next K))) (c_thing : Cal P K.w K mg base CX0 k "_law_thing" ["deck", "m", "boxes", "deep"] (spG K (T_ething 4 K))) (m_len : mg "len" = none) (m_range : mg "range" = none) (m_min : mg "min" = none) (m_max : mg "max" = none) : Cal P K.w K mg base CX0 (k + 1) "_law_row" ["deck", "m", "boxes", "wide"] (spG K (T_erow K)) := by
  refine cal_g D sc_l_row (fun Γ Qr ⟨v, m, bs, wide, e, _⟩ => by subst e; exact ⟨rfl, noMl_ex (noMl_dat (noMl_dat (noMl_dat noMl_nil)))⟩) fun f cdv A outer s H E hr => ⟨_, wk_l_row c_next c_thing m_len m_range m_min m_max f cdv A outer s H E hr, ?_⟩
  rintro Γ Qr ⟨v, m, bs, wide, rfl, hmb, q⟩
  have hl0 := hmb.bs.len0
  have hm2 := hmb.m2
  have hm16 := hmb.m16
  have kp : ∀ {Γ'}, Keep [.ex v (DeckL K), .dat false (.int m), .dat false (bsD bs), .dat false (.int wide)] (.ex v (DeckL K) :: .dat false (.int m) :: .dat false (bsD bs) :: .dat false (.int wide) :: Γ') := fun {Γ'} => keep_ex (keep_dat (keep_dat (keep_dat keep_nil)))
  show SJ K [.ex v (DeckL K), .dat false (.int m), .dat false (bsD bs), .dat false (.int wide), .no, .no, .no, .no, .no] (t_l_row K _ _) _
  unfold t_l_row
  refine sj_seq (sj_set false (wd_op (wd_callO0 (i := 0) (v := v) rfl (use_next fun r0 hr0 => wd_int (rd_mod (by decide) ?_)))))
  have w0 := Int.emod_nonneg r0 (b := 10) (by decide)
  have w8 := Int.emod_lt_of_pos r0 (b := 10) (by decide)
  generalize r0 % 10 = w at w0 w8
  refine sj_seq (sj_set false (wd_callO3 (i := 0) (v := v) rfl (wd_var rfl (wd_var rfl (wd_op (wd_lst4 (wd_int (wd_int (wd_int (wd_int (wd_op (wd_callO0 (i := 0) (v := v) rfl (use_next fun r1 _ => wd_int (rd_mod (by decide) ?_))))))))))))))
  have q0 := Int.emod_nonneg r1 (b := 4) (by decide)
  have q4 := Int.emod_lt_of_pos r1 (b := 4) (by decide)
  refine rd_sel q0 (by simp; omega) fun d hd => ?_
  obtain ⟨dp, hdp1, hdp4, rfl⟩ : ∃ dp : Nat, 1 ≤ dp ∧ dp ≤ 4 ∧ d = .int dp := by
    simp at hd
    rcases hd with z | z | z
    · exact ⟨1, by decide, by decide, z⟩
    · exact ⟨2, by decide, by decide, z⟩
    · exact ⟨4, by decide, by decide, z⟩
  refine use_ething hmb hdp1 hdp4 fun t ht => ?_
  have ht4 := ht.mono hdp4
  have abox : ∀ {Γ' : List Sl} {mm : Bool} {Q : PyData → Prop}, Γ'[0]? = some (.ex v (DeckL K)) → Γ'[2]? = some (.dat false (bsD bs)) → (∀ x ∈ bs, Q (.str x)) → WD K mm Γ' (tOp (rIx K) (tVar 2) (tOp dMod (tCall (spG K (T_next K)) [] E0 (tCons (tVar 0) tNil)) (tCB (dLen K) (tCons (tVar 2) tNil)))) Q := fun {Γ' mm Q} e0 e2 qq => by
    refine wd_lf (wd_op (wd_var e2 (wd_op (wd_callO0 (i := 0) (v := v) e0 (use_next fun r2 _ => wd_cb1 (wd_var e2 (rc_lenL ?_)))))))
    rw [List.length_map]
    exact rd_mod (by omega) (rd_gbox hl0 fun y hy => ⟨rfl, qq y hy⟩)
  refine sj_seq (sj_if (wt_test (wd_op (wd_var rfl (wd_int (rd_lt ⟨_, rfl, iteD (fun _ => ?_) (fun h1 => sj_next ?_)⟩))))))
  · refine sj_retD false (wd_tup3 (wd_str (abox rfl rfl fun x hx => wd_var rfl ⟨kp, q (.set x t) ⟨hx, ht4⟩ ?_⟩)))
    show 1 ≤ max 1 wide
    omega
  refine sj_seq (sj_if (wt_test (wd_op (wd_var rfl (wd_int (rd_lt ⟨_, rfl, iteD (fun _ => ?_) (fun h2 => sj_next ?_)⟩))))))
  · refine sj_seq (sj_set false (wd_cb2 (wd_op (wd_int (wd_op (wd_callO0 (i := 0) (v := v) rfl (use_next fun r2 _ => wd_int (rd_mod (by decide) (rd_add (wd_cb2 (wd_int (wd_var rfl (rc_max2 (rc_min2 ?_))))))))))))))
    have a0 := Int.emod_nonneg r2 (b := 5) (by decide)
    have a5 := Int.emod_lt_of_pos r2 (b := 5) (by decide)
    obtain ⟨mn, hmn, hmn1, hmn5, hmnw⟩ : ∃ mn : Nat, min (1 + r2 % 5) (max 1 (wide : Int)) = (mn : Int) ∧ 1 ≤ mn ∧ mn ≤ 5 ∧ mn ≤ max 1 wide := ⟨(min (1 + r2 % 5) (max 1 (wide : Int))).toNat, by omega, by omega, by omega, by omega⟩
    rw [hmn]
    refine sj_seq (sj_set false (wd_op (wd_lst1 (wd_var rfl (wd_lcF (mi := false) (fun _ _ y => ∃ t : Th, t.Ok m bs 4 ∧ y = t.d) (wipeOk_no rfl wipeOk_nil) gwn (wi_rng (wd_op (wd_var rfl (wd_int (rd_sub ⟨_, rfl, ⟨by omega, by omega⟩, by rw [rangeD_len]; omega, fun j d hj => ?_, fun acc hal hac => ?_⟩))))))))))
    · refine gj_name ⟨rfl, wd_callO3 (i := 0) (v := v) rfl (wd_var rfl (wd_var rfl (wd_op (wd_int (wd_op (wd_callO0 (i := 0) (v := v) rfl (use_next fun r3 _ => wd_int (rd_mod (by decide) (rd_add ?_)))))))))⟩
      have b0 := Int.emod_nonneg r3 (b := 2) (by decide)
      have b5 := Int.emod_lt_of_pos r3 (b := 2) (by decide)
      obtain ⟨dq, hdq⟩ : ∃ dq : Nat, 1 + r3 % 2 = (dq : Int) := ⟨(1 + r3 % 2).toNat, by omega⟩
      rw [hdq]
      exact use_ething hmb (by omega) (by omega) fun t' ht' => ⟨t', ht'.mono (by omega), rfl⟩
    rw [rangeD_len] at hal
    have hall : ∀ y ∈ acc, ∃ t : Th, t.Ok m bs 4 ∧ y = t.d := fun y hy => by
      obtain ⟨j, hj⟩ := List.getElem?_of_mem hy
      have hjl : j < acc.length := (List.getElem?_eq_some_iff.mp hj).1
      exact hac j _ y (rangeD_get (by omega)) hj
    obtain ⟨ts, rfl, hts⟩ := list_of hall
    rw [List.length_map] at hal
    refine rd_cat (by simp; omega) ?_
    show SJ K [.ex v (DeckL K), .dat false (.int m), .dat false (bsD bs), .dat false (.int wide), .dat false (.int w), .dat false t.d, .dat false (.int mn), .dat false (.list ((t :: ts).map Th.d)), .no] _ _
    refine sj_retD false (wd_tup3 (wd_str (abox rfl rfl fun x hx => wd_var rfl ⟨kp, q (.pick x (t :: ts)) ⟨hx, by simp, by simp; omega, fun t' ht' => ?_⟩ ?_⟩)))
    · rcases List.mem_cons.mp ht' with z | z
      · rw [z]; exact ht4
      · exact hts t' z
    · show (t :: ts).length ≤ max 1 wide
      rw [List.length_cons]
      omega
  refine sj_seq (sj_if (wt_test (wd_op (wd_var rfl (wd_int (rd_eq sh_int sh_int ⟨_, rfl, ?_⟩))))))
  rw [eqv_int]
  refine iteD (fun _ => ?_) (fun _ => sj_next ?_)
  · refine sj_retD false (wd_tup2 (wd_str (wd_var rfl ⟨kp, q (.need t) ht4 ?_⟩)))
    show 1 ≤ max 1 wide
    omega
  refine sj_seq (sj_if (wt_test (wd_op (wd_var rfl (wd_int (rd_eq sh_int sh_int ⟨_, rfl, ?_⟩))))))
  rw [eqv_int]
  refine iteD (fun _ => ?_) (fun _ => sj_next ?_)
  · refine sj_retD false (wd_tup3 (wd_str (wd_var rfl (wd_lf (wd_op (wd_int (wd_op (wd_callO0 (i := 0) (v := v) rfl (use_next fun r2 _ => wd_op (wd_lst3 (wd_int (wd_int (wd_int (wd_op (wd_callO0 (i := 0) (v := v) rfl (use_next fun r3 _ => wd_int (rd_mod (by decide) ?_)))))))))))))))))
    have b0 := Int.emod_nonneg r3 (b := 3) (by decide)
    have b5 := Int.emod_lt_of_pos r3 (b := 3) (by decide)
    refine rd_sel b0 (by simp; omega) fun d hd => ?_
    obtain ⟨dp, hdp1, hdp4, rfl⟩ : ∃ dp : Int, 1 ≤ dp ∧ dp ≤ 30 ∧ d = .int dp := by
      simp at hd
      rcases hd with z | z
      · exact ⟨4, by decide, by decide, z⟩
      · exact ⟨30, by decide, by decide, z⟩
    refine rd_mod (by omega) (rd_add ?_)
    have c0 := Int.emod_nonneg r2 (b := dp) (by omega)
    have c5 := Int.emod_lt_of_pos r2 (b := dp) (by omega)
    obtain ⟨n, hn⟩ : ∃ n : Nat, 1 + r2 % dp = (n : Int) := ⟨(1 + r2 % dp).toNat, by omega⟩
    rw [hn]
    refine ⟨rfl, kp, q (.skip t n) ⟨ht4, by omega, by omega⟩ ?_⟩
    show 1 ≤ max 1 wide
    omega
  · refine sj_retD false (wd_tup2 (wd_str (wd_var rfl ⟨kp, q (.give t) ht4 ?_⟩)))
    show 1 ≤ max 1 wide
    omega
def spare7 : List Str := ["a", "b", "ab", "zzzzzzzz", "give", "if", "x"]
theorem spare_nd : spare7.Nodup := by decide +kernel
theorem spare_nm : ∀ x ∈ spare7, NameOk x := by
  have h : ∀ x ∈ spare7, 1 ≤ x.length ∧ x.length ≤ 8 ∧ (x.cps.toList.all fun c => decide (97 ≤ c ∧ c ≤ 122)) = true := by decide +kernel
  intro x hx
  obtain ⟨h1, h2, h3⟩ := h x hx
  refine ⟨h1, h2, fun c hc => ?_⟩
  have h4 : decide (97 ≤ c ∧ c ≤ 122) = true := List.all_eq_true.mp h3 c hc
  have h5 : 97 ≤ c ∧ c ≤ 122 := of_decide_eq_true h4
  exact h5
theorem eraseIdx_mapE {α β : Type} (f : α → β) : ∀ (l : List α) (j : Nat), (l.map f).eraseIdx j = (l.eraseIdx j).map f
  | [], _ => rfl
  | _ :: _, 0 => rfl
  | a :: l, j + 1 => by show f a :: (l.map f).eraseIdx j = f a :: (l.eraseIdx j).map f; rw [eraseIdx_mapE f l j]
theorem eraseIdx_perm {α : Type} : ∀ {l : List α} {j : Nat} (h : j < l.length), (l[j] :: l.eraseIdx j).Perm l
  | a :: l, 0, _ => .refl _
  | a :: l, j + 1, h => by
    have h' : j < l.length := by simpa using h
    show (l[j] :: a :: l.eraseIdx j).Perm (a :: l)
    exact .trans (.swap a l[j] _) (.cons a (eraseIdx_perm h'))
theorem ok_eboxes (D : Def K mg "_law_boxes" s_l_boxes ["deck"]) (c_next : Cal P K.w K mg base CX0 k "_law_next" ["deck"] (spG K (T_next K))) (m_range : mg "range" = none) (m_len : mg "len" = none) : Cal P K.w K mg base CX0 (k + 1) "_law_boxes" ["deck"] (spG K (T_eboxes K)) := by
  refine cal_g D sc_l_boxes (fun Γ Qr ⟨v, e, _⟩ => by subst e; exact ⟨rfl, noMl_ex noMl_nil⟩) fun f cdv A outer s H E hr => ⟨_, wk_l_boxes c_next m_range m_len f cdv A outer s H E hr, ?_⟩
  rintro Γ Qr ⟨v, rfl, q⟩
  show SJ K [.ex v (DeckL K), .no, .no, .no] (t_l_boxes K _) _
  unfold t_l_boxes
  refine sj_seq (sj_setX (wx_lst false (wa_d (wd_str (wa_d (wd_str (wa_d (wd_str (wa_d (wd_str (wa_d (wd_str (wa_d (wd_str (wa_d (wd_str (wa_nil ⟨_, rfl, le_lit rfl, fun l => ?_⟩)))))))))))))))))
  show SJ K [.ex v (DeckL K), .ml false l (spare7.map PyData.str), .no, .no] _ _
  refine sj_seq (sj_setG (wxg_lc (mi := false) false (j := 1) (mj := false) (l := l) (ds0 := spare7.map PyData.str) rfl (fun i hi => by simp at hi; subst hi; rfl) gwn (wi_rng (wd_op (wd_lst5 (wd_int (wd_int (wd_int (wd_int (wd_int (wd_op (wd_callO0 (i := 0) (v := v) rfl (use_next fun r0 _ => wd_int (rd_mod (by decide) ?_))))))))))))))
  have b0 := Int.emod_nonneg r0 (b := 5) (by decide)
  have b5 := Int.emod_lt_of_pos r0 (b := 5) (by decide)
  refine rd_sel b0 (by simp; omega) fun d hd => ?_
  obtain ⟨n, hn1, hn5, rfl⟩ : ∃ n : Nat, 1 ≤ n ∧ n ≤ 5 ∧ d = .int n := by
    simp at hd
    rcases hd with z | z | z | z
    · exact ⟨1, by decide, by decide, z⟩
    · exact ⟨2, by decide, by decide, z⟩
    · exact ⟨3, by decide, by decide, z⟩
    · exact ⟨5, by decide, by decide, z⟩
  refine ⟨n, rfl, ⟨by omega, by omega⟩, fun i acc lv => ∃ a b : List Str, acc = a.map PyData.str ∧ lv = b.map PyData.str ∧ (a ++ b).Perm spare7 ∧ a.length = i, by rw [rangeD_len]; omega, ⟨[], spare7, rfl, rfl, .refl _, rfl⟩, ?_, ?_⟩
  · rintro i d acc lv hd _ ⟨a, b, rfl, rfl, hp, hal⟩
    obtain ⟨hi, rfl⟩ := rangeD_of hd
    have hab := hp.length_eq
    have h7 : spare7.length = 7 := rfl
    rw [List.length_append, h7] at hab
    have hb1 : 1 ≤ b.length := by omega
    refine gj_name (wdg_popAt (i := 1) (m := false) (l := l) (ds := b.map PyData.str) rfl (wd_op (wd_callO0 (i := 0) (v := v) rfl (use_next fun r1 _ => wd_lenM (i := 1) (m := false) (l := l) (ds := b.map PyData.str) rfl ?_))))
    rw [List.length_map]
    refine rd_mod (by omega) ?_
    obtain ⟨j, hj, ej⟩ := mod_ix (n := r1) (len := b.length) hb1
    refine ⟨j, .str b[j], by rw [ej], by omega, by simp [hj], (b.eraseIdx j).map PyData.str, ?_, a ++ [b[j]], b.eraseIdx j, by simp, rfl, ?_, by simp [hal]⟩
    · show [Sl.ex v (DeckL K), .ml false l ((b.map PyData.str).eraseIdx j), .no, .no] = _
      rw [eraseIdx_mapE]
      rfl
    · refine .trans ?_ hp
      rw [List.append_assoc]
      refine .append_left a ?_
      exact eraseIdx_perm hj
  rintro acc lv _ ⟨a, b, rfl, rfl, hp, hal⟩ la
  rw [rangeD_len] at hal
  show SJ K [.ex v (DeckL K), .ml false l (b.map PyData.str), .ml false la (a.map PyData.str), .no] _ _
  refine sj_frz 2 (l := la) (m := false) (ds := a.map PyData.str) rfl ?_
  show SJ K [.ex v (DeckL K), .ml false l (b.map PyData.str), .dat false (bsD a), .no] _ _
  refine sj_retD false (wd_tup2 (wd_lf (wd_op (wd_int (wd_op (wd_callO0 (i := 0) (v := v) rfl (use_next fun r2 _ => wd_int (rd_mod (by decide) (rd_add ⟨rfl, wd_var rfl ⟨keep_ex keep_nil, ?_⟩⟩)))))))))
  have c0 := Int.emod_nonneg r2 (b := 15) (by decide)
  have c5 := Int.emod_lt_of_pos r2 (b := 15) (by decide)
  obtain ⟨m, hm⟩ : ∃ m : Nat, 2 + r2 % 15 = (m : Int) := ⟨(2 + r2 % 15).toNat, by omega⟩
  rw [hm]
  refine q m a ⟨by omega, by omega, ⟨by omega, by omega, ?_, fun x hx => spare_nm x (hp.subset (List.mem_append.mpr (.inl hx)))⟩⟩
  exact ((List.nodup_append.mp (hp.nodup_iff.mpr spare_nd)).1)
theorem sizeL_snoc (rows : List Rw) (r : Rw) : sizeL (rows ++ [r]) = sizeL rows * rwW r := by
  rw [sizeL_app]
  cases r <;> simp [sizeL, rwW]
theorem ok_eprogram (D : Def K mg "_law_program" s_l_program ["deck", "m", "boxes", "most", "wide"]) (c_next : Cal P K.w K mg base CX0 k "_law_next" ["deck"] (spG K (T_next K))) (c_row : Cal P K.w K mg base CX0 k "_law_row" ["deck", "m", "boxes", "wide"] (spG K (T_erow K))) (m_list : mg "list" = none) (m_range : mg "range" = none) (m_len : mg "len" = none) : Cal P K.w K mg base CX0 (k + 1) "_law_program" ["deck", "m", "boxes", "most", "wide"] (spG K (T_eprogram K)) := by
  refine cal_g D sc_l_program (fun Γ Qr ⟨v, m, bs, most, wide, e, _⟩ => by subst e; exact ⟨rfl, noMl_ex (noMl_dat (noMl_dat (noMl_dat (noMl_dat noMl_nil))))⟩) fun f cdv A outer s H E hr => ⟨_, wk_l_program c_next c_row m_list m_range m_len f cdv A outer s H E hr, ?_⟩
  rintro Γ Qr ⟨v, m, bs, most, wide, rfl, hmb, hmo, hwi, q⟩
  have hl0 := hmb.bs.len0
  have hm2 := hmb.m2
  have hm16 := hmb.m16
  have hl5 := hmb.bs.len5
  show SJ K [.ex v (DeckL K), .dat false (.int m), .dat false (bsD bs), .dat false (.int most), .dat false (.int wide), .no, .no, .no] (t_l_program K _ _) _
  unfold t_l_program
  refine sj_seq (sj_setX (wx_lst0 false fun l => ?_))
  refine sj_cut (fun Γ' => ∃ (rows : List Rw) (s4 s6 s7 : Sl), rows.length ≤ most ∧ (∀ r ∈ rows, r.Ok m bs) ∧ sizeL rows ≤ wide ∧ Γ' = [.ex v (DeckL K), .dat false (.int m), .dat false (bsD bs), .dat false (.int most), s4, .ml false l (rows.map Rw.d), s6, s7]) ?_ ?_
  · refine sj_for false (wi_rng (wd_op (wd_callO0 (i := 0) (v := v) rfl (use_next fun r0 _ => wd_op (wd_var rfl (wd_int (rd_add (rd_mod (by omega) ?_))))))))
    have c0 := Int.emod_nonneg r0 (b := (most : Int) + 1) (by omega)
    have c5 := Int.emod_lt_of_pos r0 (b := (most : Int) + 1) (by omega)
    obtain ⟨n, hn⟩ : ∃ n : Nat, r0 % ((most : Int) + 1) = (n : Int) := ⟨(r0 % ((most : Int) + 1)).toNat, by omega⟩
    rw [hn]
    refine ⟨_, rfl, ⟨by omega, by omega⟩, fun i Γ' => ∃ (rows : List Rw) (w : Nat) (s6 s7 : Sl), rows.length = i ∧ (∀ r ∈ rows, r.Ok m bs) ∧ 1 ≤ sizeL rows ∧ sizeL rows * max 1 w ≤ wide ∧ Γ' = [.ex v (DeckL K), .dat false (.int m), .dat false (bsD bs), .dat false (.int most), .dat false (.int w), .ml false l (rows.map Rw.d), s6, s7], ⟨[], wide, .no, .no, rfl, (fun _ h => (by cases h)), Nat.le_refl _, by show 1 * max 1 wide ≤ wide; omega, rfl⟩, ?_, ?_⟩
    · rintro i d Γ' hd ⟨rows, w, s6, s7, hrl, hrok, hs1, hsw, rfl⟩
      obtain ⟨hi, rfl⟩ := rangeD_of hd
      have hi' : i < n := by omega
      refine gj_name (sj_seq (sj_set false (wd_callO3 (i := 0) (v := v) rfl (wd_var rfl (wd_var rfl (wd_var rfl ⟨v, m, bs, w, rfl, hmb, fun r hr hrw => asD_dat ?_⟩))))))
      have hw1 : 1 ≤ rwW r := by
        cases r with
        | pick x ts => exact hr.2.1
        | _ => exact Nat.le_refl _
      refine sj_cut (fun Γ' => ∃ w' : Nat, sizeL rows * rwW r * max 1 w' ≤ wide ∧ Γ' = [.ex v (DeckL K), .dat false (.int m), .dat false (bsD bs), .dat false (.int most), .dat false (.int w'), .ml false l (rows.map Rw.d), .dat false (.int (0 + (i : Int))), .dat false r.d]) (sj_if ?_) ?_
      · have bnd : ∀ c : Nat, 1 ≤ c → c ≤ max 1 w → sizeL rows * c * max 1 (w / c) ≤ wide := fun c h1 h2 => by
          refine Nat.le_trans ?_ hsw
          rw [Nat.mul_assoc]
          refine Nat.mul_le_mul_left _ ?_
          by_cases hz : w / c = 0
          · rw [hz]; show c * 1 ≤ max 1 w; omega
          · have hd := Nat.mul_div_le w c
            generalize w / c = z at hz hd ⊢
            have e : max 1 z = z := by omega
            rw [e]
            omega
        have idn : ∀ {s : Sl}, rwW r = 1 → ∃ w' : Nat, sizeL rows * rwW r * max 1 w' ≤ wide ∧ [Sl.ex v (DeckL K), .dat false (.int m), .dat false (bsD bs), .dat false (.int most), .dat false (.int w), .ml false l (rows.map Rw.d), .dat false (.int (0 + (i : Int))), .dat false r.d] = [.ex v (DeckL K), .dat false (.int m), .dat false (bsD bs), .dat false (.int most), .dat false (.int w'), .ml false l (rows.map Rw.d), .dat false (.int (0 + (i : Int))), .dat false r.d] := fun {s} h1 => ⟨w, by rw [h1, Nat.mul_one]; exact hsw, rfl⟩
        refine wt_test (wd_op (wd_op (wd_var rfl (wd_int (rd_rk (wd_str (rd_w (b := .pick) ⟨_, rfl, ?_⟩)))))))
        cases r with
        | pick x ts =>
          refine iteT' rfl (sj_set false (wd_op (wd_var rfl (wd_cb1 (wd_op (wd_var rfl (wd_int (rd_ixT (d := .list (ts.map Th.d)) rfl (rc_lenL ?_)))))))))
          rw [List.length_map]
          refine rd_div (by have := hr.2.1; omega) (by have := hr.2.2.1; omega) ?_
          have e : (w : Int) / (ts.length : Int) = ((w / ts.length : Nat) : Int) := by simp
          rw [e]
          exact ⟨w / ts.length, bnd ts.length hw1 hrw, rfl⟩
        | set x t => exact iteF' rfl (sj_next (idn (s := .no) rfl))
        | need t => exact iteF' rfl (sj_next (idn (s := .no) rfl))
        | skip t n => exact iteF' rfl (sj_next (idn (s := .no) rfl))
        | give t => exact iteF' rfl (sj_next (idn (s := .no) rfl))
      rintro _ ⟨w', hw', rfl⟩
      refine sj_cut (fun Γ' => ∃ r' : Rw, r'.Ok m bs ∧ rwW r' = rwW r ∧ Γ' = [.ex v (DeckL K), .dat false (.int m), .dat false (bsD bs), .dat false (.int most), .dat false (.int w'), .ml false l (rows.map Rw.d), .dat false (.int (0 + (i : Int))), .dat false r'.d]) (sj_if ?_) ?_
      · have no : ∃ r' : Rw, r'.Ok m bs ∧ rwW r' = rwW r ∧ [Sl.ex v (DeckL K), .dat false (.int m), .dat false (bsD bs), .dat false (.int most), .dat false (.int w'), .ml false l (rows.map Rw.d), .dat false (.int (0 + (i : Int))), .dat false r.d] = [.ex v (DeckL K), .dat false (.int m), .dat false (bsD bs), .dat false (.int most), .dat false (.int w'), .ml false l (rows.map Rw.d), .dat false (.int (0 + (i : Int))), .dat false r'.d] := ⟨r, hr, rfl, rfl⟩
        refine wt_and (wt_test (wd_op (wd_op (wd_var rfl (wd_int (rd_rk (wd_str (rd_w (b := .give) ⟨_, rfl, ?_⟩))))))))
        cases r with
        | give t =>
          refine iteT' rfl (wt_and (wt_test (wd_op (wd_var rfl (wd_int (rd_lt ⟨_, rfl, iteD (fun _ => ?_) (fun _ => iteF' rfl (sj_next no))⟩))))))
          refine wt_test (wd_op (wd_op (wd_callO0 (i := 0) (v := v) rfl (use_next fun r2 _ => wd_int (rd_mod (by decide) (wd_int (rd_gt ⟨_, rfl, iteD (fun _ => ?_) (fun _ => sj_next no)⟩)))))))
          refine sj_set false (wd_tup3 (wd_str (wd_op (wd_var rfl (wd_int (rd_selN 0 rfl (d := .str (bs.headD "")) ?_ (wd_op (wd_var rfl (wd_int (rd_ixT (d := t.d) rfl ?_))))))))))
          · cases bs with
            | nil => exact absurd hl0 (by simp)
            | cons b bs => rfl
          · exact ⟨.set (bs.headD "") t, ⟨head_mem hl0, hr⟩, rfl, rfl⟩
        | set x t => exact iteF' rfl (iteF' rfl (sj_next no))
        | need t => exact iteF' rfl (iteF' rfl (sj_next no))
        | skip t n => exact iteF' rfl (iteF' rfl (sj_next no))
        | pick x ts => exact iteF' rfl (iteF' rfl (sj_next no))
      rintro _ ⟨r', hr', hrr, rfl⟩
      refine sj_app (i := 5) (l := l) (ds := rows.map Rw.d) rfl (by rw [List.length_map]; omega) (wd_var (d := r'.d) rfl ?_)
      refine ⟨rows ++ [r'], w', _, _, by simp [hrl], fun z hz => ?_, ?_, ?_, by rw [List.map_append]; rfl⟩
      · rcases List.mem_append.mp hz with h1 | h1
        · exact hrok z h1
        · rw [List.mem_singleton.mp h1]; exact hr'
      · rw [sizeL_snoc, hrr]; exact Nat.mul_pos hs1 hw1
      · rw [sizeL_snoc, hrr]; exact hw'
    · rintro Γ' ⟨rows, w, s6, s7, hrl, hrok, hs1, hsw, rfl⟩
      rw [rangeD_len] at hrl
      refine ⟨rows, _, s6, s7, by omega, hrok, ?_, rfl⟩
      have : sizeL rows * 1 ≤ sizeL rows * max 1 w := Nat.mul_le_mul_left _ (by omega)
      omega
  rintro _ ⟨rows, s4, s6, s7, hrl, hrok, hsw, rfl⟩
  refine sj_frz 5 (l := l) (m := false) (ds := rows.map Rw.d) rfl ?_
  exact sj_retD false (wd_tup3 (wd_var rfl (wd_cb1 (wd_var rfl (rc_listL (wd_var rfl ⟨keep_ex (keep_dat (keep_dat (keep_dat (keep_dat keep_nil)))), q ⟨m, bs, rows⟩ ⟨hm2, hm16, hmb.bs, by show rows.length ≤ 30; omega, hrok⟩ rfl rfl hrl hsw⟩))))))
theorem ok_estore (D : Def K mg "_law_store" s_l_store ["deck", "program"]) (c_next : Cal P K.w K mg base CX0 k "_law_next" ["deck"] (spG K (T_next K))) (m_tuple : mg "tuple" = none) : Cal P K.w K mg base CX0 (k + 1) "_law_store" ["deck", "program"] (spG K (T_estore K)) := by
  refine cal_g D sc_l_store (fun Γ Qr ⟨v, p, e, _⟩ => by subst e; exact ⟨rfl, noMl_ex (noMl_dat noMl_nil)⟩) fun f cdv A outer s H E hr => ⟨_, wk_l_store c_next m_tuple f cdv A outer s H E hr, ?_⟩
  rintro Γ Qr ⟨v, p, rfl, hp, q⟩
  have hm2 := hp.m2
  have hm16 := hp.m16
  have hl5 := hp.bs.len5
  show SJ K [.ex v (DeckL K), .dat false p.d, .no] (t_l_store K _) _
  unfold t_l_store
  refine sj_retD true (wd_lf (wd_cb1 ?_))
  refine wd_lcF (mi := false) (fun _ _ y => ∃ n : Nat, n < p.m ∧ y = PyData.int n) (wipeOk_no rfl wipeOk_nil) gwn (wi_list ?_)
  refine wd_op (wd_var rfl (wd_int (rd_ixT (d := bsD p.bs) rfl ⟨_, rfl, by rw [List.length_map]; omega, fun j d hj => ?_, fun acc hal hac => ?_⟩)))
  · refine gj_name ⟨rfl, wd_op (wd_callO0 (i := 0) (v := v) rfl (use_next fun r _ => wd_op (wd_var rfl (wd_int (rd_ixT (d := .int p.m) rfl (rd_mod (by omega) ?_))))))⟩
    obtain ⟨n0, hn0, e0⟩ := mod_ix (n := r) (len := p.m) (by omega)
    rw [e0]
    exact ⟨n0, hn0, rfl⟩
  rw [List.length_map] at hal
  have hall : ∀ y ∈ acc, ∃ n : Nat, n < p.m ∧ y = PyData.int n := fun y hy => by
    obtain ⟨j, hj⟩ := List.getElem?_of_mem hy
    have hjl : j < acc.length := (List.getElem?_eq_some_iff.mp hj).1
    exact hac j (.str p.bs[j]) y (by simp [show j < p.bs.length by omega]) hj
  obtain ⟨st, rfl, hst⟩ := list_of (f := fun n : Nat => PyData.int n) hall
  rw [List.length_map] at hal
  refine rc_tupleL ?_
  exact ⟨st_lf st, keep_ex (keep_dat keep_nil), q st ⟨hal, hst⟩⟩
end
end Dk
end
section
set_option Elab.async false
set_option linter.all false
set_option maxRecDepth 100000
set_option pp.maxSteps 600
open PySem L2 Pk
local macro_rules | `(tactic| walk_at "sh") => `(tactic| first | exact sh_int | exact sh_bool | exact sh_non | exact sh_nil | exact sh_str (by decide +kernel) | assumption)
local macro_rules | `(tactic| walk_at "v1") => `(tactic| first
  | (with_reducible refine wd_int ?_) | (with_reducible refine wd_str ?_) | (with_reducible refine wd_bl ?_) | (with_reducible refine wd_non ?_)
  | ((with_reducible apply wd_var); exact rfl) | ((with_reducible apply wd_varN); exact rfl)
  | ((with_reducible apply wd_ixm); exact rfl)
  | ((with_reducible apply wd_lenM); exact rfl) | ((with_reducible apply wd_lenScript); exact rfl) | ((with_reducible apply wd_ixScript); exact rfl)
  | (with_reducible refine wd_op ?_) | (with_reducible refine wd_un ?_)
  | (with_reducible refine rd_add ?_) | (with_reducible refine rd_sub ?_) | (with_reducible refine rd_lt ?_) | (with_reducible refine rd_le ?_) | (with_reducible refine rd_gt ?_) | (with_reducible refine rd_ge ?_) | (with_reducible refine ru_neg ?_)
  | ((with_reducible refine rd_eq ?ev_h ?ev_k ?_); (case ev_h => walk_at "sh"); (case ev_k => walk_at "sh")) | ((with_reducible refine rd_ne ?ev_h ?ev_k ?_); (case ev_h => walk_at "sh"); (case ev_k => walk_at "sh"))
  | ((with_reducible refine rd_mod ?ev_h ?_); case ev_h => first | decide | assumption | omega) | ((with_reducible refine rd_div ?ev_h ?ev_k ?_); (case ev_h => first | decide | assumption | omega); (case ev_k => first | decide | assumption | omega))
  | ((with_reducible refine rd_pow ?ev_h ?_); case ev_h => exact ⟨by decide, by decide, by decide⟩)
  | ((with_reducible refine rd_mul ?ev_h ?_); case ev_h => first | exact .inr ⟨by decide, by decide⟩ | exact .inl ⟨by decide, by decide⟩ | exact .inl ⟨by omega, by omega⟩ | exact .inr ⟨by omega, by omega⟩)
  | (with_reducible refine rc_lenL ?_) | (with_reducible refine rc_lenT ?_) | (with_reducible refine rc_max2 ?_) | (with_reducible refine rc_min2 ?_) | (with_reducible refine rc_intB ?_) | (with_reducible refine rc_intI ?_) | (with_reducible refine rc_listL ?_) | (with_reducible refine rc_listT ?_) | (with_reducible refine rc_tupleL ?_)
  | ((with_reducible apply rd_ixT); exact rfl)
  | ((with_reducible apply rd_ixL); exact rfl)
  | ((with_reducible refine wd_isi ?ev_h ?_); case ev_h => decide) | ((with_reducible refine wd_isi2 ?ev_h ?ev_k ?_); (case ev_h => decide); (case ev_k => decide))
  | (with_reducible refine wd_tup2 ?_) | (with_reducible refine wd_tup1 ?_) | (with_reducible refine wd_tup3 ?_) | (with_reducible refine wd_tup0 ?_)
  | (with_reducible refine wd_lst0 ?_) | (with_reducible refine wd_lst1 ?_) | (with_reducible refine wd_lst2 ?_) | (with_reducible refine wd_lst3 ?_) | (with_reducible refine wd_lst4 ?_) | (with_reducible refine wd_lst5 ?_) | (with_reducible refine wd_lst6 ?_)
  | ((with_reducible apply wd_callO0); exact rfl) | ((with_reducible apply wd_callO1); exact rfl) | ((with_reducible apply wd_callO2); exact rfl) | ((with_reducible apply wd_callO3); exact rfl)
  | (with_reducible refine wd_call1 ?_) | (with_reducible refine wd_call2 ?_) | (with_reducible refine wd_call3 ?_) | (with_reducible refine wd_call4 ?_) | (with_reducible refine wd_call0 ?_)
  | (with_reducible refine wd_cb1 ?_) | (with_reducible refine wd_cb2 ?_)
  | (with_reducible refine wd_rev ?_) | (with_reducible refine wd_lrg1 ?_) | (with_reducible refine wd_sl ?_) | (with_reducible refine wo_no ?_) | (with_reducible refine wo_some ?_)
  | (with_reducible refine wd_andV ?_) | (with_reducible refine wd_orV ?_) | (with_reducible refine wd_notV ?_) | (with_reducible refine wd_if ?_) | (with_reducible refine wd_chain ?_)
  | (with_reducible refine wt_test ?_) | (with_reducible refine wt_B ?_) | (with_reducible refine wt_not ?_) | (with_reducible refine wt_and ?_) | (with_reducible refine wt_or ?_) | (with_reducible refine wt_yes ?_)
  | (with_reducible refine gj_name ?_) | (with_reducible refine gj_tup rfl ?_) | (with_reducible refine gjs_cons ?_) | (with_reducible refine gjs_nil ?_))
local macro_rules | `(tactic| walk_at "v") => `(tactic| repeat walk_at "v1")
local macro_rules | `(tactic| walk_at "x") => `(tactic| refine ⟨_, rfl, ?_⟩)
local macro_rules | `(tactic| walk_at "vx") => `(tactic| repeat (first | walk_at "v1" | (with_reducible refine ⟨_, rfl, ?_⟩)))
namespace Dk
open PySem PySem.Spec PyProof.Rows L2 Pk Sy
def T_alike (K : Kw) : List Sl → (Sl → Prop) → Prop := fun Γ Q => ∃ p q : Pg, Γ = [.dat false p.d, .dat false q.d] ∧ p.Ok ∧ q.m = p.m ∧ q.bs = p.bs ∧ Q (.dat true .none)
def T_spots (K : Kw) : List Sl → (Sl → Prop) → Prop := fun Γ Q => ∃ rs : List Rw, Γ = [.dat false (.list (rs.map Rw.d))] ∧ rs.length ≤ 30 ∧ ∀ l, Q (.ml true l ((spots rs).map fun (n : Nat) => PyData.int n))
def T_skipby (K : Kw) : List Sl → (Sl → Prop) → Prop := fun Γ Q => ∃ (t : Th) (n : Nat) (bs : List Str), Γ = [.dat false t.d, .dat false (.int n), .dat false (bsD bs)] ∧ 1 ≤ bs.length ∧ Q (.dat true (skB (bs.headD "") t n).d)
theorem rd_bs0 {K : Kw} {m : Bool} {Γ : List Sl} {Q : PyData → Prop} {bs : List Str} (h : 1 ≤ bs.length) (q : Q (.str (bs.headD ""))) : RD K m Γ (rIx K) (bsD bs) (.int 0) Q := by
  refine rd_selN 0 rfl (d := .str (bs.headD "")) ?_ q
  cases bs with
  | nil => exact absurd h (by simp)
  | cons b bs => rfl
theorem in_bs {bs : List Str} {x : Str} (h : x ∈ bs) : ((bs.map PyData.str).any fun z => PyData.eqv z (.str x)) = true := by
  rw [List.any_eq_true]
  exact ⟨.str x, List.mem_map.mpr ⟨x, h, rfl⟩, by rw [eqv_str]; exact decide_eq_true rfl⟩
section
variable {P : Program} {K : Kw} {mg : Str → Option Value} {base : Heap} {k : Nat}
theorem ok_alike (D : Def K mg "need_alike" s_need_alike ["one", "other"]) : Cal P K.w K mg base CX0 (k + 1) "need_alike" ["one", "other"] (spG K (T_alike K)) := by
  refine cal_g D sc_need_alike (fun Γ Qr ⟨p, q, e, _⟩ => by subst e; exact ⟨rfl, noMl_dat (noMl_dat noMl_nil)⟩) fun f cdv A outer s H E hr => ⟨_, wk_need_alike f cdv A outer s H E hr, ?_⟩
  rintro Γ Qr ⟨p, q, rfl, hp, hm, hb, qq⟩
  show SJ K [.dat false p.d, .dat false q.d] (t_need_alike K) _
  unfold t_need_alike
  refine sj_if (wt_or (wt_test (wd_op (wd_op (wd_var rfl (wd_int (rd_ixT (d := .int p.m) rfl (wd_op (wd_var rfl (wd_int (rd_ixT (d := .int q.m) rfl ?_)))))))))))
  rw [hm]
  refine rd_neSelf sh_int (.int _) ⟨_, rfl, iteF' rfl ?_⟩
  refine wt_test (wd_op (wd_op (wd_var rfl (wd_int (rd_ixT (d := bsD p.bs) rfl (wd_op (wd_var rfl (wd_int (rd_ixT (d := bsD q.bs) rfl ?_)))))))))
  rw [hb]
  refine rd_neSelf (bs_sh hp.bs.nm) ?_ ⟨_, rfl, iteF' rfl (sj_next ⟨keep_dat (keep_dat keep_nil), qq⟩)⟩
  refine .lst fun z hz => ?_
  obtain ⟨t, _, rfl⟩ := List.mem_map.mp hz
  exact .str t
theorem ok_spots (D : Def K mg "spots_behind" s_spots_behind ["rows"]) (m_int : mg "int" = none) : Cal P K.w K mg base CX0 (k + 1) "spots_behind" ["rows"] (spG K (T_spots K)) := by
  refine cal_g D sc_spots_behind (fun Γ Qr ⟨rs, e, _⟩ => by subst e; exact ⟨rfl, noMl_dat noMl_nil⟩) fun f cdv A outer s H E hr => ⟨_, wk_spots_behind m_int f cdv A outer s H E hr, ?_⟩
  rintro Γ Qr ⟨rs, rfl, hl, q⟩
  show SJ K [.dat false (.list (rs.map Rw.d)), .no, .no] (t_spots_behind K) _
  unfold t_spots_behind
  refine sj_seq (sj_setX (wx_lst1 true (wd_int fun l => ?_)))
  refine sj_cut (fun Γ' => ∃ s2, Γ' = [.dat false (.list (rs.map Rw.d)), .ml true l ((spots rs).map fun (n : Nat) => PyData.int n), s2]) ?_ ?_
  · refine sj_for false (wi_list (wd_var rfl ⟨_, rfl, fun i Γ' => ∃ s2, Γ' = [.dat false (.list (rs.map Rw.d)), .ml true l ((spots (rs.take i)).map fun (n : Nat) => PyData.int n), s2], ⟨.no, rfl⟩, ?_, ?_⟩))
    · rintro i d Γ' hd ⟨s2, rfl⟩
      rw [List.getElem?_map] at hd
      obtain ⟨r, hr0, rfl⟩ := Option.map_eq_some_iff.mp hd
      obtain ⟨hi, er⟩ := List.getElem?_eq_some_iff.mp hr0
      obtain ⟨xs, hxs⟩ := spots_last (rs.take i)
      have hsl : (spots (rs.take i)).length ≤ 31 := by rw [spots_len, List.length_take]; omega
      refine gj_name (sj_app (i := 1) (m := true) (l := l) (ds := (spots (rs.take i)).map fun (n : Nat) => PyData.int n) rfl (by rw [List.length_map]; omega) ?_)
      refine wd_op (wd_op (wd_ixm (i := 1) (m := true) (l := l) (ds := (spots (rs.take i)).map fun (n : Nat) => PyData.int n) rfl (wd_un (wd_int (ru_neg ⟨-1, .int (spL (rs.take i) : Nat), rfl, ?_, wd_int (rd_add ?_)⟩)))))
      · rw [hxs, List.map_append]
        exact atI_lastD
      refine wd_lf (wd_cb1 (wd_op (wd_op (wd_var (d := r.d) rfl (wd_int (rd_rk (wd_str (rd_w (b := .give) (rc_intB ?_)))))))))
      refine ⟨rfl, rd_add ⟨.dat false r.d, ?_⟩⟩
      have e : ((spL (rs.take i) : Nat) : Int) + 1 + (if decide (r.kd = .give) = true then 1 else 0) = ((spL (rs.take i) + wd2 r : Nat) : Int) := by
        cases r <;> simp [Rw.kd, wd2] <;> omega
      rw [e]
      have et : rs.take (i + 1) = rs.take i ++ [r] := by rw [List.take_succ_eq_append_getElem hi, er]
      rw [et, spots_snoc, List.map_append]
      rfl
    · rintro Γ' ⟨s2, rfl⟩
      rw [List.length_map, List.take_length]
      exact ⟨s2, rfl⟩
  rintro _ ⟨s2, rfl⟩
  exact sj_retM (i := 1) (m := true) (l := l) (ds := (spots rs).map fun (n : Nat) => PyData.int n) rfl ⟨keep_dat keep_nil, q l⟩
theorem ok_skipby (D : Def K mg "skip_by" s_skip_by ["thing", "many", "boxes"]) : Cal P K.w K mg base CX0 (k + 1) "skip_by" ["thing", "many", "boxes"] (spG K (T_skipby K)) := by
  refine cal_g D sc_skip_by (fun Γ Qr ⟨t, n, bs, e, _⟩ => by subst e; exact ⟨rfl, noMl_dat (noMl_dat (noMl_dat noMl_nil))⟩) fun f cdv A outer s H E hr => ⟨_, wk_skip_by f cdv A outer s H E hr, ?_⟩
  rintro Γ Qr ⟨t, n, bs, rfl, hl, q⟩
  show SJ K [.dat false t.d, .dat false (.int n), .dat false (bsD bs)] (t_skip_by K) _
  unfold t_skip_by
  refine sj_seq (sj_if (wt_test (wd_op (wd_var rfl (wd_int (rd_eq sh_int sh_int ⟨_, rfl, ?_⟩))))))
  rw [eqv_int]
  refine iteD (fun h => ?_) (fun h => sj_next ?_)
  · refine sj_retD true (wd_lf (wd_tup3 (wd_str (wd_op (wd_var rfl (wd_int (rd_bs0 hl (wd_tup2 (wd_str (wd_op (wd_var rfl (wd_int (rd_bs0 hl ?_)))))))))))))
    have e : skB (bs.headD "") t n = .set (bs.headD "") (.box (bs.headD "")) := by unfold skB; rw [if_pos (by omega)]
    rw [e] at q
    exact ⟨rfl, keep_dat (keep_dat (keep_dat keep_nil)), q⟩
  · refine sj_retD true (wd_lf (wd_tup3 (wd_str (wd_var rfl (wd_var rfl ?_)))))
    have e : skB (bs.headD "") t n = .skip t n := by unfold skB; rw [if_neg (by omega)]
    rw [e] at q
    refine ⟨?_, keep_dat (keep_dat (keep_dat keep_nil)), q⟩
    show Pk.lfA [.str "skip", t.d, .int n] = true
    simp [Pk.lfA, Th.lf, Pk.lf]
end
end Dk
end
section
set_option Elab.async false
set_option linter.all false
set_option maxRecDepth 100000
set_option pp.maxSteps 600
open PySem L2 Pk
local macro_rules | `(tactic| walk_at "sh") => `(tactic| first | exact sh_int | exact sh_bool | exact sh_non | exact sh_nil | exact sh_str (by decide +kernel) | assumption)
local macro_rules | `(tactic| walk_at "v1") => `(tactic| first
  | (with_reducible refine wd_int ?_) | (with_reducible refine wd_str ?_) | (with_reducible refine wd_bl ?_) | (with_reducible refine wd_non ?_)
  | ((with_reducible apply wd_var); exact rfl) | ((with_reducible apply wd_varN); exact rfl)
  | ((with_reducible apply wd_ixm); exact rfl)
  | ((with_reducible apply wd_lenM); exact rfl) | ((with_reducible apply wd_lenScript); exact rfl) | ((with_reducible apply wd_ixScript); exact rfl)
  | (with_reducible refine wd_op ?_) | (with_reducible refine wd_un ?_)
  | (with_reducible refine rd_add ?_) | (with_reducible refine rd_sub ?_) | (with_reducible refine rd_lt ?_) | (with_reducible refine rd_le ?_) | (with_reducible refine rd_gt ?_) | (with_reducible refine rd_ge ?_) | (with_reducible refine ru_neg ?_)
  | ((with_reducible refine rd_eq ?ev_h ?ev_k ?_); (case ev_h => walk_at "sh"); (case ev_k => walk_at "sh")) | ((with_reducible refine rd_ne ?ev_h ?ev_k ?_); (case ev_h => walk_at "sh"); (case ev_k => walk_at "sh"))
  | ((with_reducible refine rd_mod ?ev_h ?_); case ev_h => first | decide | assumption | omega) | ((with_reducible refine rd_div ?ev_h ?ev_k ?_); (case ev_h => first | decide | assumption | omega); (case ev_k => first | decide | assumption | omega))
  | ((with_reducible refine rd_pow ?ev_h ?_); case ev_h => exact ⟨by decide, by decide, by decide⟩)
  | ((with_reducible refine rd_mul ?ev_h ?_); case ev_h => first | exact .inr ⟨by decide, by decide⟩ | exact .inl ⟨by decide, by decide⟩ | exact .inl ⟨by omega, by omega⟩ | exact .inr ⟨by omega, by omega⟩)
  | (with_reducible refine rc_lenL ?_) | (with_reducible refine rc_lenT ?_) | (with_reducible refine rc_max2 ?_) | (with_reducible refine rc_min2 ?_) | (with_reducible refine rc_intB ?_) | (with_reducible refine rc_intI ?_) | (with_reducible refine rc_listL ?_) | (with_reducible refine rc_listT ?_) | (with_reducible refine rc_tupleL ?_)
  | ((with_reducible apply rd_ixT); exact rfl)
  | ((with_reducible apply rd_ixL); exact rfl)
  | ((with_reducible refine wd_isi ?ev_h ?_); case ev_h => decide) | ((with_reducible refine wd_isi2 ?ev_h ?ev_k ?_); (case ev_h => decide); (case ev_k => decide))
  | (with_reducible refine wd_tup2 ?_) | (with_reducible refine wd_tup1 ?_) | (with_reducible refine wd_tup3 ?_) | (with_reducible refine wd_tup0 ?_)
  | (with_reducible refine wd_lst0 ?_) | (with_reducible refine wd_lst1 ?_) | (with_reducible refine wd_lst2 ?_) | (with_reducible refine wd_lst3 ?_) | (with_reducible refine wd_lst4 ?_) | (with_reducible refine wd_lst5 ?_) | (with_reducible refine wd_lst6 ?_)
  | ((with_reducible apply wd_callO0); exact rfl) | ((with_reducible apply wd_callO1); exact rfl) | ((with_reducible apply wd_callO2); exact rfl) | ((with_reducible apply wd_callO3); exact rfl)
  | (with_reducible refine wd_call1 ?_) | (with_reducible refine wd_call2 ?_) | (with_reducible refine wd_call3 ?_) | (with_reducible refine wd_call4 ?_) | (with_reducible refine wd_call0 ?_)
  | (with_reducible refine wd_cb1 ?_) | (with_reducible refine wd_cb2 ?_)
  | (with_reducible refine wd_rev ?_) | (with_reducible refine wd_lrg1 ?_) | (with_reducible refine wd_sl ?_) | (with_reducible refine wo_no ?_) | (with_reducible refine wo_some ?_)
  | (with_reducible refine wd_andV ?_) | (with_reducible refine wd_orV ?_) | (with_reducible refine wd_notV ?_) | (with_reducible refine wd_if ?_) | (with_reducible refine wd_chain ?_)
  | (with_reducible refine wt_test ?_) | (with_reducible refine wt_B ?_) | (with_reducible refine wt_not ?_) | (with_reducible refine wt_and ?_) | (with_reducible refine wt_or ?_) | (with_reducible refine wt_yes ?_)
  | (with_reducible refine gj_name ?_) | (with_reducible refine gj_tup rfl ?_) | (with_reducible refine gjs_cons ?_) | (with_reducible refine gjs_nil ?_))
local macro_rules | `(tactic| walk_at "v") => `(tactic| repeat walk_at "v1")
local macro_rules | `(tactic| walk_at "x") => `(tactic| refine ⟨_, rfl, ?_⟩)
local macro_rules | `(tactic| walk_at "vx") => `(tactic| repeat (first | walk_at "v1" | (with_reducible refine ⟨_, rfl, ?_⟩)))
namespace Dk
open PySem PySem.Spec PyProof.Rows L2 Pk Sy
def isPk : Rw → Bool
  | .pick _ _ => true
  | _ => false
/-- a row, its list at a -/
def rwA : Rw → Addr → PyData
  | .pick x ts, a => .tuple [.str "pick", .str x, listAt a (ts.map Th.d)]
  | r, _ => r.d
def rwsA (ra : List (Rw × Addr)) : List PyData := ra.map fun x => rwA x.1 x.2
def pgA (m : Nat) (bs : List Str) (ra : List (Rw × Addr)) (lb lr : Addr) : PyData := .tuple [.int m, listAt lb (bs.map PyData.str), listAt lr (rwsA ra)]
theorem ths_lf (ts : List Th) : lfA (ts.map Th.d) = true := lfA_of fun d hd => by
  obtain ⟨t, _, rfl⟩ := List.mem_map.mp hd
  exact Th.lf t
theorem bs_lf (bs : List Str) : lfA (bs.map PyData.str) = true := lfA_of fun d hd => by
  obtain ⟨t, _, rfl⟩ := List.mem_map.mp hd
  simp [lf]
theorem rw_lf {r : Rw} (h : isPk r = false) : lf r.d = true := by
  cases r with
  | pick x ts => cases h
  | set x t => simp [Rw.d, lf, lfA, Th.lf t]
  | need t => simp [Rw.d, lf, lfA, Th.lf t]
  | skip t n => simp [Rw.d, lf, lfA, Th.lf t]
  | give t => simp [Rw.d, lf, lfA, Th.lf t]
theorem rwA_no {r : Rw} (h : isPk r = false) (a : Addr) : rwA r a = r.d := by
  cases r with
  | pick x ts => cases h
  | _ => rfl
theorem rwA_pl (r : Rw) (a : Addr) : pl (rwA r a) = r.d := by
  cases h : isPk r with
  | false => rw [rwA_no h, pl_lf _ (rw_lf h)]
  | true =>
    cases r with
    | pick x ts =>
      show pl (.tuple [.str "pick", .str x, listAt a (ts.map Th.d)]) = _
      rw [pl_tup, plA_map]
      simp only [List.map_cons, List.map_nil]
      rw [pl_at, plA_lf _ (ths_lf ts)]
      rfl
    | _ => cases h
theorem rwA_ad (r : Rw) (a : Addr) : ad (rwA r a) = if isPk r then [a] else [] := by
  cases h : isPk r with
  | false => rw [rwA_no h, ad_lf _ (rw_lf h)]; rfl
  | true =>
    cases r with
    | pick x ts =>
      show ad (.tuple [.str "pick", .str x, listAt a (ts.map Th.d)]) = _
      rw [ad_tup, adA_cons, adA_cons, adA_cons, adA_nil, ad_at, adA_lf _ (ths_lf ts)]
      simp [Pk.ad]
    | _ => cases h
theorem rwA_npl (r : Rw) (a : Addr) : npl (rwA r a) = true := by
  cases h : isPk r with
  | false => rw [rwA_no h]; exact npl_lf _ (rw_lf h)
  | true =>
    cases r with
    | pick x ts =>
      show npl (.tuple [.str "pick", .str x, listAt a (ts.map Th.d)]) = _
      rw [npl_tup, nplA_all]
      simp only [List.all_cons, List.all_nil, npl_at, nplA_lf _ (ths_lf ts)]
      simp [npl]
    | _ => cases h
theorem rwsA_pl (ra : List (Rw × Addr)) : plA (rwsA ra) = (ra.map Prod.fst).map Rw.d := by
  rw [plA_map, rwsA, List.map_map, List.map_map]
  exact List.map_congr_left fun x _ => rwA_pl x.1 x.2
theorem rwsA_npl (ra : List (Rw × Addr)) : nplA (rwsA ra) = true := by
  rw [nplA_all, List.all_eq_true]
  intro d hd
  obtain ⟨x, _, rfl⟩ := List.mem_map.mp hd
  exact rwA_npl x.1 x.2
theorem pgA_pl (m : Nat) (bs : List Str) (ra : List (Rw × Addr)) (lb lr : Addr) : pl (pgA m bs ra lb lr) = (Pg.mk m bs (ra.map Prod.fst)).d := by
  unfold pgA
  rw [pl_tup, plA_map]
  simp only [List.map_cons, List.map_nil]
  rw [pl_at, pl_at, plA_lf _ (bs_lf bs), rwsA_pl, pl_lf _ (by simp [lf])]
  rfl
theorem pgA_ad (m : Nat) (bs : List Str) (ra : List (Rw × Addr)) (lb lr : Addr) : ad (pgA m bs ra lb lr) = lb :: lr :: adA (rwsA ra) := by
  unfold pgA
  rw [ad_tup, adA_cons, adA_cons, adA_cons, adA_nil, ad_at, ad_at, adA_lf _ (bs_lf bs)]
  simp [Pk.ad]
theorem pgA_npl (m : Nat) (bs : List Str) (ra : List (Rw × Addr)) (lb lr : Addr) : npl (pgA m bs ra lb lr) = true := by
  unfold pgA
  rw [npl_tup, nplA_all]
  simp only [List.all_cons, List.all_nil, npl_at, nplA_lf _ (bs_lf bs), rwsA_npl]
  simp [npl]
def T_copiedA (K : Kw) : List Sl → (Sl → Prop) → Prop := fun Γ Q => ∃ r : Rw, Γ = [.dat false r.d] ∧ ∀ a, Q (.dat true (rwA r a))
def T_anewA (K : Kw) : List Sl → (Sl → Prop) → Prop := fun Γ Q => ∃ (rs : List Rw) (i : Nat) (x : Str) (bs : List Str), Γ = [.dat false (.list (rs.map Rw.d)), .dat false (.int i), .dat false (natsD (spots rs)), .dat false (.str x), .dat false (bsD bs)] ∧ i < rs.length ∧ 1 ≤ bs.length ∧ ∀ ra : List (Rw × Addr), ra.map Prod.fst = anwAt (bs.headD "") x rs i → (adA (rwsA ra)).Nodup → Q (.dat true (.list (rwsA ra)))
def T_afterA (K : Kw) : List Sl → (Sl → Prop) → Prop := fun Γ Q => ∃ (p q : Pg) (x : Str), Γ = [.dat false p.d, .dat false q.d, .dat false (.str x)] ∧ Fit p q x ∧ ∀ ra lb lr v, ra.map Prod.fst = (after p q x).rows → (ad (pgA p.m p.bs ra lb lr)).Nodup → Q (.ex v (AtO K (pgA p.m p.bs ra lb lr)))
section
variable {P : Program} {K : Kw} {mg : Str → Option Value} {base : Heap} {k : Nat}
theorem sjt_forget (i : Nat) {Γ : List Sl} {s : Sl} {ts : TS} {Z : Po} (hi : Γ[i]? = some s) (h : SJt K (Γ.set i .no) ts Z) : SJt K Γ ts Z := fun X hK hT F H σ E D hD => h X hK hT F H σ (E.forget hi) D hD
theorem ok_copiedA (D : Def K mg "copied_row" s_copied_row ["row"]) (m_list : mg "list" = none) : Cal P K.w K mg base CX0 (k + 1) "copied_row" ["row"] (spG K (T_copiedA K)) := by
  refine cal_g D sc_copied_row (fun Γ Qr ⟨r, e, _⟩ => by subst e; exact ⟨rfl, noMl_dat noMl_nil⟩) fun f cdv A outer s H E hr => ⟨_, wk_copied_row m_list f cdv A outer s H E hr, ?_⟩
  rintro Γ Qr ⟨r, rfl, q⟩
  show SJ K [.dat false r.d] (t_copied_row K) _
  unfold t_copied_row
  refine sj_seq (sj_if (wt_test (wd_op (wd_op (wd_var rfl (wd_int (rd_rk (wd_str (rd_w (b := .pick) ⟨_, rfl, ?_⟩)))))))))
  have no : isPk r = false → SJ K [.dat false r.d] (tRet (tVar 0)) (retP [.dat false r.d] Qr) := fun h => sj_retD true (wd_lf (wd_var rfl ⟨rw_lf h, keep_dat keep_nil, by have := q 0; rw [rwA_no h] at this; exact this⟩))
  cases r with
  | pick x ts => exact iteT' rfl <| sj_retD true <| wd_tup3 <| wd_str <| wd_lf <| wd_op <| wd_var rfl <| wd_int <| rd_ixT (d := .str x) rfl ⟨rfl, wd_at <| wx_listN <| wd_op <| wd_var rfl <| wd_int <| rd_ixT (d := .list (ts.map Th.d)) rfl ⟨_, rfl, ths_lf ts, fun l => ⟨l, _, rfl, fun _ _ => ⟨keep_dat keep_nil, q l⟩⟩⟩⟩
  | set x t => exact iteF' rfl (sj_next (no rfl))
  | need t => exact iteF' rfl (sj_next (no rfl))
  | skip t n => exact iteF' rfl (sj_next (no rfl))
  | give t => exact iteF' rfl (sj_next (no rfl))
theorem ok_anewA (D : Def K mg "row_anew" s_row_anew ["rows", "at", "spots", "box", "boxes"]) (c_copied : Cal P K.w K mg base CX0 k "copied_row" ["row"] (spG K (T_copiedA K))) (c_skip : Cal P K.w K mg base CX0 k "skip_by" ["thing", "many", "boxes"] (spG K (T_skipby K))) (m_min : mg "min" = none) (m_len : mg "len" = none) : Cal P K.w K mg base CX0 (k + 1) "row_anew" ["rows", "at", "spots", "box", "boxes"] (spG K (T_anewA K)) := by
  refine cal_g D sc_row_anew (fun Γ Qr ⟨rs, i, x, bs, e, _⟩ => by subst e; exact ⟨rfl, noMl_dat (noMl_dat (noMl_dat (noMl_dat (noMl_dat noMl_nil))))⟩) fun f cdv A outer s H E hr => ⟨_, wk_row_anew c_copied c_skip m_min m_len f cdv A outer s H E hr, ?_⟩
  rintro Γ Qr ⟨rs, i, x, bs, rfl, hi, hl, q⟩
  obtain ⟨r, er⟩ : ∃ r, rs[i] = r := ⟨_, rfl⟩
  have hg : rs[i]? = some r := by rw [List.getElem?_eq_getElem hi, er]
  rw [anwAt_at hg] at q
  have hsi : ((spots rs).map fun (n : Nat) => PyData.int n)[i]? = some (.int (spL (rs.take i) : Nat)) := by rw [List.getElem?_map, spots_get (by omega)]; rfl
  obtain ⟨xs, hxs⟩ := spots_last rs
  have kp : ∀ {s5 s6 : Sl}, Keep [.dat false (.list (rs.map Rw.d)), .dat false (.int i), .dat false (natsD (spots rs)), .dat false (.str x), .dat false (bsD bs)] [.dat false (.list (rs.map Rw.d)), .dat false (.int i), .dat false (natsD (spots rs)), .dat false (.str x), .dat false (bsD bs), s5, s6] := fun {s5 s6} => keep_dat (keep_dat (keep_dat (keep_dat (keep_dat keep_nil))))
  have hrt : rs.take (i + 1) = rs.take i ++ [r] := by rw [List.take_succ_eq_append_getElem hi, er]
  have hs1 : ∀ n, i + 1 ≤ n → spL (rs.take i) + wd2 r ≤ spL (rs.take n) := fun n hn => by
    have e1 : spL (rs.take (i + 1)) = spL (rs.take i) + wd2 r := by rw [hrt, spL_app]; simp [spL]
    have e2 : rs.take n = rs.take (i + 1) ++ (rs.drop (i + 1)).take (n - (i + 1)) := by
      have : n = (i + 1) + (n - (i + 1)) := by omega
      rw [this, List.take_add]
      congr 2
      omega
    rw [e2, spL_app, e1]
    omega
  show SJ K [.dat false (.list (rs.map Rw.d)), .dat false (.int i), .dat false (natsD (spots rs)), .dat false (.str x), .dat false (bsD bs), .no, .no] (t_row_anew K _ _) _
  unfold t_row_anew
  refine sj_seq (sj_set false (wd_op (wd_var rfl (wd_var rfl (rd_selN i rfl (d := r.d) (by rw [List.getElem?_map, hg]; rfl) ?_)))))
  refine sj_seq (sj_set false (wd_op (wd_var rfl (wd_un (wd_int (ru_neg (rd_ixL (d := .int (spL rs : Nat)) ?_ ?_)))))))
  · rw [hxs, List.map_append]
    exact atI_lastD
  show SJ K [.dat false (.list (rs.map Rw.d)), .dat false (.int i), .dat false (natsD (spots rs)), .dat false (.str x), .dat false (bsD bs), .dat false r.d, .dat false (.int (spL rs : Nat))] _ _
  refine sj_seq (sj_if (wt_test (wd_op (wd_op (wd_var (d := r.d) rfl (wd_int (rd_rk (wd_str (rd_w (b := .give) ⟨_, rfl, ?_⟩)))))))))
  cases r with
  | give t =>
    refine iteT' rfl <| sj_retD true <| wd_lst2 <| wd_lf <| wd_tup3 <| wd_str <| wd_var rfl <| wd_op <| wd_var (d := (Rw.give t).d) rfl <| wd_int <| rd_ixT (d := t.d) rfl ⟨rw_lf (r := .set x t) rfl, wd_lf <| wd_tup3 <| wd_str <| wd_tup2 <| wd_str <| wd_int <| wd_op <| wd_op <| wd_var rfl <| wd_op <| wd_var rfl <| wd_var rfl <| rd_selN i rfl hsi <| rd_sub <| wd_int <| rd_sub ?_⟩
    have e : ((spL rs : Nat) : Int) - ((spL (rs.take i) : Nat) : Int) - 1 = ((spL rs - spL (rs.take i) - 1 : Nat) : Int) := by
      have := hs1 rs.length (by omega)
      rw [List.take_length] at this
      simp only [wd2] at this
      omega
    rw [e]
    exact ⟨rw_lf (r := .skip (.num 1) (spL rs - spL (rs.take i) - 1)) rfl, kp, q [(.set x t, 0), (.skip (.num 1) (spL rs - spL (rs.take i) - 1), 0)] rfl (by simp [rwsA, adA_cons, adA_nil, rwA_ad, isPk])⟩
  | skip t n =>
    refine iteF' rfl <| sj_next <| sj_seq <| sj_if <| wt_test <| wd_op <| wd_op <| wd_var (d := (Rw.skip t n).d) rfl <| wd_int <| rd_rk <| wd_str <| rd_w (b := .skip) ⟨_, rfl, ?_⟩
    refine iteT' rfl <| sj_retD true <| wd_lst1 <| wd_call3 <| wd_op <| wd_var (d := (Rw.skip t n).d) rfl <| wd_int <| rd_ixT (d := t.d) rfl <| wd_op <| wd_op <| wd_op <| wd_var rfl <| wd_cb2 <| wd_op <| wd_op <| wd_var rfl <| wd_int <| rd_add <| wd_op <| wd_var (d := (Rw.skip t n).d) rfl <| wd_int <| rd_ixT (d := .int n) rfl <| rd_add <| wd_cb1 <| wd_var rfl <| rc_lenL <| rc_min2 ?_
    rw [List.length_map]
    obtain ⟨mn, hmn⟩ : ∃ mn, min (i + 1 + n) rs.length = mn := ⟨_, rfl⟩
    have e0 : min ((i : Int) + 1 + (n : Int)) (rs.length : Int) = (mn : Int) := by omega
    rw [e0]
    refine rd_selN mn rfl (d := .int (spL (rs.take mn) : Nat)) (by rw [List.getElem?_map, spots_get (by omega)]; rfl) ?_
    refine wd_op <| wd_var rfl <| wd_var rfl <| rd_selN i rfl hsi <| rd_sub <| wd_int <| rd_sub <| wd_var rfl ?_
    have e : ((spL (rs.take mn) : Nat) : Int) - ((spL (rs.take i) : Nat) : Int) - 1 = ((spL (rs.take mn) - spL (rs.take i) - 1 : Nat) : Int) := by
      have := hs1 mn (by omega)
      simp only [wd2] at this
      omega
    rw [e]
    refine ⟨t, _, bs, rfl, hl, asD_new ⟨kp, ?_⟩⟩
    obtain ⟨sk, hsk⟩ : ∃ sk, skB (bs.headD "") t (spL (rs.take mn) - spL (rs.take i) - 1) = sk := ⟨_, rfl⟩
    have hk : isPk sk = false := by rw [← hsk]; unfold skB; split <;> rfl
    rw [hsk]
    have qq := q [(sk, 0)] (by rw [← hsk, ← hmn]; rfl) (by simp [rwsA, adA_cons, adA_nil, rwA_ad, hk])
    rw [show rwsA [(sk, (0 : Addr))] = [sk.d] by simp [rwsA, rwA_no hk]] at qq
    exact qq
  | set y t =>
    refine iteF' rfl <| sj_next <| sj_seq <| sj_if <| wt_test <| wd_op <| wd_op <| wd_var (d := (Rw.set y t).d) rfl <| wd_int <| rd_rk <| wd_str <| rd_w (b := .skip) ⟨_, rfl, ?_⟩
    exact iteF' rfl <| sj_next <| sj_retD true <| wd_lst1 <| wd_call1 <| wd_var (d := (Rw.set y t).d) rfl ⟨_, rfl, fun a => asD_new ⟨kp, q [(.set y t, a)] rfl (by simp [rwsA, adA_cons, adA_nil, rwA_ad, isPk])⟩⟩
  | pick y ts =>
    refine iteF' rfl <| sj_next <| sj_seq <| sj_if <| wt_test <| wd_op <| wd_op <| wd_var (d := (Rw.pick y ts).d) rfl <| wd_int <| rd_rk <| wd_str <| rd_w (b := .skip) ⟨_, rfl, ?_⟩
    exact iteF' rfl <| sj_next <| sj_retD true <| wd_lst1 <| wd_call1 <| wd_var (d := (Rw.pick y ts).d) rfl ⟨_, rfl, fun a => asD_new ⟨kp, q [(.pick y ts, a)] rfl (by simp [rwsA, adA_cons, adA_nil, rwA_ad, isPk])⟩⟩
  | need t =>
    refine iteF' rfl <| sj_next <| sj_seq <| sj_if <| wt_test <| wd_op <| wd_op <| wd_var (d := (Rw.need t).d) rfl <| wd_int <| rd_rk <| wd_str <| rd_w (b := .skip) ⟨_, rfl, ?_⟩
    exact iteF' rfl <| sj_next <| sj_retD true <| wd_lst1 <| wd_call1 <| wd_var (d := (Rw.need t).d) rfl ⟨_, rfl, fun a => asD_new ⟨kp, q [(.need t, a)] rfl (by simp [rwsA, adA_cons, adA_nil, rwA_ad, isPk])⟩⟩
theorem ok_afterA (D : Def K mg "put_after" s_put_after ["one", "other", "box"]) (c_copied : Cal P K.w K mg base CX0 k "copied_row" ["row"] (spG K (T_copiedA K))) (c_anew : Cal P K.w K mg base CX0 k "row_anew" ["rows", "at", "spots", "box", "boxes"] (spG K (T_anewA K))) (c_spots : Cal P K.w K mg base CX0 k "spots_behind" ["rows"] (spG K (T_spots K))) (c_alike : Cal P K.w K mg base CX0 k "need_alike" ["one", "other"] (spG K (T_alike K))) (m_isinstance : mg "isinstance" = none) (m_str : mg "str" = none) (m_len : mg "len" = none) (m_range : mg "range" = none) (m_list : mg "list" = none) (g_MOST_ROWS : ∃ t, mg "MOST_ROWS" = some (.int 30 t)) : Cal P K.w K mg base CX0 (k + 1) "put_after" ["one", "other", "box"] (spG K (T_afterA K)) := by
  refine cal_t D sc_put_after (fun Γ Qr ⟨p, q, x, e, _⟩ => by subst e; exact ⟨rfl, noMl_dat (noMl_dat (noMl_dat noMl_nil))⟩) fun f cdv A outer s H E hr => ⟨_, wk_put_after c_copied c_anew c_spots c_alike m_list m_range m_len m_isinstance m_str g_MOST_ROWS f cdv A outer s H E hr, ?_⟩
  rintro Γ Qr ⟨p, q, x, rfl, hf, qq⟩
  have hp := hf.hp
  have hp30 := hp.r30
  have hq30 := hf.hq.r30
  have hroom := hf.room
  have hl0 := hp.bs.len0
  have kp : ∀ {s : List Sl}, Keep [.dat false p.d, .dat false q.d, .dat false (.str x)] (.dat false p.d :: .dat false q.d :: .dat false (.str x) :: s) := fun {s} => keep_dat (keep_dat (keep_dat keep_nil))
  obtain ⟨xs, hxs⟩ := spots_last p.rows
  show SJt K [.dat false p.d, .dat false q.d, .dat false (.str x), .no, .no, .no, .no] (t_put_after K _ _ _ _) _
  unfold t_put_after
  refine sjt_seq <| SJ.t <| sj_drop <| WX.ofD (m := true) <| wd_call2 <| wd_var rfl <| wd_var rfl ⟨p, q, rfl, hp, hf.hm, hf.hb, asD_new ?_⟩
  refine sjt_seq <| SJ.t <| sj_if <| wt_or <| wt_not <| wt_B <| wd_isi (by decide) <| wd_var rfl ⟨_, rfl, iteF' rfl ?_⟩
  refine wt_test <| wd_op <| wd_var rfl <| wd_op <| wd_var rfl <| wd_int <| rd_ixT (d := bsD p.bs) rfl <| rd_notIn (sh_str (hp.bs.nm x hf.hx).strOk) (bs_sh hp.bs.nm) ⟨_, rfl, ?_⟩
  rw [in_bs hf.hx]
  refine iteF' rfl <| sj_next <| sjt_seq <| SJ.t <| sj_set false <| wd_call1 <| wd_op <| wd_var rfl <| wd_int <| rd_ixT (d := .list (p.rows.map Rw.d)) rfl ⟨p.rows, rfl, hp30, fun l => asD_mln ?_⟩
  show SJt K [.dat false p.d, .dat false q.d, .dat false (.str x), .dat false (natsD (spots p.rows)), .no, .no, .no] _ _
  refine sjt_seq <| SJ.t <| sj_if <| wt_test <| wd_op <| wd_op <| wd_op <| wd_op <| wd_var rfl <| wd_un <| wd_int <| ru_neg <| rd_ixL (d := .int (spL p.rows : Nat)) ?_ <| wd_int <| rd_add <| wd_cb1 <| wd_op <| wd_var rfl <| wd_int <| rd_ixT (d := .list (q.rows.map Rw.d)) rfl <| rc_lenL <| rd_add <| wd_int <| rd_gt ⟨_, rfl, ?_⟩
  · rw [hxs, List.map_append]
    exact atI_lastD
  rw [List.length_map, decide_eq_false (by omega)]
  refine iteF' rfl <| sj_next <| sjt_seq <| SJ.t <| sj_setX <| wx_lst0 true fun l => ?_
  refine sjt_cut (fun Γ' => ∃ ra s5, ra.map Prod.fst = anews (p.bs.headD "") x p.rows p.rows.length ∧ (adA (rwsA ra)).Nodup ∧ Γ' = [.dat false p.d, .dat false q.d, .dat false (.str x), .dat false (natsD (spots p.rows)), .ml true l (rwsA ra), s5, .no]) ?_ ?_
  · refine SJ.t <| sj_for false <| wi_rng <| wd_cb1 <| wd_op <| wd_var rfl <| wd_int <| rd_ixT (d := .list (p.rows.map Rw.d)) rfl <| rc_lenL ⟨_, rfl, by rw [List.length_map]; exact ⟨by omega, by omega⟩, ?_⟩
    rw [List.length_map]
    refine ⟨fun i Γ' => i ≤ p.rows.length ∧ ∃ ra s5, ra.map Prod.fst = anews (p.bs.headD "") x p.rows i ∧ (adA (rwsA ra)).Nodup ∧ Γ' = [.dat false p.d, .dat false q.d, .dat false (.str x), .dat false (natsD (spots p.rows)), .ml true l (rwsA ra), s5, .no], ⟨by omega, [], .no, rfl, by simp [rwsA, adA], rfl⟩, ?_, ?_⟩
    · rintro i d Γ' hd ⟨_, ra, s5, hra, nd, rfl⟩
      obtain ⟨hi, rfl⟩ := rangeD_of hd
      have hi' : i < p.rows.length := by omega
      refine gj_name <| sj_ext (i := 4) (m := true) (l := l) (ds := rwsA ra) rfl <| wd_freshI 4 (s := .ml true l (rwsA ra)) rfl rfl ?_
      show WD K true [.dat false p.d, .dat false q.d, .dat false (.str x), .dat false (natsD (spots p.rows)), .no, .dat false (.int (0 + (i : Int))), .no] _ _
      refine wd_call <| wa_d <| wd_op <| wd_var rfl <| wd_int <| rd_ixT (d := .list (p.rows.map Rw.d)) rfl <| wa_d <| wd_var rfl <| wa_d <| wd_var rfl <| wa_d <| wd_var rfl <| wa_d <| wd_op <| wd_var rfl <| wd_int <| rd_ixT (d := bsD p.bs) rfl <| wa_nil ⟨agsGood_d rfl, ?_⟩
      have e0 : (0 : Int) + (i : Int) = (i : Int) := by omega
      rw [e0]
      refine ⟨p.rows, i, x, p.bs, rfl, hi', hl0, fun ra2 hra2 nd2 => asD_new fun fr => ⟨_, rfl, ?_, by omega, ra ++ ra2, .dat false (.int (i : Int)), ?_, ?_, ?_⟩⟩
      · have h1 := anews_len (p.bs.headD "") x (rs := p.rows) (n := i) (by omega)
        have h2 := anews_len (p.bs.headD "") x (rs := p.rows) (n := i + 1) (by omega)
        rw [anews_succ, List.length_append] at h2
        have h3 := spL_take p.rows (i + 1)
        have h4 := congrArg List.length hra
        have h5 := congrArg List.length hra2
        rw [List.length_map] at h4 h5
        rw [rwsA, rwsA, List.length_map, List.length_map]
        omega
      · rw [List.map_append, hra, hra2, anews_succ]
      · rw [show rwsA (ra ++ ra2) = rwsA ra ++ rwsA ra2 by simp [rwsA], adA_append]
        refine List.nodup_append.mpr ⟨nd, nd2, fun a ha b hb e => ?_⟩
        subst e
        exact fr a (by rw [ad_list]; exact hb) (List.mem_flatMap.mpr ⟨.ml true l (rwsA ra), by simp, List.mem_cons_of_mem _ ha⟩)
      · show [Sl.dat false p.d, .dat false q.d, .dat false (.str x), .dat false (natsD (spots p.rows)), .ml true l (rwsA ra ++ rwsA ra2), _, .no] = _
        rw [show rwsA (ra ++ ra2) = rwsA ra ++ rwsA ra2 by simp [rwsA]]
    · rintro Γ' ⟨_, ra, s5, hra, nd, rfl⟩
      have e : ((p.rows.length : Int)).toNat = p.rows.length := by omega
      rw [rangeD_len, e] at hra
      exact ⟨ra, s5, hra, nd, rfl⟩
  rintro _ ⟨ra, s5, hra, nd, rfl⟩
  have hal := anews_len (p.bs.headD "") x (rs := p.rows) (n := p.rows.length) (by omega)
  rw [List.take_length] at hal
  have hlr : ra.length = p.rows.length + 0 + (anews (p.bs.headD "") x p.rows p.rows.length).length - p.rows.length := by
    have := congrArg List.length hra
    rw [List.length_map] at this
    omega
  refine sjt_seq <| SJ.t <| sj_app (i := 4) (m := true) (l := l) (ds := rwsA ra) rfl (by rw [rwsA, List.length_map]; omega) <| wd_lf <| wd_tup2 <| wd_str <| wd_tup2 <| wd_str <| wd_int ⟨rw_lf (r := .need (.num 0)) rfl, ?_⟩
  obtain ⟨rb, hrb⟩ : ∃ rb, ra ++ [(Rw.need (.num 0), 0)] = rb := ⟨_, rfl⟩
  have erb : rwsA ra ++ [(Rw.need (.num 0)).d] = rwsA rb := by rw [← hrb]; simp [rwsA, rwA]
  have ndb : (adA (rwsA rb)).Nodup := by
    rw [← erb, adA_append, adA_cons, ad_lf _ (rw_lf (r := .need (.num 0)) rfl), adA_nil]
    simpa using nd
  have hfb : rb.map Prod.fst = anews (p.bs.headD "") x p.rows p.rows.length ++ [.need (.num 0)] := by rw [← hrb, List.map_append, hra]; rfl
  show SJt K [.dat false p.d, .dat false q.d, .dat false (.str x), .dat false (natsD (spots p.rows)), .ml true l (rwsA ra ++ [(Rw.need (.num 0)).d]), s5, .no] _ _
  rw [erb]
  refine sjt_forget 5 (s := s5) rfl <| sjt_frzA 4 (l := l) (m := true) (ds := rwsA rb) rfl fun n1 => ?_
  show SJt K [.dat false p.d, .dat false q.d, .dat false (.str x), .dat false (natsD (spots p.rows)), .dat true (listAt l (rwsA rb)), .no, .no] _ _
  refine sjt_retAt <| wd_tup <| wa_d <| wd_lf <| wd_op <| wd_var rfl <| wd_int <| rd_ixT (d := .int p.m) rfl ⟨rfl, ?_⟩
  refine wa_dF2 4 (d0 := listAt l (rwsA rb)) rfl (by rw [npl_at]; exact rwsA_npl rb) rfl <| wd_at <| wx_listN <| wd_op <| wd_var rfl <| wd_int <| rd_ixT (d := bsD p.bs) rfl ⟨_, rfl, bs_lf p.bs, fun lb => ⟨lb, _, rfl, fun _ nlb => ?_⟩⟩
  refine wa_d <| wd_at <| wx_op true <| wd_unAt <| wd_var rfl ⟨l, rwsA rb, rfl, ?_⟩
  refine wd_freshI 4 (s := .dat true (listAt l (rwsA rb))) rfl rfl ?_
  show WD K true [.dat false p.d, .dat false q.d, .dat false (.str x), .dat false (natsD (spots p.rows)), .no, .no, .no] _ _
  refine .ofX <| wx_lcA true (wipeOk_no rfl wipeOk_nil) gwn rfl (wi_list <| wd_op <| wd_var rfl <| wd_int <| rd_ixT (d := .list (q.rows.map Rw.d)) rfl ⟨_, rfl, fun i acc => ∃ ra : List (Rw × Addr), acc = rwsA ra ∧ ra.map Prod.fst = q.rows.take i, by rw [List.length_map]; omega, ⟨[], rfl, rfl⟩, ?_, ?_⟩) rfl
  · rintro i d acc hd _ ⟨ra, rfl, hra⟩
    rw [List.getElem?_map] at hd
    cases hr : q.rows[i]? with
    | none => rw [hr] at hd; cases hd
    | some r =>
      rw [hr] at hd
      cases hd
      refine gj_name ⟨rfl, rfl, wt_yes <| iteT' rfl <| wd_call1 <| wd_var rfl ⟨r, rfl, fun a => asD_new ⟨?_, ra ++ [(r, a)], by simp [rwsA], ?_⟩⟩⟩
      · rw [rwA_ad]; split <;> simp
      · rw [List.map_append, hra, List.take_add_one, hr]; rfl
  · rintro acc hacc ⟨rc, rfl, hrc⟩ ndc _ l2
    rw [List.length_map, List.take_length] at hrc
    refine ⟨_, rfl, fun fr => rx_cat ?_ fun lr => ⟨lr, _, rfl, fun n3 n4 => ?_⟩⟩
    · have h4 := congrArg List.length hfb
      rw [List.length_map, List.length_append] at h4
      rw [List.length_map] at hacc
      simp only [List.length_cons, List.length_nil] at h4
      rw [rwsA, List.length_map]
      omega
    have ecat : rwsA rb ++ rwsA rc = rwsA (rb ++ rc) := by simp [rwsA]
    rw [ecat] at n3 ⊢
    have frc : ∀ a ∈ adA (rwsA rc), a ∉ l :: adA (rwsA rb) := fun a ha hz => fr a (by rw [ad_list]; exact ha) (List.mem_flatMap.mpr ⟨.dat true (listAt l (rwsA rb)), by simp, by show a ∈ Pk.ad _; rw [ad_at]; exact hz⟩)
    have nlb' : lb ∉ l :: adA (rwsA rb) := fun z => nlb (List.mem_flatMap.mpr ⟨.dat true (listAt l (rwsA rb)), by simp, by show lb ∈ Pk.ad _; rw [ad_at]; exact z⟩)
    refine wa_nil fun fr2 => ⟨_, rfl, le_lit rfl, pgA_npl p.m p.bs (rb ++ rc) lb lr, fun v => ⟨keep_dat (keep_dat (keep_dat keep_nil)), qq (rb ++ rc) lb lr v ?_ ?_⟩⟩
    · rw [List.map_append, hfb, hrc, List.append_assoc]
      exact after_rows (p.bs.headD "") x q.rows p.rows
    · have n5 : lb ∉ lr :: adA (rwsA (rb ++ rc)) := fun z => fr2 lb (by rw [ad_at]; exact List.mem_cons_self) (by rw [ad_at]; exact nlb') (by
        show lb ∈ Pk.ad (listAt lr (rwsA (rb ++ rc))) ++ []
        rw [ad_at, List.append_nil]
        exact z)
      rw [pgA_ad]
      refine List.nodup_cons.mpr ⟨n5, List.nodup_cons.mpr ⟨n3, ?_⟩⟩
      rw [← ecat, adA_append]
      exact List.nodup_append.mpr ⟨ndb, ndc, fun a ha b hb e => by subst e; exact frc a hb (List.mem_cons_of_mem _ ha)⟩
end
end Dk
end
section
set_option Elab.async false
set_option linter.all false
set_option maxRecDepth 100000
set_option pp.maxSteps 600
open PySem L2 Pk
local macro_rules | `(tactic| walk_at "sh") => `(tactic| first | exact sh_int | exact sh_bool | exact sh_non | exact sh_nil | exact sh_str (by decide +kernel) | assumption)
local macro_rules | `(tactic| walk_at "v1") => `(tactic| first
  | (with_reducible refine wd_int ?_) | (with_reducible refine wd_str ?_) | (with_reducible refine wd_bl ?_) | (with_reducible refine wd_non ?_)
  | ((with_reducible apply wd_var); exact rfl) | ((with_reducible apply wd_varN); exact rfl)
  | ((with_reducible apply wd_ixm); exact rfl)
  | ((with_reducible apply wd_lenM); exact rfl) | ((with_reducible apply wd_lenScript); exact rfl) | ((with_reducible apply wd_ixScript); exact rfl)
  | (with_reducible refine wd_op ?_) | (with_reducible refine wd_un ?_)
  | (with_reducible refine rd_add ?_) | (with_reducible refine rd_sub ?_) | (with_reducible refine rd_lt ?_) | (with_reducible refine rd_le ?_) | (with_reducible refine rd_gt ?_) | (with_reducible refine rd_ge ?_) | (with_reducible refine ru_neg ?_)
  | ((with_reducible refine rd_eq ?ev_h ?ev_k ?_); (case ev_h => walk_at "sh"); (case ev_k => walk_at "sh")) | ((with_reducible refine rd_ne ?ev_h ?ev_k ?_); (case ev_h => walk_at "sh"); (case ev_k => walk_at "sh"))
  | ((with_reducible refine rd_mod ?ev_h ?_); case ev_h => first | decide | assumption | omega) | ((with_reducible refine rd_div ?ev_h ?ev_k ?_); (case ev_h => first | decide | assumption | omega); (case ev_k => first | decide | assumption | omega))
  | ((with_reducible refine rd_pow ?ev_h ?_); case ev_h => exact ⟨by decide, by decide, by decide⟩)
  | ((with_reducible refine rd_mul ?ev_h ?_); case ev_h => first | exact .inr ⟨by decide, by decide⟩ | exact .inl ⟨by decide, by decide⟩ | exact .inl ⟨by omega, by omega⟩ | exact .inr ⟨by omega, by omega⟩)
  | (with_reducible refine rc_lenL ?_) | (with_reducible refine rc_lenT ?_) | (with_reducible refine rc_max2 ?_) | (with_reducible refine rc_min2 ?_) | (with_reducible refine rc_intB ?_) | (with_reducible refine rc_intI ?_) | (with_reducible refine rc_listL ?_) | (with_reducible refine rc_listT ?_) | (with_reducible refine rc_tupleL ?_)
  | ((with_reducible apply rd_ixT); exact rfl)
  | ((with_reducible apply rd_ixL); exact rfl)
  | ((with_reducible refine wd_isi ?ev_h ?_); case ev_h => decide) | ((with_reducible refine wd_isi2 ?ev_h ?ev_k ?_); (case ev_h => decide); (case ev_k => decide))
  | (with_reducible refine wd_tup2 ?_) | (with_reducible refine wd_tup1 ?_) | (with_reducible refine wd_tup3 ?_) | (with_reducible refine wd_tup0 ?_)
  | (with_reducible refine wd_lst0 ?_) | (with_reducible refine wd_lst1 ?_) | (with_reducible refine wd_lst2 ?_) | (with_reducible refine wd_lst3 ?_) | (with_reducible refine wd_lst4 ?_) | (with_reducible refine wd_lst5 ?_) | (with_reducible refine wd_lst6 ?_)
  | ((with_reducible apply wd_callO0); exact rfl) | ((with_reducible apply wd_callO1); exact rfl) | ((with_reducible apply wd_callO2); exact rfl) | ((with_reducible apply wd_callO3); exact rfl)
  | (with_reducible refine wd_call1 ?_) | (with_reducible refine wd_call2 ?_) | (with_reducible refine wd_call3 ?_) | (with_reducible refine wd_call4 ?_) | (with_reducible refine wd_call0 ?_)
  | (with_reducible refine wd_cb1 ?_) | (with_reducible refine wd_cb2 ?_)
  | (with_reducible refine wd_rev ?_) | (with_reducible refine wd_lrg1 ?_) | (with_reducible refine wd_sl ?_) | (with_reducible refine wo_no ?_) | (with_reducible refine wo_some ?_)
  | (with_reducible refine wd_andV ?_) | (with_reducible refine wd_orV ?_) | (with_reducible refine wd_notV ?_) | (with_reducible refine wd_if ?_) | (with_reducible refine wd_chain ?_)
  | (with_reducible refine wt_test ?_) | (with_reducible refine wt_B ?_) | (with_reducible refine wt_not ?_) | (with_reducible refine wt_and ?_) | (with_reducible refine wt_or ?_) | (with_reducible refine wt_yes ?_)
  | (with_reducible refine gj_name ?_) | (with_reducible refine gj_tup rfl ?_) | (with_reducible refine gjs_cons ?_) | (with_reducible refine gjs_nil ?_))
local macro_rules | `(tactic| walk_at "v") => `(tactic| repeat walk_at "v1")
local macro_rules | `(tactic| walk_at "x") => `(tactic| refine ⟨_, rfl, ?_⟩)
local macro_rules | `(tactic| walk_at "vx") => `(tactic| repeat (first | walk_at "v1" | (with_reducible refine ⟨_, rfl, ?_⟩)))
namespace Dk
open PySem PySem.Spec PyProof.Rows L2 Pk Sy
theorem eqv_nilV (ys : List PyData) : PyData.eqv (.list ys) (.list []) = ys.isEmpty := by cases ys <;> rfl
theorem wy_dep (w : Wy) : Pk.dep 2 w.d := by
  cases w with
  | place row st =>
    intro x hx
    simp at hx
    rcases hx with rfl | rfl
    · exact dep_int
    · intro y hy
      obtain ⟨n, _, rfl⟩ := List.mem_map.mp hy
      exact dep_int
  | gives n =>
    intro x hx
    simp at hx
    rcases hx with rfl | rfl
    · exact dep_str (ok_w (by simp))
    · exact dep_int
  | nothing =>
    intro x hx
    simp at hx
    subst hx
    exact dep_str (ok_w (by simp))
theorem wts_sh (ts : List Wt) : SeqAt.shaped (.list (ts.map Wt.d)) = true := sh_of (n := 4) (fun x hx => by
  obtain ⟨t, _, rfl⟩ := List.mem_map.mp hx
  intro y hy
  have hy' : y = natsD t.cs ∨ y = t.w.d := by simpa [Wt.d] using hy
  rcases hy' with z | z
  · rw [z]
    intro u hu
    obtain ⟨n, _, rfl⟩ := List.mem_map.mp hu
    exact dep_int
  · rw [z]; exact wy_dep t.w) (by decide)
theorem rws_shV {m : Nat} {bs : List Str} (hb : ∀ x ∈ bs, NameOk x) {rows : List Rw} (h : ∀ r ∈ rows, r.Ok m bs) : SeqAt.shaped (rwsD rows) = true := sh_of (n := 7) (fun x hx => by
  obtain ⟨r, hr, rfl⟩ := List.mem_map.mp hx
  exact Rw.dep hb (h r hr)) (by decide)
def Wy.w0V : Wy → PyData
  | .place r _ => .int r
  | .gives _ => .str "gives"
  | .nothing => .str "nothing"
theorem rd_w0V {K : Kw} {m : Bool} {Γ : List Sl} {Q : PyData → Prop} {w : Wy} (q : Q w.w0V) : RD K m Γ (rIx K) w.d (.int 0) Q := by cases w <;> exact rd_ixT rfl q
theorem way_inV (w : Wy) : ([PyData.str "gives", .str "nothing"].any fun z => PyData.eqv z w.w0V) = !w.isPl := by
  cases w with
  | place r s => simp [Wy.isPl, Wy.w0V, PyData.eqv]
  | gives n => simp [Wy.isPl, Wy.w0V, eqv_str]
  | nothing => simp [Wy.isPl, Wy.w0V, eqv_str]
theorem way0V_sh (w : Wy) : SeqAt.shaped w.w0V = true := by
  cases w with
  | place r s => exact sh_int
  | gives n => exact sh_str (ok_w (by simp))
  | nothing => exact sh_str (ok_w (by simp))
theorem pick_kdV (r : Rw) : decide (r.kd = .pick) = r.isPick := by cases r <;> rfl
theorem enumW {ws : List Wy} {j : Nat} {d : PyData} (h : (enumD (ws.map Wy.d))[j]? = some d) : ∃ w, ws[j]? = some w ∧ d = .tuple [.int j, w.d] := by
  obtain ⟨x, hx, rfl⟩ := enumD_of h
  rw [List.getElem?_map] at hx
  cases hw : ws[j]? with
  | none => rw [hw] at hx; cases hx
  | some w => rw [hw] at hx; cases hx; exact ⟨w, rfl, rfl⟩
theorem lf_place (r : Nat) (s : List Nat) : Pk.lf (Wy.place r s).d = true := by
  have h := st_lf s
  simp only [stD, Pk.lf] at h
  simp [Wy.d, Pk.lf, Pk.lfA, h]
theorem wy_lf (w : Wy) : Pk.lf w.d = true := by
  cases w with
  | place r s => exact lf_place r s
  | gives n => rfl
  | nothing => rfl
def T_lruns (K : Kw) : List Sl → (Sl → Prop) → Prop := fun Γ Q => ∃ p : Pg, ∃ st, Γ = [.dat false p.d, .dat false (stD st)] ∧ p.Ok ∧ StOk p.m p.bs st ∧ sizeL p.rows ≤ 2000 ∧ ∀ l rs, Lr p st rs → Q (.ml true l (rs.map r3D))
/-- what waits is a place that goes on what stands behind it -/
structure Wl (p : Pg) (st : List Nat) (t : Wt) : Prop where
  at' : ∃ r s, t.w = .place r s ∧ r < p.rows.length ∧ StOk p.m p.bs s ∧ p.rows.length ≤ r + t.n ∧ t.cs.length ≤ r ∧ ∀ cs e l, Gl p.m p.bs (p.rows.drop r) s cs e l → Gl p.m p.bs p.rows st (t.cs ++ cs) e l
theorem Wl.some {p : Pg} {st : List Nat} {t : Wt} (hp : p.Ok) (h : Wl p st t) : 1 ≤ (t.all p).length := by
  obtain ⟨r, s, e, hr, _, hn, _⟩ := h.at'
  unfold Wt.all
  rw [List.length_map, e, ← poe_pl hr, runs_gof t.n r s hn]
  exact gof_some _ _ s (Nat.le_refl _) fun x hx => hp.rows x (List.mem_of_mem_drop hx)
theorem wl_len {p : Pg} {st : List Nat} (hp : p.Ok) : ∀ {ts : List Wt}, (∀ t ∈ ts, Wl p st t) → ts.length ≤ (ts.flatMap (Wt.all p)).length
  | [], _ => Nat.zero_le _
  | t :: ts, h => by
    have h1 := (h t List.mem_cons_self).some hp
    have h2 := wl_len hp (ts := ts) fun x hx => h x (List.mem_cons_of_mem _ hx)
    rw [List.flatMap_cons, List.length_append, List.length_cons]
    omega
section
variable {P : Program} {K : Kw} {mg : Str → Option Value} {base : Heap} {k : Nat}
theorem ok_lrunsV (D : Def K mg "_law_runs" s_l_runs ["program", "store"]) (c_ways : Cal P K.w K mg base CX0 k "_law_ways" ["program", "place"] (spG K (T_uways K))) (m_int : mg "int" = none) (m_enumerate : mg "enumerate" = none) : Cal P K.w K mg base CX0 (k + 1) "_law_runs" ["program", "store"] (spG K (T_lruns K)) := by
  refine cal_g D sc_l_runs (fun Γ Qr ⟨p, st, e, _⟩ => by subst e; exact ⟨rfl, noMl_dat (noMl_dat noMl_nil)⟩) fun f cdv A outer s H E hr => ⟨_, wk_l_runs c_ways m_enumerate m_int f cdv A outer s H E hr, ?_⟩
  rintro Γ Qr ⟨p, st, rfl, hp, hst, hsz, q⟩
  have hr30 := hp.r30
  have hR0 : (rn p st).length ≤ 2000 := Nat.le_trans (rn_len hp st) hsz
  show SJ K [.dat false p.d, .dat false (stD st), .no, .no, .no, .no, .no, .no, .no, .no] (t_l_runs K _) _
  unfold t_l_runs
  refine sj_seq <| sj_setX <| wx_lst0 true fun lf => ?_
  refine sj_seq <| sj_setX <| wx_lst1 true <| wd_tup2 <| wd_lst0 <| wd_lf <| wd_tup2 <| wd_int <| wd_var rfl ⟨lf_place 0 st, fun lw => ?_⟩
  show SJ K [.dat false p.d, .dat false (stD st), .ml true lf (([] : List R3).map r3D), .ml true lw ([(⟨[], .place 0 st, 30⟩ : Wt)].map Wt.d), .no, .no, .no, .no, .no, .no] _ _
  refine sj_seq <| sj_if <| wt_test <| wd_op <| wd_op <| wd_var rfl <| wd_int <| rd_pgR <| wd_lst0 <| rd_eq (rws_shV hp.bs.nm hp.rows) sh_nil ⟨_, rfl, ?_⟩
  rw [eqv_nilV, List.isEmpty_map]
  cases hnil : p.rows.isEmpty with
  | true =>
    have hn : p.rows = [] := List.isEmpty_iff.mp hnil
    refine iteT' rfl <| sj_ret <| wx_lst1 true <| wd_tup3 <| wd_lst0 <| wd_tup1 <| wd_str <| wd_lf <| wd_var rfl ⟨st_lf st, fun l => ⟨keep_dat (keep_dat keep_nil), q l [([], .nothing, st)] ⟨?_, fun x hx => ?_⟩⟩⟩
    · rw [rn_gof hp, hn, gof_nil]
      exact List.Perm.refl _
    · rw [List.mem_singleton.mp hx, hn]
      exact .nil
  | false =>
    refine iteF' rfl <| sj_next ?_
    have hpos : 0 < p.rows.length := by
      cases h : p.rows with
      | nil => rw [h] at hnil; cases hnil
      | cons a b => exact Nat.succ_pos _
    refine sj_cut (fun Γ' => ∃ (rs : List R3) (s3 s4 s5 s6 s7 s8 s9 : Sl), Lr p st rs ∧ Γ' = [.dat false p.d, .dat false (stD st), .ml true lf (rs.map r3D), s3, s4, s5, s6, s7, s8, s9]) ?_ ?_
    · refine sj_while (fun n Γ' => ∃ (fd : List R3) (ts : List Wt) (s4 s5 s6 s7 s8 s9 : Sl), n = todo p ts ∧ (∀ t ∈ ts, Wl p st t) ∧ (∀ x ∈ fd, Gl p.m p.bs p.rows st x.1 x.2.1 x.2.2) ∧ (fd.map ce ++ ts.flatMap (Wt.all p)).Perm (rn p st) ∧ Γ' = [.dat false p.d, .dat false (stD st), .ml true lf (fd.map r3D), .ml true lw (ts.map Wt.d), s4, s5, s6, s7, s8, s9]) (todo p [⟨[], .place 0 st, 30⟩]) ⟨[], [⟨[], .place 0 st, 30⟩], .no, .no, .no, .no, .no, .no, rfl, fun t ht => ?_, (fun _ h => by cases h), ?_, rfl⟩ ?_
      · rw [List.mem_singleton.mp ht]
        exact ⟨0, st, rfl, hpos, hst, by show p.rows.length ≤ 0 + 30; omega, Nat.le_refl _, fun cs e l g => by rw [List.drop_zero] at g; exact g⟩
      · rw [List.flatMap_singleton]
        show ((runs p 30 (.place 0 st)).map (preC [])).Perm (runs p 30 (poe p 0 st))
        have e : (preC [] : List Nat × Wy → List Nat × Wy) = id := by funext r; simp [preC]
        rw [e, List.map_id, poe_pl hpos]
      rintro n Γ' ⟨fd, ts, s4, s5, s6, s7, s8, s9, rfl, hok, hgl, hR, rfl⟩
      refine wt_thaw ?_
      show WT K [.dat false p.d, .dat false (stD st), .dat false (.list (fd.map r3D)), .dat false (.list (ts.map Wt.d)), s4.frz, s5.frz, s6.frz, s7.frz, s8.frz, s9.frz] _ _
      refine wt_test <| wd_op <| wd_var rfl <| wd_lst0 <| rd_ne (wts_sh ts) sh_nil ⟨_, rfl, ?_⟩
      rw [eqv_nilV]
      rcases List.eq_nil_or_concat ts with e | ⟨ts0, t, e⟩
      · subst e
        refine iteF' rfl ⟨fd, _, _, _, _, _, _, _, ⟨?_, hgl⟩, rfl⟩
        simpa using hR
      rw [List.concat_eq_append] at e
      subst e
      have em : (ts0 ++ [t]).map Wt.d = ts0.map Wt.d ++ [t.d] := by simp
      rw [em]
      refine iteT' (by simp) ?_
      obtain ⟨r, s, ew, hr, hs, hn, hcl, hext⟩ := (hok t (by simp)).at'
      have hok0 : ∀ t ∈ ts0, Wl p st t := fun u hu => hok u (by simp [hu])
      obtain ⟨cs, wy, n⟩ := t
      simp only at ew hn hcl hext
      subst ew
      obtain ⟨n0, rfl⟩ : ∃ n0, n = n0 + 1 := ⟨n - 1, by omega⟩
      obtain ⟨row, hrow⟩ : ∃ row, p.rows[r]? = some row := ⟨p.rows[r], by simp [hr]⟩
      obtain ⟨pk, hpk⟩ : ∃ pk, isPickAt p r = pk := ⟨_, rfl⟩
      obtain ⟨ws, hws⟩ : ∃ ws, ways p r s = ws := ⟨_, rfl⟩
      have hall := kf_all (p := p) (r := r) (s := s) cs n0
      have hbk : ∀ (c : Nat) (w : Wy), ws[c]? = some w → _ := fun c w h => Gl.back (p := p) (r := r) (s := s) (c := c) (w := w) (by rw [hws]; exact h)
      have hwok : ∀ w ∈ ws, WyOk p w ∧ past r w := fun w hw => ways_ok hp hs w (by rw [hws]; exact hw)
      have hsz1 : size p (n0 + 1) (.place r s) = 1 + (ws.map (size p n0)).sum := by rw [← hws]; rfl
      rw [hpk, hws] at hall
      rw [hpk] at hbk
      have hR' : (fd.map ce ++ (ts0.flatMap (Wt.all p) ++ (kf pk cs n0 ws).flatMap (Wt.all p))).Perm (rn p st) := by
        rw [hall]
        simpa using hR
      refine sj_seq <| sj_pop (i := 3) (l := lw) (ds := ts0.map Wt.d) (d := (⟨cs, .place r s, n0 + 1⟩ : Wt).d) rfl <| gj_tup (n := 2) (ds := [natsD cs, (Wy.place r s).d]) rfl <| gjs_cons <| gj_name <| gjs_cons <| gj_name <| gjs_nil ?_
      show SJ K [.dat false p.d, .dat false (stD st), .ml true lf (fd.map r3D), .ml true lw (ts0.map Wt.d), .dat true (natsD cs), .dat true (Wy.place r s).d, s6, s7, s8, s9] _ _
      refine sj_seq <| sj_set false <| wd_op <| wd_op <| wd_op <| wd_op <| wd_var rfl <| wd_int <| rd_pgR <| wd_op <| wd_varN (d := (Wy.place r s).d) rfl <| wd_int <| rd_ixT (d := .int r) rfl <| rd_row hrow <| wd_int <| rd_rk <| wd_str <| rd_w (b := .pick) ?_
      rw [pick_kdV, ← pick_at hrow, hpk]
      show SJ K [.dat false p.d, .dat false (stD st), .ml true lf (fd.map r3D), .ml true lw (ts0.map Wt.d), .dat true (natsD cs), .dat true (Wy.place r s).d, .dat false (.bool pk), s7, s8, s9] _ _
      refine sj_for false <| wi_enum <| wa_d <| wd_call2 <| wd_var rfl <| wd_varN rfl ⟨p, r, s, rfl, hp, hr, hs, asD_dat <| wa_nil ⟨_, rfl, ?_⟩⟩
      rw [hws]
      refine ⟨fun j Γ' => ∃ (fd' : List R3) (ts' : List Wt) (s7 s8 s9 : Sl), todo p ts' ≤ todo p ts0 + ((ws.take j).map (size p n0)).sum ∧ (∀ t ∈ ts', Wl p st t) ∧ (∀ x ∈ fd', Gl p.m p.bs p.rows st x.1 x.2.1 x.2.2) ∧ (fd'.map ce ++ ts'.flatMap (Wt.all p)).Perm (fd.map ce ++ (ts0.flatMap (Wt.all p) ++ ((kf pk cs n0 ws).take j).flatMap (Wt.all p))) ∧ Γ' = [.dat false p.d, .dat false (stD st), .ml true lf (fd'.map r3D), .ml true lw (ts'.map Wt.d), .dat true (natsD cs), .dat true (Wy.place r s).d, .dat false (.bool pk), s7, s8, s9], ⟨fd, ts0, s7, s8, s9, by simp, hok0, hgl, by simp, rfl⟩, ?_, ?_⟩
      · rintro j d Γ' hd ⟨fd', ts', s7, s8, s9, htd, hok', hgl', hP, rfl⟩
        obtain ⟨w, hw, rfl⟩ := enumW hd
        have htk : (ws.take (j + 1)).map (size p n0) = (ws.take j).map (size p n0) ++ [size p n0 w] := by rw [List.take_add_one, hw]; simp
        have hbound : fd'.length + ts'.length ≤ 2000 := by
          have h1 := hP.length_eq
          have h2 := hR'.length_eq
          have h3 := wl_len hp hok'
          have h4 : (((kf pk cs n0 ws).take j).flatMap (Wt.all p)).length ≤ ((kf pk cs n0 ws).flatMap (Wt.all p)).length := by
            conv => rhs; rw [← List.take_append_drop j (kf pk cs n0 ws)]
            rw [List.flatMap_append, List.length_append]
            omega
          simp only [List.length_append, List.length_map] at h1 h2
          omega
        obtain ⟨b1, b2⟩ := hbk j w hw
        obtain ⟨mo, hmo⟩ : ∃ mo, cs ++ (if pk = true then [j] else []) = mo := ⟨_, rfl⟩
        have hkt := kf_take (pk := pk) (cs := cs) (n := n0) hw
        rw [hmo] at hkt
        refine gj_tup (n := 2) (ds := [.int j, w.d]) rfl <| gjs_cons <| gj_name <| gjs_cons <| gj_name <| gjs_nil ?_
        show SJ K [.dat false p.d, .dat false (stD st), .ml true lf (fd'.map r3D), .ml true lw (ts'.map Wt.d), .dat true (natsD cs), .dat true (Wy.place r s).d, .dat false (.bool pk), .dat false (.int j), .dat false w.d, s9] _ _
        have hjl : cs.length ≤ 30 := by omega
        refine sj_seq <| sj_set true <| wd_op <| wd_var (d := natsD cs) rfl <| wd_op <| wd_lst1 <| wd_lf <| wd_var (d := .int j) rfl ⟨rfl, wd_lf <| wd_cb1 <| wd_var (d := .bool pk) rfl <| rc_intB ⟨rfl, ?_⟩⟩
        refine rd_rep (by split <;> decide) (by split <;> decide) (by split <;> simp) <| rd_cat (by rw [List.length_map]; cases pk <;> simp <;> omega) ?_
        have emo : PyData.list ((cs.map fun (n : Nat) => PyData.int n) ++ (List.replicate (if pk = true then (1 : Int) else 0).toNat [PyData.int j]).flatten) = natsD mo := by
          rw [← hmo]
          cases pk <;> simp [natsD]
        rw [emo]
        show SJ K [.dat false p.d, .dat false (stD st), .ml true lf (fd'.map r3D), .ml true lw (ts'.map Wt.d), .dat true (natsD cs), .dat true (Wy.place r s).d, .dat false (.bool pk), .dat false (.int j), .dat false w.d, .dat true (natsD mo)] _ _
        have hwm := List.mem_of_getElem? hw
        obtain ⟨wok, wpast⟩ := hwok w hwm
        have hsz2 := size_pos p w n0
        refine sj_if <| wt_test <| wd_op <| wd_op <| wd_var rfl <| wd_int <| rd_w0V <| wd_tup2 <| wd_str <| wd_str <| rd_inT (way0V_sh w) (by decide +kernel) ⟨_, rfl, ?_⟩
        rw [way_inV]
        cases hpl : w.isPl with
        | false =>
          refine iteT' rfl <| sj_app (i := 2) (m := true) (l := lf) (ds := fd'.map r3D) rfl (by rw [List.length_map]; omega) <| wd_tup3 <| wd_var (d := natsD mo) rfl <| wd_lf <| wd_var (d := w.d) rfl ⟨wy_lf w, wd_op <| wd_var (d := (Wy.place r s).d) rfl <| wd_int <| rd_ixT (d := stD s) rfl ?_⟩
          refine ⟨fd' ++ [(mo, w, s)], ts', .dat false (.int j), .dat false w.d, .dat true (natsD mo), ?_, hok', fun x hx => ?_, ?_, ?_⟩
          · rw [htk, List.sum_append]
            simp only [List.sum_cons, List.sum_nil]
            omega
          · rcases List.mem_append.mp hx with z | z
            · exact hgl' x z
            · rw [List.mem_singleton.mp z]
              show Gl p.m p.bs p.rows st mo w s
              rw [← hmo]
              exact hext _ _ _ (b1 hpl)
          · rw [hkt, List.flatMap_append, List.flatMap_singleton]
            have ea : (⟨mo, w, n0⟩ : Wt).all p = [(mo, w)] := by
              show (runs p n0 w).map (preC mo) = _
              rw [runs_end hpl]
              simp [preC]
            rw [ea, List.map_append, ← List.append_assoc (ts0.flatMap _), ← List.append_assoc (fd.map ce)]
            refine List.Perm.trans ?_ (List.Perm.append_right _ hP)
            show ((fd'.map ce ++ [(mo, w)]) ++ ts'.flatMap (Wt.all p)).Perm ((fd'.map ce ++ ts'.flatMap (Wt.all p)) ++ [(mo, w)])
            rw [List.append_assoc, List.append_assoc]
            exact List.Perm.append_left _ List.perm_append_comm
          · rw [List.map_append]; rfl
        | true =>
          cases w with
          | gives n => cases hpl
          | nothing => cases hpl
          | place r' s' =>
          have hpr : r < r' := wpast
          refine iteF' rfl <| sj_app (i := 3) (m := true) (l := lw) (ds := ts'.map Wt.d) rfl (by rw [List.length_map]; omega) <| wd_tup2 <| wd_var (d := natsD mo) rfl <| wd_lf <| wd_var (d := (Wy.place r' s').d) rfl ⟨lf_place r' s', ?_⟩
          have hml : mo.length ≤ r' := by
            rw [← hmo, List.length_append]
            cases pk <;> simp <;> omega
          refine ⟨fd', ts' ++ [⟨mo, .place r' s', n0⟩], .dat false (.int j), .dat false (Wy.place r' s').d, .dat true (natsD mo), ?_, fun t ht => ?_, hgl', ?_, ?_⟩
          · rw [htk, List.sum_append, todo_app]
            show todo p ts' + (size p n0 (.place r' s') + 0) ≤ todo p ts0 + (((ws.take j).map (size p n0)).sum + (size p n0 (.place r' s') + 0))
            omega
          · rcases List.mem_append.mp ht with z | z
            · exact hok' t z
            · rw [List.mem_singleton.mp z]
              refine ⟨r', s', rfl, wok.1, wok.2, by show p.rows.length ≤ r' + n0; omega, hml, fun cs' e l g => ?_⟩
              show Gl p.m p.bs p.rows st (mo ++ cs') e l
              rw [← hmo, List.append_assoc]
              exact hext _ _ _ (b2 r' s' rfl cs' e l g)
          · rw [hkt, List.flatMap_append, List.flatMap_append, List.flatMap_singleton]
            rw [← List.append_assoc, ← List.append_assoc (ts0.flatMap _), ← List.append_assoc (fd.map ce)]
            exact List.Perm.append_right _ hP
          · rw [List.map_append]; rfl
      · rintro Γ' ⟨fd', ts', s7, s8, s9, htd, hok', hgl', hP, rfl⟩
        have el : (enumD (ws.map Wy.d)).length = ws.length := by rw [enumD_len, List.length_map]
        rw [el, List.take_length] at htd
        rw [el, ← kf_len pk cs n0 ws, List.take_length] at hP
        refine ⟨todo p ts', ?_, fd', ts', _, _, _, _, _, _, rfl, hok', hgl', hP.trans hR', rfl⟩
        rw [todo_app]
        show todo p ts' < todo p ts0 + (size p (n0 + 1) (.place r s) + 0)
        omega
    rintro _ ⟨rs, s3, s4, s5, s6, s7, s8, s9, hL, rfl⟩
    exact sj_retM (i := 2) (l := lf) (m := true) rfl ⟨keep_dat (keep_dat keep_nil), q lf rs hL⟩
end
end Dk
end
section
set_option Elab.async false
set_option linter.all false
set_option maxRecDepth 100000
set_option pp.maxSteps 600
open PySem L2 Pk
local macro_rules | `(tactic| walk_at "sh") => `(tactic| first | exact sh_int | exact sh_bool | exact sh_non | exact sh_nil | exact sh_str (by decide +kernel) | assumption)
local macro_rules | `(tactic| walk_at "v1") => `(tactic| first
  | (with_reducible refine wd_int ?_) | (with_reducible refine wd_str ?_) | (with_reducible refine wd_bl ?_) | (with_reducible refine wd_non ?_)
  | ((with_reducible apply wd_var); exact rfl) | ((with_reducible apply wd_varN); exact rfl)
  | ((with_reducible apply wd_ixm); exact rfl)
  | ((with_reducible apply wd_lenM); exact rfl) | ((with_reducible apply wd_lenScript); exact rfl) | ((with_reducible apply wd_ixScript); exact rfl)
  | (with_reducible refine wd_op ?_) | (with_reducible refine wd_un ?_)
  | (with_reducible refine rd_add ?_) | (with_reducible refine rd_sub ?_) | (with_reducible refine rd_lt ?_) | (with_reducible refine rd_le ?_) | (with_reducible refine rd_gt ?_) | (with_reducible refine rd_ge ?_) | (with_reducible refine ru_neg ?_)
  | ((with_reducible refine rd_eq ?ev_h ?ev_k ?_); (case ev_h => walk_at "sh"); (case ev_k => walk_at "sh")) | ((with_reducible refine rd_ne ?ev_h ?ev_k ?_); (case ev_h => walk_at "sh"); (case ev_k => walk_at "sh"))
  | ((with_reducible refine rd_mod ?ev_h ?_); case ev_h => first | decide | assumption | omega) | ((with_reducible refine rd_div ?ev_h ?ev_k ?_); (case ev_h => first | decide | assumption | omega); (case ev_k => first | decide | assumption | omega))
  | ((with_reducible refine rd_pow ?ev_h ?_); case ev_h => exact ⟨by decide, by decide, by decide⟩)
  | ((with_reducible refine rd_mul ?ev_h ?_); case ev_h => first | exact .inr ⟨by decide, by decide⟩ | exact .inl ⟨by decide, by decide⟩ | exact .inl ⟨by omega, by omega⟩ | exact .inr ⟨by omega, by omega⟩)
  | (with_reducible refine rc_lenL ?_) | (with_reducible refine rc_lenT ?_) | (with_reducible refine rc_max2 ?_) | (with_reducible refine rc_min2 ?_) | (with_reducible refine rc_intB ?_) | (with_reducible refine rc_intI ?_) | (with_reducible refine rc_listL ?_) | (with_reducible refine rc_listT ?_) | (with_reducible refine rc_tupleL ?_)
  | ((with_reducible apply rd_ixT); exact rfl)
  | ((with_reducible apply rd_ixL); exact rfl)
  | ((with_reducible refine wd_isi ?ev_h ?_); case ev_h => decide) | ((with_reducible refine wd_isi2 ?ev_h ?ev_k ?_); (case ev_h => decide); (case ev_k => decide))
  | (with_reducible refine wd_tup2 ?_) | (with_reducible refine wd_tup1 ?_) | (with_reducible refine wd_tup3 ?_) | (with_reducible refine wd_tup0 ?_)
  | (with_reducible refine wd_lst0 ?_) | (with_reducible refine wd_lst1 ?_) | (with_reducible refine wd_lst2 ?_) | (with_reducible refine wd_lst3 ?_) | (with_reducible refine wd_lst4 ?_) | (with_reducible refine wd_lst5 ?_) | (with_reducible refine wd_lst6 ?_)
  | ((with_reducible apply wd_callO0); exact rfl) | ((with_reducible apply wd_callO1); exact rfl) | ((with_reducible apply wd_callO2); exact rfl) | ((with_reducible apply wd_callO3); exact rfl)
  | (with_reducible refine wd_call1 ?_) | (with_reducible refine wd_call2 ?_) | (with_reducible refine wd_call3 ?_) | (with_reducible refine wd_call4 ?_) | (with_reducible refine wd_call0 ?_)
  | (with_reducible refine wd_cb1 ?_) | (with_reducible refine wd_cb2 ?_)
  | (with_reducible refine wd_rev ?_) | (with_reducible refine wd_lrg1 ?_) | (with_reducible refine wd_sl ?_) | (with_reducible refine wo_no ?_) | (with_reducible refine wo_some ?_)
  | (with_reducible refine wd_andV ?_) | (with_reducible refine wd_orV ?_) | (with_reducible refine wd_notV ?_) | (with_reducible refine wd_if ?_) | (with_reducible refine wd_chain ?_)
  | (with_reducible refine wt_test ?_) | (with_reducible refine wt_B ?_) | (with_reducible refine wt_not ?_) | (with_reducible refine wt_and ?_) | (with_reducible refine wt_or ?_) | (with_reducible refine wt_yes ?_)
  | (with_reducible refine gj_name ?_) | (with_reducible refine gj_tup rfl ?_) | (with_reducible refine gjs_cons ?_) | (with_reducible refine gjs_nil ?_))
local macro_rules | `(tactic| walk_at "v") => `(tactic| repeat walk_at "v1")
local macro_rules | `(tactic| walk_at "x") => `(tactic| refine ⟨_, rfl, ?_⟩)
local macro_rules | `(tactic| walk_at "vx") => `(tactic| repeat (first | walk_at "v1" | (with_reducible refine ⟨_, rfl, ?_⟩)))
namespace Dk
open PySem PySem.Spec PyProof.Rows L2 Pk Sy
theorem runs_shV (rs : List (List Nat × Wy)) : SeqAt.shaped (.list (rs.map runD)) = true := sh_of (n := 4) (fun x hx => by
  obtain ⟨t, _, rfl⟩ := List.mem_map.mp hx
  intro y hy
  have hy' : y = natsD t.1 ∨ y = t.2.d := by simpa [runD] using hy
  rcases hy' with z | z
  · rw [z]
    intro u hu
    obtain ⟨n, _, rfl⟩ := List.mem_map.mp hu
    exact dep_int
  · rw [z]; exact wy_dep t.2) (by decide)
theorem runs_nbV (rs : List (List Nat × Wy)) : NB (.list (rs.map runD)) := .lst fun x hx => by
  obtain ⟨t, _, rfl⟩ := List.mem_map.mp hx
  refine .tup fun y hy => ?_
  have hy' : y = natsD t.1 ∨ y = t.2.d := by simpa [runD] using hy
  rcases hy' with z | z
  · rw [z]; exact nats_nb _
  · rw [z]; exact Wy.nb _
theorem run_depV (r : List Nat × Wy) : Pk.dep 3 (runD r) := fun y hy => by
  have hy' : y = natsD r.1 ∨ y = r.2.d := by simpa [runD] using hy
  rcases hy' with z | z
  · rw [z]
    intro u hu
    obtain ⟨n, _, rfl⟩ := List.mem_map.mp hu
    exact dep_int
  · rw [z]; exact wy_dep r.2
theorem run_depthV (r : List Nat × Wy) : (runD r).depth ≤ 60 := Nat.le_trans (dep_can 3 _ (run_depV r)).2 (by decide)
def T_copyN (K : Kw) : List Sl → (Sl → Prop) → Prop := fun Γ Q => ∃ p : Pg, Γ = [.dat false p.d] ∧ p.Ok ∧ Q (.dat true p.d)
def T_isthing (n : Nat) (K : Kw) : List Sl → (Sl → Prop) → Prop := fun Γ Q => ∃ (t : Th) (m : Nat) (bs : List Str) (deep : Nat), Γ = [.dat false t.d, .dat false (.int m), .dat false (bsD bs), .dat false (.int deep)] ∧ MB m bs ∧ t.Ok m bs deep ∧ deep ≤ n ∧ deep ≤ 4 ∧ Q (.dat true (.bool true))
def T_isrow (K : Kw) : List Sl → (Sl → Prop) → Prop := fun Γ Q => ∃ (r : Rw) (m : Nat) (bs : List Str), Γ = [.dat false r.d, .dat false (.int m), .dat false (bsD bs)] ∧ MB m bs ∧ r.Ok m bs ∧ Q (.dat true (.bool true))
def T_isprogV (K : Kw) : List Sl → (Sl → Prop) → Prop := fun Γ Q => ∃ p : Pg, Γ = [.dat false p.d, .dat false (.int p.m), .dat false (bsD p.bs)] ∧ p.Ok ∧ Q (.dat true (.bool true))
def T_vdue (K : Kw) : List Sl → (Sl → Prop) → Prop := fun Γ Q => ∃ p q : Pg, ∃ x st, Γ = [.dat false p.d, .dat false q.d, .dat false (.str x), .dat false (stD st)] ∧ Fit p q x ∧ StOk p.m p.bs st ∧ sizeL p.rows ≤ 2000 ∧ sizeL q.rows ≤ 2000 ∧ sizeL (after p q x).rows ≤ 2000 ∧ Q (.dat false (.list ((rn (after p q x) st).map runD)))
def rths : Rw → List Th
  | .set _ t => [t]
  | .pick _ ts => ts
  | .need t => [t]
  | .skip t _ => [t]
  | .give t => [t]
def rlast : Rw → PyData
  | .set _ t => t.d
  | .pick _ ts => .list (ts.map Th.d)
  | .need t => t.d
  | .skip _ n => .int n
  | .give t => t.d
def rmid : Rw → List PyData
  | .pick _ ts => ts.map Th.d
  | r => [rlast r]
section
variable {P : Program} {K : Kw} {mg : Str → Option Value} {base : Heap} {k : Nat}
theorem ok_copyN (D : Def K mg "_law_copy" s_l_copy ["program"]) (m_list : mg "list" = none) : Cal P K.w K mg base CX0 (k + 1) "_law_copy" ["program"] (spG K (T_copyN K)) := by
  refine cal_g D sc_l_copy (fun Γ Qr ⟨p, e, _⟩ => by subst e; exact ⟨rfl, noMl_dat noMl_nil⟩) fun f cdv A outer s H E hr => ⟨_, wk_l_copy m_list f cdv A outer s H E hr, ?_⟩
  rintro Γ Qr ⟨p, rfl, hp, q⟩
  have h30 := hp.r30
  show SJ K [.dat false p.d, .no, .no] (t_l_copy K) _
  unfold t_l_copy
  refine sj_seq <| sj_setX <| wx_lst0 true fun l => ?_
  show SJ K [.dat false p.d, .ml true l (([] : List Rw).map Rw.d), .no] _ _
  refine sj_cut (fun Γ' => ∃ s2, Γ' = [.dat false p.d, .ml true l (p.rows.map Rw.d), s2]) ?_ ?_
  · refine sj_for false <| wi_list <| wd_op <| wd_var rfl <| wd_int <| rd_pgR ⟨_, rfl, fun i Γ' => ∃ s2, Γ' = [.dat false p.d, .ml true l ((p.rows.take i).map Rw.d), s2], ⟨.no, rfl⟩, ?_, ?_⟩
    · rintro i d Γ' hd ⟨s2, rfl⟩
      rw [List.getElem?_map] at hd
      cases hr : p.rows[i]? with
      | none => rw [hr] at hd; cases hd
      | some r =>
        rw [hr] at hd
        cases hd
        have hil : i < p.rows.length := (List.getElem?_eq_some_iff.mp hr).1
        have tk : (p.rows.take (i + 1)).map Rw.d = (p.rows.take i).map Rw.d ++ [r.d] := by rw [List.take_add_one, hr]; simp
        refine gj_name ?_
        refine sj_cut (fun Γ' => ∃ m, (isPk r = true → m = true) ∧ Γ' = [.dat false p.d, .ml true l ((p.rows.take i).map Rw.d), .dat m r.d]) (sj_if <| wt_test <| wd_op <| wd_op <| wd_var rfl <| wd_int <| rd_rk <| wd_str <| rd_w (b := .pick) ⟨_, rfl, ?_⟩) ?_
        · have no : isPk r = false → ∃ m, (isPk r = true → m = true) ∧ [Sl.dat false p.d, .ml true l ((p.rows.take i).map Rw.d), .dat false r.d] = [.dat false p.d, .ml true l ((p.rows.take i).map Rw.d), .dat m r.d] := fun h => ⟨false, fun z => (by rw [h] at z; cases z), rfl⟩
          cases r with
          | set x t => exact iteF' rfl (sj_next (no rfl))
          | need t => exact iteF' rfl (sj_next (no rfl))
          | skip t n => exact iteF' rfl (sj_next (no rfl))
          | give t => exact iteF' rfl (sj_next (no rfl))
          | pick x ts => exact iteT' rfl <| sj_set true <| wd_tup3 <| wd_str <| wd_lf <| wd_op <| wd_var rfl <| wd_int <| rd_ixT (d := .str x) rfl ⟨rfl, .ofX <| wx_listN <| wd_op <| wd_var rfl <| wd_int <| rd_ixT (d := .list (ts.map Th.d)) rfl ⟨_, rfl, ths_lf ts, fun a => ⟨_, rfl, true, fun _ => rfl, rfl⟩⟩⟩
        rintro _ ⟨m, hm, rfl⟩
        refine sj_app (i := 1) (m := true) (l := l) (ds := (p.rows.take i).map Rw.d) rfl (by rw [List.length_map, List.length_take]; omega) ?_
        have fin : ∃ s2, [Sl.dat false p.d, .ml true l ((p.rows.take i).map Rw.d ++ [r.d]), .dat m r.d] = [.dat false p.d, .ml true l ((p.rows.take (i + 1)).map Rw.d), s2] := ⟨_, by rw [tk]⟩
        cases m with
        | true => exact wd_var (d := r.d) rfl fin
        | false =>
          have h : isPk r = false := by
            cases h : isPk r with
            | false => rfl
            | true => exact absurd (hm h) (by decide)
          exact wd_lf (wd_var (d := r.d) rfl ⟨rw_lf h, fin⟩)
    · rintro Γ' ⟨s2, rfl⟩
      rw [List.length_map, List.take_length]
      exact ⟨s2, rfl⟩
  rintro _ ⟨s2, rfl⟩
  refine sj_frz 1 (l := l) (m := true) (ds := p.rows.map Rw.d) rfl ?_
  exact sj_retD true <| wd_tup3 <| wd_lf <| wd_op <| wd_var rfl <| wd_int <| rd_ixT (d := .int p.m) rfl ⟨rfl, .ofX <| wx_listN <| wd_op <| wd_var rfl <| wd_int <| rd_pgB ⟨_, rfl, bs_lf p.bs, fun a => ⟨_, rfl, wd_var (d := .list (p.rows.map Rw.d)) rfl ⟨keep_dat keep_nil, q⟩⟩⟩⟩
theorem ok_isthing (D : Def K mg "_law_is_thing" s_l_is_thing ["thing", "m", "boxes", "deep"]) (m_range : mg "range" = none) (m_len : mg "len" = none) (m_isinstance : mg "isinstance" = none) (m_tuple : mg "tuple" = none) (m_bool : mg "bool" = none) : ∀ n, Cal P K.w K mg base CX0 (k + n) "_law_is_thing" ["thing", "m", "boxes", "deep"] (spG K (T_isthing n K))
  | 0 => by
    refine (cal_no D).imp fun vs H Q E h => ?_
    obtain ⟨_, _, _, _, _, _, _, _, _, ⟨t, m, bs, deep, _, _, h0, h1, _, _⟩, _⟩ := h
    have : deep = 0 := by omega
    subst this
    cases h0
  | n + 1 => by
    have ih := ok_isthing D m_range m_len m_isinstance m_tuple m_bool n
    refine cal_g D sc_l_is_thing (fun Γ Qr ⟨t, m, bs, deep, e, _⟩ => by subst e; exact ⟨rfl, noMl_dat (noMl_dat (noMl_dat (noMl_dat noMl_nil)))⟩) fun f cdv A outer s H E hr => ⟨_, wk_l_is_thing ih m_len m_isinstance m_bool m_range m_tuple f cdv A outer s H E hr, ?_⟩
    rintro Γ Qr ⟨t, m, bs, deep, rfl, hmb, hok, hdn, h4, q⟩
    obtain ⟨dd, rfl⟩ : ∃ dd, deep = dd + 1 := ⟨deep - 1, by cases deep with | zero => cases hok | succ d => rfl⟩
    have hm16 := hmb.m16
    have kp : ∀ {Γ'}, Keep [.dat false t.d, .dat false (.int m), .dat false (bsD bs), .dat false (.int (dd + 1 : Nat))] (.dat false t.d :: .dat false (.int m) :: .dat false (bsD bs) :: .dat false (.int (dd + 1 : Nat)) :: Γ') := fun {Γ'} => keep_dat (keep_dat (keep_dat (keep_dat keep_nil)))
    have hty : isTy t.d "tuple" = true := by cases t <;> rfl
    have hne : PyData.eqv t.d (.tuple []) = false := by cases t <;> rfl
    have hsh : SeqAt.shaped t.d = true := sh_of (n := 4) (Th.dep hmb.bs.nm (hok.mono h4)) (by decide)
    show SJ K [.dat false t.d, .dat false (.int m), .dat false (bsD bs), .dat false (.int (dd + 1 : Nat))] (t_l_is_thing K _) _
    unfold t_l_is_thing
    refine sj_seq <| sj_if <| wt_or <| wt_not <| wt_B <| wd_isi (by decide) <| wd_var rfl ⟨_, rfl, iteF' (by rw [hty]; rfl) ?_⟩
    refine wt_or <| wt_test <| wd_op <| wd_var rfl <| wd_tup0 <| rd_eq hsh (by decide +kernel) ⟨_, rfl, iteF' hne ?_⟩
    refine wt_test <| wd_op <| wd_var rfl <| wd_int <| rd_eq sh_int sh_int ⟨_, rfl, ?_⟩
    rw [eqv_int, decide_eq_false (by omega)]
    refine iteF' rfl <| sj_next <| sj_seq <| sj_if <| wt_test <| wd_op <| wd_op <| wd_var rfl <| wd_int <| rd_th0 <| wd_str <| rd_eq (sh_str t.w_ok) (sh_str (ok_w (by simp))) ⟨_, rfl, ?_⟩
    rw [Th.eqN]
    cases t with
    | num n =>
      have hn : n < m := hok
      refine iteT' rfl <| sj_retD true <| wd_andV <| wd_op <| wd_cb1 <| wd_var rfl <| rc_lenT <| wd_int <| rd_eq sh_int sh_int ⟨_, rfl, iteT' rfl ?_⟩
      refine wd_andV <| wd_rgIn1 <| wd_op <| wd_var rfl <| wd_int <| rd_ixT (d := .int n) rfl ⟨_, rfl, wd_var rfl ⟨_, rfl, _, rfl, iteT' (by simp; omega) ?_⟩⟩
      exact wd_notV <| wd_isi (by decide) <| wd_op <| wd_var rfl <| wd_int <| rd_ixT (d := .int n) rfl ⟨_, rfl, kp, q⟩
    | box x =>
      have hx : x ∈ bs := hok
      refine iteF' rfl <| sj_next <| sj_seq <| sj_if <| wt_test <| wd_op <| wd_op <| wd_var rfl <| wd_int <| rd_th0 <| wd_str <| rd_eq (sh_str (Th.w_ok (.box x))) (sh_str (ok_w (by simp))) ⟨_, rfl, ?_⟩
      rw [Th.eqB]
      refine iteT' rfl <| sj_retD true <| wd_andV <| wd_op <| wd_cb1 <| wd_var rfl <| rc_lenT <| wd_int <| rd_eq sh_int sh_int ⟨_, rfl, iteT' rfl ?_⟩
      refine wd_lf <| wd_op <| wd_op <| wd_var rfl <| wd_int <| rd_ixT (d := .str x) rfl <| wd_var rfl <| rd_in (sh_str (hmb.bs.nm x hx).strOk) (bs_sh hmb.bs.nm) ⟨rfl, ?_⟩
      rw [in_bs hx]
      exact ⟨kp, q⟩
    | op o a b =>
      refine iteF' rfl <| sj_next <| sj_seq <| sj_if <| wt_test <| wd_op <| wd_op <| wd_var rfl <| wd_int <| rd_th0 <| wd_str <| rd_eq (sh_str (Th.w_ok (.op o a b))) (sh_str (ok_w (by simp))) ⟨_, rfl, ?_⟩
      rw [Th.eqB]
      refine iteF' rfl <| sj_next <| sj_seq <| sj_if <| wt_or <| wt_test <| wd_op <| wd_op <| wd_var rfl <| wd_int <| rd_th0 (t := .op o a b) <| wd_tup <| wa_d <| wd_str <| wa_d <| wd_str <| wa_d <| wd_str <| wa_d <| wd_str <| wa_nil ⟨_, rfl, le_lit rfl, rd_notInT (sh_str (op_ok o)) (by decide +kernel) ⟨_, rfl, iteF' ?_ ?_⟩⟩
      · rw [show (Th.op o a b).w = o.w from rfl]
        have e : ∀ u : Op, PyData.eqv (.str u.w) (.str o.w) = decide (u = o) := fun u => Op.eqW u o
        show (!(PyData.eqv (.str Op.plus.w) (.str o.w) || (PyData.eqv (.str Op.times.w) (.str o.w) || (PyData.eqv (.str Op.less.w) (.str o.w) || (PyData.eqv (.str Op.same.w) (.str o.w) || false))))) = false
        rw [e, e, e, e]
        cases o <;> rfl
      refine wt_test <| wd_op <| wd_cb1 <| wd_var rfl <| rc_lenT <| wd_int <| rd_ne sh_int sh_int ⟨_, rfl, iteF' rfl <| sj_next ?_⟩
      have hd1 : ((dd + 1 : Nat) : Int) - 1 = (dd : Int) := by omega
      refine sj_retD true <| wd_andV <| wd_call4 <| wd_op <| wd_var rfl <| wd_int <| rd_ixT (d := a.d) rfl <| wd_var rfl <| wd_var rfl <| wd_op <| wd_var rfl <| wd_int <| rd_sub ?_
      rw [hd1]
      refine ⟨a, m, bs, dd, rfl, hmb, hok.1, by omega, by omega, asD_new ⟨_, rfl, iteT' rfl ?_⟩⟩
      refine wd_call4 <| wd_op <| wd_var rfl <| wd_int <| rd_ixT (d := b.d) rfl <| wd_var rfl <| wd_var rfl <| wd_op <| wd_var rfl <| wd_int <| rd_sub ?_
      rw [hd1]
      exact ⟨b, m, bs, dd, rfl, hmb, hok.2, by omega, by omega, asD_new ⟨kp, q⟩⟩
end
end Dk
end
section
set_option Elab.async false
set_option linter.all false
set_option maxRecDepth 100000
set_option pp.maxSteps 600
open PySem L2 Pk
local macro_rules | `(tactic| walk_at "sh") => `(tactic| first | exact sh_int | exact sh_bool | exact sh_non | exact sh_nil | exact sh_str (by decide +kernel) | assumption)
local macro_rules | `(tactic| walk_at "v1") => `(tactic| first
  | (with_reducible refine wd_int ?_) | (with_reducible refine wd_str ?_) | (with_reducible refine wd_bl ?_) | (with_reducible refine wd_non ?_)
  | ((with_reducible apply wd_var); exact rfl) | ((with_reducible apply wd_varN); exact rfl)
  | ((with_reducible apply wd_ixm); exact rfl)
  | ((with_reducible apply wd_lenM); exact rfl) | ((with_reducible apply wd_lenScript); exact rfl) | ((with_reducible apply wd_ixScript); exact rfl)
  | (with_reducible refine wd_op ?_) | (with_reducible refine wd_un ?_)
  | (with_reducible refine rd_add ?_) | (with_reducible refine rd_sub ?_) | (with_reducible refine rd_lt ?_) | (with_reducible refine rd_le ?_) | (with_reducible refine rd_gt ?_) | (with_reducible refine rd_ge ?_) | (with_reducible refine ru_neg ?_)
  | ((with_reducible refine rd_eq ?ev_h ?ev_k ?_); (case ev_h => walk_at "sh"); (case ev_k => walk_at "sh")) | ((with_reducible refine rd_ne ?ev_h ?ev_k ?_); (case ev_h => walk_at "sh"); (case ev_k => walk_at "sh"))
  | ((with_reducible refine rd_mod ?ev_h ?_); case ev_h => first | decide | assumption | omega) | ((with_reducible refine rd_div ?ev_h ?ev_k ?_); (case ev_h => first | decide | assumption | omega); (case ev_k => first | decide | assumption | omega))
  | ((with_reducible refine rd_pow ?ev_h ?_); case ev_h => exact ⟨by decide, by decide, by decide⟩)
  | ((with_reducible refine rd_mul ?ev_h ?_); case ev_h => first | exact .inr ⟨by decide, by decide⟩ | exact .inl ⟨by decide, by decide⟩ | exact .inl ⟨by omega, by omega⟩ | exact .inr ⟨by omega, by omega⟩)
  | (with_reducible refine rc_lenL ?_) | (with_reducible refine rc_lenT ?_) | (with_reducible refine rc_max2 ?_) | (with_reducible refine rc_min2 ?_) | (with_reducible refine rc_intB ?_) | (with_reducible refine rc_intI ?_) | (with_reducible refine rc_listL ?_) | (with_reducible refine rc_listT ?_) | (with_reducible refine rc_tupleL ?_)
  | ((with_reducible apply rd_ixT); exact rfl)
  | ((with_reducible apply rd_ixL); exact rfl)
  | ((with_reducible refine wd_isi ?ev_h ?_); case ev_h => decide) | ((with_reducible refine wd_isi2 ?ev_h ?ev_k ?_); (case ev_h => decide); (case ev_k => decide))
  | (with_reducible refine wd_tup2 ?_) | (with_reducible refine wd_tup1 ?_) | (with_reducible refine wd_tup3 ?_) | (with_reducible refine wd_tup0 ?_)
  | (with_reducible refine wd_lst0 ?_) | (with_reducible refine wd_lst1 ?_) | (with_reducible refine wd_lst2 ?_) | (with_reducible refine wd_lst3 ?_) | (with_reducible refine wd_lst4 ?_) | (with_reducible refine wd_lst5 ?_) | (with_reducible refine wd_lst6 ?_)
  | ((with_reducible apply wd_callO0); exact rfl) | ((with_reducible apply wd_callO1); exact rfl) | ((with_reducible apply wd_callO2); exact rfl) | ((with_reducible apply wd_callO3); exact rfl)
  | (with_reducible refine wd_call1 ?_) | (with_reducible refine wd_call2 ?_) | (with_reducible refine wd_call3 ?_) | (with_reducible refine wd_call4 ?_) | (with_reducible refine wd_call0 ?_)
  | (with_reducible refine wd_cb1 ?_) | (with_reducible refine wd_cb2 ?_)
  | (with_reducible refine wd_rev ?_) | (with_reducible refine wd_lrg1 ?_) | (with_reducible refine wd_sl ?_) | (with_reducible refine wo_no ?_) | (with_reducible refine wo_some ?_)
  | (with_reducible refine wd_andV ?_) | (with_reducible refine wd_orV ?_) | (with_reducible refine wd_notV ?_) | (with_reducible refine wd_if ?_) | (with_reducible refine wd_chain ?_)
  | (with_reducible refine wt_test ?_) | (with_reducible refine wt_B ?_) | (with_reducible refine wt_not ?_) | (with_reducible refine wt_and ?_) | (with_reducible refine wt_or ?_) | (with_reducible refine wt_yes ?_)
  | (with_reducible refine gj_name ?_) | (with_reducible refine gj_tup rfl ?_) | (with_reducible refine gjs_cons ?_) | (with_reducible refine gjs_nil ?_))
local macro_rules | `(tactic| walk_at "v") => `(tactic| repeat walk_at "v1")
local macro_rules | `(tactic| walk_at "x") => `(tactic| refine ⟨_, rfl, ?_⟩)
local macro_rules | `(tactic| walk_at "vx") => `(tactic| repeat (first | walk_at "v1" | (with_reducible refine ⟨_, rfl, ?_⟩)))
namespace Dk
open PySem PySem.Spec PyProof.Rows L2 Pk Sy
section
variable {K : Kw} {m : Bool} {Γ : List Sl} {Q : PyData → Prop} {t : TE}
theorem wd_slRw {r : Rw} (h : WD K m Γ t fun d => d = r.d ∧ Q (.tuple [rlast r])) : WD K m Γ (tSl (rSlA K) t (tPart (tUn dNeg (tC (.int 1)))) tNoPart) Q := by
  cases r <;> exact wd_slT (h.mono fun d ⟨e, q⟩ => ⟨_, e, wo_some (wd_un (wd_int (ru_neg ⟨_, rfl, wo_no q⟩)))⟩)
theorem bsV_nb (bs : List Str) : NB (bsD bs) := .lst fun x hx => by
  obtain ⟨b, _, rfl⟩ := List.mem_map.mp hx
  exact .str _
theorem five (k : Kd) : (([PyData.str "set", .str "pick", .str "need", .str "skip", .str "give"]).any fun z => PyData.eqv z (.str k.w)) = true := by cases k <;> decide +kernel
theorem bools_sh (n : Nat) : SeqAt.shaped (.list (List.replicate n (PyData.bool true))) = true := sh_of (n := 1) (fun x hx => by
  rw [(List.mem_replicate.mp hx).2]
  exact True.intro) (by decide)
end
theorem Gl.lenV {m : Nat} {bs : List Str} {rs : List Rw} {st cs l : List Nat} {e : Wy} (h : Gl m bs rs st cs e l) : cs.length ≤ rs.length := by
  induction h with
  | nil => exact Nat.zero_le _
  | set _ ih => simp only [List.length_cons]; omega
  | pick _ _ ih => simp only [List.length_cons]; omega
  | need0 _ => exact Nat.zero_le _
  | need1 _ _ ih => simp only [List.length_cons]; omega
  | skip0 _ _ ih => simp only [List.length_cons]; omega
  | skip1 _ _ ih => rw [List.length_drop] at ih; simp only [List.length_cons]; omega
  | give => exact Nat.zero_le _
section
variable {P : Program} {K : Kw} {mg : Str → Option Value} {base : Heap} {k : Nat}
theorem ok_isrow (D : Def K mg "_law_is_row" s_l_is_row ["row", "m", "boxes"]) (c_thing : Cal P K.w K mg base CX0 k "_law_is_thing" ["thing", "m", "boxes", "deep"] (spG K (T_isthing 4 K))) (m_len : mg "len" = none) (m_isinstance : mg "isinstance" = none) (m_list : mg "list" = none) (m_bool : mg "bool" = none) (m_range : mg "range" = none) (m_tuple : mg "tuple" = none) : Cal P K.w K mg base CX0 (k + 1) "_law_is_row" ["row", "m", "boxes"] (spG K (T_isrow K)) := by
  refine cal_g D sc_l_is_row (fun Γ Qr ⟨r, m, bs, e, _⟩ => by subst e; exact ⟨rfl, noMl_dat (noMl_dat (noMl_dat noMl_nil))⟩) fun f cdv A outer s H E hr => ⟨_, wk_l_is_row c_thing m_len m_isinstance m_list m_bool m_range m_tuple f cdv A outer s H E hr, ?_⟩
  rintro Γ Qr ⟨r, m, bs, rfl, hmb, hok, q⟩
  have hb := hmb.bs.nm
  have kp : ∀ {Γ'}, Keep [.dat false r.d, .dat false (.int m), .dat false (bsD bs)] (.dat false r.d :: .dat false (.int m) :: .dat false (bsD bs) :: Γ') := fun {Γ'} => keep_dat (keep_dat (keep_dat keep_nil))
  have hty : isTy r.d "tuple" = true := by cases r <;> rfl
  have hne : PyData.eqv r.d (.tuple []) = false := by cases r <;> rfl
  have hsh : SeqAt.shaped r.d = true := sh_of (n := 6) (Rw.dep hb hok) (by decide)
  have hths : ∀ t ∈ rths r, t.Ok m bs 4 := fun t ht => by
    cases r with
    | set x t0 => rw [List.mem_singleton.mp ht]; exact hok.2
    | pick x ts => exact hok.2.2.2 t ht
    | need t0 => rw [List.mem_singleton.mp ht]; exact hok
    | skip t0 n => rw [List.mem_singleton.mp ht]; exact hok.1
    | give t0 => rw [List.mem_singleton.mp ht]; exact hok
  have hlen : 1 ≤ (rths r).length ∧ (rths r).length ≤ 5 := by
    cases r with
    | pick x ts => exact ⟨hok.2.1, hok.2.2.1⟩
    | _ => exact ⟨Nat.le_refl 1, by show 1 ≤ 5; decide⟩
  show SJ K [.dat false r.d, .dat false (.int m), .dat false (bsD bs), .no, .no, .no] (t_l_is_row K _) _
  unfold t_l_is_row
  refine sj_seq <| sj_if <| wt_or <| wt_not <| wt_B <| wd_isi (by decide) <| wd_var rfl ⟨_, rfl, iteF' (by rw [hty]; rfl) ?_⟩
  refine wt_test <| wd_op <| wd_var rfl <| wd_tup0 <| rd_eq hsh (by decide +kernel) ⟨_, rfl, iteF' hne <| sj_next ?_⟩
  refine sj_seq <| sj_set false <| wd_cb1 <| wd_slRw (r := r) <| wd_var rfl ⟨rfl, rc_listT ?_⟩
  show SJ K [.dat false r.d, .dat false (.int m), .dat false (bsD bs), .dat false (.list [rlast r]), .no, .no] _ _
  refine sj_cut (fun Γ' => Γ' = [.dat false r.d, .dat false (.int m), .dat false (bsD bs), .dat false (.list (rmid r)), .no, .no]) (sj_if <| wt_test <| wd_op <| wd_op <| wd_var rfl <| wd_int <| rd_rk <| wd_str <| rd_w (b := .pick) ⟨_, rfl, ?_⟩) ?_
  · cases r with
    | pick x ts => exact iteT' rfl <| sj_set false <| wd_op <| wd_var rfl <| wd_un <| wd_int <| ru_neg <| rd_ixT (d := .list (ts.map Th.d)) rfl rfl
    | _ => exact iteF' rfl (sj_next rfl)
  rintro _ rfl
  refine sj_cut (fun Γ' => Γ' = [.dat false r.d, .dat false (.int m), .dat false (bsD bs), .dat false (.list ((rths r).map Th.d)), .no, .no]) (sj_if <| wt_test <| wd_op <| wd_op <| wd_var rfl <| wd_int <| rd_rk <| wd_str <| rd_w (b := .skip) ⟨_, rfl, ?_⟩) ?_
  · cases r with
    | skip t n =>
      have h1 := hok.2.1
      have h2 := hok.2.2
      refine iteT' rfl <| sj_seq <| sj_set false <| wd_cb1 <| wd_slT <| wd_var rfl ⟨_, rfl, wo_some <| wd_int ⟨_, rfl, wo_some <| wd_int ⟨_, rfl, rc_listT ?_⟩⟩⟩
      refine sj_if <| wt_or <| wt_B <| wd_rgIn2 <| wd_op <| wd_var rfl <| wd_int <| rd_ixT (d := .int n) rfl ⟨_, rfl, wd_int ⟨_, rfl, wd_int ⟨_, rfl, _, rfl, iteF' (by simp; omega) ?_⟩⟩⟩
      exact wt_B <| wd_isi (by decide) <| wd_op <| wd_var rfl <| wd_int <| rd_ixT (d := .int n) rfl ⟨_, rfl, iteF' rfl <| sj_next rfl⟩
    | _ => exact iteF' rfl (sj_next rfl)
  rintro _ rfl
  refine sj_seq <| sj_if <| wt_or <| wt_not <| wt_B <| wd_isi (by decide) <| wd_var rfl ⟨_, rfl, iteF' rfl ?_⟩
  refine wt_not <| wt_test <| wd_chain <| wd_int <| wd_cb1 <| wd_var rfl <| rc_lenL <| rd_le ⟨_, rfl, iteT' (decide_eq_true (by rw [List.length_map]; omega)) <| wd_int <| rd_le ⟨_, rfl, _, rfl, ?_⟩⟩
  rw [List.length_map, decide_eq_true (show ((rths r).length : Int) ≤ 5 by omega)]
  refine iteF' rfl <| sj_next <| sj_seq <| sj_if <| WT.mono (?_ : WT K _ _ fun b => b = false) fun b hb => ?_
  · cases r with
    | set x t => exact wt_or <| wt_and <| wt_test <| wd_op <| wd_op <| wd_var rfl <| wd_int <| rd_ixT (d := .str "set") rfl <| wd_tup3 <| wd_str <| wd_str <| wd_str <| rd_inT (by decide +kernel) (by decide +kernel) ⟨_, rfl, iteT' (by decide +kernel) <| wt_test <| wd_op <| wd_cb1 <| wd_var rfl <| rc_lenT <| wd_int <| rd_ne sh_int sh_int ⟨_, rfl, iteF' rfl <| wt_and <| wt_test <| wd_op <| wd_op <| wd_var rfl <| wd_int <| rd_ixT (d := .str "set") rfl <| wd_tup2 <| wd_str <| wd_str <| rd_inT (by decide +kernel) (by decide +kernel) ⟨_, rfl, iteF' (by decide +kernel) rfl⟩⟩⟩
    | pick x ts => exact wt_or <| wt_and <| wt_test <| wd_op <| wd_op <| wd_var rfl <| wd_int <| rd_ixT (d := .str "pick") rfl <| wd_tup3 <| wd_str <| wd_str <| wd_str <| rd_inT (by decide +kernel) (by decide +kernel) ⟨_, rfl, iteT' (by decide +kernel) <| wt_test <| wd_op <| wd_cb1 <| wd_var rfl <| rc_lenT <| wd_int <| rd_ne sh_int sh_int ⟨_, rfl, iteF' rfl <| wt_and <| wt_test <| wd_op <| wd_op <| wd_var rfl <| wd_int <| rd_ixT (d := .str "pick") rfl <| wd_tup2 <| wd_str <| wd_str <| rd_inT (by decide +kernel) (by decide +kernel) ⟨_, rfl, iteF' (by decide +kernel) rfl⟩⟩⟩
    | skip t n => exact wt_or <| wt_and <| wt_test <| wd_op <| wd_op <| wd_var rfl <| wd_int <| rd_ixT (d := .str "skip") rfl <| wd_tup3 <| wd_str <| wd_str <| wd_str <| rd_inT (by decide +kernel) (by decide +kernel) ⟨_, rfl, iteT' (by decide +kernel) <| wt_test <| wd_op <| wd_cb1 <| wd_var rfl <| rc_lenT <| wd_int <| rd_ne sh_int sh_int ⟨_, rfl, iteF' rfl <| wt_and <| wt_test <| wd_op <| wd_op <| wd_var rfl <| wd_int <| rd_ixT (d := .str "skip") rfl <| wd_tup2 <| wd_str <| wd_str <| rd_inT (by decide +kernel) (by decide +kernel) ⟨_, rfl, iteF' (by decide +kernel) rfl⟩⟩⟩
    | need t => exact wt_or <| wt_and <| wt_test <| wd_op <| wd_op <| wd_var rfl <| wd_int <| rd_ixT (d := .str "need") rfl <| wd_tup3 <| wd_str <| wd_str <| wd_str <| rd_inT (by decide +kernel) (by decide +kernel) ⟨_, rfl, iteF' (by decide +kernel) <| iteF' rfl <| wt_and <| wt_test <| wd_op <| wd_op <| wd_var rfl <| wd_int <| rd_ixT (d := .str "need") rfl <| wd_tup2 <| wd_str <| wd_str <| rd_inT (by decide +kernel) (by decide +kernel) ⟨_, rfl, iteT' (by decide +kernel) <| wt_test <| wd_op <| wd_cb1 <| wd_var rfl <| rc_lenT <| wd_int <| rd_ne sh_int sh_int ⟨_, rfl, rfl⟩⟩⟩
    | give t => exact wt_or <| wt_and <| wt_test <| wd_op <| wd_op <| wd_var rfl <| wd_int <| rd_ixT (d := .str "give") rfl <| wd_tup3 <| wd_str <| wd_str <| wd_str <| rd_inT (by decide +kernel) (by decide +kernel) ⟨_, rfl, iteF' (by decide +kernel) <| iteF' rfl <| wt_and <| wt_test <| wd_op <| wd_op <| wd_var rfl <| wd_int <| rd_ixT (d := .str "give") rfl <| wd_tup2 <| wd_str <| wd_str <| rd_inT (by decide +kernel) (by decide +kernel) ⟨_, rfl, iteT' (by decide +kernel) <| wt_test <| wd_op <| wd_cb1 <| wd_var rfl <| rc_lenT <| wd_int <| rd_ne sh_int sh_int ⟨_, rfl, rfl⟩⟩⟩
  subst hb
  refine iteF' rfl <| sj_next <| sj_seq <| sj_if <| WT.mono (?_ : WT K _ _ fun b => b = false) fun b hb => ?_
  · have no : ∀ y : Str, y ∈ bs → (!(bs.map PyData.str).any fun z => PyData.eqv z (.str y)) = false := fun y hy => by rw [in_bs hy]; rfl
    cases r with
    | set x t => exact wt_and <| wt_test <| wd_op <| wd_op <| wd_var rfl <| wd_int <| rd_ixT (d := .str "set") rfl <| wd_tup2 <| wd_str <| wd_str <| rd_inT (by decide +kernel) (by decide +kernel) ⟨_, rfl, iteT' (by decide +kernel) <| wt_test <| wd_op <| wd_op <| wd_var rfl <| wd_int <| rd_ixT (d := .str x) rfl <| wd_var rfl <| rd_notIn (sh_str (hb x hok.1).strOk) (bs_sh hb) ⟨_, rfl, no x hok.1⟩⟩
    | pick x ts => exact wt_and <| wt_test <| wd_op <| wd_op <| wd_var rfl <| wd_int <| rd_ixT (d := .str "pick") rfl <| wd_tup2 <| wd_str <| wd_str <| rd_inT (by decide +kernel) (by decide +kernel) ⟨_, rfl, iteT' (by decide +kernel) <| wt_test <| wd_op <| wd_op <| wd_var rfl <| wd_int <| rd_ixT (d := .str x) rfl <| wd_var rfl <| rd_notIn (sh_str (hb x hok.1).strOk) (bs_sh hb) ⟨_, rfl, no x hok.1⟩⟩
    | skip t n => exact wt_and <| wt_test <| wd_op <| wd_op <| wd_var rfl <| wd_int <| rd_ixT (d := .str "skip") rfl <| wd_tup2 <| wd_str <| wd_str <| rd_inT (by decide +kernel) (by decide +kernel) ⟨_, rfl, iteF' (by decide +kernel) rfl⟩
    | need t => exact wt_and <| wt_test <| wd_op <| wd_op <| wd_var rfl <| wd_int <| rd_ixT (d := .str "need") rfl <| wd_tup2 <| wd_str <| wd_str <| rd_inT (by decide +kernel) (by decide +kernel) ⟨_, rfl, iteF' (by decide +kernel) rfl⟩
    | give t => exact wt_and <| wt_test <| wd_op <| wd_op <| wd_var rfl <| wd_int <| rd_ixT (d := .str "give") rfl <| wd_tup2 <| wd_str <| wd_str <| rd_inT (by decide +kernel) (by decide +kernel) ⟨_, rfl, iteF' (by decide +kernel) rfl⟩
  subst hb
  refine iteF' rfl <| sj_next <| sj_seq <| sj_set false <| wd_lcMa (mi := false) (α := Th) Th.d (fun _ => .bool true) (wipeOk_no rfl wipeOk_nil) gwn <| wi_list <| wd_var rfl ⟨_, rfl, rths r, rfl, by omega, fun i t ht => gj_name ⟨rfl, wd_call4 <| wd_var rfl <| wd_var rfl <| wd_var rfl <| wd_int ⟨t, m, bs, 4, rfl, hmb, hths t (List.mem_of_getElem? ht), by decide, by decide, asD_new rfl⟩⟩, ?_⟩
  refine sj_retD true <| wd_andV <| wd_op <| wd_op <| wd_var rfl <| wd_int <| rd_rk <| wd_tup <| wa_d <| wd_str <| wa_d <| wd_str <| wa_d <| wd_str <| wa_d <| wd_str <| wa_d <| wd_str <| wa_nil ⟨_, rfl, le_lit rfl, rd_inT (sh_str r.kd.ok) (by decide +kernel) ⟨_, rfl, iteT' (five r.kd) ?_⟩⟩
  have eb : ((rths r).map fun _ => PyData.bool true) = List.replicate (rths r).length (PyData.bool true) := List.map_const' ..
  rw [eb]
  refine wd_lf <| wd_op <| wd_bl <| wd_var rfl <| rd_notIn sh_bool (bools_sh _) ⟨rfl, ?_⟩
  have ea : ((List.replicate (rths r).length (PyData.bool true)).any fun z => PyData.eqv z (.bool false)) = false := by
    rw [List.any_eq_false]
    intro x hx
    rw [(List.mem_replicate.mp hx).2]
    decide
  rw [ea]
  exact ⟨kp, q⟩
theorem ok_isprogV (D : Def K mg "_law_is_program" s_l_is_program ["found", "m", "boxes"]) (c_row : Cal P K.w K mg base CX0 k "_law_is_row" ["row", "m", "boxes"] (spG K (T_isrow K))) (m_len : mg "len" = none) (m_isinstance : mg "isinstance" = none) (m_list : mg "list" = none) (m_tuple : mg "tuple" = none) : Cal P K.w K mg base CX0 (k + 1) "_law_is_program" ["found", "m", "boxes"] (spG K (T_isprogV K)) := by
  refine cal_g D sc_l_is_program (fun Γ Qr ⟨p, e, _⟩ => by subst e; exact ⟨rfl, noMl_dat (noMl_dat (noMl_dat noMl_nil))⟩) fun f cdv A outer s H E hr => ⟨_, wk_l_is_program c_row m_len m_isinstance m_list m_tuple f cdv A outer s H E hr, ?_⟩
  rintro Γ Qr ⟨p, rfl, hp, q⟩
  have h30 := hp.r30
  show SJ K [.dat false p.d, .dat false (.int p.m), .dat false (bsD p.bs), .no] (t_l_is_program K _) _
  unfold t_l_is_program
  refine sj_seq <| sj_if <| wt_or <| wt_not <| wt_B <| wd_isi (by decide) <| wd_var (d := p.d) rfl ⟨_, rfl, iteF' rfl ?_⟩
  refine wt_or <| wt_test <| wd_op <| wd_cb1 <| wd_var (d := p.d) rfl <| rc_lenT <| wd_int <| rd_ne sh_int sh_int ⟨_, rfl, iteF' rfl ?_⟩
  refine wt_or <| wt_test <| wd_op <| wd_op <| wd_var (d := p.d) rfl <| wd_int <| rd_ixT (d := .int p.m) rfl <| wd_var rfl <| rd_neSelf sh_int (.int _) ⟨_, rfl, iteF' rfl ?_⟩
  refine wt_test <| wd_op <| wd_op <| wd_var (d := p.d) rfl <| wd_int <| rd_pgB <| wd_var rfl <| rd_neSelf (bs_sh hp.bs.nm) (bsV_nb p.bs) ⟨_, rfl, iteF' rfl <| sj_next ?_⟩
  refine sj_seq <| sj_if <| wt_or <| wt_not <| wt_B <| wd_isi (by decide) <| wd_op <| wd_var (d := p.d) rfl <| wd_int <| rd_pgB ⟨_, rfl, iteF' rfl ?_⟩
  refine wt_or <| wt_not <| wt_B <| wd_isi (by decide) <| wd_op <| wd_var (d := p.d) rfl <| wd_int <| rd_pgR ⟨_, rfl, iteF' rfl ?_⟩
  refine wt_test <| wd_op <| wd_cb1 <| wd_op <| wd_var (d := p.d) rfl <| wd_int <| rd_pgR <| rc_lenL <| wd_int <| rd_gt ⟨_, rfl, ?_⟩
  rw [List.length_map, decide_eq_false (by omega)]
  refine iteF' rfl <| sj_next <| sj_retD true <| wd_lf <| wd_op <| wd_lcPa (mi := false) (α := Rw) Rw.d (fun _ => false) Rw.d (wipeOk_no rfl wipeOk_nil) gwn <| wi_list <| wd_op <| wd_var (d := p.d) rfl <| wd_int <| rd_pgR ⟨_, rfl, p.rows, rfl, by omega, fun i r hr => gj_name ⟨rfl, wt_not <| wt_B <| wd_call3 <| wd_var rfl <| wd_var rfl <| wd_var rfl ⟨r, p.m, p.bs, rfl, ⟨hp.m2, hp.m16, hp.bs⟩, hp.rows r (List.mem_of_getElem? hr), asD_new ⟨_, rfl, rfl, fun h => by cases h⟩⟩⟩, ?_⟩
  rw [show p.rows.filter (fun _ => false) = [] by simp]
  exact wd_lst0 <| rd_eq sh_nil sh_nil ⟨rfl, keep_dat (keep_dat (keep_dat keep_nil)), q⟩
theorem ok_vdue (D : Def K mg "_law_due" s_l_due ["one", "other", "box", "store"]) (c_runs : Cal P K.w K mg base CX0 k "_law_runs" ["program", "store"] (spG K (T_lruns K))) (c_set : Cal P K.w K mg base CX0 k "_law_set" ["program", "store", "box", "worth"] (spG K (T_uset K))) (m_sorted : mg "sorted" = none) : Cal P K.w K mg base CX0 (k + 1) "_law_due" ["one", "other", "box", "store"] (spG K (T_vdue K)) := by
  refine cal_g D sc_l_due (fun Γ Qr ⟨p, q, x, st, e, _⟩ => by subst e; exact ⟨rfl, noMl_dat (noMl_dat (noMl_dat (noMl_dat noMl_nil)))⟩) fun f cdv A outer s H E hr => ⟨_, wk_l_due c_runs c_set m_sorted f cdv A outer s H E hr, ?_⟩
  rintro Γ Qr ⟨p, q, x, st, rfl, hf, hst, hz1, hz2, hz3, qq⟩
  have hp := hf.hp
  have hq := hf.hq
  have hqm : q.m = p.m := hf.hm
  have hfl := flat_fit hf hst
  have hR0 : (rn (after p q x) st).length ≤ 2000 := Nat.le_trans (rn_len hf.ok st) hz3
  show SJ K [.dat false p.d, .dat false q.d, .dat false (.str x), .dat false (stD st), .no, .no, .no, .no, .no, .no, .no, .no] (t_l_due K _ _) _
  unfold t_l_due
  refine sj_seq <| sj_setX <| wx_lst0 false fun lf => ?_
  show SJ K [.dat false p.d, .dat false q.d, .dat false (.str x), .dat false (stD st), .ml false lf (([] : List (List Nat × Wy)).map runD), .no, .no, .no, .no, .no, .no, .no] _ _
  refine sj_cut (fun Γ' => ∃ (fd : List (List Nat × Wy)) (s5 s6 s7 s8 s9 s10 s11 : Sl), fd.Perm (rn (after p q x) st) ∧ Γ' = [.dat false p.d, .dat false q.d, .dat false (.str x), .dat false (stD st), .ml false lf (fd.map runD), s5, s6, s7, s8, s9, s10, s11]) ?_ ?_
  · refine sj_for false <| wi_list <| wd_call2 <| wd_var rfl <| wd_var rfl ⟨p, st, rfl, hp, hst, hz1, fun l rs hL => asD_mln ⟨_, rfl, ?_⟩⟩
    have hall : ((rs.map ce).flatMap (H2 p q x st)).Perm (rn (after p q x) st) := by
      rw [hfl]
      exact List.Perm.flatMap_right _ hL.perm
    refine ⟨fun i Γ' => ∃ (fd : List (List Nat × Wy)) (s5 s6 s7 s8 s9 s10 s11 : Sl), fd.Perm ((rs.take i).flatMap fun y => H2 p q x st (ce y)) ∧ Γ' = [.dat false p.d, .dat false q.d, .dat false (.str x), .dat false (stD st), .ml false lf (fd.map runD), s5, s6, s7, s8, s9, s10, s11], ⟨[], .no, .no, .no, .no, .no, .no, .no, List.Perm.refl _, rfl⟩, ?_, ?_⟩
    · rintro i d Γ' hd ⟨fd, s5, s6, s7, s8, s9, s10, s11, hP, rfl⟩
      rw [List.getElem?_map] at hd
      cases hi : rs[i]? with
      | none => rw [hi] at hd; cases hd
      | some r =>
        rw [hi] at hd
        cases hd
        have g := hL.gl r (List.mem_of_getElem? hi)
        obtain ⟨cs, e, l0⟩ := r
        have htk : ((rs.take (i + 1)).flatMap fun y => H2 p q x st (ce y)) = ((rs.take i).flatMap fun y => H2 p q x st (ce y)) ++ H2 p q x st (cs, e) := by
          rw [List.take_add_one, hi, List.flatMap_append]
          simp [ce]
        have hbound : (((rs.take i).flatMap fun y => H2 p q x st (ce y)) ++ H2 p q x st (cs, e)).length ≤ 2000 := by
          rw [← htk]
          have h1 : ((rs.take (i + 1)).flatMap fun y => H2 p q x st (ce y)).length ≤ (rs.flatMap fun y => H2 p q x st (ce y)).length := by
            conv => rhs; rw [← List.take_append_drop (i + 1) rs]
            rw [List.flatMap_append, List.length_append]
            omega
          have h2 := hall.length_eq
          rw [List.flatMap_map] at h2
          omega
        rw [List.length_append] at hbound
        have hfl := hP.length_eq
        refine gj_tup (n := 3) (ds := [natsD cs, e.d, stD l0]) rfl <| gjs_cons <| gj_name <| gjs_cons <| gj_name <| gjs_cons <| gj_name <| gjs_nil ?_
        show SJ K [.dat false p.d, .dat false q.d, .dat false (.str x), .dat false (stD st), .ml false lf (fd.map runD), .dat false (natsD cs), .dat false e.d, .dat false (stD l0), s8, s9, s10, s11] _ _
        refine sj_if <| wt_test <| wd_op <| wd_op <| wd_var rfl <| wd_int <| rd_w0V <| wd_str <| rd_eq (way0V_sh _) (sh_str (ok_w (by simp))) ⟨_, rfl, ?_⟩
        rcases g.ends with e1 | ⟨w, e1⟩
        · subst e1
          rw [show PyData.eqv (Wy.nothing).w0V (.str "nothing") = true by simp [Wy.w0V, eqv_str]]
          have hh : H2 p q x st (cs, .nothing) = [(cs, .nothing)] := rfl
          rw [hh] at htk hbound
          refine iteT' rfl <| sj_app (i := 4) (m := false) (l := lf) (ds := fd.map runD) rfl (by rw [List.length_map]; omega) <| wd_tup2 <| wd_var (d := natsD cs) rfl <| wd_var (d := (Wy.nothing).d) rfl ⟨fd ++ [(cs, .nothing)], .dat false (natsD cs), .dat false (Wy.nothing).d, .dat false (stD l0), s8, s9, s10, s11, ?_, ?_⟩
          · show (fd ++ [(cs, Wy.nothing)]).Perm ((rs.take (i + 1)).flatMap fun y => H2 p q x st (ce y))
            rw [htk]
            exact List.Perm.append_right _ hP
          · rw [List.map_append]; rfl
        · subst e1
          rw [show PyData.eqv (Wy.gives w).w0V (.str "nothing") = false from (by decide +kernel : PyData.eqv (.str "gives") (.str "nothing") = false)]
          obtain ⟨hw, hl⟩ := g.okS hp.m2 hp.rows hst w rfl
          have hsq : StOk q.m q.bs (put p.bs l0 x w) := by rw [hqm, hf.hb]; exact put_ok hl hw
          have hh : H2 p q x st (cs, .gives w) = (rn q (put p.bs l0 x w)).map (preC cs) := by
            show (rn q (put p.bs (lfS p st cs) x w)).map (preC cs) = _
            rw [lfS_eq g]
          obtain ⟨sq, hsqe⟩ : ∃ sq, put p.bs l0 x w = sq := ⟨_, rfl⟩
          rw [hsqe] at hsq hh
          rw [hh] at htk hbound
          refine iteF' rfl <| sj_seq <| sj_set false <| wd_call4 <| wd_var rfl <| wd_var rfl <| wd_var rfl <| wd_op <| wd_var (d := (Wy.gives w).d) rfl <| wd_int <| rd_ixT (d := .int w) rfl ⟨p, l0, x, w, rfl, hp, hl, hf.hx, asD_new ?_⟩
          rw [hsqe]
          refine sj_for false <| wi_list <| wd_call2 <| wd_var rfl <| wd_var rfl ⟨q, sq, rfl, hq, hsq, hz2, fun l2 rs2 hL2 => asD_mln ⟨_, rfl, ?_⟩⟩
          have hln : (rs2.map ce).length = (rn q sq).length := hL2.perm.length_eq
          rw [List.length_map] at hln
          rw [List.length_map] at hbound
          refine ⟨fun j Γ' => ∃ (fd' : List (List Nat × Wy)) (s9 s10 s11 : Sl), fd' = fd ++ (rs2.take j).map (fun y => preC cs (ce y)) ∧ Γ' = [.dat false p.d, .dat false q.d, .dat false (.str x), .dat false (stD st), .ml false lf (fd'.map runD), .dat false (natsD cs), .dat false (Wy.gives w).d, .dat false (stD l0), .dat false (stD sq), s9, s10, s11], ⟨fd, _, _, _, by simp, rfl⟩, ?_, ?_⟩
          · rintro j d Γ' hd ⟨fd', s9, s10, s11, rfl, rfl⟩
            rw [List.getElem?_map] at hd
            cases hj : rs2[j]? with
            | none => rw [hj] at hd; cases hd
            | some y =>
              rw [hj] at hd
              cases hd
              have hjl : j < rs2.length := (List.getElem?_eq_some_iff.mp hj).1
              have g2 := hL2.gl y (List.mem_of_getElem? hj)
              obtain ⟨c2, e2, l2⟩ := y
              have hc1 : cs.length ≤ p.rows.length := g.lenV
              have hc2 : c2.length ≤ q.rows.length := g2.lenV
              have h30p := hp.r30
              have h30q := hq.r30
              refine gj_tup (n := 3) (ds := [natsD c2, e2.d, stD l2]) rfl <| gjs_cons <| gj_name <| gjs_cons <| gj_name <| gjs_cons <| gj_name <| gjs_nil ?_
              refine sj_app (i := 4) (m := false) (l := lf) (ds := (fd ++ (rs2.take j).map (fun y => preC cs (ce y))).map runD) rfl (by rw [List.length_map, List.length_append, List.length_map, List.length_take]; omega) <| wd_tup2 <| wd_op <| wd_var (d := natsD cs) rfl <| wd_var (d := natsD c2) rfl <| rd_cat (by rw [List.length_map, List.length_map]; omega) <| wd_var (d := e2.d) rfl ?_
              refine ⟨fd ++ (rs2.take (j + 1)).map (fun y => preC cs (ce y)), .dat false (natsD c2), .dat false e2.d, .dat false (stD l2), rfl, ?_⟩
              have e9 : (fd ++ (rs2.take (j + 1)).map (fun y => preC cs (ce y))).map runD = (fd ++ (rs2.take j).map (fun y => preC cs (ce y))).map runD ++ [.tuple [.list ((cs.map fun (n : Nat) => PyData.int n) ++ c2.map fun (n : Nat) => PyData.int n), e2.d]] := by
                rw [List.take_add_one, hj]
                simp [runD, preC, ce, natsD]
              rw [e9]
              rfl
          · rintro Γ' ⟨fd', s9, s10, s11, rfl, rfl⟩
            rw [List.length_map, List.take_length]
            refine ⟨_, _, _, _, _, s9, s10, s11, ?_, rfl⟩
            rw [htk]
            refine List.Perm.append hP ?_
            have := hL2.perm.map (preC cs)
            rw [List.map_map] at this
            exact this
    · rintro Γ' ⟨fd, s5, s6, s7, s8, s9, s10, s11, hP, rfl⟩
      rw [List.length_map, List.take_length] at hP
      rw [List.flatMap_map] at hall
      exact ⟨fd, _, _, _, _, _, _, _, hP.trans hall, rfl⟩
  rintro _ ⟨fd, s5, s6, s7, s8, s9, s10, s11, hP, rfl⟩
  have hends : ∀ r ∈ rn (after p q x) st, r.2.isPl = false := fun r hr => ((runs_all hf.ok 30 (poe (after p q x) 0 st) (by omega) (poe_ok hst)).1 r hr).end
  have hap := (runs_all hf.ok 30 (poe (after p q x) 0 st) (by omega) (poe_ok hst)).2.1
  have hfe : ∀ r ∈ fd, r.2.isPl = false := fun r hr => hends r (hP.mem_iff.mp hr)
  have hlen := hP.length_eq
  refine sj_frz 4 (l := lf) (m := false) (ds := fd.map runD) rfl <| sj_retD false <| wd_cb1 <| wd_var rfl <| rc_sorted (runs_shV _) (fun d hd d' hd' => ?_) (.inl fun d hd => ?_) (by rw [List.length_map]; omega) (fun d hd => ?_) fun es h1 h2 => ?_
  · obtain ⟨a, ha, rfl⟩ := List.mem_map.mp hd
    obtain ⟨b, hb, rfl⟩ := List.mem_map.mp hd'
    exact run_alike (hfe a ha) (hfe b hb)
  · obtain ⟨a, _, rfl⟩ := List.mem_map.mp hd
    exact ⟨_, _, rfl⟩
  · obtain ⟨a, _, rfl⟩ := List.mem_map.mp hd
    exact run_depthV _
  · rw [sorted_eq hap hends (h1.trans (hP.map runD)) h2]
    exact ⟨keep_dat (keep_dat (keep_dat (keep_dat keep_nil))), qq⟩
end
end Dk
end
section
set_option Elab.async false
set_option linter.all false
set_option maxRecDepth 100000
set_option pp.maxSteps 600
open PySem L2 Pk
local macro_rules | `(tactic| walk_at "sh") => `(tactic| first | exact sh_int | exact sh_bool | exact sh_non | exact sh_nil | exact sh_str (by decide +kernel) | assumption)
local macro_rules | `(tactic| walk_at "v1") => `(tactic| first
  | (with_reducible refine wd_int ?_) | (with_reducible refine wd_str ?_) | (with_reducible refine wd_bl ?_) | (with_reducible refine wd_non ?_)
  | ((with_reducible apply wd_var); exact rfl) | ((with_reducible apply wd_varN); exact rfl)
  | ((with_reducible apply wd_ixm); exact rfl)
  | ((with_reducible apply wd_lenM); exact rfl) | ((with_reducible apply wd_lenScript); exact rfl) | ((with_reducible apply wd_ixScript); exact rfl)
  | (with_reducible refine wd_op ?_) | (with_reducible refine wd_un ?_)
  | (with_reducible refine rd_add ?_) | (with_reducible refine rd_sub ?_) | (with_reducible refine rd_lt ?_) | (with_reducible refine rd_le ?_) | (with_reducible refine rd_gt ?_) | (with_reducible refine rd_ge ?_) | (with_reducible refine ru_neg ?_)
  | ((with_reducible refine rd_eq ?ev_h ?ev_k ?_); (case ev_h => walk_at "sh"); (case ev_k => walk_at "sh")) | ((with_reducible refine rd_ne ?ev_h ?ev_k ?_); (case ev_h => walk_at "sh"); (case ev_k => walk_at "sh"))
  | ((with_reducible refine rd_mod ?ev_h ?_); case ev_h => first | decide | assumption | omega) | ((with_reducible refine rd_div ?ev_h ?ev_k ?_); (case ev_h => first | decide | assumption | omega); (case ev_k => first | decide | assumption | omega))
  | ((with_reducible refine rd_pow ?ev_h ?_); case ev_h => exact ⟨by decide, by decide, by decide⟩)
  | ((with_reducible refine rd_mul ?ev_h ?_); case ev_h => first | exact .inr ⟨by decide, by decide⟩ | exact .inl ⟨by decide, by decide⟩ | exact .inl ⟨by omega, by omega⟩ | exact .inr ⟨by omega, by omega⟩)
  | (with_reducible refine rc_lenL ?_) | (with_reducible refine rc_lenT ?_) | (with_reducible refine rc_max2 ?_) | (with_reducible refine rc_min2 ?_) | (with_reducible refine rc_intB ?_) | (with_reducible refine rc_intI ?_) | (with_reducible refine rc_listL ?_) | (with_reducible refine rc_listT ?_) | (with_reducible refine rc_tupleL ?_)
  | ((with_reducible apply rd_ixT); exact rfl)
  | ((with_reducible apply rd_ixL); exact rfl)
  | ((with_reducible refine wd_isi ?ev_h ?_); case ev_h => decide) | ((with_reducible refine wd_isi2 ?ev_h ?ev_k ?_); (case ev_h => decide); (case ev_k => decide))
  | (with_reducible refine wd_tup2 ?_) | (with_reducible refine wd_tup1 ?_) | (with_reducible refine wd_tup3 ?_) | (with_reducible refine wd_tup0 ?_)
  | (with_reducible refine wd_lst0 ?_) | (with_reducible refine wd_lst1 ?_) | (with_reducible refine wd_lst2 ?_) | (with_reducible refine wd_lst3 ?_) | (with_reducible refine wd_lst4 ?_) | (with_reducible refine wd_lst5 ?_) | (with_reducible refine wd_lst6 ?_)
  | ((with_reducible apply wd_callO0); exact rfl) | ((with_reducible apply wd_callO1); exact rfl) | ((with_reducible apply wd_callO2); exact rfl) | ((with_reducible apply wd_callO3); exact rfl)
  | (with_reducible refine wd_call1 ?_) | (with_reducible refine wd_call2 ?_) | (with_reducible refine wd_call3 ?_) | (with_reducible refine wd_call4 ?_) | (with_reducible refine wd_call0 ?_)
  | (with_reducible refine wd_cb1 ?_) | (with_reducible refine wd_cb2 ?_)
  | (with_reducible refine wd_rev ?_) | (with_reducible refine wd_lrg1 ?_) | (with_reducible refine wd_sl ?_) | (with_reducible refine wo_no ?_) | (with_reducible refine wo_some ?_)
  | (with_reducible refine wd_andV ?_) | (with_reducible refine wd_orV ?_) | (with_reducible refine wd_notV ?_) | (with_reducible refine wd_if ?_) | (with_reducible refine wd_chain ?_)
  | (with_reducible refine wt_test ?_) | (with_reducible refine wt_B ?_) | (with_reducible refine wt_not ?_) | (with_reducible refine wt_and ?_) | (with_reducible refine wt_or ?_) | (with_reducible refine wt_yes ?_)
  | (with_reducible refine gj_name ?_) | (with_reducible refine gj_tup rfl ?_) | (with_reducible refine gjs_cons ?_) | (with_reducible refine gjs_nil ?_))
local macro_rules | `(tactic| walk_at "v") => `(tactic| repeat walk_at "v1")
local macro_rules | `(tactic| walk_at "x") => `(tactic| refine ⟨_, rfl, ?_⟩)
local macro_rules | `(tactic| walk_at "vx") => `(tactic| repeat (first | walk_at "v1" | (with_reducible refine ⟨_, rfl, ?_⟩)))
namespace Dk
open PySem PySem.Spec PyProof.Rows L2 Pk Sy
def T_right70 (K : Kw) : List Sl → (Sl → Prop) → Prop := fun Γ Q => ∃ v, ∃ p q : Pg, ∃ x, Γ = [.ex v (DeckL K), .dat false p.d, .dat false q.d, .dat false (.str x)] ∧ Fit p q x ∧ sizeL p.rows ≤ 20 ∧ sizeL q.rows ≤ 20 ∧ Q (.dat true (.bool true))
/-- the lists of the picks -/
def pkB (ra : List (Rw × Addr)) : List (Addr × List PyData) := (ra.filter fun x => isPk x.1).map fun x => (x.2, (rths x.1).map Th.d)
theorem pkB_lf {ra : List (Rw × Addr)} : ∀ y ∈ pkB ra, lfA y.2 = true := fun y hy => by
  obtain ⟨x, _, rfl⟩ := List.mem_map.mp hy
  exact ths_lf _
theorem pkB_mem {ra : List (Rw × Addr)} {y : Addr × List PyData} (hy : y ∈ pkB ra) : ∃ x ∈ ra, isPk x.1 = true ∧ y = (x.2, (rths x.1).map Th.d) := by
  obtain ⟨x, hx, rfl⟩ := List.mem_map.mp hy
  obtain ⟨h1, h2⟩ := List.mem_filter.mp hx
  exact ⟨x, h1, h2, rfl⟩
theorem pkB_ad (ra : List (Rw × Addr)) : (pkB ra).map (·.1) = adA (rwsA ra) := by
  induction ra with
  | nil => simp [pkB, rwsA, adA]
  | cons x ra ih =>
    rw [show rwsA (x :: ra) = rwA x.1 x.2 :: rwsA ra from rfl, adA_cons, rwA_ad, ← ih]
    unfold pkB
    cases h : isPk x.1 <;> simp [h]
theorem pkB_snoc {ra : List (Rw × Addr)} {x : Rw × Addr} : pkB (ra ++ [x]) = pkB ra ++ (if isPk x.1 = true then [(x.2, (rths x.1).map Th.d)] else []) := by
  unfold pkB
  rw [List.filter_append, List.map_append]
  cases h : isPk x.1 <;> simp [h]
def z0 : PyData := .tuple [.str "number", .int 0]
/-- the lists, the first n longer -/
def pkN (bs : List (Addr × List PyData)) (n : Nat) : List PyData := bs.zipIdx.map fun y => Pk.listAt y.1.1 (if y.2 < n then y.1.2 ++ [z0] else y.1.2)
theorem pkN_get {bs : List (Addr × List PyData)} {n j : Nat} : (pkN bs n)[j]? = (bs[j]?).map fun (y : Addr × List PyData) => Pk.listAt y.1 (if j < n then y.2 ++ [z0] else y.2) := by
  unfold pkN
  rw [List.getElem?_map, List.getElem?_zipIdx]
  cases bs[j]? <;> simp
theorem pkN_0 (bs : List (Addr × List PyData)) : pkN bs 0 = bs.map fun (y : Addr × List PyData) => Pk.listAt y.1 y.2 := by
  apply List.ext_getElem?
  intro j
  rw [pkN_get, List.getElem?_map]
  cases bs[j]? <;> simp
theorem pkN_end (bs : List (Addr × List PyData)) : pkN bs bs.length = bs.map fun (y : Addr × List PyData) => Pk.listAt y.1 (y.2 ++ [z0]) := by
  apply List.ext_getElem?
  intro j
  rw [pkN_get, List.getElem?_map]
  cases h : bs[j]? with
  | none => rfl
  | some y => simp [(List.getElem?_eq_some_iff.mp h).1]
theorem z0_lf {zs : List PyData} (h : lfA zs = true) : lfA (zs ++ [z0]) = true := lfA_of fun d hd => by
  rcases List.mem_append.mp hd with z | z
  · exact lfA_mem h z
  · rw [List.mem_singleton.mp z]; rfl
theorem pkN_step {bs : List (Addr × List PyData)} {L : Addr} {n : Nat} {y : Addr × List PyData} (hl : ∀ y ∈ bs, lfA y.2 = true) (nd : (bs.map (·.1)).Nodup) (hL : ∀ x ∈ bs, x.1 ≠ L) (h : bs[n]? = some y) : mA y.1 (· ++ [z0]) (listAt L (pkN bs n)) = listAt L (pkN bs (n + 1)) := by
  rw [mA_at, if_neg (fun e => hL y (List.mem_of_getElem? h) e.symm), mAs_map]
  congr 1
  apply List.ext_getElem?
  intro j
  rw [List.getElem?_map, pkN_get, pkN_get]
  cases hj : bs[j]? with
  | none => rfl
  | some x =>
    have hx := hl x (List.mem_of_getElem? hj)
    simp only [Option.map_some]
    congr 1
    rw [mA_at]
    by_cases e : j = n
    · subst e
      rw [h] at hj
      cases hj
      rw [if_neg (Nat.lt_irrefl j), if_pos (Nat.lt_succ_self j), if_pos rfl, mAs_lf _ hx]
    · have ne : x.1 ≠ y.1 := fun z => e (by
        have h1 : (bs.map (·.1))[j]? = some x.1 := by rw [List.getElem?_map, hj]; rfl
        have h2 : (bs.map (·.1))[n]? = some x.1 := by rw [List.getElem?_map, h, z]; rfl
        exact (List.getElem?_inj (List.getElem?_eq_some_iff.mp h1).1 nd).mp (h1.trans h2.symm))
      rw [if_neg ne]
      by_cases l : j < n
      · rw [if_pos l, if_pos (by omega), mAs_lf _ (z0_lf hx)]
      · rw [if_neg l, if_neg (by omega), mAs_lf _ hx]
theorem pkN_npl {bs : List (Addr × List PyData)} (hl : ∀ y ∈ bs, lfA y.2 = true) (n : Nat) : nplA (pkN bs n) = true := by
  rw [nplA_all, List.all_eq_true]
  intro d hd
  obtain ⟨y, hy, rfl⟩ := List.mem_map.mp hd
  have hm : y.1 ∈ bs := by
    obtain ⟨i, hi⟩ := List.getElem?_of_mem hy
    rw [List.getElem?_zipIdx] at hi
    cases hq : bs[i]? with
    | none => rw [hq] at hi; cases hi
    | some r => rw [hq] at hi; cases hi; exact List.mem_of_getElem? hq
  rw [npl_at]
  split
  · exact nplA_lf _ (z0_lf (hl _ hm))
  · exact nplA_lf _ (hl _ hm)
theorem two_sh {p q : Pg} (hp : p.Ok) (hq : q.Ok) : SeqAt.shaped (.list [p.d, q.d]) = true := sh_of (n := 9) (fun x hx => by
  rcases (by simpa using hx : x = p.d ∨ x = q.d) with z | z
  · rw [z]; exact Pg.dep hp
  · rw [z]; exact Pg.dep hq) (by decide)
theorem two_nb (p q : Pg) : NB (.list [p.d, q.d]) := .lst fun x hx => by
  rcases (by simpa using hx : x = p.d ∨ x = q.d) with z | z
  · rw [z]; exact Pg.nb p
  · rw [z]; exact Pg.nb q
theorem ints_sh70 (ns : List Int) : SeqAt.shaped (.list (ns.map PyData.int)) = true := intsL_sh ns
theorem ints_nb70 (ns : List Int) : NB (.list (ns.map PyData.int)) := .lst fun x hx => by
  obtain ⟨n, _, rfl⟩ := List.mem_map.mp hx
  exact .int _
section
variable {P : Program} {K : Kw} {mg : Str → Option Value} {base : Heap} {k : Nat}
theorem sj_forgetW (i : Nat) {Γ : List Sl} {s : Sl} {ts : TS} {Z : Po} (hi : Γ[i]? = some s) (h : SJ K (Γ.set i .no) ts Z) : SJ K Γ ts Z := fun X hK F H σ E D hD => h X hK F H σ (E.forget hi) D hD
theorem ok_right70 (D : Def K mg "_law_right" s_l_right ["deck", "one", "other", "box"]) (c_after : Cal P K.w K mg base CX0 k "put_after" ["one", "other", "box"] (spG K (T_afterA K))) (c_copy : Cal P K.w K mg base CX0 k "_law_copy" ["program"] (spG K (T_copyN K))) (c_due : Cal P K.w K mg base CX0 k "_law_due" ["one", "other", "box", "store"] (spG K (T_vdue K))) (c_runs : Cal P K.w K mg base CX0 k "_law_runs" ["program", "store"] (spG K (T_lruns K))) (c_store : Cal P K.w K mg base CX0 k "_law_store" ["deck", "program"] (spG K (T_estore K))) (c_isprog : Cal P K.w K mg base CX0 k "_law_is_program" ["found", "m", "boxes"] (spG K (T_isprogV K))) (m_len : mg "len" = none) (m_range : mg "range" = none) (m_sorted : mg "sorted" = none) : Cal P K.w K mg base CX0 (k + 1) "_law_right" ["deck", "one", "other", "box"] (spG K (T_right70 K)) := by
  refine cal_g D sc_l_right (fun Γ Qr ⟨v, p, q, x, e, _⟩ => by subst e; exact ⟨rfl, noMl_ex (noMl_dat (noMl_dat (noMl_dat noMl_nil)))⟩) fun f cdv A outer s H E hr => ⟨_, wk_l_right c_after c_copy c_due c_runs c_store c_isprog m_len m_range m_sorted f cdv A outer s H E hr, ?_⟩
  rintro Γ Qr ⟨v, p, q, x, rfl, hf, hz1, hz2, qq⟩
  have hp := hf.hp
  have hq := hf.hq
  have hz3 : sizeL (after p q x).rows ≤ 2000 := by
    show sizeL (aft _ _ _ _) ≤ 2000
    rw [sizeL_aft]
    have := Nat.mul_le_mul hz1 hz2
    omega
  have hao := hf.ok
  have kp : ∀ {Γ'}, Keep [.ex v (DeckL K), .dat false p.d, .dat false q.d, .dat false (.str x)] (.ex v (DeckL K) :: .dat false p.d :: .dat false q.d :: .dat false (.str x) :: Γ') := fun {Γ'} => keep_ex (keep_dat (keep_dat (keep_dat keep_nil)))
  show SJ K [.ex v (DeckL K), .dat false p.d, .dat false q.d, .dat false (.str x), .no, .no, .no, .no, .no, .no, .no, .no, .no, .no, .no, .no] (t_l_right K _ _ _ _ _ _) _
  unfold t_l_right
  refine sj_seq <| sj_set false <| wd_lst2 <| wd_call1 <| wd_var rfl ⟨p, rfl, hp, asD_new <| wd_call1 <| wd_var rfl ⟨q, rfl, hq, asD_new ?_⟩⟩
  refine sj_seq <| sj_setX <| wx_call3 <| wd_var rfl <| wd_var rfl <| wd_var rfl ⟨p, q, x, rfl, hf, fun ra lb lr v5 hra nd => ?_⟩
  have epl : pl (pgA p.m p.bs ra lb lr) = (after p q x).d := by rw [pgA_pl, hra]; rfl
  show SJ K [.ex v (DeckL K), .dat false p.d, .dat false q.d, .dat false (.str x), .dat false (.list [p.d, q.d]), .ex v5 (AtO K (pgA p.m p.bs ra lb lr)), .no, .no, .no, .no, .no, .no, .no, .no, .no, .no] _ _
  refine sj_seq <| sj_if <| wt_thaw <| wt_or <| wt_not <| wt_B <| wd_call3 <| wd_pl <| wd_var rfl ?_
  rw [epl]
  refine wd_op <| wd_var rfl <| wd_int <| rd_ixT (d := .int p.m) rfl <| wd_op <| wd_var rfl <| wd_int <| rd_pgB ⟨after p q x, rfl, hao, asD_new ⟨_, rfl, iteF' rfl ?_⟩⟩
  refine wt_test <| wd_op <| wd_lst2 <| wd_var rfl <| wd_var rfl <| wd_var rfl <| rd_neSelf (two_sh hp hq) (two_nb p q) ⟨_, rfl, iteF' rfl <| sj_next ?_⟩
  refine sj_cut (fun Γ' => ∃ s6 s7 s8, ntS s6 = true ∧ ntS s7 = true ∧ Γ' = [.ex v (DeckL K), .dat false p.d, .dat false q.d, .dat false (.str x), .dat false (.list [p.d, q.d]), .ex v5 (AtO K (pgA p.m p.bs ra lb lr)), s6, s7, s8, .no, .no, .no, .no, .no, .no, .no]) ?_ ?_
  · refine sj_for false <| wi_rng <| wd_int ⟨_, rfl, ⟨by decide, by decide⟩, fun j Γ' => ∃ s6 s7 s8, ntS s6 = true ∧ ntS s7 = true ∧ ntS s8 = true ∧ Γ' = [.ex v (DeckL K), .dat false p.d, .dat false q.d, .dat false (.str x), .dat false (.list [p.d, q.d]), .ex v5 (AtO K (pgA p.m p.bs ra lb lr)), s6, s7, s8, .no, .no, .no, .no, .no, .no, .no], ⟨.no, .no, .no, rfl, rfl, rfl, rfl⟩, ?_, fun Γ' ⟨s6, s7, s8, h6, h7, h8, e⟩ => ⟨s6, s7, s8, h6, h7, e⟩⟩
    rintro j d Γ' hd ⟨s6, s7, s8, h6, h7, h8, rfl⟩
    obtain ⟨hj, rfl⟩ := rangeD_of hd
    refine gj_name <| sj_seq <| sj_set false <| wd_callO1 (i := 0) (v := v) rfl <| wd_var rfl ⟨_, p, rfl, hp, fun st hst => asD_new ?_⟩
    refine sj_forgetW 8 (s := s8) rfl ?_
    show SJ K [.ex v (DeckL K), .dat false p.d, .dat false q.d, .dat false (.str x), .dat false (.list [p.d, q.d]), .ex v5 (AtO K (pgA p.m p.bs ra lb lr)), .dat false (.int (0 + (j : Int))), .dat false (stD st), .no, .no, .no, .no, .no, .no, .no, .no] _ _
    refine sj_seq <| sj_set false <| wd_thawN rfl ?_
    show WD K true [(Sl.ex v (DeckL K)).frz, .dat false p.d, .dat false q.d, .dat false (.str x), .dat false (.list [p.d, q.d]), .dat false (pgA p.m p.bs ra lb lr), .dat false (.int (0 + (j : Int))), .dat false (stD st), .no, .no, .no, .no, .no, .no, .no, .no] _ _
    refine wd_cb1 <| wd_lcMa (mi := true) (α := R3) r3D (fun y => runD (ce y)) (wipeOk_no rfl (wipeOk_no rfl (wipeOk_no rfl wipeOk_nil))) (gw_tup (gws_cons (gw_name (by simp)) (gws_cons (gw_name (by simp)) (gws_cons (gw_name (by simp)) gws_nil)))) <| wi_list <| wd_call2 <| wd_pl <| wd_var rfl ?_
    rw [epl]
    refine wd_var rfl ⟨after p q x, st, rfl, hao, hst, hz3, fun l rs hL => asD_mln ⟨_, rfl, rs, rfl, ?_, fun i r hr => gj_tup (n := 3) (ds := [natsD r.1, r.2.1.d, stD r.2.2]) rfl <| gjs_cons <| gj_name <| gjs_cons <| gj_name <| gjs_cons <| gj_name <| gjs_nil ⟨rfl, wd_tup2 <| wd_var (d := natsD r.1) rfl <| wd_var (d := r.2.1.d) rfl rfl⟩, ?_⟩⟩
    · have h1 := hL.perm.length_eq
      have h2 := rn_len hao st
      rw [List.length_map] at h1
      omega
    have hst' : StOk (after p q x).m (after p q x).bs st := hst
    have hends : ∀ r ∈ rn (after p q x) st, r.2.isPl = false := fun r hr => ((runs_all hao 30 (poe (after p q x) 0 st) (by omega) (poe_ok hst')).1 r hr).end
    have hap := (runs_all hao 30 (poe (after p q x) 0 st) (by omega) (poe_ok hst')).2.1
    have em : (rs.map fun y => runD (ce y)) = (rs.map ce).map runD := by rw [List.map_map]; rfl
    rw [em]
    have hfe : ∀ r ∈ rs.map ce, r.2.isPl = false := fun r hr => hends r (hL.perm.mem_iff.mp hr)
    refine rc_sorted (runs_shV _) (fun d hd d' hd' => ?_) (.inl fun d hd => ?_) ?_ (fun d hd => ?_) fun es h1 h2 => ?_
    · obtain ⟨a, ha, rfl⟩ := List.mem_map.mp hd
      obtain ⟨b, hb, rfl⟩ := List.mem_map.mp hd'
      exact run_alike (hfe a ha) (hfe b hb)
    · obtain ⟨a, _, rfl⟩ := List.mem_map.mp hd
      exact ⟨_, _, rfl⟩
    · have h1 := hL.perm.length_eq
      have h2 := rn_len hao st
      rw [List.length_map]
      omega
    · obtain ⟨a, _, rfl⟩ := List.mem_map.mp hd
      exact run_depthV _
    rw [sorted_eq hap hends (h1.trans (hL.perm.map runD)) h2]
    refine ⟨runs_nbV _, ?_⟩
    show SJ K [.ex v (DeckL K), .dat false p.d, .dat false q.d, .dat false (.str x), .dat false (.list [p.d, q.d]), .ex v5 (AtO K (pgA p.m p.bs ra lb lr)), .dat false (.int (0 + (j : Int))), .dat false (stD st), .dat false (.list ((rn (after p q x) st).map runD)), .no, .no, .no, .no, .no, .no, .no] _ _
    refine sj_if <| wt_test <| wd_op <| wd_var rfl <| wd_call4 <| wd_var rfl <| wd_var rfl <| wd_var rfl <| wd_var rfl ⟨p, q, x, st, rfl, hf, hst, by omega, by omega, hz3, asD_dat <| rd_neSelf (runs_shV _) (runs_nbV _) ⟨_, rfl, iteF' rfl <| sj_next ⟨_, _, _, rfl, rfl, rfl, rfl⟩⟩⟩
  rintro _ ⟨s6, s7, s8, h6, h7, rfl⟩
  refine sj_forgetW 6 (s := s6) rfl <| sj_forgetW 7 (s := s7) rfl <| sj_forgetW 8 (s := s8) rfl ?_
  show SJ K [.ex v (DeckL K), .dat false p.d, .dat false q.d, .dat false (.str x), .dat false (.list [p.d, q.d]), .ex v5 (AtO K (pgA p.m p.bs ra lb lr)), .no, .no, .no, .no, .no, .no, .no, .no, .no, .no] _ _
  refine sj_seq <| sj_set false <| wd_thawN rfl ?_
  show WD K true [(Sl.ex v (DeckL K)).frz, .dat false p.d, .dat false q.d, .dat false (.str x), .dat false (.list [p.d, q.d]), .dat false (pgA p.m p.bs ra lb lr), .no, .no, .no, .no, .no, .no, .no, .no, .no, .no] _ _
  refine wd_call1 <| wd_pl <| wd_var rfl ?_
  rw [epl]
  refine ⟨after p q x, rfl, hao, asD_new ⟨Pg.nb _, ?_⟩⟩
  show SJ K [.ex v (DeckL K), .dat false p.d, .dat false q.d, .dat false (.str x), .dat false (.list [p.d, q.d]), .ex v5 (AtO K (pgA p.m p.bs ra lb lr)), .no, .no, .dat false (after p q x).d, .no, .no, .no, .no, .no, .no, .no] _ _
  rw [pgA_ad] at nd
  obtain ⟨nd1, nd2⟩ := List.nodup_cons.mp nd
  obtain ⟨nd3, nd4⟩ := List.nodup_cons.mp nd2
  have hrl : ra.length ≤ 30 := by
    have h1 := congrArg List.length hra
    have h2 := hao.r30
    rw [List.length_map] at h1
    omega
  have ocR : Oc lr (rwsA ra) (pgA p.m p.bs ra lb lr) := .tup (d := listAt lr (rwsA ra)) (by simp) .here
  have ocB : Oc lb (p.bs.map PyData.str) (pgA p.m p.bs ra lb lr) := .tup (d := listAt lb (p.bs.map PyData.str)) (by simp) .here
  refine sj_seq <| sj_setX <| wx_lcWk (i := 5) (v := v5) (l := lr) (es := rwsA ra) rfl ocR (by rw [rwsA, List.length_map]; omega) (rwsA_npl ra) (ra_thaw <| wd_op <| wd_var rfl <| wd_int <| rd_ixT (d := listAt lr (rwsA ra)) rfl ⟨_, rfl⟩) gwn fun xs => ⟨wipeOk_no rfl wipeOk_nil, fun n acc => acc = (pkB (ra.take n)).map fun (y : Addr × List PyData) => Pk.listAt y.1 y.2, rfl, ?_, ?_⟩
  · rintro n y acc hy _ rfl
    rw [rwsA, List.getElem?_map] at hy
    cases hg : ra[n]? with
    | none => rw [hg] at hy; cases hy
    | some z =>
      rw [hg] at hy
      cases hy
      obtain ⟨r, a⟩ := z
      have htk : ra.take (n + 1) = ra.take n ++ [(r, a)] := by rw [List.take_add_one, hg]; rfl
      refine gw_wk fun v13 => ⟨rfl, ?_⟩
      show WT K [.ex v (DeckL K), .dat false p.d, .dat false q.d, .dat false (.str x), .dat false (.list [p.d, q.d]), .ex v5 (AtP K (pgA p.m p.bs ra lb lr) (some (lr, xs))), .no, .no, .dat false (after p q x).d, .no, .no, .no, .no, .ex v13 (WkO K (rwA r a)), .no, .no] (tTest (tOp (dEq K) (tOp (rIx K) (tVar 13) (tC (.int 0))) (tC (.str "pick")))) fun b => if b = true then ∃ a' zs, RA K [.ex v (DeckL K), .dat false p.d, .dat false q.d, .dat false (.str x), .dat false (.list [p.d, q.d]), .ex v5 (AtP K (pgA p.m p.bs ra lb lr) (some (lr, xs))), .no, .no, .dat false (after p q x).d, .no, .no, .no, .no, .ex v13 (WkO K (rwA r a)), .no, .no] (tOp (rIx K) (tVar 13) (tC (.int 2))) a' ∧ (pkB (ra.take n)).map (fun (y : Addr × List PyData) => Pk.listAt y.1 y.2) ++ [Pk.listAt a' zs] = (pkB (ra.take (n + 1))).map (fun (y : Addr × List PyData) => Pk.listAt y.1 y.2) else (pkB (ra.take n)).map (fun (y : Addr × List PyData) => Pk.listAt y.1 y.2) = (pkB (ra.take (n + 1))).map (fun (y : Addr × List PyData) => Pk.listAt y.1 y.2)
      rw [htk, pkB_snoc, List.map_append]
      have no : isPk r = false → ∀ ds : List PyData, r.d = .tuple (.str r.kd.w :: ds) → WT K [.ex v (DeckL K), .dat false p.d, .dat false q.d, .dat false (.str x), .dat false (.list [p.d, q.d]), .ex v5 (AtP K (pgA p.m p.bs ra lb lr) (some (lr, xs))), .no, .no, .dat false (after p q x).d, .no, .no, .no, .no, .ex v13 (WkO K (rwA r a)), .no, .no] (tTest (tOp (dEq K) (tOp (rIx K) (tVar 13) (tC (.int 0))) (tC (.str "pick")))) fun b => b = false := fun hp ds e => by
        rw [rwA_no hp, e]
        refine wt_test <| wd_op <| wd_wkIx (j := 13) (v := v13) (ds := .str r.kd.w :: ds) (d := .str r.kd.w) rfl (atI_of (n := 0) rfl rfl) (by simp [lf]) <| wd_str <| rd_w (a := r.kd) (b := .pick) ⟨_, rfl, decide_eq_false fun e => by cases r <;> first | (cases e; done) | (cases hp; done)⟩
      have noQ : isPk r = false → ∀ b : Bool, b = false → (if b = true then ∃ a' zs, RA K [.ex v (DeckL K), .dat false p.d, .dat false q.d, .dat false (.str x), .dat false (.list [p.d, q.d]), .ex v5 (AtP K (pgA p.m p.bs ra lb lr) (some (lr, xs))), .no, .no, .dat false (after p q x).d, .no, .no, .no, .no, .ex v13 (WkO K (rwA r a)), .no, .no] (tOp (rIx K) (tVar 13) (tC (.int 2))) a' ∧ (pkB (ra.take n)).map (fun (y : Addr × List PyData) => Pk.listAt y.1 y.2) ++ [listAt a' zs] = (pkB (ra.take n)).map (fun (y : Addr × List PyData) => Pk.listAt y.1 y.2) ++ (if isPk r = true then [(a, (rths r).map Th.d)] else []).map (fun (y : Addr × List PyData) => Pk.listAt y.1 y.2) else (pkB (ra.take n)).map (fun (y : Addr × List PyData) => Pk.listAt y.1 y.2) = (pkB (ra.take n)).map (fun (y : Addr × List PyData) => Pk.listAt y.1 y.2) ++ (if isPk r = true then [(a, (rths r).map Th.d)] else []).map (fun (y : Addr × List PyData) => Pk.listAt y.1 y.2)) := fun hp b hb => by
        subst hb
        rw [if_neg Bool.false_ne_true, hp, if_neg Bool.false_ne_true, List.map_nil, List.append_nil]
      cases r with
      | pick y ts =>
        refine wt_test <| wd_op <| wd_wkIx (j := 13) (v := v13) (ds := [.str "pick", .str y, listAt a (ts.map Th.d)]) (d := .str "pick") rfl rfl (by simp [lf]) <| wd_str <| rd_w (a := .pick) (b := .pick) ⟨_, rfl, iteT' rfl ⟨a, ts.map Th.d, ra_wkIx (j := 13) (v := v13) (ds := [.str "pick", .str y, listAt a (ts.map Th.d)]) (es := ts.map Th.d) rfl rfl, rfl⟩⟩
      | set y t => exact WT.mono (no rfl _ rfl) (noQ rfl)
      | need t => exact WT.mono (no rfl _ rfl) (noQ rfl)
      | skip t i => exact WT.mono (no rfl _ rfl) (noQ rfl)
      | give t => exact WT.mono (no rfl _ rfl) (noQ rfl)
  rintro L0 acc rfl
  have hl0 : (rwsA ra).length = ra.length := by rw [rwsA, List.length_map]
  rw [hl0, List.take_length]
  obtain ⟨BS, hBS⟩ : ∃ BS, pkB ra = BS := ⟨_, rfl⟩
  have hbl : ∀ y ∈ BS, lfA y.2 = true := by rw [← hBS]; exact pkB_lf
  have hba : BS.map (·.1) = adA (rwsA ra) := by rw [← hBS]; exact pkB_ad ra
  have hlen : BS.length ≤ 30 := by
    rw [← hBS, pkB, List.length_map]
    exact Nat.le_trans (List.length_filter_le _ _) hrl
  have hts : ∀ y ∈ BS, y.2.length ≤ 5 := fun y hy => by
    rw [← hBS] at hy
    obtain ⟨z, hz, hpz, rfl⟩ := pkB_mem hy
    obtain ⟨r, a⟩ := z
    have hm : r ∈ (after p q x).rows := by rw [← hra]; exact List.mem_map.mpr ⟨(r, a), hz, rfl⟩
    have hok := hao.rows r hm
    cases r with
    | pick x ts => rw [show rths (Rw.pick x ts) = ts from rfl, List.length_map]; exact hok.2.2.1
    | _ => cases hpz
  rw [hBS]
  refine sj_splitA (i := 5) (j := 12) (v := v5) (u := .ref L0) (d := pgA p.m p.bs ra lb lr) (bs := BS) (by decide) rfl rfl [lb, lr] 1000 (fun y hy => ⟨?_, hbl y hy⟩) (fun a ha => ⟨?_, fun y hy e => ?_⟩) fun L hL => ?_
  · rw [← hBS] at hy
    obtain ⟨z, hz, hpz, rfl⟩ := pkB_mem hy
    obtain ⟨r, a⟩ := z
    cases r with
    | pick y ts => exact .tup (d := listAt lr (rwsA ra)) (by simp) (.lst (d := rwA (.pick y ts) a) (List.mem_map.mpr ⟨_, hz, rfl⟩) (.tup (d := listAt a (ts.map Th.d)) (by simp) .here))
    | _ => cases hpz
  · rcases (by simpa using ha : a = lb ∨ a = lr) with z | z
    · subst z; exact ⟨_, ocB, by rw [List.length_map]; have := hp.bs.len5; omega⟩
    · subst z; exact ⟨_, ocR, by rw [hl0]; omega⟩
  · have hy' : a ∈ adA (rwsA ra) := by rw [← hba, ← e]; exact List.mem_map_of_mem hy
    rcases (by simpa using ha : a = lb ∨ a = lr) with z | z
    · subst z; exact nd1 (List.mem_cons_of_mem _ hy')
    · subst z; exact nd3 hy'
  show SJ K [.ex v (DeckL K), .dat false p.d, .dat false q.d, .dat false (.str x), .dat false (.list [p.d, q.d]), .ex v5 (RoO K (pgA p.m p.bs ra lb lr) [lb, lr] 1000), .no, .no, .dat false (after p q x).d, .no, .no, .no, .ex (.ref L0) (AtO K (listAt L (BS.map fun (y : Addr × List PyData) => Pk.listAt y.1 y.2))), .no, .no, .no] _ _
  refine sj_seq <| sj_set false <| wd_thawL ?_
  show WX K [(Sl.ex v (DeckL K)).frz, .dat false p.d, .dat false q.d, .dat false (.str x), .dat false (.list [p.d, q.d]), .ex v5 (RoO K (pgA p.m p.bs ra lb lr) [lb, lr] 1000), .no, .no, .dat false (after p q x).d, .no, .no, .no, .dat false (listAt L (BS.map fun (y : Addr × List PyData) => Pk.listAt y.1 y.2)), .no, .no, .no] _ _
  refine wx_lcMa (mi := false) false (α := Addr × List PyData) (fun (y : Addr × List PyData) => Pk.listAt y.1 y.2) (fun (y : Addr × List PyData) => .int (y.2.length : Nat)) (wipeOk_no rfl wipeOk_nil) gwn <| wi_list <| wd_unAt <| wd_var rfl ⟨L, _, rfl, _, rfl, BS, rfl, by omega, fun i y hy => gj_name ⟨rfl, wd_cb1 <| wd_unAt <| wd_var rfl ⟨y.1, y.2, rfl, rc_lenL rfl⟩⟩, fun l => ⟨l, _, rfl, ?_, ?_⟩⟩
  · exact lfA_of fun d hd => by
      obtain ⟨y, _, rfl⟩ := List.mem_map.mp hd
      rfl
  have emany : (BS.map fun (y : Addr × List PyData) => PyData.int (y.2.length : Nat)) = (BS.map fun (y : Addr × List PyData) => (y.2.length : Int)).map PyData.int := by rw [List.map_map]; rfl
  rw [emany]
  show SJ K [.ex v (DeckL K), .dat false p.d, .dat false q.d, .dat false (.str x), .dat false (.list [p.d, q.d]), .ex v5 (RoO K (pgA p.m p.bs ra lb lr) [lb, lr] 1000), .no, .no, .dat false (after p q x).d, .no, .no, .no, .ex (.ref L0) (AtO K (listAt L (BS.map fun (y : Addr × List PyData) => Pk.listAt y.1 y.2))), .no, .dat false (.list ((BS.map fun (y : Addr × List PyData) => (y.2.length : Int)).map PyData.int)), .no] _ _
  have nda : (BS.map (·.1)).Nodup := by rw [hba]; exact nd4
  refine sj_cut (fun Γ' => ∃ s15, Γ' = [.ex v (DeckL K), .dat false p.d, .dat false q.d, .dat false (.str x), .dat false (.list [p.d, q.d]), .ex v5 (RoO K (pgA p.m p.bs ra lb lr) [lb, lr] 1000), .no, .no, .dat false (after p q x).d, .no, .no, .no, .ex (.ref L0) (AtO K (listAt L (pkN BS BS.length))), .no, .dat false (.list ((BS.map fun (y : Addr × List PyData) => (y.2.length : Int)).map PyData.int)), s15]) ?_ ?_
  · rw [← pkN_0]
    refine sj_forAt (i := 12) (v := .ref L0) (l := L) (es := pkN BS 0) rfl .here (pkN_npl hbl 0) (ra_top rfl) fun xs => ⟨fun n Γ' => ∃ s15, Γ' = [.ex v (DeckL K), .dat false p.d, .dat false q.d, .dat false (.str x), .dat false (.list [p.d, q.d]), .ex v5 (RoO K (pgA p.m p.bs ra lb lr) [lb, lr] 1000), .no, .no, .dat false (after p q x).d, .no, .no, .no, .ex (.ref L0) (AtP K (listAt L (pkN BS n)) (some (L, xs))), .no, .dat false (.list ((BS.map fun (y : Addr × List PyData) => (y.2.length : Int)).map PyData.int)), s15], ⟨_, rfl⟩, ?_, ?_⟩
    · rintro n _ ⟨s15, rfl⟩
      refine ⟨_, rfl, fun e => ⟨s15, ?_⟩⟩
      have e2 : n = BS.length := by rw [e, pkN_0, List.length_map]
      rw [e2]
      rfl
    · rintro n y _ hy ⟨s15, rfl⟩
      rw [pkN_get] at hy
      cases hg : BS[n]? with
      | none => rw [hg] at hy; cases hy
      | some z =>
        rw [hg] at hy
        simp only [Option.map_some, Option.some.injEq, Nat.not_lt_zero, if_false] at hy
        subst hy
        have hzm := List.mem_of_getElem? hg
        have hoc : Oc z.1 z.2 (listAt L (pkN BS n)) := .lst (d := listAt z.1 z.2) (by
          refine List.mem_of_getElem? (i := n) ?_
          rw [pkN_get, hg]
          simp) .here
        have htl := hts z hzm
        refine gw_wk fun v15 => sj_atApp (i := 12) (v := .ref L0) (a := z.1) (es := z.2) rfl hoc (fun q e => by cases e; exact (hL z hzm).symm) (by omega) (ra_var (j := 15) (v := v15) (es := z.2) rfl) <| wd_tup2 <| wd_str <| wd_int ⟨by simp [npl, nplA], by simp [Pk.ad, adA], ?_⟩
        refine ⟨.ex v15 (WkO K (listAt z.1 z.2)), ?_⟩
        have := pkN_step hbl nda hL hg
        unfold z0 at this
        rw [this]
        rfl
  rintro _ ⟨s15, rfl⟩
  refine sj_forgetW 15 (s := s15) rfl ?_
  show SJ K [.ex v (DeckL K), .dat false p.d, .dat false q.d, .dat false (.str x), .dat false (.list [p.d, q.d]), .ex v5 (RoO K (pgA p.m p.bs ra lb lr) [lb, lr] 1000), .no, .no, .dat false (after p q x).d, .no, .no, .no, .ex (.ref L0) (AtO K (listAt L (pkN BS BS.length))), .no, .dat false (.list ((BS.map fun (y : Addr × List PyData) => (y.2.length : Int)).map PyData.int)), .no] _ _
  rw [pkN_end]
  refine sj_seq <| sj_if <| wt_thaw ?_
  show WT K [(Sl.ex v (DeckL K)).frz, .dat false p.d, .dat false q.d, .dat false (.str x), .dat false (.list [p.d, q.d]), .ex v5 (RoO K (pgA p.m p.bs ra lb lr) [lb, lr] 1000), .no, .no, .dat false (after p q x).d, .no, .no, .no, .dat false (listAt L (BS.map fun (y : Addr × List PyData) => Pk.listAt y.1 (y.2 ++ [z0]))), .no, .dat false (.list ((BS.map fun (y : Addr × List PyData) => (y.2.length : Int)).map PyData.int)), .no] _ _
  refine wt_test <| wd_op <| wd_lcMa (mi := false) (α := Addr × List PyData) (fun (y : Addr × List PyData) => Pk.listAt y.1 (y.2 ++ [z0])) (fun (y : Addr × List PyData) => .int (y.2.length : Nat)) (wipeOk_no rfl wipeOk_nil) gwn <| wi_list <| wd_unAt <| wd_var rfl ⟨L, _, rfl, _, rfl, BS, rfl, by omega, fun i y hy => gj_name ⟨rfl, wd_op <| wd_cb1 <| wd_unAt <| wd_var rfl ⟨y.1, y.2 ++ [z0], rfl, rc_lenL <| wd_int <| rd_sub ?_⟩⟩, ?_⟩
  · rw [List.length_append]
    show PyData.int (((y.2.length + 1 : Nat) : Int) - 1) = _
    congr 1
    omega
  rw [emany]
  refine wd_var rfl <| rd_neSelf (ints_sh70 _) (ints_nb70 _) ⟨_, rfl, iteF' rfl <| sj_next ?_⟩
  refine sj_seq <| sj_roApp (i := 5) (v := v5) (d := pgA p.m p.bs ra lb lr) (a := lb) rfl (by simp) (by decide) (ra_roIx (j := 5) (v := v5) (ds := [.int p.m, listAt lb (p.bs.map PyData.str), listAt lr (rwsA ra)]) (es := p.bs.map PyData.str) rfl rfl) <| wd_str ?_
  refine sj_seq <| sj_roClear (i := 5) (v := v5) (d := pgA p.m p.bs ra lb lr) (a := lr) rfl (by simp) (ra_roIx (j := 5) (v := v5) (ds := [.int p.m, listAt lb (p.bs.map PyData.str), listAt lr (rwsA ra)]) (es := rwsA ra) rfl rfl) ?_
  refine sj_retD true <| wd_andV <| wd_op <| wd_lst2 <| wd_var rfl <| wd_var rfl <| wd_var rfl <| rd_eqSelf (two_sh hp hq) (two_nb p q) ⟨_, rfl, iteT' rfl ?_⟩
  refine wd_lf <| wd_op <| wd_pl <| .ofX <| wx_call3 <| wd_var rfl <| wd_var rfl <| wd_var rfl ⟨p, q, x, rfl, hf, fun ra2 lb2 lr2 v2 hra2 nd2 => ⟨_, rfl, ?_⟩⟩
  have epl2 : pl (pgA p.m p.bs ra2 lb2 lr2) = (after p q x).d := by rw [pgA_pl, hra2]; rfl
  rw [epl2]
  exact wd_var rfl <| rd_eqSelf (Pg.sh hao) (Pg.nb _) ⟨rfl, kp, qq⟩
end
end Dk
end
section
set_option Elab.async false
set_option linter.all false
set_option maxRecDepth 100000
set_option pp.maxSteps 600
open PySem L2 Pk
local macro_rules | `(tactic| walk_at "sh") => `(tactic| first | exact sh_int | exact sh_bool | exact sh_non | exact sh_nil | exact sh_str (by decide +kernel) | assumption)
local macro_rules | `(tactic| walk_at "v1") => `(tactic| first
  | (with_reducible refine wd_int ?_) | (with_reducible refine wd_str ?_) | (with_reducible refine wd_bl ?_) | (with_reducible refine wd_non ?_)
  | ((with_reducible apply wd_var); exact rfl) | ((with_reducible apply wd_varN); exact rfl)
  | ((with_reducible apply wd_ixm); exact rfl)
  | ((with_reducible apply wd_lenM); exact rfl) | ((with_reducible apply wd_lenScript); exact rfl) | ((with_reducible apply wd_ixScript); exact rfl)
  | (with_reducible refine wd_op ?_) | (with_reducible refine wd_un ?_)
  | (with_reducible refine rd_add ?_) | (with_reducible refine rd_sub ?_) | (with_reducible refine rd_lt ?_) | (with_reducible refine rd_le ?_) | (with_reducible refine rd_gt ?_) | (with_reducible refine rd_ge ?_) | (with_reducible refine ru_neg ?_)
  | ((with_reducible refine rd_eq ?ev_h ?ev_k ?_); (case ev_h => walk_at "sh"); (case ev_k => walk_at "sh")) | ((with_reducible refine rd_ne ?ev_h ?ev_k ?_); (case ev_h => walk_at "sh"); (case ev_k => walk_at "sh"))
  | ((with_reducible refine rd_mod ?ev_h ?_); case ev_h => first | decide | assumption | omega) | ((with_reducible refine rd_div ?ev_h ?ev_k ?_); (case ev_h => first | decide | assumption | omega); (case ev_k => first | decide | assumption | omega))
  | ((with_reducible refine rd_pow ?ev_h ?_); case ev_h => exact ⟨by decide, by decide, by decide⟩)
  | ((with_reducible refine rd_mul ?ev_h ?_); case ev_h => first | exact .inr ⟨by decide, by decide⟩ | exact .inl ⟨by decide, by decide⟩ | exact .inl ⟨by omega, by omega⟩ | exact .inr ⟨by omega, by omega⟩)
  | (with_reducible refine rc_lenL ?_) | (with_reducible refine rc_lenT ?_) | (with_reducible refine rc_max2 ?_) | (with_reducible refine rc_min2 ?_) | (with_reducible refine rc_intB ?_) | (with_reducible refine rc_intI ?_) | (with_reducible refine rc_listL ?_) | (with_reducible refine rc_listT ?_) | (with_reducible refine rc_tupleL ?_)
  | ((with_reducible apply rd_ixT); exact rfl)
  | ((with_reducible apply rd_ixL); exact rfl)
  | ((with_reducible refine wd_isi ?ev_h ?_); case ev_h => decide) | ((with_reducible refine wd_isi2 ?ev_h ?ev_k ?_); (case ev_h => decide); (case ev_k => decide))
  | (with_reducible refine wd_tup2 ?_) | (with_reducible refine wd_tup1 ?_) | (with_reducible refine wd_tup3 ?_) | (with_reducible refine wd_tup0 ?_)
  | (with_reducible refine wd_lst0 ?_) | (with_reducible refine wd_lst1 ?_) | (with_reducible refine wd_lst2 ?_) | (with_reducible refine wd_lst3 ?_) | (with_reducible refine wd_lst4 ?_) | (with_reducible refine wd_lst5 ?_) | (with_reducible refine wd_lst6 ?_)
  | ((with_reducible apply wd_callO0); exact rfl) | ((with_reducible apply wd_callO1); exact rfl) | ((with_reducible apply wd_callO2); exact rfl) | ((with_reducible apply wd_callO3); exact rfl)
  | (with_reducible refine wd_call1 ?_) | (with_reducible refine wd_call2 ?_) | (with_reducible refine wd_call3 ?_) | (with_reducible refine wd_call4 ?_) | (with_reducible refine wd_call0 ?_)
  | (with_reducible refine wd_cb1 ?_) | (with_reducible refine wd_cb2 ?_)
  | (with_reducible refine wd_rev ?_) | (with_reducible refine wd_lrg1 ?_) | (with_reducible refine wd_sl ?_) | (with_reducible refine wo_no ?_) | (with_reducible refine wo_some ?_)
  | (with_reducible refine wd_andV ?_) | (with_reducible refine wd_orV ?_) | (with_reducible refine wd_notV ?_) | (with_reducible refine wd_if ?_) | (with_reducible refine wd_chain ?_)
  | (with_reducible refine wt_test ?_) | (with_reducible refine wt_B ?_) | (with_reducible refine wt_not ?_) | (with_reducible refine wt_and ?_) | (with_reducible refine wt_or ?_) | (with_reducible refine wt_yes ?_)
  | (with_reducible refine gj_name ?_) | (with_reducible refine gj_tup rfl ?_) | (with_reducible refine gjs_cons ?_) | (with_reducible refine gjs_nil ?_))
local macro_rules | `(tactic| walk_at "v") => `(tactic| repeat walk_at "v1")
local macro_rules | `(tactic| walk_at "x") => `(tactic| refine ⟨_, rfl, ?_⟩)
local macro_rules | `(tactic| walk_at "vx") => `(tactic| repeat (first | walk_at "v1" | (with_reducible refine ⟨_, rfl, ?_⟩)))
namespace Dk
open PySem PySem.Spec PyProof.Rows L2 Pk Sy
theorem spL_gives (rs : List Rw) : spL rs = rs.length + (rs.filter fun r => decide (r.kd = .give)).length := by
  induction rs with
  | nil => rfl
  | cons r rs ih =>
    show wd2 r + spL rs = _
    rw [ih, List.filter_cons, List.length_cons]
    cases r <;> simp [wd2, Rw.kd] <;> omega
theorem sel3 {a b : Nat} {d : PyData} (h : d ∈ [PyData.int a, .int a, .int b]) (ha : a ≤ 30) (hb : b ≤ 30) : ∃ n : Nat, n ≤ 30 ∧ d = .int n := by
  simp at h
  rcases h with z | z
  · exact ⟨a, ha, z⟩
  · exact ⟨b, hb, z⟩
section
variable {P : Program} {K : Kw} {mg : Str → Option Value} {base : Heap} {k : Nat}
theorem ok_law {f0 : Addr} {fd0 : FuncData} (F0 : Fun K "law" "law" s_law f0 fd0) (c_right : Cal P K.w K mg base CX0 k "_law_right" ["deck", "one", "other", "box"] (spG K (T_right70 K))) (c_next : Cal P K.w K mg base CX0 k "_law_next" ["deck"] (spG K (T_next K))) (c_program : Cal P K.w K mg base CX0 k "_law_program" ["deck", "m", "boxes", "most", "wide"] (spG K (T_eprogram K))) (c_boxes : Cal P K.w K mg base CX0 k "_law_boxes" ["deck"] (spG K (T_eboxes K))) (c_deck : Cal P K.w K mg base CX0 k "_law_deck" ["cell", "many"] (spG K (T_edeck K))) (c_cell : Cal P K.w K mg base CX0 k "_law_cell_at" ["script", "k"] (spG K (T_cellat K))) (m_range : mg "range" = none) (m_max : mg "max" = none) (m_min : mg "min" = none) (m_len : mg "len" = none) : FnOk P K.w K mg base CX0 (k + 1) f0 fd0 ["script"] (spG K (T_law K)) := by
  refine fnOk_g F0 sc_law (fun Γ Qr ⟨v, ns, e, _⟩ => by subst e; exact ⟨rfl, noMl_ex noMl_nil⟩) fun f cdv A outer s H E hr => ⟨_, wk_law c_right c_next c_program c_boxes c_deck c_cell m_range m_max m_min m_len f cdv A outer s H E hr, ?_⟩
  rintro Γ Qr ⟨v, ns, rfl, hns, q⟩
  show SJ K [.ex v (ScriptO K ns), .no, .no, .no, .no, .no, .no, .no, .no] (t_law K _ _ _ _ _ _) _
  unfold t_law
  refine sj_cut (fun Γ' => ∃ s1 s2 s3 s4 s5 s6 s7 s8, Γ' = [.ex v (ScriptO K ns), s1, s2, s3, s4, s5, s6, s7, s8]) ?_ ?_
  · refine sj_for false (wi_rng (wd_cb2 (wd_int (wd_cb2 (wd_lenScript (v := v) rfl (wd_int (rc_min2 (rc_max2 ?_))))))))
    have hk : max 1 (min (ns.length : Int) 3) = ((max 1 (min ns.length 3) : Nat) : Int) := by omega
    rw [hk]
    generalize hn : max 1 (min ns.length 3) = n
    refine ⟨_, rfl, ⟨by omega, by omega⟩, fun i Γ' => ∃ s1 s2 s3 s4 s5 s6 s7 s8, Γ' = [.ex v (ScriptO K ns), s1, s2, s3, s4, s5, s6, s7, s8], ⟨.no, .no, .no, .no, .no, .no, .no, .no, rfl⟩, ?_, fun Γ' h => h⟩
    rintro i d Γ' hd ⟨s1, s2, s3, s4, s5, s6, s7, s8, rfl⟩
    obtain ⟨hi, rfl⟩ := rangeD_of hd
    refine gj_name <| sj_forgetW 8 (s := s8) rfl ?_
    refine sj_seq (sj_setX (wx_call2 (wd_callO1 (i := 0) (v := v) rfl (wd_var rfl ⟨v, ns, _, rfl, by omega, fun c => asD_new (wd_int ⟨c, 900, rfl, by decide, fun l ds hds => ?_⟩)⟩))))
    refine sj_close 2 (l := l) (m := false) (ns := ds) DeP rfl hds ?_
    show SJ K [.ex v (ScriptO K ns), _, .ex (.ref l) (DeckL K), s3, s4, s5, s6, s7, .no] _ _
    refine sj_seq (sj_asg false (wd_callO0 (i := 2) (v := .ref l) rfl ⟨_, rfl, fun m bs hmb => asD_dat (gj_tup (n := 2) (ds := [.int m, bsD bs]) rfl (gjs_cons (gj_name (gjs_cons (gj_name (gjs_nil ?_))))))⟩))
    show SJ K [.ex v (ScriptO K ns), _, .ex (.ref l) (DeckL K), .dat false (.int m), .dat false (bsD bs), s5, s6, s7, .no] _ _
    have hl0 := hmb.bs.len0
    refine sj_seq <| sj_set false <| wd_call <| wa_o (i := 2) (v := .ref l) (Φ := DeckL K) rfl <| wa_d <| wd_var rfl <| wa_d <| wd_var rfl <| wa_d <| wd_op <| wd_lst3 <| wd_int <| wd_int <| wd_int <| wd_op <| wd_callO0 (i := 2) (v := .ref l) rfl <| use_next fun r1 hr1 => wd_int <| rd_mod (by decide) <| rd_sel (Int.emod_nonneg r1 (by decide)) (by have := Int.emod_lt_of_pos r1 (b := 3) (by decide); simpa using this) fun d hd => wa_d <| wd_int <| wa_nil ⟨agsGood_1 (v := .ref l) (Φ := DeckL K) rfl rfl, ?_⟩
    obtain ⟨n1, hn1, rfl⟩ := sel3 (a := 11) (b := 24) hd (by decide) (by decide)
    refine ⟨.ref l, m, bs, n1, 20, rfl, hmb, hn1, by decide, fun p hp hm hb hl12 hsz => asD_dat ?_⟩
    show SJ K [.ex v (ScriptO K ns), _, .ex (.ref l) (DeckL K), .dat false (.int m), .dat false (bsD bs), .dat false p.d, s6, s7, .no] _ _
    refine sj_seq <| sj_set false <| wd_call <| wa_o (i := 2) (v := .ref l) (Φ := DeckL K) rfl <| wa_d <| wd_var rfl <| wa_d <| wd_var rfl <| wa_d <| wd_op <| wd_lst3 <| wd_int <| wd_int <| wd_int <| wd_op <| wd_callO0 (i := 2) (v := .ref l) rfl <| use_next fun r2 hr2 => wd_int <| rd_mod (by decide) <| rd_sel (Int.emod_nonneg r2 (by decide)) (by have := Int.emod_lt_of_pos r2 (b := 3) (by decide); simpa using this) fun d hd => wa_d <| wd_int <| wa_nil ⟨agsGood_1 (v := .ref l) (Φ := DeckL K) rfl rfl, ?_⟩
    obtain ⟨n2, hn2, rfl⟩ := sel3 (a := 6) (b := 24) hd (by decide) (by decide)
    refine ⟨.ref l, m, bs, n2, 8, rfl, hmb, hn2, by decide, fun q0 hq0 hm0 hb0 hl0' hsz0 => asD_dat ?_⟩
    subst hm
    subst hb
    show SJ K [.ex v (ScriptO K ns), .dat false (.int (0 + (i : Int))), .ex (.ref l) (DeckL K), .dat false (.int p.m), .dat false (bsD p.bs), .dat false p.d, .dat false q0.d, s7, .no] _ _
    refine sj_cut (fun Γ' => ∃ q : Pg, q.Ok ∧ q.m = p.m ∧ q.bs = p.bs ∧ sizeL q.rows ≤ 20 ∧ Γ' = [.ex v (ScriptO K ns), .dat false (.int (0 + (i : Int))), .ex (.ref l) (DeckL K), .dat false (.int p.m), .dat false (bsD p.bs), .dat false p.d, .dat false q.d, s7, .no]) (sj_if <| wt_test <| wd_op <| wd_op <| wd_callO0 (i := 2) (v := .ref l) rfl <| use_next fun r3 hr3 => wd_int <| rd_mod (by decide) <| wd_int <| rd_eq sh_int sh_int ⟨_, rfl, ?_⟩) ?_
    · rw [eqv_int]
      exact iteD (fun _ => sj_set false <| wd_var rfl ⟨p, hp, rfl, rfl, hsz, rfl⟩) (fun _ => sj_next ⟨q0, hq0, hm0, hb0, by omega, rfl⟩)
    rintro _ ⟨q1, hq, hqm, hqb, hqz, rfl⟩
    have h30 := hp.r30
    have hq30 := hq.r30
    refine sj_seq <| sj_set false <| wd_lcPa (mi := false) (α := Rw) Rw.d (fun r => decide (r.kd = .give)) Rw.d (wipeOk_no rfl wipeOk_nil) gwn <| wi_list <| wd_op <| wd_var rfl <| wd_int <| rd_pgR ⟨_, rfl, p.rows, rfl, by omega, fun j r hr => gj_name ⟨rfl, wt_test <| wd_op <| wd_op <| wd_var rfl <| wd_int <| rd_rk <| wd_str <| rd_w (b := .give) ⟨_, rfl, rfl, fun _ => wd_var rfl rfl⟩⟩, ?_⟩
    have hfl : (p.rows.filter fun r => decide (r.kd = .give)).length ≤ p.rows.length := List.length_filter_le _ _
    have hsp := spL_gives p.rows
    refine sj_if <| wt_test <| wd_op <| wd_op <| wd_op <| wd_op <| wd_cb1 <| wd_op <| wd_var rfl <| wd_int <| rd_pgR <| rc_lenL <| wd_cb1 <| wd_var rfl <| rc_lenL <| rd_add <| wd_int <| rd_add <| wd_cb1 <| wd_op <| wd_var rfl <| wd_int <| rd_pgR <| rc_lenL <| rd_add <| wd_int <| rd_le ⟨_, rfl, ?_⟩
    rw [List.length_map, List.length_map, List.length_map]
    refine iteD (fun hle => ?_) (fun _ => sj_next ⟨_, _, _, _, _, _, _, _, rfl⟩)
    refine sj_if <| wt_not <| wt_B <| wd_call <| wa_o (i := 2) (v := .ref l) (Φ := DeckL K) rfl <| wa_d <| wd_var rfl <| wa_d <| wd_var rfl <| wa_d <| wd_op <| wd_var rfl <| wd_op <| wd_callO0 (i := 2) (v := .ref l) rfl <| use_next fun r4 hr4 => wd_cb1 <| wd_var rfl <| rc_lenL ?_
    rw [List.length_map]
    refine rd_mod (by omega) <| rd_gbox hl0 fun x hx => wa_nil ⟨agsGood_1 (v := .ref l) (Φ := DeckL K) rfl rfl, ?_⟩
    exact ⟨.ref l, p, q1, x, rfl, ⟨hp, hq, hqm, hqb, hx, by omega⟩, hsz, hqz, asD_new ⟨_, rfl, iteF' rfl <| sj_next ⟨_, _, _, _, _, _, _, _, rfl⟩⟩⟩
  rintro _ ⟨s1, s2, s3, s4, s5, s6, s7, s8, rfl⟩
  exact sj_retD true (wd_bl ⟨keep_ex keep_nil, q⟩)
end
end Dk
end
section
set_option Elab.async false
set_option linter.all false
set_option maxRecDepth 100000
namespace Ch
open PySem PySem.Spec PyProof.Rows L2 Pk Sy
structure Fx (K : PySem.W.Frag) (mg : Str → Option Value) : Prop where
  D_need_alike : Def K mg "need_alike" s_need_alike ["one", "other"]
  D_spots_behind : Def K mg "spots_behind" s_spots_behind ["rows"]
  D_skip_by : Def K mg "skip_by" s_skip_by ["thing", "many", "boxes"]
  D_row_anew : Def K mg "row_anew" s_row_anew ["rows", "at", "spots", "box", "boxes"]
  D_copied_row : Def K mg "copied_row" s_copied_row ["row"]
  D_put_after : Def K mg "put_after" s_put_after ["one", "other", "box"]
  D_l_cell_at : Def K mg "_law_cell_at" s_l_cell_at ["script", "k"]
  D_l_stir : Def K mg "_law_stir" s_l_stir ["cell", "k"]
  D_l_deck : Def K mg "_law_deck" s_l_deck ["cell", "many"]
  D_l_next : Def K mg "_law_next" s_l_next ["deck"]
  D_l_thing : Def K mg "_law_thing" s_l_thing ["deck", "m", "boxes", "deep"]
  D_l_row : Def K mg "_law_row" s_l_row ["deck", "m", "boxes", "wide"]
  D_l_boxes : Def K mg "_law_boxes" s_l_boxes ["deck"]
  D_l_program : Def K mg "_law_program" s_l_program ["deck", "m", "boxes", "most", "wide"]
  D_l_store : Def K mg "_law_store" s_l_store ["deck", "program"]
  D_l_copy : Def K mg "_law_copy" s_l_copy ["program"]
  D_l_worth : Def K mg "_law_worth" s_l_worth ["program", "thing", "store"]
  D_l_set : Def K mg "_law_set" s_l_set ["program", "store", "box", "worth"]
  D_l_ways : Def K mg "_law_ways" s_l_ways ["program", "place"]
  D_l_runs : Def K mg "_law_runs" s_l_runs ["program", "store"]
  D_l_is_thing : Def K mg "_law_is_thing" s_l_is_thing ["thing", "m", "boxes", "deep"]
  D_l_is_row : Def K mg "_law_is_row" s_l_is_row ["row", "m", "boxes"]
  D_l_is_program : Def K mg "_law_is_program" s_l_is_program ["found", "m", "boxes"]
  D_l_due : Def K mg "_law_due" s_l_due ["one", "other", "box", "store"]
  D_l_right : Def K mg "_law_right" s_l_right ["deck", "one", "other", "box"]
  m_int : mg "int" = none
  m_min : mg "min" = none
  m_len : mg "len" = none
  m_list : mg "list" = none
  m_range : mg "range" = none
  m_isinstance : mg "isinstance" = none
  m_str : mg "str" = none
  m_max : mg "max" = none
  m_tuple : mg "tuple" = none
  m_enumerate : mg "enumerate" = none
  m_bool : mg "bool" = none
  m_sorted : mg "sorted" = none
  g_MOST_ROWS : ∃ t, mg "MOST_ROWS" = some (.int 30 t)
end Ch
end
section
set_option Elab.async false
set_option linter.all false
set_option maxRecDepth 100000
namespace Ch
open PySem PySem.Spec PyProof.Rows L2 Pk Sy Dk
theorem chain {P : Program} {w : World} {K : PySem.W.Frag} {mg : Str → Option Value} {base : Heap} {f : Addr} {fd : FuncData} (F0 : Fun K "law" "law" s_law f fd) (x : Fx K mg) : FnOk P w K mg base CX0 14 f fd ["script"] (spG ⟨K, w⟩ (T_law ⟨K, w⟩)) := by
  obtain ⟨KK, rfl, rfl⟩ : ∃ KK : Kw, KK.K = K ∧ KK.w = w := ⟨⟨K, w⟩, rfl, rfl⟩
  have h_l_cell_at := ok_cellat (P := P) (K := KK) (base := base) (k := 0) x.D_l_cell_at x.m_len
  have h_l_stir := ok_stir (P := P) (K := KK) (base := base) (k := 0) x.D_l_stir 
  have h_l_deck := ok_edeck (k := 1) x.D_l_deck h_l_stir x.m_range
  have h_l_next := ok_next (P := P) (K := KK) (base := base) (k := 0) x.D_l_next 
  have h_l_thing := ok_ething (k := 1) x.D_l_thing h_l_next x.m_len 4
  have h_l_row := ok_erow (k := 5) x.D_l_row (h_l_next.mono (by decide)) h_l_thing x.m_len x.m_range x.m_min x.m_max
  have h_l_boxes := ok_eboxes (k := 1) x.D_l_boxes h_l_next x.m_range x.m_len
  have h_l_program := ok_eprogram (k := 6) x.D_l_program (h_l_next.mono (by decide)) h_l_row x.m_list x.m_range x.m_len
  have h_l_store := ok_estore (k := 1) x.D_l_store h_l_next x.m_tuple
  have h_need_alike := ok_alike (P := P) (K := KK) (base := base) (k := 0) x.D_need_alike 
  have h_spots_behind := ok_spots (P := P) (K := KK) (base := base) (k := 0) x.D_spots_behind x.m_int
  have h_skip_by := ok_skipby (P := P) (K := KK) (base := base) (k := 0) x.D_skip_by 
  have h_l_worth := ok_uworth (P := P) (K := KK) (base := base) (k := 0) x.D_l_worth x.m_int 4
  have h_l_set := ok_uset (P := P) (K := KK) (base := base) (k := 0) x.D_l_set 
  have h_l_ways := ok_uways (k := 4) x.D_l_ways (h_l_set.mono (by decide)) h_l_worth x.m_len
  have h_copied_row := ok_copiedA (P := P) (K := KK) (base := base) (k := 0) x.D_copied_row x.m_list
  have h_row_anew := ok_anewA (k := 1) x.D_row_anew h_copied_row h_skip_by x.m_min x.m_len
  have h_put_after := ok_afterA (k := 2) x.D_put_after (h_copied_row.mono (by decide)) h_row_anew (h_spots_behind.mono (by decide)) (h_need_alike.mono (by decide)) x.m_isinstance x.m_str x.m_len x.m_range x.m_list x.g_MOST_ROWS
  have h_l_copy := ok_copyN (P := P) (K := KK) (base := base) (k := 0) x.D_l_copy x.m_list
  have h_l_runs := ok_lrunsV (k := 5) x.D_l_runs h_l_ways x.m_int x.m_enumerate
  have h_l_is_thing := ok_isthing (P := P) (K := KK) (base := base) (k := 0) x.D_l_is_thing x.m_range x.m_len x.m_isinstance x.m_tuple x.m_bool 4
  have h_l_is_row := ok_isrow (k := 4) x.D_l_is_row h_l_is_thing x.m_len x.m_isinstance x.m_list x.m_bool x.m_range x.m_tuple
  have h_l_is_program := ok_isprogV (k := 5) x.D_l_is_program h_l_is_row x.m_len x.m_isinstance x.m_list x.m_tuple
  have h_l_due := ok_vdue (k := 6) x.D_l_due h_l_runs (h_l_set.mono (by decide)) x.m_sorted
  have h_l_right := ok_right70 (k := 7) x.D_l_right (h_put_after.mono (by decide)) (h_l_copy.mono (by decide)) h_l_due (h_l_runs.mono (by decide)) (h_l_store.mono (by decide)) (h_l_is_program.mono (by decide)) x.m_len x.m_range x.m_sorted
  exact ok_law (k := 13) F0 (h_l_right.mono (by decide)) (h_l_next.mono (by decide)) (h_l_program.mono (by decide)) (h_l_boxes.mono (by decide)) (h_l_deck.mono (by decide)) (h_l_cell_at.mono (by decide)) x.m_range x.m_max x.m_min x.m_len
end Ch
end
section
set_option Elab.async false
set_option linter.all false
set_option maxRecDepth 100000
set_option maxHeartbeats 0
namespace Hd
open PySem PySem.Spec PyProof.Rows L2 Pk Sy Ch
def d_need_alike : He.DefD := ⟨("need_alike", none), "need_alike", "need_alike", defArgs s_need_alike, defBody s_need_alike, defScope s_need_alike, [], []⟩
def d_spots_behind : He.DefD := ⟨("spots_behind", none), "spots_behind", "spots_behind", defArgs s_spots_behind, defBody s_spots_behind, defScope s_spots_behind, [], []⟩
def d_skip_by : He.DefD := ⟨("skip_by", none), "skip_by", "skip_by", defArgs s_skip_by, defBody s_skip_by, defScope s_skip_by, [], []⟩
def d_row_anew : He.DefD := ⟨("row_anew", none), "row_anew", "row_anew", defArgs s_row_anew, defBody s_row_anew, defScope s_row_anew, [], []⟩
def d_copied_row : He.DefD := ⟨("copied_row", none), "copied_row", "copied_row", defArgs s_copied_row, defBody s_copied_row, defScope s_copied_row, [], []⟩
def d_put_after : He.DefD := ⟨("put_after", none), "put_after", "put_after", defArgs s_put_after, defBody s_put_after, defScope s_put_after, [], []⟩
def d_l_cell_at : He.DefD := ⟨("_law_cell_at", none), "_law_cell_at", "_law_cell_at", defArgs s_l_cell_at, defBody s_l_cell_at, defScope s_l_cell_at, [], []⟩
def d_l_stir : He.DefD := ⟨("_law_stir", none), "_law_stir", "_law_stir", defArgs s_l_stir, defBody s_l_stir, defScope s_l_stir, [], []⟩
def d_l_deck : He.DefD := ⟨("_law_deck", none), "_law_deck", "_law_deck", defArgs s_l_deck, defBody s_l_deck, defScope s_l_deck, [], []⟩
def d_l_next : He.DefD := ⟨("_law_next", none), "_law_next", "_law_next", defArgs s_l_next, defBody s_l_next, defScope s_l_next, [], []⟩
def d_l_thing : He.DefD := ⟨("_law_thing", none), "_law_thing", "_law_thing", defArgs s_l_thing, defBody s_l_thing, defScope s_l_thing, [], []⟩
def d_l_row : He.DefD := ⟨("_law_row", none), "_law_row", "_law_row", defArgs s_l_row, defBody s_l_row, defScope s_l_row, [], []⟩
def d_l_boxes : He.DefD := ⟨("_law_boxes", none), "_law_boxes", "_law_boxes", defArgs s_l_boxes, defBody s_l_boxes, defScope s_l_boxes, [], []⟩
def d_l_program : He.DefD := ⟨("_law_program", none), "_law_program", "_law_program", defArgs s_l_program, defBody s_l_program, defScope s_l_program, [], []⟩
def d_l_store : He.DefD := ⟨("_law_store", none), "_law_store", "_law_store", defArgs s_l_store, defBody s_l_store, defScope s_l_store, [], []⟩
def d_l_copy : He.DefD := ⟨("_law_copy", none), "_law_copy", "_law_copy", defArgs s_l_copy, defBody s_l_copy, defScope s_l_copy, [], []⟩
def d_l_worth : He.DefD := ⟨("_law_worth", none), "_law_worth", "_law_worth", defArgs s_l_worth, defBody s_l_worth, defScope s_l_worth, [], []⟩
def d_l_set : He.DefD := ⟨("_law_set", none), "_law_set", "_law_set", defArgs s_l_set, defBody s_l_set, defScope s_l_set, [], []⟩
def d_l_ways : He.DefD := ⟨("_law_ways", none), "_law_ways", "_law_ways", defArgs s_l_ways, defBody s_l_ways, defScope s_l_ways, [], []⟩
def d_l_runs : He.DefD := ⟨("_law_runs", none), "_law_runs", "_law_runs", defArgs s_l_runs, defBody s_l_runs, defScope s_l_runs, [], []⟩
def d_l_is_thing : He.DefD := ⟨("_law_is_thing", none), "_law_is_thing", "_law_is_thing", defArgs s_l_is_thing, defBody s_l_is_thing, defScope s_l_is_thing, [], []⟩
def d_l_is_row : He.DefD := ⟨("_law_is_row", none), "_law_is_row", "_law_is_row", defArgs s_l_is_row, defBody s_l_is_row, defScope s_l_is_row, [], []⟩
def d_l_is_program : He.DefD := ⟨("_law_is_program", none), "_law_is_program", "_law_is_program", defArgs s_l_is_program, defBody s_l_is_program, defScope s_l_is_program, [], []⟩
def d_l_due : He.DefD := ⟨("_law_due", none), "_law_due", "_law_due", defArgs s_l_due, defBody s_l_due, defScope s_l_due, [], []⟩
def d_l_right : He.DefD := ⟨("_law_right", none), "_law_right", "_law_right", defArgs s_l_right, defBody s_l_right, defScope s_l_right, [], []⟩
def d_law : He.DefD := ⟨("law", none), "law", "law", defArgs s_law, defBody s_law, defScope s_law, [], []⟩
def fn : List He.DefD := [d_need_alike, d_spots_behind, d_skip_by, d_row_anew, d_copied_row, d_put_after, d_l_cell_at, d_l_stir, d_l_deck, d_l_next, d_l_thing, d_l_row, d_l_boxes, d_l_program, d_l_store, d_l_copy, d_l_worth, d_l_set, d_l_ways, d_l_runs, d_l_is_thing, d_l_is_row, d_l_is_program, d_l_due, d_l_right, d_law]
def fa : List He.Fa := [.glo "need_alike", .glo "spots_behind", .glo "skip_by", .glo "row_anew", .glo "copied_row", .glo "put_after", .glo "_law_cell_at", .glo "_law_stir", .glo "_law_deck", .glo "_law_next", .glo "_law_thing", .glo "_law_row", .glo "_law_boxes", .glo "_law_program", .glo "_law_store", .glo "_law_copy", .glo "_law_worth", .glo "_law_set", .glo "_law_ways", .glo "_law_runs", .glo "_law_is_thing", .glo "_law_is_row", .glo "_law_is_program", .glo "_law_due", .glo "_law_right", .glo "law", .free "int", .free "min", .free "len", .free "list", .free "range", .free "isinstance", .free "str", .free "max", .free "tuple", .free "enumerate", .free "bool", .free "sorted", .int "MOST_ROWS" 30]
abbrev R : PySem.W.OpenRow := PySem.W.OpenLaw.row PySem.Challenge.rw_pickruns_k70_put_behind
abbrev hk : PySem.W.Hook := He.hookD 4 fa fn
def ob (s : PySem.W.SharedT) : He.AlD := He.obsDG 4 fa fn (HandSHeadRun.getT s)
theorem ob_eq (s : PySem.W.SharedT) : ob s = hk.obs s.abs := He.obsDG_eq (HandSHeadRun.getT_eq s)
def loose : List PySem.Str := [("RunError" : PySem.Str), ("TooMany" : PySem.Str), ("NoFit" : PySem.Str), ("NoName" : PySem.Str), ("MOST_ROWS" : PySem.Str), ("need_alike" : PySem.Str), ("spots_behind" : PySem.Str), ("skip_by" : PySem.Str), ("row_anew" : PySem.Str), ("copied_row" : PySem.Str), ("put_after" : PySem.Str), ("_law_cell_at" : PySem.Str), ("_law_stir" : PySem.Str), ("_law_deck" : PySem.Str), ("_law_next" : PySem.Str), ("_law_thing" : PySem.Str), ("_law_row" : PySem.Str), ("_law_boxes" : PySem.Str), ("_law_program" : PySem.Str), ("_law_store" : PySem.Str), ("_law_copy" : PySem.Str), ("_law_worth" : PySem.Str), ("_law_set" : PySem.Str), ("_law_ways" : PySem.Str), ("_law_runs" : PySem.Str), ("_law_is_thing" : PySem.Str), ("_law_is_row" : PySem.Str), ("_law_is_program" : PySem.Str), ("_law_due" : PySem.Str), ("_law_right" : PySem.Str)]
theorem run (w : World) : HandSHeadRun.RunEq R (PySem.W.view R.prog [33]) hk ob 12000 loose w := by
  intro os
  kernel_rfl
section
variable {K : PySem.W.Frag} {h : Heap} {mg : Str → Option Value}
theorem D_need_alike (X : K.In h) (G : h.Ns mainGlobals mg) (c : He.SaysD fa fn K) : Def K mg "need_alike" s_need_alike ["one", "other"] := by
  obtain ⟨fd, F⟩ := c.def_ 0 (d := d_need_alike) rfl
  have F' : Fun K "need_alike" "need_alike" s_need_alike _ fd := He5.fun_of F
  exact ⟨_, fd, He.glo_ok X G (c.fact 0 (f := .glo "need_alike") rfl), F', F'.binds (ps := ["one", "other"]) fun _ _ _ _ _ _ us hl => match us, hl with | [_, _], _ => rfl⟩
theorem D_spots_behind (X : K.In h) (G : h.Ns mainGlobals mg) (c : He.SaysD fa fn K) : Def K mg "spots_behind" s_spots_behind ["rows"] := by
  obtain ⟨fd, F⟩ := c.def_ 1 (d := d_spots_behind) rfl
  have F' : Fun K "spots_behind" "spots_behind" s_spots_behind _ fd := He5.fun_of F
  exact ⟨_, fd, He.glo_ok X G (c.fact 1 (f := .glo "spots_behind") rfl), F', F'.binds (ps := ["rows"]) fun _ _ _ _ _ _ us hl => match us, hl with | [_], _ => rfl⟩
theorem D_skip_by (X : K.In h) (G : h.Ns mainGlobals mg) (c : He.SaysD fa fn K) : Def K mg "skip_by" s_skip_by ["thing", "many", "boxes"] := by
  obtain ⟨fd, F⟩ := c.def_ 2 (d := d_skip_by) rfl
  have F' : Fun K "skip_by" "skip_by" s_skip_by _ fd := He5.fun_of F
  exact ⟨_, fd, He.glo_ok X G (c.fact 2 (f := .glo "skip_by") rfl), F', F'.binds (ps := ["thing", "many", "boxes"]) fun _ _ _ _ _ _ us hl => match us, hl with | [_, _, _], _ => rfl⟩
theorem D_row_anew (X : K.In h) (G : h.Ns mainGlobals mg) (c : He.SaysD fa fn K) : Def K mg "row_anew" s_row_anew ["rows", "at", "spots", "box", "boxes"] := by
  obtain ⟨fd, F⟩ := c.def_ 3 (d := d_row_anew) rfl
  have F' : Fun K "row_anew" "row_anew" s_row_anew _ fd := He5.fun_of F
  exact ⟨_, fd, He.glo_ok X G (c.fact 3 (f := .glo "row_anew") rfl), F', F'.binds (ps := ["rows", "at", "spots", "box", "boxes"]) fun _ _ _ _ _ _ us hl => match us, hl with | [_, _, _, _, _], _ => rfl⟩
theorem D_copied_row (X : K.In h) (G : h.Ns mainGlobals mg) (c : He.SaysD fa fn K) : Def K mg "copied_row" s_copied_row ["row"] := by
  obtain ⟨fd, F⟩ := c.def_ 4 (d := d_copied_row) rfl
  have F' : Fun K "copied_row" "copied_row" s_copied_row _ fd := He5.fun_of F
  exact ⟨_, fd, He.glo_ok X G (c.fact 4 (f := .glo "copied_row") rfl), F', F'.binds (ps := ["row"]) fun _ _ _ _ _ _ us hl => match us, hl with | [_], _ => rfl⟩
theorem D_put_after (X : K.In h) (G : h.Ns mainGlobals mg) (c : He.SaysD fa fn K) : Def K mg "put_after" s_put_after ["one", "other", "box"] := by
  obtain ⟨fd, F⟩ := c.def_ 5 (d := d_put_after) rfl
  have F' : Fun K "put_after" "put_after" s_put_after _ fd := He5.fun_of F
  exact ⟨_, fd, He.glo_ok X G (c.fact 5 (f := .glo "put_after") rfl), F', F'.binds (ps := ["one", "other", "box"]) fun _ _ _ _ _ _ us hl => match us, hl with | [_, _, _], _ => rfl⟩
theorem D_l_cell_at (X : K.In h) (G : h.Ns mainGlobals mg) (c : He.SaysD fa fn K) : Def K mg "_law_cell_at" s_l_cell_at ["script", "k"] := by
  obtain ⟨fd, F⟩ := c.def_ 6 (d := d_l_cell_at) rfl
  have F' : Fun K "_law_cell_at" "_law_cell_at" s_l_cell_at _ fd := He5.fun_of F
  exact ⟨_, fd, He.glo_ok X G (c.fact 6 (f := .glo "_law_cell_at") rfl), F', F'.binds (ps := ["script", "k"]) fun _ _ _ _ _ _ us hl => match us, hl with | [_, _], _ => rfl⟩
theorem D_l_stir (X : K.In h) (G : h.Ns mainGlobals mg) (c : He.SaysD fa fn K) : Def K mg "_law_stir" s_l_stir ["cell", "k"] := by
  obtain ⟨fd, F⟩ := c.def_ 7 (d := d_l_stir) rfl
  have F' : Fun K "_law_stir" "_law_stir" s_l_stir _ fd := He5.fun_of F
  exact ⟨_, fd, He.glo_ok X G (c.fact 7 (f := .glo "_law_stir") rfl), F', F'.binds (ps := ["cell", "k"]) fun _ _ _ _ _ _ us hl => match us, hl with | [_, _], _ => rfl⟩
theorem D_l_deck (X : K.In h) (G : h.Ns mainGlobals mg) (c : He.SaysD fa fn K) : Def K mg "_law_deck" s_l_deck ["cell", "many"] := by
  obtain ⟨fd, F⟩ := c.def_ 8 (d := d_l_deck) rfl
  have F' : Fun K "_law_deck" "_law_deck" s_l_deck _ fd := He5.fun_of F
  exact ⟨_, fd, He.glo_ok X G (c.fact 8 (f := .glo "_law_deck") rfl), F', F'.binds (ps := ["cell", "many"]) fun _ _ _ _ _ _ us hl => match us, hl with | [_, _], _ => rfl⟩
theorem D_l_next (X : K.In h) (G : h.Ns mainGlobals mg) (c : He.SaysD fa fn K) : Def K mg "_law_next" s_l_next ["deck"] := by
  obtain ⟨fd, F⟩ := c.def_ 9 (d := d_l_next) rfl
  have F' : Fun K "_law_next" "_law_next" s_l_next _ fd := He5.fun_of F
  exact ⟨_, fd, He.glo_ok X G (c.fact 9 (f := .glo "_law_next") rfl), F', F'.binds (ps := ["deck"]) fun _ _ _ _ _ _ us hl => match us, hl with | [_], _ => rfl⟩
theorem D_l_thing (X : K.In h) (G : h.Ns mainGlobals mg) (c : He.SaysD fa fn K) : Def K mg "_law_thing" s_l_thing ["deck", "m", "boxes", "deep"] := by
  obtain ⟨fd, F⟩ := c.def_ 10 (d := d_l_thing) rfl
  have F' : Fun K "_law_thing" "_law_thing" s_l_thing _ fd := He5.fun_of F
  exact ⟨_, fd, He.glo_ok X G (c.fact 10 (f := .glo "_law_thing") rfl), F', F'.binds (ps := ["deck", "m", "boxes", "deep"]) fun _ _ _ _ _ _ us hl => match us, hl with | [_, _, _, _], _ => rfl⟩
theorem D_l_row (X : K.In h) (G : h.Ns mainGlobals mg) (c : He.SaysD fa fn K) : Def K mg "_law_row" s_l_row ["deck", "m", "boxes", "wide"] := by
  obtain ⟨fd, F⟩ := c.def_ 11 (d := d_l_row) rfl
  have F' : Fun K "_law_row" "_law_row" s_l_row _ fd := He5.fun_of F
  exact ⟨_, fd, He.glo_ok X G (c.fact 11 (f := .glo "_law_row") rfl), F', F'.binds (ps := ["deck", "m", "boxes", "wide"]) fun _ _ _ _ _ _ us hl => match us, hl with | [_, _, _, _], _ => rfl⟩
theorem D_l_boxes (X : K.In h) (G : h.Ns mainGlobals mg) (c : He.SaysD fa fn K) : Def K mg "_law_boxes" s_l_boxes ["deck"] := by
  obtain ⟨fd, F⟩ := c.def_ 12 (d := d_l_boxes) rfl
  have F' : Fun K "_law_boxes" "_law_boxes" s_l_boxes _ fd := He5.fun_of F
  exact ⟨_, fd, He.glo_ok X G (c.fact 12 (f := .glo "_law_boxes") rfl), F', F'.binds (ps := ["deck"]) fun _ _ _ _ _ _ us hl => match us, hl with | [_], _ => rfl⟩
theorem D_l_program (X : K.In h) (G : h.Ns mainGlobals mg) (c : He.SaysD fa fn K) : Def K mg "_law_program" s_l_program ["deck", "m", "boxes", "most", "wide"] := by
  obtain ⟨fd, F⟩ := c.def_ 13 (d := d_l_program) rfl
  have F' : Fun K "_law_program" "_law_program" s_l_program _ fd := He5.fun_of F
  exact ⟨_, fd, He.glo_ok X G (c.fact 13 (f := .glo "_law_program") rfl), F', F'.binds (ps := ["deck", "m", "boxes", "most", "wide"]) fun _ _ _ _ _ _ us hl => match us, hl with | [_, _, _, _, _], _ => rfl⟩
theorem D_l_store (X : K.In h) (G : h.Ns mainGlobals mg) (c : He.SaysD fa fn K) : Def K mg "_law_store" s_l_store ["deck", "program"] := by
  obtain ⟨fd, F⟩ := c.def_ 14 (d := d_l_store) rfl
  have F' : Fun K "_law_store" "_law_store" s_l_store _ fd := He5.fun_of F
  exact ⟨_, fd, He.glo_ok X G (c.fact 14 (f := .glo "_law_store") rfl), F', F'.binds (ps := ["deck", "program"]) fun _ _ _ _ _ _ us hl => match us, hl with | [_, _], _ => rfl⟩
theorem D_l_copy (X : K.In h) (G : h.Ns mainGlobals mg) (c : He.SaysD fa fn K) : Def K mg "_law_copy" s_l_copy ["program"] := by
  obtain ⟨fd, F⟩ := c.def_ 15 (d := d_l_copy) rfl
  have F' : Fun K "_law_copy" "_law_copy" s_l_copy _ fd := He5.fun_of F
  exact ⟨_, fd, He.glo_ok X G (c.fact 15 (f := .glo "_law_copy") rfl), F', F'.binds (ps := ["program"]) fun _ _ _ _ _ _ us hl => match us, hl with | [_], _ => rfl⟩
theorem D_l_worth (X : K.In h) (G : h.Ns mainGlobals mg) (c : He.SaysD fa fn K) : Def K mg "_law_worth" s_l_worth ["program", "thing", "store"] := by
  obtain ⟨fd, F⟩ := c.def_ 16 (d := d_l_worth) rfl
  have F' : Fun K "_law_worth" "_law_worth" s_l_worth _ fd := He5.fun_of F
  exact ⟨_, fd, He.glo_ok X G (c.fact 16 (f := .glo "_law_worth") rfl), F', F'.binds (ps := ["program", "thing", "store"]) fun _ _ _ _ _ _ us hl => match us, hl with | [_, _, _], _ => rfl⟩
theorem D_l_set (X : K.In h) (G : h.Ns mainGlobals mg) (c : He.SaysD fa fn K) : Def K mg "_law_set" s_l_set ["program", "store", "box", "worth"] := by
  obtain ⟨fd, F⟩ := c.def_ 17 (d := d_l_set) rfl
  have F' : Fun K "_law_set" "_law_set" s_l_set _ fd := He5.fun_of F
  exact ⟨_, fd, He.glo_ok X G (c.fact 17 (f := .glo "_law_set") rfl), F', F'.binds (ps := ["program", "store", "box", "worth"]) fun _ _ _ _ _ _ us hl => match us, hl with | [_, _, _, _], _ => rfl⟩
theorem D_l_ways (X : K.In h) (G : h.Ns mainGlobals mg) (c : He.SaysD fa fn K) : Def K mg "_law_ways" s_l_ways ["program", "place"] := by
  obtain ⟨fd, F⟩ := c.def_ 18 (d := d_l_ways) rfl
  have F' : Fun K "_law_ways" "_law_ways" s_l_ways _ fd := He5.fun_of F
  exact ⟨_, fd, He.glo_ok X G (c.fact 18 (f := .glo "_law_ways") rfl), F', F'.binds (ps := ["program", "place"]) fun _ _ _ _ _ _ us hl => match us, hl with | [_, _], _ => rfl⟩
theorem D_l_runs (X : K.In h) (G : h.Ns mainGlobals mg) (c : He.SaysD fa fn K) : Def K mg "_law_runs" s_l_runs ["program", "store"] := by
  obtain ⟨fd, F⟩ := c.def_ 19 (d := d_l_runs) rfl
  have F' : Fun K "_law_runs" "_law_runs" s_l_runs _ fd := He5.fun_of F
  exact ⟨_, fd, He.glo_ok X G (c.fact 19 (f := .glo "_law_runs") rfl), F', F'.binds (ps := ["program", "store"]) fun _ _ _ _ _ _ us hl => match us, hl with | [_, _], _ => rfl⟩
theorem D_l_is_thing (X : K.In h) (G : h.Ns mainGlobals mg) (c : He.SaysD fa fn K) : Def K mg "_law_is_thing" s_l_is_thing ["thing", "m", "boxes", "deep"] := by
  obtain ⟨fd, F⟩ := c.def_ 20 (d := d_l_is_thing) rfl
  have F' : Fun K "_law_is_thing" "_law_is_thing" s_l_is_thing _ fd := He5.fun_of F
  exact ⟨_, fd, He.glo_ok X G (c.fact 20 (f := .glo "_law_is_thing") rfl), F', F'.binds (ps := ["thing", "m", "boxes", "deep"]) fun _ _ _ _ _ _ us hl => match us, hl with | [_, _, _, _], _ => rfl⟩
theorem D_l_is_row (X : K.In h) (G : h.Ns mainGlobals mg) (c : He.SaysD fa fn K) : Def K mg "_law_is_row" s_l_is_row ["row", "m", "boxes"] := by
  obtain ⟨fd, F⟩ := c.def_ 21 (d := d_l_is_row) rfl
  have F' : Fun K "_law_is_row" "_law_is_row" s_l_is_row _ fd := He5.fun_of F
  exact ⟨_, fd, He.glo_ok X G (c.fact 21 (f := .glo "_law_is_row") rfl), F', F'.binds (ps := ["row", "m", "boxes"]) fun _ _ _ _ _ _ us hl => match us, hl with | [_, _, _], _ => rfl⟩
theorem D_l_is_program (X : K.In h) (G : h.Ns mainGlobals mg) (c : He.SaysD fa fn K) : Def K mg "_law_is_program" s_l_is_program ["found", "m", "boxes"] := by
  obtain ⟨fd, F⟩ := c.def_ 22 (d := d_l_is_program) rfl
  have F' : Fun K "_law_is_program" "_law_is_program" s_l_is_program _ fd := He5.fun_of F
  exact ⟨_, fd, He.glo_ok X G (c.fact 22 (f := .glo "_law_is_program") rfl), F', F'.binds (ps := ["found", "m", "boxes"]) fun _ _ _ _ _ _ us hl => match us, hl with | [_, _, _], _ => rfl⟩
theorem D_l_due (X : K.In h) (G : h.Ns mainGlobals mg) (c : He.SaysD fa fn K) : Def K mg "_law_due" s_l_due ["one", "other", "box", "store"] := by
  obtain ⟨fd, F⟩ := c.def_ 23 (d := d_l_due) rfl
  have F' : Fun K "_law_due" "_law_due" s_l_due _ fd := He5.fun_of F
  exact ⟨_, fd, He.glo_ok X G (c.fact 23 (f := .glo "_law_due") rfl), F', F'.binds (ps := ["one", "other", "box", "store"]) fun _ _ _ _ _ _ us hl => match us, hl with | [_, _, _, _], _ => rfl⟩
theorem D_l_right (X : K.In h) (G : h.Ns mainGlobals mg) (c : He.SaysD fa fn K) : Def K mg "_law_right" s_l_right ["deck", "one", "other", "box"] := by
  obtain ⟨fd, F⟩ := c.def_ 24 (d := d_l_right) rfl
  have F' : Fun K "_law_right" "_law_right" s_l_right _ fd := He5.fun_of F
  exact ⟨_, fd, He.glo_ok X G (c.fact 24 (f := .glo "_law_right") rfl), F', F'.binds (ps := ["deck", "one", "other", "box"]) fun _ _ _ _ _ _ us hl => match us, hl with | [_, _, _, _], _ => rfl⟩
theorem fx (X : K.In h) (G : h.Ns mainGlobals mg) (c : He.SaysD fa fn K) : Fx K mg := ⟨D_need_alike X G c,
  D_spots_behind X G c,
  D_skip_by X G c,
  D_row_anew X G c,
  D_copied_row X G c,
  D_put_after X G c,
  D_l_cell_at X G c,
  D_l_stir X G c,
  D_l_deck X G c,
  D_l_next X G c,
  D_l_thing X G c,
  D_l_row X G c,
  D_l_boxes X G c,
  D_l_program X G c,
  D_l_store X G c,
  D_l_copy X G c,
  D_l_worth X G c,
  D_l_set X G c,
  D_l_ways X G c,
  D_l_runs X G c,
  D_l_is_thing X G c,
  D_l_is_row X G c,
  D_l_is_program X G c,
  D_l_due X G c,
  D_l_right X G c,
  He.free_ok X G (c.fact 26 (f := .free "int") rfl),
  He.free_ok X G (c.fact 27 (f := .free "min") rfl),
  He.free_ok X G (c.fact 28 (f := .free "len") rfl),
  He.free_ok X G (c.fact 29 (f := .free "list") rfl),
  He.free_ok X G (c.fact 30 (f := .free "range") rfl),
  He.free_ok X G (c.fact 31 (f := .free "isinstance") rfl),
  He.free_ok X G (c.fact 32 (f := .free "str") rfl),
  He.free_ok X G (c.fact 33 (f := .free "max") rfl),
  He.free_ok X G (c.fact 34 (f := .free "tuple") rfl),
  He.free_ok X G (c.fact 35 (f := .free "enumerate") rfl),
  He.free_ok X G (c.fact 36 (f := .free "bool") rfl),
  He.free_ok X G (c.fact 37 (f := .free "sorted") rfl),
  He.int_ok X G (c.fact 38 (f := .int "MOST_ROWS" 30) rfl)⟩
theorem facts {P : Program} {w : World} {f : Addr} (X : K.In h) (G : h.Ns mainGlobals mg) (hfa : mg ("law" : Str) = some (.ref f)) (c : He.SaysD fa fn K) :
    ∃ fd : FuncData, (∀ (s : Shared) (v : Value), BindsTo s fd ⟨[v], []⟩ [("script", v)]) ∧ ∀ base : Heap, K.In base → base.Ns mainGlobals mg → FnOk P w K mg base CX0 14 f fd ["script"] (spG ⟨K, w⟩ (T_law ⟨K, w⟩)) := by
  obtain ⟨fd, F⟩ := c.def_ 25 (d := d_law) rfl
  have e := hfa.symm.trans (He.glo_ok X G (c.fact 25 (f := .glo "law") rfl))
  cases e
  have b := FunD.bindsA (ps := ["script"]) F fun _ _ _ _ _ _ us hl => match us, hl with | [_], _ => rfl
  have F' : Fun K "law" "law" s_law _ fd := He5.fun_of F
  exact ⟨fd, fun s v => b s [v] rfl, fun base _ _ => chain F' (fx X G c)⟩
end
end Hd
open PySem PySem.W PySem.Calls PyProof.Rows
theorem PySem.Challenge.cw_pickruns_k70_put_behind_holds : PySem.Challenge.rw_pickruns_k70_put_behind.Holds := by
  w_on; o_law
  refine HandSHeadRun.head_any (r := OpenLaw.row PySem.Challenge.rw_pickruns_k70_put_behind) (q := view (OpenLaw.row PySem.Challenge.rw_pickruns_k70_put_behind).prog [33]) (H := Hd.hk) (ob := Hd.ob) (M := 12000) (loose := Hd.loose) (d := HandSHeadRun.topDef (OpenLaw.row PySem.Challenge.rw_pickruns_k70_put_behind).prog 33) (kwd := []) Hd.ob_eq
    (by kernel_rfl) (fun s => by kernel_rfl) Hd.run (by kernel_rfl) (by kernel_rfl) (by kernel_rfl) (by rfl) (by first | assumption | decide +kernel) (by decide +kernel) ⟨rfl, rfl, rfl, rfl, rfl, by decide +kernel⟩ ?hw ?hc
  case hw => w_witness2
  case hc =>
    refine L2.walk_ofE (l := PySem.Challenge.rw_pickruns_k70_put_behind) (n := 63) (k := 14) (x := "script") (CX := L2.CX0) rfl (by decide) (by kernel_rfl) ⟨rfl, by decide, by decide⟩ ?F (fun _ _ _ _ z => z)
    intro w mg fa h Y G hmg0
    obtain ⟨K, KX, c⟩ := Y
    have hmg : mg ("law" : PySem.Str) = some (.ref fa) := by
      have e : (HandSHeadRun.topDef (OpenLaw.row PySem.Challenge.rw_pickruns_k70_put_behind).prog 33).name = ("law" : PySem.Str) := by kernel_rfl
      rw [← e]
      exact hmg0
    obtain ⟨fd, hb, hF⟩ := Hd.facts (P := (PySem.Challenge.rw_pickruns_k70_put_behind).prog) (w := w) KX G hmg c
    exact ⟨K, fd, Pk.spG ⟨K, w⟩ (Pk.T_law ⟨K, w⟩), KX, hb, fun H a ns hl _ hS => Pk.law_start hl hS fun _ => rfl, hF⟩
end
