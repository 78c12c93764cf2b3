import PyProof.Rows.All
import PyProof.StrBlock2
import PyProof.ReprRoads
import PyProof.ReprLen
import PyProof.P3In
import PyProof.P3Eq
import Wide.All
import Wide.FinOn
import OpenK.AllK
import HandS.ForMost
import HandS.ForExc
import HandS.IsInst
import HandS.Deep
import HandS.Conv
import HandS.Walk
import KE.KDictKeyed
import HandS.Style
import HandS.Zip
import HandS.TupAny
import HandS.Text
import HandS.WordsExc
import HandS.TryOnly
import HandS.ExcIs
import HandS.ExcValue
import HandS.HeadHook1
import HandS.HeadHook2
import KE.KDictZip
import HandS.Strs
import HandS.ExcInit
import HandS.ExcField
import KE.DataCmp
import KE.SortData
import KE.KEqDict
import KE.KDictWalk
import KE.KDictCopyH
import KE.KDictDisplayH
import HandS.MapSum
import HandS.TupMul
import KE.KDictItemsList
import HandS.ListItems
import KE.KDictPairs
import HandS.Rev
import HandS.TupLen
import HandS.More
import HandS.DictEq
import HandS.SetFor
import HandS.Wide
import HandS.HeadEnd
import KE.GoesRev
import PySem.Challenge.RW_pickruns_k71_not_put_behind
import KE.KStateDown
import Lean
import HandS.Head0
import HandS.Head1
import HandS.Head2
import HandS.HeadNt
section
set_option Elab.async false
set_option linter.all false
set_option maxRecDepth 100000
namespace Pk
open PySem PySem.Spec PyProof.Rows L2
/-- what the layer leans on: the pinned objects and the world (the hashes of texts) -/
structure Kw where
  K : PySem.W.Frag
  w : World
instance : CoeOut Kw PySem.W.Frag := ⟨Kw.K⟩

abbrev Le (F H : Hp) : Prop := ∀ a o, F a = some o → H a = some o
theorem Le.rfl' {F : Hp} : Le F F := fun _ _ h => h
theorem Le.tr {F G H : Hp} (a : Le F G) (b : Le G H) : Le F H := fun x o h => b x o (a x o h)
theorem Le.nn {F H : Hp} (e : Le F H) {a : Addr} (h : H a = none) : F a = none := by
  cases q : F a with
  | none => rfl
  | some o => rw [e a o q] at h; cases h
theorem Le.new {F H : Hp} (e : Le F H) {p : Addr} {o : HO} (h : F p = none) : Le F (upd H p o) := fun a u q => by
  rw [upd_ne (ne_of_none q h)]; exact e a u q
theorem Le.both {F H : Hp} (e : Le F H) {p : Addr} {o : HO} : Le (upd F p o) (upd H p o) := fun a u q => by
  by_cases hp : a = p
  · subst hp; rw [upd_same] at q ⊢; exact q
  · rw [upd_ne hp] at q ⊢; exact e a u q
theorem Le.up {F : Hp} {p : Addr} {o : HO} (h : F p = none) : Le F (upd F p o) := Le.new Le.rfl' h
theorem Le.lay {F H : Hp} (e : Le F H) {p : Addr} {o : HO} (h : H p = some o) : Le (upd F p o) H := fun a u q => by
  by_cases hp : a = p
  · subst hp; rw [upd_same] at q; rw [← q]; exact h
  · rw [upd_ne hp] at q; exact e a u q

theorem sqT_le {K : PySem.W.Frag} {F F' : Hp} {a : Addr} {xs : List V} (e : Le F F') (h : SqT K F a xs) : SqT K F' a xs := by
  rcases h with (h | ⟨o, h⟩) | h
  · exact .inl (.inl (e _ _ h))
  · exact .inl (.inr ⟨o, e _ _ h⟩)
  · exact .inr h
/-- flat dicts as data -/
def kD : Key → PyData
  | .inl i => .int i
  | .inr x => .str x
def vD : V → PyData
  | .int i => .int i
  | .str x => .str x
  | .bl b => .bool b
  | .non => .none
  | _ => .list []
def kvD (p : Key × V) : PyData × PyData := (kD p.1, vD p.2)
def flD : PyData → Bool
  | .none => true
  | .bool _ => true
  | .int _ => true
  | .str _ => true
  | _ => false
def isMk : List (PyData × PyData) → Bool
  | (.none, .none) :: _ => true
  | (.none, .bool true) :: _ => true
  | (.none, .bool false) :: _ => true
  | _ => false
def flatDs (ds : List (PyData × PyData)) : Bool := isMk ds || ds.all fun z => flD z.2
/-- the entries of a dict with tuple keys -/
abbrev NEs := List (NestedKey × Addr × V)
def nEntry (w : World) (x : NestedKey × Addr × Value) : DictEntry := ⟨x.1.hash w, .ref x.2.1, x.2.2⟩
/-- a dict whose keys are tuples, nested or not -/
def dN (w : World) (a : Addr) (ep : Nat) (kvs : NEs) : HO := .ext fun h => kvs.length ≤ sizeLine ∧ (a == sysModules) = false ∧ (∀ x ∈ kvs, x.1.depth ≤ 8) ∧ ∃ xs : List (NestedKey × Addr × Value),
  Paired (fun (p : NestedKey × Addr × V) (q : NestedKey × Addr × Value) => p.1 = q.1 ∧ p.2.1 = q.2.1 ∧ RelV p.2.2 q.2.2) kvs xs ∧
  ∃ o es, h.get? a = some o ∧ o.ExactDict ∧ o.data = .dict es ep ∧ es.toList = xs.map (nEntry w) ∧ (xs.map (·.1)).Nodup
abbrev NDs := List (NestedKey × PyData)
abbrev dictN (ds : NDs) : PyData := .dict ((.none, .none) :: ds.map fun x => (x.1.data, x.2))
/-- a dict whose keys are numbers and texts -/
def dF (w : World) (a : Addr) (ep : Nat) (kvs : List (Key × V)) : HO := .ext fun h => kvs.length ≤ sizeLine ∧ (a == sysModules) = false ∧ ∃ vs : List (Key × Value), KV kvs vs ∧ ∃ P : Program,
  ∃ o es, h.get? a = some o ∧ o.ExactDict ∧ o.data = .dict es ep ∧ KeysOf (mixKind P w) es ∧ Pairs (mixKind P w) es.toList vs ∧ (vs.map (·.1)).Nodup
/-- such a dict as data -/
abbrev FDs := List (Key × PyData)
mutual
inductive Rp (K : Kw) (F : Hp) : V → PyData → Prop
  | non : Rp K F .non .none
  | bl (b : Bool) : Rp K F (.bl b) (.bool b)
  | int (i : Int) : Rp K F (.int i) (.int i)
  | str (x : Str) : Rp K F (.str x) (.str x)
  | lst {a : Addr} {xs : List V} {ds : List PyData} : F a = some (.lst xs) → RpA K F xs ds → Rp K F (.ref a) (.list ds)
  | tup {a : Addr} {xs : List V} {ds : List PyData} : SqT K F a xs → RpA K F xs ds → Rp K F (.ref a) (.tuple ds)
  /-- a dict: what is in it is told where that is flat -/
  | dct {a : Addr} {kvs : List (Key × V)} {ds : List (PyData × PyData)} : F a = some (.dK kvs) → (flatDs ds = true → kvs.map kvD = ds) → Rp K F (.ref a) (.dict ds)
  /-- a dict with tuple keys -/
  | dcn {a : Addr} {ep : Nat} {es : NEs} {ds : NDs} : F a = some (dN K.w a ep es) → RpD K F es ds → Rp K F (.ref a) (.dict ((.none, .none) :: ds.map fun x => (x.1.data, x.2)))
  /-- a dict with numbers and texts as keys -/
  | dcf {a : Addr} {ep : Nat} {kvs : List (Key × V)} {fs : FDs} : F a = some (dF K.w a ep kvs) → kvs.map (·.1) = fs.map (·.1) → RpA K F (kvs.map (·.2)) (fs.map (·.2)) → Rp K F (.ref a) (.dict ((.none, .bool true) :: fs.map fun x => (kD x.1, x.2)))
  /-- a list, its address told -/
  | lid {a : Addr} {xs : List V} {ds : List PyData} : F a = some (.lst xs) → RpA K F xs ds → Rp K F (.ref a) (.dict [(.none, .bool false), (.int a, .list ds)])
inductive RpA (K : Kw) (F : Hp) : List V → List PyData → Prop
  | nil : RpA K F [] []
  | cons {v : V} {vs : List V} {d : PyData} {ds : List PyData} : Rp K F v d → RpA K F vs ds → RpA K F (v :: vs) (d :: ds)
inductive RpD (K : Kw) (F : Hp) : NEs → NDs → Prop
  | nil : RpD K F [] []
  | cons {k : NestedKey} {b : Addr} {v : V} {d : PyData} {es : NEs} {ds : NDs} : Rp K F (.ref b) k.data → Rp K F v d → RpD K F es ds → RpD K F ((k, b, v) :: es) ((k, d) :: ds)
end
section
variable {K : Kw} {F F' H : Hp}
theorem Rp.le (e : Le F F') (d : PyData) {v : V} (h : Rp K F v d) : Rp K F' v d :=
  Rp.rec (motive_1 := fun v d _ => Rp K F' v d) (motive_2 := fun vs ds _ => RpA K F' vs ds) (motive_3 := fun es ds _ => RpD K F' es ds) .non .bl .int .str (fun h _ ih => .lst (e _ _ h) ih) (fun h _ ih => .tup (sqT_le e h) ih) (fun h t => .dct (e _ _ h) t) (fun h _ ih => .dcn (e _ _ h) ih) (fun h k _ ih => .dcf (e _ _ h) k ih) (fun h _ ih => .lid (e _ _ h) ih) .nil (fun _ _ a b => .cons a b) .nil (fun _ _ _ a b c => .cons a b c) h
theorem RpA.le (e : Le F F') (ds : List PyData) {vs : List V} (h : RpA K F vs ds) : RpA K F' vs ds :=
  RpA.rec (motive_1 := fun v d _ => Rp K F' v d) (motive_2 := fun vs ds _ => RpA K F' vs ds) (motive_3 := fun es ds _ => RpD K F' es ds) .non .bl .int .str (fun h _ ih => .lst (e _ _ h) ih) (fun h _ ih => .tup (sqT_le e h) ih) (fun h t => .dct (e _ _ h) t) (fun h _ ih => .dcn (e _ _ h) ih) (fun h k _ ih => .dcf (e _ _ h) k ih) (fun h _ ih => .lid (e _ _ h) ih) .nil (fun _ _ a b => .cons a b) .nil (fun _ _ _ a b c => .cons a b c) h
theorem RpD.mono {es : NEs} {ds : NDs} (h : RpD K F es ds) (e : Le F F') : RpD K F' es ds :=
  RpD.rec (motive_1 := fun v d _ => Rp K F' v d) (motive_2 := fun vs ds _ => RpA K F' vs ds) (motive_3 := fun es ds _ => RpD K F' es ds) .non .bl .int .str (fun h _ ih => .lst (e _ _ h) ih) (fun h _ ih => .tup (sqT_le e h) ih) (fun h t => .dct (e _ _ h) t) (fun h _ ih => .dcn (e _ _ h) ih) (fun h k _ ih => .dcf (e _ _ h) k ih) (fun h _ ih => .lid (e _ _ h) ih) .nil (fun _ _ a b => .cons a b) .nil (fun _ _ _ a b c => .cons a b c) h
theorem Rp.dict_inv {v : V} {ds : List (PyData × PyData)} (h : Rp K F v (.dict ds)) : (∃ a kvs, v = .ref a ∧ F a = some (.dK kvs) ∧ (flatDs ds = true → kvs.map kvD = ds)) ∨ (∃ a ep es ds', v = .ref a ∧ ds = (.none, .none) :: ds'.map (fun x => (x.1.data, x.2)) ∧ F a = some (dN K.w a ep es) ∧ RpD K F es ds') ∨ (∃ a ep kvs, ∃ fs : FDs, v = .ref a ∧ ds = (.none, .bool true) :: fs.map (fun x => (kD x.1, x.2)) ∧ F a = some (dF K.w a ep kvs) ∧ kvs.map (·.1) = fs.map (·.1) ∧ RpA K F (kvs.map (·.2)) (fs.map (·.2))) ∨ ∃ a xs es, v = .ref a ∧ ds = [(.none, .bool false), (.int a, .list es)] ∧ F a = some (.lst xs) ∧ RpA K F xs es := by
  cases h with
  | dct a t => exact .inl ⟨_, _, rfl, a, t⟩
  | dcn a r => exact .inr (.inl ⟨_, _, _, _, rfl, rfl, a, r⟩)
  | dcf a k r => exact .inr (.inr (.inl ⟨_, _, _, _, rfl, rfl, a, k, r⟩))
  | lid a r => exact .inr (.inr (.inr ⟨_, _, _, rfl, rfl, a, r⟩))
theorem Rp.mono {v : V} {d : PyData} (h : Rp K F v d) (e : Le F F') : Rp K F' v d := Rp.le e d h
theorem RpA.mono {vs : List V} {ds : List PyData} (h : RpA K F vs ds) (e : Le F F') : RpA K F' vs ds := RpA.le e ds h
mutual
theorem Rp.dp : ∀ (d : PyData) {v : V}, d.canLay0 = true → Rp K F v d → Dp K F v d
  | .none, _, _, h => by cases h; exact .non
  | .bool _, _, _, h => by cases h; exact .bl _
  | .int _, _, _, h => by cases h; exact .int _
  | .str _, _, _, h => by cases h; exact .str _
  | .list ds, _, c, h => by
    cases h with
    | lst a b => exact .lst (SqL.of a) (RpA.dp ds (by simpa [PyData.canLay0] using c) b)
  | .tuple ds, _, c, h => by
    cases h with
    | tup a b => exact .tup a (RpA.dp ds (by simpa [PyData.canLay0] using c) b)
  | .dict _, _, c, _ => by simp [PyData.canLay0] at c
theorem RpA.dp : ∀ (ds : List PyData) {vs : List V}, PyData.canLayAll0 ds = true → RpA K F vs ds → DpAll K F vs ds
  | [], _, _, h => by cases h; exact .nil
  | d :: ds, _, c, h => by
    have c' : d.canLay0 = true ∧ PyData.canLayAll0 ds = true := by simpa [PyData.canLayAll0] using c
    cases h with
    | cons a b => exact .cons (Rp.dp d c'.1 a) (RpA.dp ds c'.2 b)
end
theorem RpA.length : ∀ {vs : List V} {ds : List PyData}, RpA K F vs ds → vs.length = ds.length
  | [], [], _ => rfl
  | _ :: _, [], h => by cases h
  | [], _ :: _, h => by cases h
  | _ :: vs, _ :: ds, h => by
    cases h with
    | cons _ b => simp [RpA.length b]
theorem RpA.get : ∀ {vs : List V} {ds : List PyData} {i : Nat} {d : PyData}, RpA K F vs ds → ds[i]? = some d → ∃ v, vs[i]? = some v ∧ Rp K F v d
  | [], [], i, d, _, e => by simp at e
  | _ :: _, [], _, _, h, _ => by cases h
  | [], _ :: _, _, _, h, _ => by cases h
  | v :: vs, x :: ds, 0, d, h, e => by
    cases h with
    | cons a b => simp at e; subst e; exact ⟨v, rfl, a⟩
  | v :: vs, x :: ds, i + 1, d, h, e => by
    cases h with
    | cons a b =>
      obtain ⟨u, h1, h2⟩ := RpA.get (i := i) (d := d) b (by simpa using e)
      exact ⟨u, by simpa using h1, h2⟩
theorem RpA.getV : ∀ {vs : List V} {ds : List PyData} {i : Nat} {v : V}, RpA K F vs ds → vs[i]? = some v → ∃ d, ds[i]? = some d ∧ Rp K F v d
  | [], [], i, d, _, e => by simp at e
  | _ :: _, [], _, _, h, _ => by cases h
  | [], _ :: _, _, _, h, _ => by cases h
  | v :: vs, x :: ds, 0, d, h, e => by
    cases h with
    | cons a b => simp at e; subst e; exact ⟨x, rfl, a⟩
  | v :: vs, x :: ds, i + 1, d, h, e => by
    cases h with
    | cons a b =>
      obtain ⟨u, h1, h2⟩ := RpA.getV (i := i) (v := d) b (by simpa using e)
      exact ⟨u, by simpa using h1, h2⟩
theorem RpA.append : ∀ {vs us : List V} {ds es : List PyData}, RpA K F vs ds → RpA K F us es → RpA K F (vs ++ us) (ds ++ es)
  | [], _, [], _, _, h => h
  | _ :: _, _, [], _, h, _ => by cases h
  | [], _, _ :: _, _, h, _ => by cases h
  | _ :: _, _, _ :: _, _, h, k => by
    cases h with
    | cons a b => exact .cons a (RpA.append b k)
theorem RpA.take : ∀ {vs : List V} {ds : List PyData} (n : Nat), RpA K F vs ds → RpA K F (vs.take n) (ds.take n)
  | [], [], n, _ => by simp; exact .nil
  | _ :: _, [], _, h => by cases h
  | [], _ :: _, _, h => by cases h
  | _ :: _, _ :: _, 0, _ => .nil
  | _ :: _, _ :: _, n + 1, h => by
    cases h with
    | cons a b => exact .cons a (RpA.take n b)
theorem RpA.drop : ∀ {vs : List V} {ds : List PyData} (n : Nat), RpA K F vs ds → RpA K F (vs.drop n) (ds.drop n)
  | [], [], n, _ => by simp; exact .nil
  | _ :: _, [], _, h => by cases h
  | [], _ :: _, _, h => by cases h
  | _ :: _, _ :: _, 0, h => h
  | _ :: _, _ :: _, n + 1, h => by
    cases h with
    | cons a b => exact RpA.drop n b
theorem RpA.set : ∀ {vs : List V} {ds : List PyData} {v : V} {d : PyData} (n : Nat), RpA K F vs ds → Rp K F v d → RpA K F (vs.set n v) (ds.set n d)
  | [], [], _, _, n, _, _ => by simp; exact .nil
  | _ :: _, [], _, _, _, h, _ => by cases h
  | [], _ :: _, _, _, _, h, _ => by cases h
  | _ :: _, _ :: _, _, _, 0, h, k => by
    cases h with
    | cons a b => exact .cons k b
  | _ :: _, _ :: _, _, _, n + 1, h, k => by
    cases h with
    | cons a b => exact .cons a (RpA.set n b k)
theorem RpA.reverse : ∀ {vs : List V} {ds : List PyData}, RpA K F vs ds → RpA K F vs.reverse ds.reverse
  | [], [], _ => .nil
  | _ :: _, [], h => by cases h
  | [], _ :: _, h => by cases h
  | _ :: _, _ :: _, h => by
    cases h with
    | cons a b => simp only [List.reverse_cons]; exact (RpA.reverse b).append (.cons a .nil)
theorem RpA.one {v : V} {d : PyData} (h : Rp K F v d) : RpA K F [v] [d] := .cons h .nil
/-- a scalar stands in any heap -/
def flat : PyData → Bool
  | .none => true | .bool _ => true | .int _ => true | .str _ => true | _ => false
theorem Rp.flat {v : V} {d : PyData} (h : Rp K F v d) (f : flat d = true) : Rp K F' v d := by
  cases h with
  | non => exact .non
  | bl b => exact .bl b
  | int i => exact .int i
  | str x => exact .str x
  | lst _ _ => cases f
  | tup _ _ => cases f
  | dct _ _ => cases f
  | dcn _ _ => cases f
  | dcf _ _ _ => cases f
  | lid _ _ => cases f
end

mutual
def lf : PyData → Bool
  | .list _ => false
  | .dict _ => false
  | .tuple xs => lfA xs
  | _ => true
def lfA : List PyData → Bool
  | [] => true
  | x :: xs => lf x && lfA xs
end
def TupLe (K : PySem.W.Frag) (F F' : Hp) : Prop := (∀ a xs, SqT K F a xs → SqT K F' a xs) ∧ ∀ a fs, F a = some (.xd fs) → F' a = some (.xd fs)
theorem Le.tup {K : PySem.W.Frag} {F F' : Hp} (e : Le F F') : TupLe K F F' := ⟨fun _ _ h => sqT_le e h, fun a _ h => e a _ h⟩
section
variable {K : Kw} {F F' : Hp}
mutual
theorem Rp.lfree (e : TupLe K F F') : ∀ (d : PyData) {v : V}, lf d = true → Rp K F v d → Rp K F' v d
  | .none, _, _, h => by cases h; exact .non
  | .bool _, _, _, h => by cases h; exact .bl _
  | .int _, _, _, h => by cases h; exact .int _
  | .str _, _, _, h => by cases h; exact .str _
  | .list ds, _, z, h => by simp [lf] at z
  | .tuple ds, _, z, h => by
    cases h with
    | tup a b => exact .tup (e.1 _ _ a) (RpA.lfree e ds (by simpa [lf] using z) b)
  | .dict _, _, z, h => by simp [lf] at z
theorem RpA.lfree (e : TupLe K F F') : ∀ (ds : List PyData) {vs : List V}, lfA ds = true → RpA K F vs ds → RpA K F' vs ds
  | [], _, _, h => by cases h; exact .nil
  | d :: ds, _, z, h => by
    have z' : lf d = true ∧ lfA ds = true := by simpa [lfA] using z
    cases h with
    | cons a b => exact .cons (Rp.lfree e d z'.1 a) (RpA.lfree e ds z'.2 b)
end
end
open Classical in
/-- F without the lists of N -/
noncomputable def cutN (N : Addr → Prop) (F : Hp) : Hp := fun a => match F a with
  | some (.lst xs) => if N a then none else some (.lst xs)
  | o => o
theorem cutN_le (N : Addr → Prop) (F : Hp) : Le (cutN N F) F := fun a o h => by
  unfold cutN at h
  split at h
  · rename_i xs e
    split at h
    · cases h
    · rw [e]; exact h
  · exact h
theorem cutN_at {N : Addr → Prop} {F : Hp} {a : Addr} (h : ¬ N a) : cutN N F a = F a := by
  unfold cutN
  split
  · rename_i xs e
    rw [if_neg h, e]
  · rfl
theorem cutN_lst {N : Addr → Prop} {F : Hp} {a : Addr} {xs : List V} (h : cutN N F a = some (.lst xs)) : ¬ N a ∧ F a = some (.lst xs) := by
  refine ⟨fun n => ?_, cutN_le N F a _ h⟩
  have e := cutN_le N F a _ h
  unfold cutN at h
  rw [e] at h
  simp [n] at h
theorem cutN_mono {N N' : Addr → Prop} {F F' : Hp} (hN : ∀ a, N' a → N a) (e : Le F F') : Le (cutN N F) (cutN N' F') := fun a o h => by
  cases o with
  | lst xs =>
    obtain ⟨n, q⟩ := cutN_lst h
    rw [cutN_at fun z => n (hN a z)]
    exact e _ _ q
  | _ =>
    have q := e _ _ (cutN_le N F a _ h)
    unfold cutN
    rw [q]
theorem cutN_tup {K : PySem.W.Frag} {N : Addr → Prop} {F : Hp} : TupLe K F (cutN N F) := by
  refine ⟨fun a xs h => ?_, fun a fs h => by unfold cutN; rw [h]⟩
  rcases h with (h | ⟨o, h⟩) | h
  · refine .inl (.inl ?_)
    unfold cutN
    rw [h]
  · refine .inl (.inr ⟨o, ?_⟩)
    unfold cutN
    rw [h]
  · exact .inr h

/-- what a def's environment leans on: the heap at the entry, what of it is frozen, what of it may be changed -/
structure Bs where
  K : Kw
  F0 : Hp
  H0 : Hp
  S0 : Addr → Prop
  N : Addr → Prop
def Bs.own (X : Bs) (a : Addr) : Prop := X.H0 a = none ∨ X.S0 a
/-- the frozen part, all of it, or without the lists that stood before -/
noncomputable def Bs.ff (X : Bs) (F : Hp) : Bool → Hp
  | true => cutN X.N F
  | false => F
theorem Bs.ff_le (X : Bs) (F : Hp) (m : Bool) : Le (X.ff F m) F := by
  cases m with
  | true => exact cutN_le X.N F
  | false => exact Le.rfl'
theorem Bs.ff_mono {X : Bs} {F F' : Hp} (e : Le F F') (m : Bool) : Le (X.ff F m) (X.ff F' m) := by
  cases m with
  | true => exact cutN_mono (fun _ h => h) e
  | false => exact e
theorem Bs.ff_at {X : Bs} {F : Hp} {m : Bool} {a : Addr} (h : ¬ X.N a) : X.ff F m a = F a := by
  cases m with
  | true => exact cutN_at h
  | false => rfl
theorem Bs.ff_tup {X : Bs} {F : Hp} {m : Bool} {K : PySem.W.Frag} : TupLe K F (X.ff F m) := by
  cases m with
  | true => exact cutN_tup
  | false => exact ⟨fun _ _ h => h, fun _ _ h => h⟩
/-- another's new is new to me -/
theorem Bs.ff_to {X X' : Bs} {F : Hp} (hN : ∀ a, X'.N a → X.N a) (m : Bool) : Le (X.ff F m) (X'.ff F m) := by
  cases m with
  | true => exact cutN_mono hN Le.rfl'
  | false => exact Le.rfl'
open Classical in
/-- F with what stands in H at S -/
noncomputable def lay (S : Addr → Prop) (H F : Hp) : Hp := fun a => if S a then H a else F a
/-- what may be of one's own -/
def Mo : HO → Bool
  | .lst _ => true
  | .ext _ => true
  | _ => false
/-- a thing of one's own that may change, by what holds of it; vw: as which data it may be read -/
structure Own where
  K : Kw
  p : Hp → Hp → V → (Addr → Prop) → Prop
  vw : Option PyData
  keep : ∀ {F F' H H' : Hp} {v : V} {S : Addr → Prop}, p F H v S → Le F F' → (∀ a, S a → H' a = H a) → p F' H' v S
  /-- what is read as no data bears the loss of frozen lists -/
  keepT : vw = none → ∀ {F F' H H' : Hp} {v : V} {S : Addr → Prop}, p F H v S → TupLe K F F' → (∀ a, S a → H' a = H a) → p F' H' v S
  view : ∀ {F H : Hp} {v : V} {S : Addr → Prop} {d : PyData}, Le F H → p F H v S → vw = some d → Rp K (lay S H F) v d ∧ ∀ a, S a → ∃ o, H a = some o ∧ Mo o = true
inductive Sl where
  | no
  | dat (m : Bool) (d : PyData)
  | ml (m : Bool) (l : Addr) (ds : List PyData)
  | ex (v : V) (Φ : Own)
def SlOk (X : Bs) (F H : Hp) (ov : Option V) (S : Addr → Prop) : Sl → Prop
  | .no => ∀ a, ¬ S a
  | .dat m d => (∃ v, ov = some v ∧ Rp X.K (X.ff F m) v d) ∧ ∀ a, ¬ S a
  | .ml m l ds => ∃ xs, ov = some (.ref l) ∧ (∀ a, S a ↔ a = l) ∧ H l = some (.lst xs) ∧ RpA X.K (X.ff F m) xs ds ∧ (m = true → ¬ X.N l)
  | .ex v Φ => ov = some v ∧ Φ.K = X.K ∧ Φ.p F H v S
theorem SlOk.mono {X : Bs} {F F' H H' : Hp} {ov : Option V} {S : Addr → Prop} : ∀ {s : Sl}, SlOk X F H ov S s → Le F F' → (∀ a, S a → H' a = H a) → SlOk X F' H' ov S s
  | .no, h, _, _ => h
  | .dat m _, ⟨⟨v, e, r⟩, n⟩, le, _ => ⟨⟨v, e, r.mono (Bs.ff_mono le m)⟩, n⟩
  | .ml m l ds, ⟨xs, e, hS, hl, r, nl⟩, le, k => ⟨xs, e, hS, (k l ((hS l).mpr rfl)).trans hl, r.mono (Bs.ff_mono le m), nl⟩
  | .ex _ Φ, ⟨e, hk, q⟩, le, k => ⟨e, hk, Φ.keep q le k⟩
/-- the same over another base -/
theorem SlOk.to {X X' : Bs} {F H : Hp} {ov : Option V} {S : Addr → Prop} (hK : X.K = X'.K) (hN : ∀ a, X'.N a → X.N a) : ∀ {s : Sl}, SlOk X F H ov S s → SlOk X' F H ov S s
  | .no, h => h
  | .dat m _, ⟨⟨v, e, r⟩, n⟩ => ⟨⟨v, e, by rw [← hK]; exact r.mono (Bs.ff_to hN m)⟩, n⟩
  | .ml m l ds, ⟨xs, e, hS, hl, r, nl⟩ => ⟨xs, e, hS, hl, by rw [← hK]; exact r.mono (Bs.ff_to hN m), fun z n => nl z (hN l n)⟩
  | .ex _ Φ, ⟨e, hk, q⟩ => ⟨e, hk.trans hK, q⟩
structure En (X : Bs) (F H : Hp) (σ : L2.St) (Γ : List Sl) : Prop where
  le : Le F H
  len : σ.length = Γ.length
  sl : ∃ S : Nat → Addr → Prop, (∀ i s, Γ[i]? = some s → SlOk X F H (σ.getD i none) (S i) s) ∧ (∀ i j a, S i a → S j a → i = j) ∧ (∀ i a, S i a → F a = none ∧ H a ≠ none ∧ X.own a)
  fr : ∀ a o, X.H0 a = some o → ¬ X.S0 a → H a = some o ∧ F a = X.F0 a
  f0 : Le X.F0 F
  nn : ∀ a, X.N a → H a ≠ none
section
variable {X : Bs} {F F' H H' : Hp} {σ : L2.St} {Γ : List Sl}
theorem En.ownN (E : En X F H σ Γ) {p : Addr} (h : H p = none) : X.own p := by
  by_cases hs : X.S0 p
  · exact .inr hs
  · refine .inl ?_
    cases q : X.H0 p with
    | none => rfl
    | some o => rw [(E.fr p o q hs).1] at h; cases h
theorem En.dat (E : En X F H σ Γ) {i : Nat} {m : Bool} {d : PyData} (h : Γ[i]? = some (.dat m d)) : ∃ v, σ[i]? = some (some v) ∧ Rp X.K (X.ff F m) v d := by
  obtain ⟨S, hs, _⟩ := E.sl
  obtain ⟨⟨v, e, r⟩, _⟩ := hs i _ h
  refine ⟨v, ?_, r⟩
  have hi : i < σ.length := by rw [E.len]; exact (List.getElem?_eq_some_iff.mp h).1
  simp only [List.getD_eq_getElem?_getD, List.getElem?_eq_getElem hi, Option.getD_some] at e
  rw [List.getElem?_eq_getElem hi, e]
theorem En.at {i : Nat} {s : Sl} {v : V} (E : En X F H σ Γ) (h : Γ[i]? = some s) (e : σ.getD i none = some v) : σ[i]? = some (some v) := by
  have hi : i < σ.length := by rw [E.len]; exact (List.getElem?_eq_some_iff.mp h).1
  simp only [List.getD_eq_getElem?_getD, List.getElem?_eq_getElem hi, Option.getD_some] at e
  rw [List.getElem?_eq_getElem hi, e]
theorem En.ml (E : En X F H σ Γ) {i : Nat} {m : Bool} {l : Addr} {ds : List PyData} (h : Γ[i]? = some (.ml m l ds)) : ∃ xs, σ[i]? = some (some (.ref l)) ∧ H l = some (.lst xs) ∧ F l = none ∧ RpA X.K (X.ff F m) xs ds := by
  obtain ⟨S, hs, _, ho⟩ := E.sl
  obtain ⟨xs, e, hS, hl, r, _⟩ := hs i _ h
  exact ⟨xs, E.at h e, hl, (ho i l ((hS l).mpr rfl)).1, r⟩
theorem En.ex (E : En X F H σ Γ) {i : Nat} {v : V} {Φ : Own} (h : Γ[i]? = some (.ex v Φ)) : σ[i]? = some (some v) := by
  obtain ⟨S, hs, _⟩ := E.sl
  obtain ⟨e, _⟩ := hs i _ h
  exact E.at h e
/-- more is frozen, what stands apart may change -/
theorem En.grow (E : En X F H σ Γ) (lf : Le F F') (le : Le F' H') (hh : ∀ a o, H a = some o → H' a = some o) (hn : ∀ a o, H a = some o → F' a = F a) : En X F' H' σ Γ := by
  have hnn : ∀ a, X.N a → H' a ≠ none := fun a n => by
    cases q : H a with
    | none => exact absurd q (E.nn a n)
    | some o => rw [hh a o q]; simp
  obtain ⟨S, hs, hd, ho⟩ := E.sl
  refine ⟨le, E.len, ⟨S, fun i s e => (hs i s e).mono lf fun a sa => ?_, hd, fun i a sa => ?_⟩, fun a o e n => ?_, E.f0.tr lf, hnn⟩
  · obtain ⟨_, h1, _⟩ := ho i a sa
    cases q : H a with
    | none => exact absurd q h1
    | some o => exact hh a o q
  · obtain ⟨h0, h1, h2⟩ := ho i a sa
    cases q : H a with
    | none => exact absurd q h1
    | some o => exact ⟨(hn a o q).trans h0, by rw [hh a o q]; simp, h2⟩
  · obtain ⟨h1, h2⟩ := E.fr a o e n
    exact ⟨hh a o h1, (hn a o h1).trans h2⟩
/-- a new frozen object -/
theorem En.alloc (E : En X F H σ Γ) {p : Addr} {o : HO} (h : H p = none) : En X (upd F p o) (upd H p o) σ Γ :=
  E.grow (Le.up (E.le.nn h)) E.le.both (fun a u q => by rw [upd_ne (ne_of_none q h)]; exact q) (fun a u q => by rw [upd_ne (ne_of_none q h)])
/-- a new object that is not frozen, held by nobody -/
theorem En.free (E : En X F H σ Γ) {p : Addr} {o : HO} (h : H p = none) : En X F (upd H p o) σ Γ :=
  E.grow Le.rfl' (E.le.new (E.le.nn h)) (fun a u q => by rw [upd_ne (ne_of_none q h)]; exact q) (fun _ _ _ => rfl)
theorem getD_app {α : Type} {l : List α} {x d : α} {i : Nat} (h : i < l.length) : (l ++ [x]).getD i d = l.getD i d := by
  simp [List.getD_eq_getElem?_getD, List.getElem?_append_left h]
theorem getD_last {α : Type} {l : List α} {x d : α} : (l ++ [x]).getD l.length d = x := by
  simp [List.getD_eq_getElem?_getD]
/-- one more slot, of a new thing or of data -/
theorem En.pushG (E : En X F H σ Γ) {ov : Option V} {s : Sl} {T : Addr → Prop} (lf : Le F F') (le : Le F' H') (hh : ∀ a o, H a = some o → H' a = some o) (hn : ∀ a o, H a = some o → F' a = F a)
    (h : SlOk X F' H' ov T s) (hT : ∀ a, T a → H a = none ∧ F' a = none ∧ H' a ≠ none) : En X F' H' (σ ++ [ov]) (Γ ++ [s]) := by
  have hown : ∀ a, T a → X.own a := fun a ta => E.ownN (hT a ta).1
  have hdis : ∀ (S : Nat → Addr → Prop), (∀ i a, S i a → F a = none ∧ H a ≠ none ∧ X.own a) → ∀ i a, S i a → ¬ T a := fun S ho i a sa ta => (ho i a sa).2.1 (hT a ta).1
  have E' := E.grow lf le hh hn
  obtain ⟨S, hs, hdj, ho⟩ := E.sl
  have hkeep : ∀ i a, S i a → F' a = none ∧ H' a ≠ none ∧ X.own a := fun i a sa => by
    obtain ⟨h0, h1, h2⟩ := ho i a sa
    cases q : H a with
    | none => exact absurd q h1
    | some o => exact ⟨(hn a o q).trans h0, by rw [hh a o q]; simp, h2⟩
  have hs' : ∀ i s, Γ[i]? = some s → SlOk X F' H' (σ.getD i none) (S i) s := fun i s e => (hs i s e).mono lf fun a sa => by
    obtain ⟨_, h1, _⟩ := ho i a sa
    cases q : H a with
    | none => exact absurd q h1
    | some o => exact hh a o q
  refine ⟨E'.le, by simp [E.len], ⟨fun i a => (i < Γ.length ∧ S i a) ∨ (i = Γ.length ∧ T a), fun i u e => ?_, fun i j a h1 h2 => ?_, fun i a h1 => ?_⟩, E'.fr, E'.f0, E'.nn⟩
  · have hi : i < (Γ ++ [s]).length := (List.getElem?_eq_some_iff.mp e).1
    simp only [List.length_append, List.length_cons, List.length_nil] at hi
    by_cases hlt : i < Γ.length
    · rw [List.getElem?_append_left hlt] at e
      rw [getD_app (by rw [E.len]; exact hlt)]
      have eS : (fun a => (i < Γ.length ∧ S i a) ∨ (i = Γ.length ∧ T a)) = S i := by
        funext a
        apply propext
        constructor
        · rintro (⟨_, q⟩ | ⟨q, _⟩)
          · exact q
          · omega
        · intro q; exact .inl ⟨hlt, q⟩
      show SlOk X F' H' _ (fun a => (i < Γ.length ∧ S i a) ∨ (i = Γ.length ∧ T a)) u
      rw [eS]
      exact hs' i u e
    · have hie : i = Γ.length := by omega
      subst hie
      simp at e; subst e
      have eS : (fun a => (Γ.length < Γ.length ∧ S Γ.length a) ∨ (Γ.length = Γ.length ∧ T a)) = T := by
        funext a
        apply propext
        constructor
        · rintro (⟨q, _⟩ | ⟨_, q⟩)
          · omega
          · exact q
        · intro q; exact .inr ⟨rfl, q⟩
      show SlOk X F' H' _ (fun a => (Γ.length < Γ.length ∧ S Γ.length a) ∨ (Γ.length = Γ.length ∧ T a)) s
      rw [eS, ← E.len, getD_last]
      exact h
  · rcases h1 with ⟨a1, b1⟩ | ⟨a1, b1⟩ <;> rcases h2 with ⟨a2, b2⟩ | ⟨a2, b2⟩
    · exact hdj i j a b1 b2
    · exact absurd b2 (hdis S ho i a b1)
    · exact absurd b1 (hdis S ho j a b2)
    · omega
  · rcases h1 with ⟨a1, b1⟩ | ⟨a1, b1⟩
    · exact hkeep i a b1
    · exact ⟨(hT a b1).2.1, (hT a b1).2.2, hown a b1⟩
theorem En.noN (E : En X F H σ Γ) {p : Addr} (h : H p = none) : ¬ X.N p := fun n => E.nn p n h
theorem En.pushD (E : En X F H σ Γ) {v : V} {m : Bool} {d : PyData} (r : Rp X.K (X.ff F m) v d) : En X F H (σ ++ [some v]) (Γ ++ [.dat m d]) :=
  E.pushG (T := fun _ => False) Le.rfl' E.le (fun _ _ q => q) (fun _ _ _ => rfl) ⟨⟨v, rfl, r⟩, fun _ z => z⟩ (fun _ z => z.elim)
/-- a new list of one's own -/
theorem En.pushM (E : En X F H σ Γ) {p : Addr} {xs : List V} {m : Bool} {ds : List PyData} (h : H p = none) (r : RpA X.K (X.ff F m) xs ds) : En X F (upd H p (.lst xs)) (σ ++ [some (.ref p)]) (Γ ++ [.ml m p ds]) :=
  E.pushG (T := fun a => a = p) Le.rfl' (E.le.new (E.le.nn h)) (fun a u q => by rw [upd_ne (ne_of_none q h)]; exact q) (fun _ _ _ => rfl)
    ⟨xs, rfl, fun _ => Iff.rfl, upd_same, r, fun _ => E.noN h⟩ (fun a e => by subst e; exact ⟨h, E.le.nn h, by rw [upd_same]; simp⟩)
theorem En.drop {ov : Option V} {s : Sl} (E : En X F H (σ ++ [ov]) (Γ ++ [s])) : En X F H σ Γ := by
  have hl : σ.length = Γ.length := by
    have := E.len
    simp at this
    exact this
  obtain ⟨S, hs, hdj, ho⟩ := E.sl
  refine ⟨E.le, hl, ⟨S, fun i u e => ?_, hdj, ho⟩, E.fr, E.f0, E.nn⟩
  have hi : i < Γ.length := (List.getElem?_eq_some_iff.mp e).1
  have q := hs i u (by rw [List.getElem?_append_left hi]; exact e)
  rw [getD_app (by rw [hl]; exact hi)] at q
  exact q
/-- the value that came last is put into a slot -/
theorem En.put {ov : Option V} {s : Sl} (E : En X F H (σ ++ [ov]) (Γ ++ [s])) (i : Nat) : En X F H (σ.set i ov) (Γ.set i s) := by
  have hl : σ.length = Γ.length := by
    have := E.len
    simp at this
    exact this
  obtain ⟨S, hs, hdj, ho⟩ := E.sl
  by_cases hi : i < Γ.length
  · refine ⟨E.le, by simp [hl], ⟨fun j a => if j = i then S Γ.length a else if j = Γ.length then False else S j a, fun j u e => ?_, fun j k a h1 h2 => ?_, fun j a h1 => ?_⟩, E.fr, E.f0, E.nn⟩
    · by_cases hj : j = i
      · subst hj
        rw [List.getElem?_set_self hi] at e
        cases e
        have q := hs Γ.length s (by simp)
        rw [← hl, getD_last, hl] at q
        have : (σ.set j ov).getD j none = ov := by simp [List.getD_eq_getElem?_getD, hl, hi]
        rw [this]
        simpa using q
      · rw [List.getElem?_set_ne (Ne.symm hj)] at e
        have hj' : j < Γ.length := (List.getElem?_eq_some_iff.mp e).1
        have q := hs j u (by rw [List.getElem?_append_left hj']; exact e)
        rw [getD_app (by rw [hl]; exact hj')] at q
        have : (σ.set i ov).getD j none = σ.getD j none := by simp [List.getD_eq_getElem?_getD, List.getElem?_set_ne (Ne.symm hj)]
        rw [this]
        have hne : j ≠ Γ.length := by omega
        simpa [hj, hne] using q
    · by_cases a1 : j = i
      · by_cases a2 : k = i
        · omega
        · simp only [if_pos a1, if_neg a2] at h1 h2
          by_cases a3 : k = Γ.length
          · simp [a3] at h2
          · simp only [if_neg a3] at h2
            have := hdj _ _ _ h1 h2
            omega
      · simp only [if_neg a1] at h1
        by_cases a4 : j = Γ.length
        · simp [a4] at h1
        · simp only [if_neg a4] at h1
          by_cases a2 : k = i
          · simp only [if_pos a2] at h2
            have := hdj _ _ _ h1 h2
            omega
          · simp only [if_neg a2] at h2
            by_cases a3 : k = Γ.length
            · simp [a3] at h2
            · simp only [if_neg a3] at h2
              exact hdj _ _ _ h1 h2
    · by_cases a1 : j = i
      · simp only [if_pos a1] at h1; exact ho _ a h1
      · simp only [if_neg a1] at h1
        by_cases a4 : j = Γ.length
        · simp [a4] at h1
        · simp only [if_neg a4] at h1; exact ho _ a h1
  · have e1 : σ.set i ov = σ := List.set_eq_of_length_le (by omega)
    have e2 : Γ.set i s = Γ := List.set_eq_of_length_le (by omega)
    rw [e1, e2]
    exact E.drop
/-- a slot is told otherwise, over the same addresses (or fewer) -/
theorem En.retell (E : En X F H σ Γ) (lf : Le F F') (le : Le F' H) (hf : ∀ a o, X.H0 a = some o → ¬ X.S0 a → F' a = F a) {i : Nat} {s s' : Sl} (hi : Γ[i]? = some s)
    (h : ∀ S : Addr → Prop, (∀ a, S a → F a = none ∧ H a ≠ none) → SlOk X F H (σ.getD i none) S s → ∃ S' : Addr → Prop, SlOk X F' H (σ.getD i none) S' s' ∧ (∀ a, S' a → S a ∧ F' a = none) ∧ ∀ a, F' a ≠ F a → S a) : En X F' H σ (Γ.set i s') := by
  obtain ⟨S, hs, hdj, ho⟩ := E.sl
  have hil : i < Γ.length := (List.getElem?_eq_some_iff.mp hi).1
  obtain ⟨S', q, hsub, hch⟩ := h (S i) (fun a sa => ⟨(ho i a sa).1, (ho i a sa).2.1⟩) (hs i s hi)
  have hother : ∀ j a, j ≠ i → S j a → F' a = F a := fun j a hj sa => by
    by_cases e : F' a = F a
    · exact e
    · exact absurd (hdj j i a sa (hch a e)) hj
  refine ⟨le, by simp [E.len], ⟨fun j a => if j = i then S' a else S j a, fun j u e => ?_, fun j k a h1 h2 => ?_, fun j a h1 => ?_⟩, fun a o e n => ?_, E.f0.tr lf, E.nn⟩
  · by_cases hj : j = i
    · subst hj
      rw [List.getElem?_set_self hil] at e
      cases e
      simpa using q
    · rw [List.getElem?_set_ne (Ne.symm hj)] at e
      have := (hs j u e).mono lf (H' := H) fun _ _ => rfl
      simpa [hj] using this
  · by_cases a1 : j = i <;> by_cases a2 : k = i
    · omega
    · simp only [if_pos a1, if_neg a2] at h1 h2
      have := hdj _ _ _ (hsub a h1).1 h2
      omega
    · simp only [if_neg a1, if_pos a2] at h1 h2
      have := hdj _ _ _ h1 (hsub a h2).1
      omega
    · simp only [if_neg a1, if_neg a2] at h1 h2
      exact hdj _ _ _ h1 h2
  · by_cases a1 : j = i
    · simp only [if_pos a1] at h1
      obtain ⟨sa, fn⟩ := hsub a h1
      exact ⟨fn, (ho i a sa).2.1, (ho i a sa).2.2⟩
    · simp only [if_neg a1] at h1
      exact ⟨(hother j a a1 h1).trans (ho j a h1).1, (ho j a h1).2⟩
  · exact ⟨(E.fr a o e n).1, (hf a o e n).trans (E.fr a o e n).2⟩
/-- a list of one's own is frozen -/
theorem En.freeze (E : En X F H σ Γ) {i : Nat} {m : Bool} {l : Addr} {ds : List PyData} (hi : Γ[i]? = some (.ml m l ds)) : ∃ F', Le F F' ∧ En X F' H σ (Γ.set i (.dat m (.list ds))) := by
  obtain ⟨xs, e1, hl, fl, r⟩ := E.ml hi
  obtain ⟨S, hs, hdj, ho⟩ := id E.sl
  have own : X.own l ∧ (m = true → ¬ X.N l) := by
    obtain ⟨_, _, hS, _, _, nl⟩ := hs i _ hi
    exact ⟨(ho i l ((hS l).mpr rfl)).2.2, nl⟩
  obtain ⟨own, nl⟩ := own
  have fl' : ∀ {F : Hp}, F l = some (.lst xs) → X.ff F m l = some (.lst xs) := fun {F} h => by
    cases m with
    | false => exact h
    | true => rw [Bs.ff_at (nl rfl)]; exact h
  refine ⟨upd F l (.lst xs), Le.up fl, E.retell (Le.up fl) (E.le.lay hl) (fun a o e n => ?_) hi fun S hS q => ?_⟩
  · refine upd_ne fun z => ?_
    subst z
    rcases own with w | w
    · rw [w] at e; cases e
    · exact n w
  · obtain ⟨ys, e, hS', hl', r', _⟩ := q
    rw [hl] at hl'; cases hl'
    refine ⟨fun _ => False, ⟨⟨.ref l, e, .lst (fl' upd_same) (r.mono (Bs.ff_mono (Le.up fl) m))⟩, fun _ z => z⟩, fun _ z => z.elim, fun a ha => ?_⟩
    refine (hS' a).mpr ?_
    by_cases z : a = l
    · exact z
    · exact absurd (upd_ne z) ha
end
end Pk
end
section
set_option Elab.async false
set_option linter.all false
set_option maxRecDepth 100000
namespace Pk
open PySem PySem.Spec PyProof.Rows L2

/-- one slot stands aside while the others work -/
theorem En.frame {X : Bs} {F H : Hp} {σ : L2.St} {Γ : List Sl} {ov : Option V} {s : Sl} (E : En X F H (σ ++ [ov]) (Γ ++ [s])) :
    ∃ X' : Bs, X'.K = X.K ∧ X'.N = X.N ∧ En X' F H σ Γ ∧ ∀ F' H' σ' Γ', Γ'.length = Γ.length → Le F F' → En X' F' H' σ' Γ' → En X F' H' (σ' ++ [ov]) (Γ' ++ [s]) := by
  have hl : σ.length = Γ.length := by
    have := E.len
    simp at this
    exact this
  have own0 : ∀ p, H p = none → X.own p := fun p h => E.ownN h
  obtain ⟨S, hs, hdj, ho⟩ := id E.sl
  refine ⟨⟨X.K, F, H, fun a => ∃ i, i < Γ.length ∧ S i a, X.N⟩, rfl, rfl, ⟨E.le, hl, ⟨fun i a => i < Γ.length ∧ S i a, fun i u e => ?_, fun i j a h1 h2 => hdj i j a h1.2 h2.2, fun i a h1 => ⟨(ho i a h1.2).1, (ho i a h1.2).2.1, .inr ⟨i, h1⟩⟩⟩, fun a o e _ => ⟨e, rfl⟩, Le.rfl', E.nn⟩, fun F' H' σ' Γ' hlen lf E' => ?_⟩
  · have hi : i < Γ.length := (List.getElem?_eq_some_iff.mp e).1
    have q := hs i u (by rw [List.getElem?_append_left hi]; exact e)
    rw [getD_app (by rw [hl]; exact hi)] at q
    have eS : (fun a => i < Γ.length ∧ S i a) = S i := by
      funext a
      exact propext ⟨fun z => z.2, fun z => ⟨hi, z⟩⟩
    show SlOk _ F H _ (fun a => i < Γ.length ∧ S i a) u
    rw [eS]
    exact q.to rfl fun _ h => h
  · obtain ⟨S', hs', hdj', ho'⟩ := id E'.sl
    have notS : ∀ a, S Γ.length a → ¬ ∃ i, i < Γ.length ∧ S i a := fun a sa ⟨i, hi, si⟩ => by
      have := hdj i _ a si sa
      omega
    have keepS : ∀ a, S Γ.length a → H' a = H a ∧ F' a = F a := fun a sa => by
      obtain ⟨_, h1, _⟩ := ho _ a sa
      cases q : H a with
      | none => exact absurd q h1
      | some o => exact E'.fr a o q (notS a sa)
    have disS : ∀ i a, S' i a → ¬ S Γ.length a := fun i a h1 h2 => by
      rcases (ho' i a h1).2.2 with w | w
      · exact (ho _ a h2).2.1 w
      · exact notS a h2 w
    have hl' : σ'.length = Γ'.length := E'.len
    refine ⟨E'.le, by simp [hl'], ⟨fun i a => (i < Γ'.length ∧ S' i a) ∨ (i = Γ'.length ∧ S Γ.length a), fun i u e => ?_, fun i j a h1 h2 => ?_, fun i a h1 => ?_⟩, fun a o e n => ?_, E.f0.tr lf, E'.nn⟩
    · have hi : i < (Γ' ++ [s]).length := (List.getElem?_eq_some_iff.mp e).1
      simp only [List.length_append, List.length_cons, List.length_nil] at hi
      by_cases hlt : i < Γ'.length
      · rw [List.getElem?_append_left hlt] at e
        rw [getD_app (by rw [hl']; exact hlt)]
        have eS : (fun a => (i < Γ'.length ∧ S' i a) ∨ (i = Γ'.length ∧ S Γ.length a)) = S' i := by
          funext a
          apply propext
          constructor
          · rintro (⟨_, q⟩ | ⟨q, _⟩)
            · exact q
            · omega
          · intro q; exact .inl ⟨hlt, q⟩
        show SlOk X F' H' _ (fun a => (i < Γ'.length ∧ S' i a) ∨ (i = Γ'.length ∧ S Γ.length a)) u
        rw [eS]
        exact (hs' i u e).to rfl fun _ h => h
      · have hie : i = Γ'.length := by omega
        subst hie
        simp at e; subst e
        have eS : (fun a => (Γ'.length < Γ'.length ∧ S' Γ'.length a) ∨ (Γ'.length = Γ'.length ∧ S Γ.length a)) = S Γ.length := by
          funext a
          apply propext
          constructor
          · rintro (⟨q, _⟩ | ⟨_, q⟩)
            · omega
            · exact q
          · intro q; exact .inr ⟨rfl, q⟩
        show SlOk X F' H' _ (fun a => (Γ'.length < Γ'.length ∧ S' Γ'.length a) ∨ (Γ'.length = Γ'.length ∧ S Γ.length a)) s
        rw [eS, ← hl', getD_last]
        have q := hs Γ.length s (by simp)
        rw [← hl, getD_last, hl] at q
        exact q.mono lf fun a sa => (keepS a sa).1
    · rcases h1 with ⟨a1, b1⟩ | ⟨a1, b1⟩ <;> rcases h2 with ⟨a2, b2⟩ | ⟨a2, b2⟩
      · exact hdj' i j a b1 b2
      · exact absurd b2 (disS i a b1)
      · exact absurd b1 (disS j a b2)
      · omega
    · rcases h1 with ⟨a1, b1⟩ | ⟨a1, b1⟩
      · refine ⟨(ho' i a b1).1, (ho' i a b1).2.1, ?_⟩
        rcases (ho' i a b1).2.2 with w | ⟨j, _, w⟩
        · exact own0 a w
        · exact (ho j a w).2.2
      · obtain ⟨k1, k2⟩ := keepS a b1
        exact ⟨k2.trans (ho _ a b1).1, by rw [k1]; exact (ho _ a b1).2.1, (ho _ a b1).2.2⟩
    · obtain ⟨q1, q2⟩ := E.fr a o e n
      have nS : ¬ ∃ i, i < Γ.length ∧ S i a := fun ⟨i, _, si⟩ => by
        rcases (ho i a si).2.2 with w | w
        · rw [w] at e; cases e
        · exact n w
      obtain ⟨r1, r2⟩ := E'.fr a o q1 nS
      exact ⟨r1, r2.trans q2⟩
theorem En.rebase {X : Bs} {F H : Hp} {σ : L2.St} {Γ : List Sl} (E : En X F H σ Γ) :
    ∃ X' : Bs, X'.K = X.K ∧ X'.N = X.N ∧ X'.F0 = F ∧ X'.H0 = H ∧ En X' F H σ Γ ∧ ∀ F' H' σ' Γ', En X' F' H' σ' Γ' → En X F' H' σ' Γ' := by
  obtain ⟨S, hs, hdj, ho⟩ := id E.sl
  refine ⟨⟨X.K, F, H, fun a => ∃ i, S i a, X.N⟩, rfl, rfl, rfl, rfl, ⟨E.le, E.len, ⟨S, fun i s e => (hs i s e).to rfl fun _ h => h, hdj, fun i a h1 => ⟨(ho i a h1).1, (ho i a h1).2.1, .inr ⟨i, h1⟩⟩⟩, fun a o e _ => ⟨e, rfl⟩, Le.rfl', E.nn⟩, fun F' H' σ' Γ' E' => ?_⟩
  have lf : Le F F' := E'.f0
  obtain ⟨S', hs', hdj', ho'⟩ := id E'.sl
  refine ⟨E'.le, E'.len, ⟨S', fun i s e => (hs' i s e).to rfl fun _ h => h, hdj', fun i a h1 => ⟨(ho' i a h1).1, (ho' i a h1).2.1, ?_⟩⟩, fun a o e n => ?_, E.f0.tr lf, E'.nn⟩
  · rcases (ho' i a h1).2.2 with w | ⟨j, w⟩
    · exact E.ownN w
    · exact (ho j a w).2.2
  · obtain ⟨q1, q2⟩ := E.fr a o e n
    have nS : ¬ ∃ i, S i a := fun ⟨i, si⟩ => by
      rcases (ho i a si).2.2 with w | w
      · rw [w] at e; cases e
      · exact n w
    obtain ⟨r1, r2⟩ := E'.fr a o q1 nS
    exact ⟨r1, r2.trans q2⟩

/-- the reading t gives data, of which Q holds; m: its lists are new -/
def WD (K : Kw) (m : Bool) (Γ : List Sl) (t : TE) (Q : PyData → Prop) : Prop := ∀ X : Bs, X.K = K → ∀ F H σ, En X F H σ Γ → ∀ C : VK,
  (∀ v F' H' d, Le F F' → En X F' H' σ Γ → Rp K (X.ff F' m) v d → Q d → C v H') → t σ H C
/-- .. or a new thing of one's own -/
def WX (K : Kw) (Γ : List Sl) (t : TE) (Q : Sl → Prop) : Prop := ∀ X : Bs, X.K = K → ∀ F H σ, En X F H σ Γ → ∀ C : VK,
  (∀ v F' H' s, Le F F' → En X F' H' (σ ++ [some v]) (Γ ++ [s]) → Q s → C v H') → t σ H C
def WT (K : Kw) (Γ : List Sl) (t : TT) (Q : Bool → Prop) : Prop := ∀ X : Bs, X.K = K → ∀ F H σ, En X F H σ Γ → ∀ C : Bool → Hp → Prop,
  (∀ b F' H', Le F F' → En X F' H' σ Γ → Q b → C b H') → t σ H C
/-- an argument: data, or one's own in a slot -/
inductive Ag where
  | d (x : PyData)
  | o (i : Nat)
def Ag.ix : Ag → Option Nat
  | .d _ => none
  | .o i => some i
def Ag.sl (Γ : List Sl) : Ag → Sl
  | .d x => .dat false x
  | .o i => Γ.getD i .no
def AgOk (X : Bs) (m : Bool) (F : Hp) (σ : L2.St) : V → Ag → Prop
  | v, .d x => Rp X.K (X.ff F m) v x
  | v, .o i => σ[i]? = some (some v)
inductive AgsOk (X : Bs) (m : Bool) (F : Hp) (σ : L2.St) : List V → List Ag → Prop
  | nil : AgsOk X m F σ [] []
  | cons {v vs a as} : AgOk X m F σ v a → AgsOk X m F σ vs as → AgsOk X m F σ (v :: vs) (a :: as)
def WA (K : Kw) (m : Bool) (Γ : List Sl) (t : TA) (Q : List Ag → Prop) : Prop := ∀ X : Bs, X.K = K → ∀ F H σ, En X F H σ Γ → ∀ C : List V → Hp → Prop,
  (∀ vs F' H' as, Le F F' → En X F' H' σ Γ → AgsOk X m F' σ vs as → Q as → C vs H') → t σ H C
/-- operations on values -/
def RD (K : Kw) (m : Bool) (Γ : List Sl) (r : R2) (x y : PyData) (Q : PyData → Prop) : Prop := ∀ X : Bs, X.K = K → ∀ F H σ, En X F H σ Γ → ∀ v u, Rp K (X.ff F m) v x → Rp K (X.ff F m) u y → ∀ C : VK,
  (∀ z F' H' d, Le F F' → En X F' H' σ Γ → Rp K (X.ff F' m) z d → Q d → C z H') → r v u H C
def RX (K : Kw) (m : Bool) (Γ : List Sl) (r : R2) (x y : PyData) (Q : Sl → Prop) : Prop := ∀ X : Bs, X.K = K → ∀ F H σ, En X F H σ Γ → ∀ v u, Rp K (X.ff F m) v x → Rp K (X.ff F m) u y → ∀ C : VK,
  (∀ z F' H' s, Le F F' → En X F' H' (σ ++ [some z]) (Γ ++ [s]) → Q s → C z H') → r v u H C
def RU (K : Kw) (m : Bool) (Γ : List Sl) (r : V → Hp → VK → Prop) (x : PyData) (Q : PyData → Prop) : Prop := ∀ X : Bs, X.K = K → ∀ F H σ, En X F H σ Γ → ∀ v, Rp K (X.ff F m) v x → ∀ C : VK,
  (∀ z F' H' d, Le F F' → En X F' H' σ Γ → Rp K (X.ff F' m) z d → Q d → C z H') → r v H C
def RC (K : Kw) (m : Bool) (Γ : List Sl) (r : List V → Hp → VK → Prop) (xs : List PyData) (Q : PyData → Prop) : Prop := ∀ X : Bs, X.K = K → ∀ F H σ, En X F H σ Γ → ∀ vs, RpA K (X.ff F m) vs xs → ∀ C : VK,
  (∀ z F' H' d, Le F F' → En X F' H' σ Γ → Rp K (X.ff F' m) z d → Q d → C z H') → r vs H C
def RCX (K : Kw) (m : Bool) (Γ : List Sl) (r : List V → Hp → VK → Prop) (xs : List PyData) (Q : Sl → Prop) : Prop := ∀ X : Bs, X.K = K → ∀ F H σ, En X F H σ Γ → ∀ vs, RpA K (X.ff F m) vs xs → ∀ C : VK,
  (∀ z F' H' s, Le F F' → En X F' H' (σ ++ [some z]) (Γ ++ [s]) → Q s → C z H') → r vs H C

/-- a slot as data -/
def Sl.toD (m : Bool) : Sl → Option PyData
  | .dat m' d => if m = true ∧ m' = false then none else some d
  | .ml m' _ ds => if m = true ∧ m' = false then none else some (.list ds)
  | .ex _ Φ => if m = true then none else Φ.vw
  | .no => none
/-- what is new may be taken as any -/
theorem Bs.ff_any {X : Bs} {F : Hp} {m m' : Bool} (h : ¬ (m = true ∧ m' = false)) : Le (X.ff F m') (X.ff F m) := by
  cases m with
  | false => exact X.ff_le F m'
  | true =>
    cases m' with
    | true => exact Le.rfl'
    | false => exact absurd ⟨rfl, rfl⟩ h
section
variable {K : Kw} {m : Bool} {Γ : List Sl} {t ta tb : TE} {Q : PyData → Prop} {QX : Sl → Prop}
theorem lastFreeze {X : Bs} {F H : Hp} {σ : L2.St} {v : V} {s : Sl} {d : PyData} (hs : s.toD m = some d) (E : En X F H (σ ++ [some v]) (Γ ++ [s])) : ∃ F', Le F F' ∧ En X F' H σ Γ ∧ Rp X.K (X.ff F' m) v d := by
  have hl : σ.length = Γ.length := by
    have := E.len
    simp at this
    exact this
  cases s with
  | no => cases hs
  | ex u Φ =>
    cases m with
    | true => simp [Sl.toD] at hs
    | false =>
      have hv : Φ.vw = some d := by simpa [Sl.toD] using hs
      obtain ⟨S, h1, hdj, ho⟩ := id E.sl
      obtain ⟨e, hk, p⟩ := h1 Γ.length (.ex u Φ) (by simp)
      rw [← hl, getD_last] at e
      cases e
      obtain ⟨rv, hL⟩ := Φ.view E.le p hv
      have lf : Le F (lay (S Γ.length) H F) := fun a o q => by
        unfold lay
        rw [if_neg fun sa => by rw [(ho _ a sa).1] at q; cases q]
        exact q
      have ln : ∀ a, ¬ S Γ.length a → lay (S Γ.length) H F a = F a := fun a h => by unfold lay; rw [if_neg h]
      have Ed := E.drop
      refine ⟨lay (S Γ.length) H F, lf, ⟨fun a o q => ?_, hl, ⟨fun i a => i < Γ.length ∧ S i a, fun i w q => ?_, fun i j a q1 q2 => hdj i j a q1.2 q2.2, fun i a q => ⟨?_, (ho i a q.2).2⟩⟩, fun a o q n => ⟨(E.fr a o q n).1, ?_⟩, E.f0.tr lf, E.nn⟩, by rw [← hk]; exact rv⟩
      · unfold lay at q
        split at q
        · exact q
        · exact E.le a o q
      · have hi : i < Γ.length := (List.getElem?_eq_some_iff.mp q).1
        have z := h1 i w (by rw [List.getElem?_append_left hi]; exact q)
        rw [getD_app (by rw [hl]; exact hi)] at z
        have eS : (fun a => i < Γ.length ∧ S i a) = S i := by
          funext a
          exact propext ⟨fun z => z.2, fun z => ⟨hi, z⟩⟩
        show SlOk X _ H _ (fun a => i < Γ.length ∧ S i a) w
        rw [eS]
        exact z.mono lf fun _ _ => rfl
      · rw [ln a fun sa => by have := hdj _ _ a sa q.2; omega]
        exact (ho i a q.2).1
      · rw [ln a fun sa => ?_]
        · exact (E.fr a o q n).2
        · rcases (ho _ a sa).2.2 with z | z
          · rw [z] at q; cases q
          · exact n z
  | dat m' x =>
    simp only [Sl.toD] at hs
    split at hs
    · cases hs
    · rename_i hm
      cases hs
      obtain ⟨u, e, r⟩ := E.dat (i := Γ.length) (m := m') (d := d) (by simp)
      rw [← hl] at e
      simp at e
      subst e
      exact ⟨F, Le.rfl', E.drop, r.mono (Bs.ff_any hm)⟩
  | ml m' l ds =>
    simp only [Sl.toD] at hs
    split at hs
    · cases hs
    · rename_i hm
      cases hs
      obtain ⟨F', lf, E'⟩ := E.freeze (i := Γ.length) (m := m') (l := l) (ds := ds) (by simp)
      have e2 : (Γ ++ [Sl.ml m' l ds]).set Γ.length (.dat m' (.list ds)) = Γ ++ [.dat m' (.list ds)] := by simp
      rw [e2] at E'
      obtain ⟨u, e, r⟩ := E'.dat (i := Γ.length) (m := m') (d := .list ds) (by simp)
      rw [← hl] at e
      simp at e
      subst e
      exact ⟨F', lf, E'.drop, r.mono (Bs.ff_any hm)⟩
theorem toD_dat {d : PyData} : (Sl.dat m d).toD m = some d := by cases m <;> simp [Sl.toD]
theorem toD_ml {l : Addr} {ds : List PyData} : (Sl.ml m l ds).toD m = some (.list ds) := by cases m <;> simp [Sl.toD]
theorem WD.ofX (h : WX K Γ t fun s => ∃ d, s.toD m = some d ∧ Q d) : WD K m Γ t Q := fun X hK F H σ E C k =>
  h X hK F H σ E C fun v F' H' s lf E' ⟨d, hs, q⟩ => by
    obtain ⟨F2, l2, E2, r⟩ := lastFreeze hs E'
    subst hK
    exact k v F2 H' d (lf.tr l2) E2 r q
theorem WX.ofD (h : WD K m Γ t fun d => QX (.dat m d)) : WX K Γ t QX := fun X hK F H σ E C k =>
  h X hK F H σ E C fun v F' H' d lf E' r q => k v F' H' _ lf (E'.pushD (by rw [hK]; exact r)) q
theorem RD.ofX {r : R2} {x y : PyData} (h : RX K m Γ r x y fun s => ∃ d, s.toD m = some d ∧ Q d) : RD K m Γ r x y Q := fun X hK F H σ E v u rv ru C k =>
  h X hK F H σ E v u rv ru C fun z F' H' s lf E' ⟨d, hs, q⟩ => by
    obtain ⟨F2, l2, E2, r⟩ := lastFreeze hs E'
    subst hK
    exact k z F2 H' d (lf.tr l2) E2 r q
theorem RC.ofX {r : List V → Hp → VK → Prop} {xs : List PyData} (h : RCX K m Γ r xs fun s => ∃ d, s.toD m = some d ∧ Q d) : RC K m Γ r xs Q := fun X hK F H σ E vs rv C k =>
  h X hK F H σ E vs rv C fun z F' H' s lf E' ⟨d, hs, q⟩ => by
    obtain ⟨F2, l2, E2, r⟩ := lastFreeze hs E'
    subst hK
    exact k z F2 H' d (lf.tr l2) E2 r q
theorem WD.mono {Q' : PyData → Prop} (h : WD K m Γ t Q) (k : ∀ d, Q d → Q' d) : WD K m Γ t Q' := fun X hK F H σ E C c => h X hK F H σ E C fun v F' H' d lf E' r q => c v F' H' d lf E' r (k d q)
theorem WX.mono {Q' : Sl → Prop} (h : WX K Γ t QX) (k : ∀ s, QX s → Q' s) : WX K Γ t Q' := fun X hK F H σ E C c => h X hK F H σ E C fun v F' H' d lf E' q => c v F' H' d lf E' (k d q)
theorem WT.mono {tt : TT} {Q Q' : Bool → Prop} (h : WT K Γ tt Q) (k : ∀ b, Q b → Q' b) : WT K Γ tt Q' := fun X hK F H σ E C c => h X hK F H σ E C fun v F' H' lf E' q => c v F' H' lf E' (k v q)
/-- what holds no list is new -/
theorem wd_lf (h : WD K false Γ t fun d => lf d = true ∧ Q d) : WD K m Γ t Q := fun X hK F H σ E C k =>
  h X hK F H σ E C fun v F' H' d l E' r ⟨z, q⟩ => k v F' H' d l E' (Rp.lfree Bs.ff_tup d z r) q
/-- what is new is data -/
theorem wd_new (h : WD K true Γ t Q) : WD K false Γ t Q := fun X hK F H σ E C k =>
  h X hK F H σ E C fun v F' H' d l E' r q => k v F' H' d l E' (r.mono (X.ff_le F' true)) q

theorem wd_var {i : Nat} {d : PyData} (h : Γ[i]? = some (.dat m d)) (q : Q d) : WD K m Γ (tVar i) Q := fun X hK F H σ E C k => by
  obtain ⟨v, e, r⟩ := E.dat h
  subst hK
  exact ⟨v, e, k v F H d Le.rfl' E r q⟩
theorem wd_varN {i : Nat} {d : PyData} (h : Γ[i]? = some (.dat true d)) (q : Q d) : WD K m Γ (tVar i) Q := by
  cases m with
  | true => exact wd_var h q
  | false => exact wd_new (wd_var h q)
theorem wd_c {v : V} {d : PyData} (h : ∀ F, Rp K F v d) (q : Q d) : WD K m Γ (tC v) Q := fun X hK F H σ E C k => k v F H d Le.rfl' E (h _) q
theorem wd_int {i : Int} (q : Q (.int i)) : WD K m Γ (tC (.int i)) Q := wd_c (fun _ => .int i) q
theorem wd_bl {b : Bool} (q : Q (.bool b)) : WD K m Γ (tC (.bl b)) Q := wd_c (fun _ => .bl b) q
theorem wd_str {x : Str} (q : Q (.str x)) : WD K m Γ (tC (.str x)) Q := wd_c (fun _ => .str x) q
theorem wd_non (q : Q .none) : WD K m Γ (tC .non) Q := wd_c (fun _ => .non) q
theorem Bs.mo {X : Bs} {F F' : Hp} {v : V} {d : PyData} (r : Rp K (X.ff F m) v d) (l : Le F F') : Rp K (X.ff F' m) v d := r.mono (Bs.ff_mono l m)
theorem Bs.moA {X : Bs} {F F' : Hp} {v : List V} {d : List PyData} (r : RpA K (X.ff F m) v d) (l : Le F F') : RpA K (X.ff F' m) v d := r.mono (Bs.ff_mono l m)
theorem wd_op {r : R2} (h : WD K m Γ ta fun x => WD K m Γ tb fun y => RD K m Γ r x y Q) : WD K m Γ (tOp r ta tb) Q := fun X hK F H σ E C k =>
  h X hK F H σ E _ fun v F1 H1 x l1 E1 r1 h1 => h1 X hK F1 H1 σ E1 _ fun u F2 H2 y l2 E2 r2 h2 =>
    h2 X hK F2 H2 σ E2 v u (Bs.mo r1 l2) r2 C fun z F3 H3 d l3 E3 r3 q => k z F3 H3 d (l1.tr (l2.tr l3)) E3 r3 q
theorem wd_un {r : V → Hp → VK → Prop} (h : WD K m Γ ta fun x => RU K m Γ r x Q) : WD K m Γ (tUn r ta) Q := fun X hK F H σ E C k =>
  h X hK F H σ E _ fun v F1 H1 x l1 E1 r1 h1 => h1 X hK F1 H1 σ E1 v r1 C fun z F3 H3 d l3 E3 r3 q => k z F3 H3 d (l1.tr l3) E3 r3 q
theorem En.lef {X : Bs} {F H : Hp} {σ : L2.St} (E : En X F H σ Γ) (m : Bool) : Le (X.ff F m) H := (X.ff_le F m).tr E.le
/-- a plain value: no new object -/
theorem rd_plain {r : R2} {x y d : PyData} (h : ∀ (F H : Hp) v u (C : VK), Le F H → Rp K F v x → Rp K F u y → (∀ z, Rp K F z d → C z H) → r v u H C) (q : Q d) : RD K m Γ r x y Q := fun X hK F H σ E v u rv ru C k =>
  h (X.ff F m) H v u C (E.lef m) rv ru fun z rz => k z F H d Le.rfl' E rz q
theorem rc_plain {r : List V → Hp → VK → Prop} {xs : List PyData} {d : PyData} (h : ∀ (F H : Hp) vs (C : VK), Le F H → RpA K F vs xs → (∀ z, Rp K F z d → C z H) → r vs H C) (q : Q d) : RC K m Γ r xs Q := fun X hK F H σ E vs rv C k =>
  h (X.ff F m) H vs C (E.lef m) rv fun z rz => k z F H d Le.rfl' E rz q
theorem ru_plain {r : V → Hp → VK → Prop} {x d : PyData} (h : ∀ (F H : Hp) v (C : VK), Le F H → Rp K F v x → (∀ z, Rp K F z d → C z H) → r v H C) (q : Q d) : RU K m Γ r x Q := fun X hK F H σ E v rv C k =>
  h (X.ff F m) H v C (E.lef m) rv fun z rz => k z F H d Le.rfl' E rz q
/-- a new list -/
theorem rx_list {r : R2} {x y : PyData} {ds : List PyData} (h : ∀ (F H : Hp) v u (C : VK), Le F H → Rp K F v x → Rp K F u y → (∀ p xs, H p = none → RpA K F xs ds → C (.ref p) (upd H p (.lst xs))) → r v u H C) (q : ∀ l, QX (.ml m l ds)) : RX K m Γ r x y QX := fun X hK F H σ E v u rv ru C k =>
  h (X.ff F m) H v u C (E.lef m) rv ru fun p xs hp rx => k (.ref p) F _ _ Le.rfl' (E.pushM hp (by rw [hK]; exact rx)) (q p)
theorem rcx_list {r : List V → Hp → VK → Prop} {xs ds : List PyData} (h : ∀ (F H : Hp) vs (C : VK), Le F H → RpA K F vs xs → (∀ p ys, H p = none → RpA K F ys ds → C (.ref p) (upd H p (.lst ys))) → r vs H C) (q : ∀ l, QX (.ml m l ds)) : RCX K m Γ r xs QX := fun X hK F H σ E vs rv C k =>
  h (X.ff F m) H vs C (E.lef m) rv fun p xs hp rx => k (.ref p) F _ _ Le.rfl' (E.pushM hp (by rw [hK]; exact rx)) (q p)
/-- a new tuple -/
theorem En.newT {X : Bs} (hK : X.K = K) {F H : Hp} {σ : L2.St} (E : En X F H σ Γ) {p : Addr} {xs : List V} {ds : List PyData} (hp : H p = none) (rx : RpA K (X.ff F m) xs ds) : Le F (upd F p (.tup xs)) ∧ En X (upd F p (.tup xs)) (upd H p (.tup xs)) σ Γ ∧ Rp K (X.ff (upd F p (.tup xs)) m) (.ref p) (.tuple ds) :=
  ⟨Le.up (E.le.nn hp), E.alloc hp, .tup (Bs.ff_tup.1 _ _ (SqT.of upd_same)) (Bs.moA rx (Le.up (E.le.nn hp)))⟩
theorem rc_tuple {r : List V → Hp → VK → Prop} {xs ds : List PyData} (h : ∀ (F H : Hp) vs (C : VK), Le F H → RpA K F vs xs → (∀ p ys, H p = none → RpA K F ys ds → C (.ref p) (upd H p (.tup ys))) → r vs H C) (q : Q (.tuple ds)) : RC K m Γ r xs Q := fun X hK F H σ E vs rv C k =>
  h (X.ff F m) H vs C (E.lef m) rv fun p xs hp rx => let ⟨a, b, c⟩ := E.newT hK hp rx; k (.ref p) _ _ _ a b c q

variable {tt tu : TT} {QT : Bool → Prop}
theorem wt_test (h : WD K false Γ t fun d => ∃ b, d = .bool b ∧ QT b) : WT K Γ (tTest t) QT := fun X hK F H σ E C k =>
  h X hK F H σ E _ fun v F1 H1 x l1 E1 r1 ⟨b, e, q⟩ => by
    subst e
    cases r1
    exact ⟨b, rfl, k b F1 H1 l1 E1 q⟩
theorem wt_B (h : WD K false Γ t fun d => ∃ b, d = .bool b ∧ QT b) : WT K Γ (tB t) QT := fun X hK F H σ E C k =>
  h X hK F H σ E _ fun v F1 H1 x l1 E1 r1 ⟨b, e, q⟩ => by
    subst e
    cases r1
    exact ⟨b, rfl, k b F1 H1 l1 E1 q⟩
theorem wt_not (h : WT K Γ tt fun b => QT (!b)) : WT K Γ (tNot tt) QT := fun X hK F H σ E C k => h X hK F H σ E _ fun b F1 H1 l1 E1 q => k _ F1 H1 l1 E1 q
theorem wt_and (h : WT K Γ tt fun b => if b = true then WT K Γ tu QT else QT false) : WT K Γ (tAnd tt tu) QT := fun X hK F H σ E C k =>
  h X hK F H σ E _ fun b F1 H1 l1 E1 q => by
    cases b with
    | true => exact q X hK F1 H1 σ E1 C fun b F2 H2 l2 E2 q2 => k b F2 H2 (l1.tr l2) E2 q2
    | false => exact k false F1 H1 l1 E1 q
theorem wt_or (h : WT K Γ tt fun b => if b = true then QT true else WT K Γ tu QT) : WT K Γ (tOr tt tu) QT := fun X hK F H σ E C k =>
  h X hK F H σ E _ fun b F1 H1 l1 E1 q => by
    cases b with
    | false => exact q X hK F1 H1 σ E1 C fun b F2 H2 l2 E2 q2 => k b F2 H2 (l1.tr l2) E2 q2
    | true => exact k true F1 H1 l1 E1 q
theorem wt_yes (q : QT true) : WT K Γ tYes QT := fun X hK F H σ E C k => k true F H Le.rfl' E q
theorem wd_andV (h : WD K false Γ ta fun d => ∃ b, d = .bool b ∧ if b = true then WD K m Γ tb Q else Q (.bool false)) : WD K m Γ (tAndV ta tb) Q := fun X hK F H σ E C k =>
  h X hK F H σ E _ fun v F1 H1 x l1 E1 r1 ⟨b, e, q⟩ => by
    subst e
    cases r1
    refine ⟨b, rfl, ?_⟩
    cases b with
    | true => exact q X hK F1 H1 σ E1 C fun v F2 H2 d l2 E2 r q2 => k v F2 H2 d (l1.tr l2) E2 r q2
    | false => exact k _ F1 H1 _ l1 E1 (.bl false) q
theorem wd_orV (h : WD K false Γ ta fun d => ∃ b, d = .bool b ∧ if b = true then Q (.bool true) else WD K m Γ tb Q) : WD K m Γ (tOrV ta tb) Q := fun X hK F H σ E C k =>
  h X hK F H σ E _ fun v F1 H1 x l1 E1 r1 ⟨b, e, q⟩ => by
    subst e
    cases r1
    refine ⟨b, rfl, ?_⟩
    cases b with
    | false => exact q X hK F1 H1 σ E1 C fun v F2 H2 d l2 E2 r q2 => k v F2 H2 d (l1.tr l2) E2 r q2
    | true => exact k _ F1 H1 _ l1 E1 (.bl true) q
theorem wd_notV (h : WD K false Γ ta fun d => ∃ b, d = .bool b ∧ Q (.bool (!b))) : WD K m Γ (tNotV ta) Q := fun X hK F H σ E C k =>
  h X hK F H σ E _ fun v F1 H1 x l1 E1 r1 ⟨b, e, q⟩ => by
    subst e
    cases r1
    exact ⟨b, rfl, k _ F1 H1 _ l1 E1 (.bl _) q⟩
theorem wd_if (h : WT K Γ tt fun b => if b = true then WD K m Γ ta Q else WD K m Γ tb Q) : WD K m Γ (tIf tt ta tb) Q := fun X hK F H σ E C k =>
  h X hK F H σ E _ fun b F1 H1 l1 E1 q => by
    cases b with
    | true => exact q X hK F1 H1 σ E1 C fun v F2 H2 d l2 E2 r q2 => k v F2 H2 d (l1.tr l2) E2 r q2
    | false => exact q X hK F1 H1 σ E1 C fun v F2 H2 d l2 E2 r q2 => k v F2 H2 d (l1.tr l2) E2 r q2
theorem wd_chain {tc : TE} {r r' : R2} (h : WD K false Γ ta fun x => WD K false Γ tb fun y => RD K false Γ r x y fun z => ∃ b, z = .bool b ∧ if b = true then WD K false Γ tc fun w => RD K false Γ r' y w fun z => ∃ b, z = .bool b ∧ Q (.bool b) else Q (.bool false)) : WD K m Γ (tChain r r' ta tb tc) Q := fun X hK F H σ E C k =>
  h X hK F H σ E _ fun v F1 H1 x l1 E1 r1 h1 => h1 X hK F1 H1 σ E1 _ fun u F2 H2 y l2 E2 r2 h2 =>
    h2 X hK F2 H2 σ E2 v u (r1.mono l2) r2 _ fun z F3 H3 d l3 E3 r3 ⟨b, e, q⟩ => by
      subst e
      cases r3
      refine ⟨b, rfl, ?_⟩
      cases b with
      | true =>
        exact q X hK F3 H3 σ E3 _ fun w' F4 H4 d4 l4 E4 r4 q4 => q4 X hK F4 H4 σ E4 u w' (r2.mono (l3.tr l4)) r4 C fun z F5 H5 d5 l5 E5 r5 ⟨b, e, q5⟩ => by
          subst e
          cases r5
          exact k _ F5 H5 _ (l1.tr (l2.tr (l3.tr (l4.tr l5)))) E5 (.bl _) q5
      | false => exact k _ F3 H3 _ (l1.tr (l2.tr l3)) E3 (.bl false) q

theorem AgsOk.mono {X : Bs} {F F' : Hp} {σ : L2.St} (l : Le F F') : ∀ {vs : List V} {as : List Ag}, AgsOk X m F σ vs as → AgsOk X m F' σ vs as
  | _, _, .nil => .nil
  | _, _, .cons (a := .d x) h t => .cons (a := .d x) (Bs.mo h l) (AgsOk.mono l t)
  | _, _, .cons (a := .o i) h t => .cons (a := .o i) h (AgsOk.mono l t)
variable {tr : TA} {QA : List Ag → Prop}
theorem wa_nil (q : QA []) : WA K m Γ tNil QA := fun X hK F H σ E C k => k [] F H [] Le.rfl' E .nil q
theorem wa_d (h : WD K m Γ ta fun d => WA K m Γ tr fun as => QA (.d d :: as)) : WA K m Γ (tCons ta tr) QA := fun X hK F H σ E C k =>
  h X hK F H σ E _ fun v F1 H1 x l1 E1 r1 h1 => h1 X hK F1 H1 σ E1 _ fun vs F2 H2 as l2 E2 r2 q => k (v :: vs) F2 H2 _ (l1.tr l2) E2 (.cons (a := .d x) (by subst hK; exact Bs.mo r1 l2) r2) q
theorem wa_o {i : Nat} {v : V} {Φ : Own} (hi : Γ[i]? = some (.ex v Φ)) (h : WA K m Γ tr fun as => QA (.o i :: as)) : WA K m Γ (tCons (tVar i) tr) QA := fun X hK F H σ E C k =>
  ⟨v, E.ex hi, h X hK F H σ E _ fun vs F2 H2 as l2 E2 r2 q => k (v :: vs) F2 H2 _ l2 E2 (.cons (a := .o i) (E2.ex hi) r2) q⟩
/-- all arguments are data -/
def allD : List Ag → Option (List PyData)
  | [] => some []
  | .d x :: r => (allD r).map (x :: ·)
  | .o _ :: _ => none
theorem AgsOk.all {X : Bs} {F : Hp} {σ : L2.St} : ∀ {vs : List V} {as : List Ag} {ds : List PyData}, AgsOk X m F σ vs as → allD as = some ds → RpA X.K (X.ff F m) vs ds
  | _, _, ds, .nil, e => by cases e; exact .nil
  | _, _, ds, .cons (a := .d x) (as := as) h t, e => by
    cases q : allD as with
    | none => rw [allD, q] at e; cases e
    | some es => rw [allD, q] at e; cases e; exact .cons h (AgsOk.all t q)
  | _, _, ds, .cons (a := .o i) h t, e => by cases e
theorem WA.mono {QA' : List Ag → Prop} (h : WA K m Γ tr QA) (k : ∀ as, QA as → QA' as) : WA K m Γ tr QA' := fun X hK F H σ E C c => h X hK F H σ E C fun vs F' H' as l E' r q => c vs F' H' as l E' r (k as q)
theorem wd_tup (h : WA K m Γ tr fun as => ∃ ds, allD as = some ds ∧ ds.length ≤ 100000 ∧ Q (.tuple ds)) : WD K m Γ (tTup tr) Q := fun X hK F H σ E C k =>
  h X hK F H σ E _ fun vs F1 H1 as l1 E1 r1 ⟨ds, e, hz, q⟩ => by
    have rv := r1.all e
    refine ⟨Nat.le_trans (by rw [rv.length]; exact hz) (by decide), fun p hp => ?_⟩
    obtain ⟨a, b, c⟩ := E1.newT hK hp (by rw [← hK]; exact rv)
    exact k (.ref p) _ _ _ (l1.tr a) b c q
theorem wx_lst (m : Bool) (h : WA K m Γ tr fun as => ∃ ds, allD as = some ds ∧ ds.length ≤ 100000 ∧ ∀ l, QX (.ml m l ds)) : WX K Γ (tLst tr) QX := fun X hK F H σ E C k =>
  h X hK F H σ E _ fun vs F1 H1 as l1 E1 r1 ⟨ds, e, hz, q⟩ => by
    have rv := r1.all e
    refine ⟨Nat.le_trans (by rw [rv.length]; exact hz) (by decide), fun p hp => ?_⟩
    exact k (.ref p) _ _ _ l1 (E1.pushM hp rv) (q p)
theorem wd_lst (h : WA K m Γ tr fun as => ∃ ds, allD as = some ds ∧ ds.length ≤ 100000 ∧ Q (.list ds)) : WD K m Γ (tLst tr) Q :=
  .ofX (wx_lst m (h.mono fun as ⟨ds, e, hz, q⟩ => ⟨ds, e, hz, fun _ => ⟨_, toD_ml, q⟩⟩))
theorem wd_cb {r : List V → Hp → VK → Prop} (h : WA K m Γ tr fun as => ∃ ds, allD as = some ds ∧ RC K m Γ r ds Q) : WD K m Γ (tCB r tr) Q := fun X hK F H σ E C k =>
  h X hK F H σ E _ fun vs F1 H1 as l1 E1 r1 ⟨ds, e, q⟩ => q X hK F1 H1 σ E1 vs (by rw [← hK]; exact r1.all e) C fun z F2 H2 d l2 E2 r2 q2 => k z F2 H2 d (l1.tr l2) E2 r2 q2
end
end Pk
end
section
set_option Elab.async false
set_option linter.all false
set_option maxRecDepth 100000
namespace Pk
open PySem PySem.Spec PyProof.Rows L2

/-- a promise over data: T tells of the arguments what is wanted of the result -/
def spG (K : Kw) (T : List Sl → (Sl → Prop) → Prop) : Sp := fun vs H Q _ => ∃ (X : Bs) (F : Hp) (Γ : List Sl) (Qr : Sl → Prop), X.K = K ∧ X.F0 = F ∧ X.H0 = H ∧ (∀ a, X.N a ↔ H a ≠ none) ∧ En X F H (vs.map some) Γ ∧ T Γ Qr ∧
  ∀ F' H' v s, Le F F' → En X F' H' (vs.map some ++ [some v]) (Γ ++ [s]) → Qr s → Q v H'
/-- the arguments of one's own are unlike slots -/
def AgsGood (Γ : List Sl) (as : List Ag) : Prop := (as.filterMap Ag.ix).Nodup ∧ ∀ i ∈ as.filterMap Ag.ix, ∃ v Φ, Γ[i]? = some (.ex v Φ)
theorem ix_mem {as : List Ag} {k i : Nat} (h : as[k]? = some (.o i)) : i ∈ as.filterMap Ag.ix := List.mem_filterMap.mpr ⟨.o i, List.mem_of_getElem? h, rfl⟩
theorem ix_inj : ∀ {as : List Ag} {k k' i : Nat}, (as.filterMap Ag.ix).Nodup → as[k]? = some (.o i) → as[k']? = some (.o i) → k = k'
  | [], k, k', i, _, h, _ => by simp at h
  | a :: as, 0, 0, i, _, _, _ => rfl
  | a :: as, 0, k' + 1, i, nd, h, h' => by
    simp at h h'
    subst h
    simp [Ag.ix] at nd
    exact absurd h' (fun z => nd.1 _ (List.mem_of_getElem? z) rfl)
  | a :: as, k + 1, 0, i, nd, h, h' => by
    simp at h h'
    subst h'
    simp [Ag.ix] at nd
    exact absurd h (fun z => nd.1 _ (List.mem_of_getElem? z) rfl)
  | a :: as, k + 1, k' + 1, i, nd, h, h' => by
    simp at h h'
    have nd' : (as.filterMap Ag.ix).Nodup := by
      cases a with
      | d x => exact nd
      | o j => simp [Ag.ix] at nd; exact nd.2
    rw [ix_inj nd' h h']
theorem AgsOk.len {X : Bs} {m : Bool} {F : Hp} {σ : L2.St} : ∀ {vs : List V} {as : List Ag}, AgsOk X m F σ vs as → vs.length = as.length
  | _, _, .nil => rfl
  | _, _, .cons _ t => by simp [AgsOk.len t]
theorem AgsOk.at {X : Bs} {m : Bool} {F : Hp} {σ : L2.St} : ∀ {vs : List V} {as : List Ag} {k : Nat} {a : Ag}, AgsOk X m F σ vs as → as[k]? = some a → ∃ v, vs[k]? = some v ∧ AgOk X m F σ v a
  | _, _, _, _, .nil, e => by simp at e
  | _, _, 0, _, .cons h _, e => by simp at e; subst e; exact ⟨_, rfl, h⟩
  | _, _, k + 1, a, .cons _ t, e => by
    obtain ⟨v, h1, h2⟩ := AgsOk.at (k := k) (a := a) t (by simpa using e)
    exact ⟨v, by simpa using h1, h2⟩
theorem map_some_getD {vs : List V} {k : Nat} {v : V} (h : vs[k]? = some v) : (vs.map some).getD k none = some v := by
  simp [List.getD_eq_getElem?_getD, h]
/-- THE CALL over data: what the called sees, and how its end is ours -/
theorem call_sp {K : Kw} {Γ : List Sl} {X : Bs} (hK : X.K = K) {F H : Hp} {σ : L2.St} (E : En X F H σ Γ) {vs : List V} {as : List Ag} (ra : AgsOk X false F σ vs as) (hg : AgsGood Γ as) :
    ∃ X1 : Bs, X1.K = K ∧ X1.F0 = F ∧ X1.H0 = H ∧ (∀ a, X1.N a ↔ H a ≠ none) ∧ En X1 F H (vs.map some) (as.map (Ag.sl Γ)) ∧ ∀ F' H' v s, Le F F' → En X1 F' H' (vs.map some ++ [some v]) (as.map (Ag.sl Γ) ++ [s]) → En X F' H' (σ ++ [some v]) (Γ ++ [s]) := by
  subst hK
  obtain ⟨S, hs, hdj, ho⟩ := id E.sl
  obtain ⟨nd, hex⟩ := hg
  have exv : ∀ {k i : Nat}, as[k]? = some (.o i) → ∃ v Φ, Γ[i]? = some (.ex v Φ) ∧ vs[k]? = some v ∧ σ.getD i none = some v ∧ Φ.K = X.K ∧ Φ.p F H v (S i) := fun {k i} h => by
    obtain ⟨v, Φ, hΓ⟩ := hex i (ix_mem h)
    obtain ⟨e, hk, q⟩ := hs i _ hΓ
    obtain ⟨u, hu, hv⟩ := ra.at h
    have e2 : σ[i]? = some (some v) := E.ex hΓ
    have e3 : σ[i]? = some (some u) := hv
    rw [e2] at e3
    cases e3
    exact ⟨v, Φ, hΓ, hu, e, hk, q⟩
  refine ⟨⟨X.K, F, H, fun a => ∃ (k i : Nat), as[k]? = some (.o i) ∧ S i a, fun a => H a ≠ none⟩, rfl, rfl, rfl, fun _ => Iff.rfl, ⟨E.le, by simp [ra.len], ⟨fun k a => ∃ (i : Nat), as[k]? = some (.o i) ∧ S i a, fun k s e => ?_, fun k k' a h1 h2 => ?_, fun k a h1 => ?_⟩, fun a o e _ => ⟨e, rfl⟩, Le.rfl', fun _ h => h⟩, fun F' H' v s lf E' => ?_⟩
  · rw [List.getElem?_map] at e
    cases ha : as[k]? with
    | none => rw [ha] at e; cases e
    | some a =>
      rw [ha] at e
      cases e
      cases a with
      | d x =>
        obtain ⟨u, hu, hv⟩ := ra.at ha
        exact ⟨⟨u, map_some_getD hu, hv⟩, fun a ⟨i, z, _⟩ => by rw [ha] at z; cases z⟩
      | o i =>
        obtain ⟨u, Φ, hΓ, hu, _, hk, q⟩ := exv ha
        have e1 : Ag.sl Γ (.o i) = .ex u Φ := by simp [Ag.sl, List.getD_eq_getElem?_getD, hΓ]
        rw [e1]
        have eS : (fun a => ∃ (j : Nat), as[k]? = some (.o j) ∧ S j a) = S i := by
          funext a
          apply propext
          constructor
          · rintro ⟨j, e, z⟩
            rw [ha] at e
            cases e
            exact z
          · intro z; exact ⟨i, ha, z⟩
        show SlOk _ F H _ (fun a => ∃ (j : Nat), as[k]? = some (.o j) ∧ S j a) _
        rw [eS]
        exact ⟨map_some_getD hu, hk, q⟩
  · obtain ⟨i, e1, s1⟩ := h1
    obtain ⟨j, e2, s2⟩ := h2
    have := hdj i j a s1 s2
    subst this
    exact ix_inj nd e1 e2
  · obtain ⟨i, e1, s1⟩ := h1
    exact ⟨(ho i a s1).1, (ho i a s1).2.1, .inr ⟨k, i, e1, s1⟩⟩
  · -- behind the call
    obtain ⟨S', hs', hdj', ho'⟩ := id E'.sl
    have hlen : (vs.map some).length = (as.map (Ag.sl Γ)).length := by simp [ra.len]
    have notP : ∀ j a, S j a → (∀ (k : Nat), as[k]? ≠ some (.o j)) → ¬ ∃ (k i : Nat), as[k]? = some (.o i) ∧ S i a := fun j a sj hn ⟨k, i, e, si⟩ => by
      have := hdj i j a si sj
      subst this
      exact hn k e
    have keepP : ∀ j a, S j a → (∀ (k : Nat), as[k]? ≠ some (.o j)) → H' a = H a ∧ F' a = F a := fun j a sj hn => by
      obtain ⟨_, h1, _⟩ := ho j a sj
      cases z : H a with
      | none => exact absurd z h1
      | some o => exact E'.fr a o z (notP j a sj hn)
    have disP : ∀ k j a, S' k a → S j a → (∀ (k : Nat), as[k]? ≠ some (.o j)) → False := fun k j a h1 sj hn => by
      rcases (ho' k a h1).2.2 with w | w
      · exact (ho j a sj).2.1 w
      · exact notP j a sj hn w
    have ownX : ∀ k a, S' k a → X.own a := fun k a h1 => by
      rcases (ho' k a h1).2.2 with w | ⟨k', i, _, w⟩
      · exact E.ownN w
      · exact (ho i a w).2.2
    have kl : ∀ {k i : Nat}, as[k]? = some (.o i) → k < as.length := fun h => (List.getElem?_eq_some_iff.mp h).1
    refine ⟨E'.le, by simp [E.len], ⟨fun j a => (j < Γ.length ∧ ((∃ (k : Nat), as[k]? = some (.o j) ∧ S' k a) ∨ ((∀ (k : Nat), as[k]? ≠ some (.o j)) ∧ S j a))) ∨ (j = Γ.length ∧ S' as.length a), fun j u e => ?_, fun j j' a h1 h2 => ?_, fun j a h1 => ?_⟩, fun a o e n => ?_, E.f0.tr lf, fun a n => E'.nn a (E.nn a n)⟩
    · have hj : j < (Γ ++ [s]).length := (List.getElem?_eq_some_iff.mp e).1
      simp only [List.length_append, List.length_cons, List.length_nil] at hj
      by_cases hlt : j < Γ.length
      · rw [List.getElem?_append_left hlt] at e
        rw [getD_app (by rw [E.len]; exact hlt)]
        by_cases hp : ∃ (k : Nat), as[k]? = some (.o j)
        · obtain ⟨k, hk⟩ := hp
          obtain ⟨u0, Φ, hΓ, hu, e0, hkk, _⟩ := exv hk
          rw [hΓ] at e
          cases e
          have eS : (fun a => (j < Γ.length ∧ ((∃ (k : Nat), as[k]? = some (.o j) ∧ S' k a) ∨ ((∀ (k : Nat), as[k]? ≠ some (.o j)) ∧ S j a))) ∨ (j = Γ.length ∧ S' as.length a)) = S' k := by
            funext a
            apply propext
            constructor
            · rintro (⟨_, ⟨k', e', z⟩ | ⟨z, _⟩⟩ | ⟨z, _⟩)
              · rw [ix_inj nd hk e']; exact z
              · exact absurd hk (z k)
              · omega
            · intro z; exact .inl ⟨hlt, .inl ⟨k, hk, z⟩⟩
          show SlOk X F' H' _ (fun a => (j < Γ.length ∧ ((∃ (k : Nat), as[k]? = some (.o j) ∧ S' k a) ∨ ((∀ (k : Nat), as[k]? ≠ some (.o j)) ∧ S j a))) ∨ (j = Γ.length ∧ S' as.length a)) _
          rw [eS]
          have hk' : k < as.length := kl hk
          have q1 := hs' k (.ex u0 Φ) (by
            rw [List.getElem?_append_left (by simpa using hk'), List.getElem?_map, hk]
            simp [Ag.sl, List.getD_eq_getElem?_getD, hΓ])
          exact ⟨e0, hkk, q1.2.2⟩
        · have hn : ∀ (k : Nat), as[k]? ≠ some (.o j) := fun k z => hp ⟨k, z⟩
          have eS : (fun a => (j < Γ.length ∧ ((∃ (k : Nat), as[k]? = some (.o j) ∧ S' k a) ∨ ((∀ (k : Nat), as[k]? ≠ some (.o j)) ∧ S j a))) ∨ (j = Γ.length ∧ S' as.length a)) = S j := by
            funext a
            apply propext
            constructor
            · rintro (⟨_, ⟨k', e', z⟩ | ⟨_, z⟩⟩ | ⟨z, _⟩)
              · exact absurd e' (hn k')
              · exact z
              · omega
            · intro z; exact .inl ⟨hlt, .inr ⟨hn, z⟩⟩
          show SlOk X F' H' _ (fun a => (j < Γ.length ∧ ((∃ (k : Nat), as[k]? = some (.o j) ∧ S' k a) ∨ ((∀ (k : Nat), as[k]? ≠ some (.o j)) ∧ S j a))) ∨ (j = Γ.length ∧ S' as.length a)) _
          rw [eS]
          exact (hs j u e).mono lf fun a sa => (keepP j a sa hn).1
      · have hje : j = Γ.length := by omega
        subst hje
        simp at e
        subst e
        have eS : (fun a => (Γ.length < Γ.length ∧ ((∃ (k : Nat), as[k]? = some (.o Γ.length) ∧ S' k a) ∨ ((∀ (k : Nat), as[k]? ≠ some (.o Γ.length)) ∧ S Γ.length a))) ∨ (Γ.length = Γ.length ∧ S' as.length a)) = S' as.length := by
          funext a
          apply propext
          constructor
          · rintro (⟨z, _⟩ | ⟨_, z⟩)
            · omega
            · exact z
          · intro z; exact .inr ⟨rfl, z⟩
        show SlOk X F' H' _ (fun a => (Γ.length < Γ.length ∧ ((∃ (k : Nat), as[k]? = some (.o Γ.length) ∧ S' k a) ∨ ((∀ (k : Nat), as[k]? ≠ some (.o Γ.length)) ∧ S Γ.length a))) ∨ (Γ.length = Γ.length ∧ S' as.length a)) _
        rw [eS, ← E.len, getD_last]
        have q1 := hs' as.length s (by
          have : as.length = (as.map (Ag.sl Γ)).length := by simp
          rw [this]
          simp)
        have e4 : (vs.map some ++ [some v]).getD as.length none = some v := by
          have : as.length = (vs.map some).length := by simp [ra.len]
          rw [this, getD_last]
        rw [e4] at q1
        refine SlOk.to ?_ ?_ q1
        · rfl
        · exact fun a n => E.nn a n
    · rcases h1 with ⟨a1, ⟨k1, e1, z1⟩ | ⟨n1, z1⟩⟩ | ⟨a1, z1⟩ <;> rcases h2 with ⟨a2, ⟨k2, e2, z2⟩ | ⟨n2, z2⟩⟩ | ⟨a2, z2⟩
      · have := hdj' k1 k2 a z1 z2
        subst this
        rw [e1] at e2
        cases e2
        rfl
      · exact (disP k1 j' a z1 z2 n2).elim
      · have := hdj' k1 as.length a z1 z2
        have := kl e1
        omega
      · exact (disP k2 j a z2 z1 n1).elim
      · exact hdj j j' a z1 z2
      · exact (disP _ j a z2 z1 n1).elim
      · have := hdj' k2 as.length a z2 z1
        have := kl e2
        omega
      · exact (disP _ j' a z1 z2 n2).elim
      · omega
    · rcases h1 with ⟨a1, ⟨k1, e1, z1⟩ | ⟨n1, z1⟩⟩ | ⟨a1, z1⟩
      · exact ⟨(ho' k1 a z1).1, (ho' k1 a z1).2.1, ownX k1 a z1⟩
      · obtain ⟨q1, q2⟩ := keepP j a z1 n1
        exact ⟨q2.trans (ho j a z1).1, by rw [q1]; exact (ho j a z1).2.1, (ho j a z1).2.2⟩
      · exact ⟨(ho' _ a z1).1, (ho' _ a z1).2.1, ownX _ a z1⟩
    · obtain ⟨q1, q2⟩ := E.fr a o e n
      have nS : ¬ ∃ (k i : Nat), as[k]? = some (.o i) ∧ S i a := fun ⟨k, i, _, si⟩ => by
        rcases (ho i a si).2.2 with w | w
        · rw [w] at e; cases e
        · exact n w
      obtain ⟨r1, r2⟩ := E'.fr a o q1 nS
      exact ⟨r1, r2.trans q2⟩
theorem call_g {K : Kw} {Γ : List Sl} {T : List Sl → (Sl → Prop) → Prop} {X : Bs} (hK : X.K = K) {F H : Hp} {σ : L2.St} (E : En X F H σ Γ) {vs : List V} {as : List Ag} (ra : AgsOk X false F σ vs as) (hg : AgsGood Γ as) {Qr : Sl → Prop} (hT : T (as.map (Ag.sl Γ)) Qr) {C : VK} {EE : XK}
    (k : ∀ v F' H' s, Le F F' → En X F' H' (σ ++ [some v]) (Γ ++ [s]) → Qr s → C v H') : spG K T vs H C EE := by
  obtain ⟨X1, a, b, c, d, e, f⟩ := call_sp hK E ra hg
  exact ⟨X1, F, _, Qr, a, b, c, d, e, hT, fun F' H' v s lf E' q => k v F' H' s lf (f F' H' v s lf E') q⟩
section
variable {K : Kw} {Γ : List Sl} {T : List Sl → (Sl → Prop) → Prop} {EE : XK} {tr : TA}
theorem wx_call {QX : Sl → Prop} (h : WA K false Γ tr fun as => AgsGood Γ as ∧ T (as.map (Ag.sl Γ)) QX) : WX K Γ (tCall (spG K T) [] EE tr) QX := fun X hK F H σ E C k =>
  h X hK F H σ E _ fun vs F1 H1 as l1 E1 r1 ⟨hg, hT⟩ => by
    rw [List.append_nil]
    exact call_g hK E1 r1 hg hT fun v F' H' s lf E' q => k v F' H' s (l1.tr lf) E' q
theorem wd_call {m : Bool} {Q : PyData → Prop} (h : WA K false Γ tr fun as => AgsGood Γ as ∧ T (as.map (Ag.sl Γ)) fun s => ∃ d, s.toD m = some d ∧ Q d) : WD K m Γ (tCall (spG K T) [] EE tr) Q := .ofX (wx_call h)
/-- arguments that are data alone -/
theorem agsGood_d {as : List Ag} {ds : List PyData} (h : allD as = some ds) : AgsGood Γ as := by
  have e : as.filterMap Ag.ix = [] := by
    induction as generalizing ds with
    | nil => rfl
    | cons a as ih =>
      cases a with
      | o i => cases h
      | d x =>
        cases q : allD as with
        | none => rw [allD, q] at h; cases h
        | some es => simpa [Ag.ix] using ih q
  exact ⟨by rw [e]; exact List.nodup_nil, fun i hi => by rw [e] at hi; cases hi⟩
theorem agsGood_1 {i : Nat} {v : V} {Φ : Own} {as : List Ag} {ds : List PyData} (hi : Γ[i]? = some (.ex v Φ)) (h : allD as = some ds) : AgsGood Γ (.o i :: as) := by
  have e : as.filterMap Ag.ix = [] := by
    induction as generalizing ds with
    | nil => rfl
    | cons a as ih =>
      cases a with
      | o i => cases h
      | d x =>
        cases q : allD as with
        | none => rw [allD, q] at h; cases h
        | some es => simpa [Ag.ix] using ih q
  have e' : (Ag.o i :: as).filterMap Ag.ix = [i] := by simp [Ag.ix, e]
  refine ⟨by rw [e']; simp, fun j hj => ?_⟩
  rw [e'] at hj
  simp at hj
  subst hj
  exact ⟨v, Φ, hi⟩
end

/-- the fields of an exception; where they stand -/
abbrev Fs := List (Str × V)
def FsAt (F : Hp) : Option Fs → Option Addr → Prop
  | none, d => d = none
  | some fs, d => ∃ a, d = some a ∧ F a = some (.xd fs)
structure Po where
  nx : List Sl → Prop
  rt : Sl → List Sl → Prop
  bk : List Sl → Prop := fun _ => False
  ct : List Sl → Prop := fun _ => False
  /-- what an exception is let out to, and what is told of it -/
  W : Value → Option Addr → L2.St → Hp → Prop := fun _ _ _ _ => False
  ex : Value → Option Fs → List Sl → Prop := fun _ _ _ => False
structure Meets (X : Bs) (P : Po) (D : Ends) : Prop where
  nx : ∀ F H σ Γ, En X F H σ Γ → P.nx Γ → D.nx σ H
  rt : ∀ F H σ Γ v s, En X F H (σ ++ [some v]) (Γ ++ [s]) → P.rt s Γ → D.rt v H
  bk : ∀ F H σ Γ, En X F H σ Γ → P.bk Γ → D.bk σ H
  ct : ∀ F H σ Γ, En X F H σ Γ → P.ct Γ → D.ct σ H
  xc : ∀ F H σ Γ cls o d, En X F H σ Γ → FsAt F o d → P.ex cls o Γ → P.W cls d σ H
def SJ (K : Kw) (Γ : List Sl) (ts : TS) (P : Po) : Prop := ∀ X : Bs, X.K = K → ∀ F H σ, En X F H σ Γ → ∀ D : Ends, Meets X P D → ts D σ H

/-- the def's own base, not a loop's -/
def Bs.Top (X : Bs) : Prop := (∀ a, X.N a ↔ X.H0 a ≠ none) ∧ Le X.F0 X.H0
/-- .. at the def's own level -/
def SJt (K : Kw) (Γ : List Sl) (ts : TS) (P : Po) : Prop := ∀ X : Bs, X.K = K → X.Top → ∀ F H σ, En X F H σ Γ → ∀ D : Ends, Meets X P D → ts D σ H
theorem SJ.t {K : Kw} {Γ : List Sl} {ts : TS} {P : Po} (h : SJ K Γ ts P) : SJt K Γ ts P := fun X hK _ F H σ E D hD => h X hK F H σ E D hD
/-- what the def keeps of the arguments of others -/
def Keep (Γ Γ' : List Sl) : Prop := ∀ (i : Nat) (v : V) (Φ : Own), Γ[i]? = some (.ex v Φ) → Γ'[i]? = some (.ex v Φ)
theorem keep_nil {Γ' : List Sl} : Keep [] Γ' := fun i v Φ h => by simp at h
theorem keep_ex {v : V} {Φ : Own} {Γ Γ' : List Sl} (h : Keep Γ Γ') : Keep (.ex v Φ :: Γ) (.ex v Φ :: Γ') := fun i u Ψ e => by
  cases i with
  | zero => simpa using e
  | succ i => simp at e ⊢; exact h i u Ψ e
theorem keep_dat {m : Bool} {d : PyData} {s : Sl} {Γ Γ' : List Sl} (h : Keep Γ Γ') : Keep (.dat m d :: Γ) (s :: Γ') := fun i u Ψ e => by
  cases i with
  | zero => simp at e
  | succ i => simp at e ⊢; exact h i u Ψ e
/-- no lists of one's own among arguments -/
def NoMl (Γ : List Sl) : Prop := ∀ (i : Nat) (m : Bool) (l : Addr) (ds : List PyData), Γ[i]? ≠ some (.ml m l ds)
theorem noMl_nil : NoMl [] := fun i m l ds h => by simp at h
theorem noMl_dat {m : Bool} {d : PyData} {Γ : List Sl} (h : NoMl Γ) : NoMl (.dat m d :: Γ) := fun i m l ds e => by
  cases i with
  | zero => simp at e
  | succ i => simp at e; exact h i m l ds e
theorem noMl_ex {v : V} {Φ : Own} {Γ : List Sl} (h : NoMl Γ) : NoMl (.ex v Φ :: Γ) := fun i m l ds e => by
  cases i with
  | zero => simp at e
  | succ i => simp at e; exact h i m l ds e
theorem En.pad {X : Bs} {F H : Hp} {σ : L2.St} {Γ : List Sl} (E : En X F H σ Γ) (n : Nat) : En X F H (σ ++ List.replicate n none) (Γ ++ List.replicate n .no) := by
  induction n with
  | zero => simpa using E
  | succ n ih =>
    rw [List.replicate_succ', List.replicate_succ', ← List.append_assoc, ← List.append_assoc]
    exact ih.pushG (T := fun _ => False) Le.rfl' E.le (fun _ _ q => q) (fun _ _ _ => rfl) (fun _ z => z) (fun _ z => z.elim)
/-- the arguments as they stand at the end -/
theorem En.back {X : Bs} {F H F' H' : Hp} {σ' : L2.St} {Γ Γ' : List Sl} {vs : List V} {ov : Option V} {s : Sl} (E0 : En X F H (vs.map some) Γ) (hF : X.F0 = F) (nm : NoMl Γ) (kp : Keep Γ Γ') (E : En X F' H' (σ' ++ [ov]) (Γ' ++ [s])) : En X F' H' (vs.map some ++ [ov]) (Γ ++ [s]) := by
  have lf : Le F F' := by rw [← hF]; exact E.f0
  have hl : σ'.length = Γ'.length := by
    have := E.len
    simp at this
    exact this
  obtain ⟨S0, hs0, _, _⟩ := id E0.sl
  obtain ⟨S, hs, hdj, ho⟩ := id E.sl
  refine ⟨E.le, by simp [← E0.len], ⟨fun i a => (i < Γ.length ∧ (∃ v Φ, Γ[i]? = some (.ex v Φ)) ∧ S i a) ∨ (i = Γ.length ∧ S Γ'.length a), fun i u e => ?_, fun i j a h1 h2 => ?_, fun i a h1 => ?_⟩, E.fr, E.f0, E.nn⟩
  · have hi : i < (Γ ++ [s]).length := (List.getElem?_eq_some_iff.mp e).1
    simp only [List.length_append, List.length_cons, List.length_nil] at hi
    by_cases hlt : i < Γ.length
    · rw [List.getElem?_append_left hlt] at e
      rw [getD_app (by rw [E0.len]; exact hlt)]
      cases u with
      | no =>
        intro a z
        rcases z with ⟨_, ⟨v, Φ, z⟩, _⟩ | ⟨z, _⟩
        · rw [e] at z; cases z
        · omega
      | dat m d =>
        obtain ⟨⟨v, ev, r⟩, _⟩ := hs0 i _ e
        refine ⟨⟨v, ev, Bs.mo r lf⟩, fun a z => ?_⟩
        rcases z with ⟨_, ⟨v, Φ, z⟩, _⟩ | ⟨z, _⟩
        · rw [e] at z; cases z
        · omega
      | ml m l ds => exact absurd e (nm i m l ds)
      | ex v Φ =>
        have e' := kp i v Φ e
        have hi' : i < Γ'.length := (List.getElem?_eq_some_iff.mp e').1
        have q := hs i _ (by rw [List.getElem?_append_left hi']; exact e')
        obtain ⟨ev, hk, _⟩ := hs0 i _ e
        have eS : (fun a => (i < Γ.length ∧ (∃ v Φ, Γ[i]? = some (.ex v Φ)) ∧ S i a) ∨ (i = Γ.length ∧ S Γ'.length a)) = S i := by
          funext a
          apply propext
          constructor
          · rintro (⟨_, _, z⟩ | ⟨z, _⟩)
            · exact z
            · omega
          · intro z; exact .inl ⟨hlt, ⟨v, Φ, e⟩, z⟩
        show SlOk X F' H' _ (fun a => (i < Γ.length ∧ (∃ v Φ, Γ[i]? = some (.ex v Φ)) ∧ S i a) ∨ (i = Γ.length ∧ S Γ'.length a)) _
        rw [eS]
        exact ⟨ev, hk, q.2.2⟩
    · have hie : i = Γ.length := by omega
      subst hie
      simp at e
      subst e
      have eS : (fun a => (Γ.length < Γ.length ∧ (∃ v Φ, Γ[Γ.length]? = some (.ex v Φ)) ∧ S Γ.length a) ∨ (Γ.length = Γ.length ∧ S Γ'.length a)) = S Γ'.length := by
        funext a
        apply propext
        constructor
        · rintro (⟨z, _⟩ | ⟨_, z⟩)
          · omega
          · exact z
        · intro z; exact .inr ⟨rfl, z⟩
      show SlOk X F' H' _ (fun a => (Γ.length < Γ.length ∧ (∃ v Φ, Γ[Γ.length]? = some (.ex v Φ)) ∧ S Γ.length a) ∨ (Γ.length = Γ.length ∧ S Γ'.length a)) _
      rw [eS, ← E0.len, getD_last]
      have q := hs Γ'.length s (by simp)
      rw [← hl, getD_last, hl] at q
      exact q
  · have le : ∀ {i : Nat}, (∃ v Φ, Γ[i]? = some (Sl.ex v Φ)) → i < Γ'.length := fun {i} ⟨v, Φ, z⟩ => (List.getElem?_eq_some_iff.mp (kp i v Φ z)).1
    rcases h1 with ⟨a1, b1, c1⟩ | ⟨a1, c1⟩ <;> rcases h2 with ⟨a2, b2, c2⟩ | ⟨a2, c2⟩
    · exact hdj i j a c1 c2
    · have := hdj _ _ a c1 c2
      have := le b1
      omega
    · have := hdj _ _ a c1 c2
      have := le b2
      omega
    · omega
  · rcases h1 with ⟨a1, b1, c1⟩ | ⟨a1, c1⟩
    · exact ho i a c1
    · exact ho _ a c1
/-- what is wanted of a def's body -/
def retP (Γ : List Sl) (Qr : Sl → Prop) : Po := { nx := fun Γ' => Keep Γ Γ' ∧ Qr (.dat true .none), rt := fun s Γ' => Keep Γ Γ' ∧ Qr s }
section
variable {P : Program} {K : Kw} {mg : Str → Option Value} {base : Heap}
/-- a body keeps its promise -/
theorem body_g {N : List Str} {T : List Sl → (Sl → Prop) → Prop} {vs : List V} {H : Hp} {Q : VK} {E : XK} {t : TS} (h : spG K T vs H Q E) (hn : ∀ Γ Qr, T Γ Qr → NoMl Γ) (hj : ∀ Γ Qr, T Γ Qr → SJt K (Γ ++ List.replicate (N.length - Γ.length) .no) t (retP Γ Qr)) : t { nx := fun _ H' => Q .non H', rt := Q } (L2.start N vs) H := by
  obtain ⟨X, F, Γ, Qr, hK, hF, hH, hNN, E0, hT, k⟩ := h
  have hl : vs.length = Γ.length := by simpa using E0.len
  have Ep := E0.pad (N.length - Γ.length)
  have es : L2.start N vs = vs.map some ++ List.replicate (N.length - Γ.length) none := by rw [L2.start, hl]
  rw [es]
  refine hj Γ Qr hT X hK ⟨fun a => by rw [hH]; exact hNN a, by rw [hF, hH]; exact E0.le⟩ F H _ Ep _ ⟨fun F' H' σ' Γ' E' ⟨kp, q⟩ => ?_, fun F' H' σ' Γ' v s E' ⟨kp, q⟩ => ?_, fun _ _ _ _ _ z => z, fun _ _ _ _ _ z => z, fun _ _ _ _ _ _ _ _ _ z => z⟩
  · exact k F' H' .non (.dat true .none) (by rw [← hF]; exact E'.f0) (E0.back hF (hn Γ Qr hT) kp (E'.pushD .non)) q
  · exact k F' H' v s (by rw [← hF]; exact E'.drop.f0) (E0.back hF (hn Γ Qr hT) kp E') q
theorem len_g {T : List Sl → (Sl → Prop) → Prop} {n : Nat} (hl : ∀ Γ Qr, T Γ Qr → Γ.length = n) : ∀ vs H Q E, spG K T vs H Q E → vs.length = n := fun vs H Q E h => by
  obtain ⟨X, F, Γ, Qr, hK, hF, hH, hNN, E0, hT, k⟩ := h
  have := E0.len
  rw [List.length_map] at this
  rw [this]
  exact hl Γ Qr hT
/-- a def that calls what it calls, as others call it -/
structure Cal (P : Program) (w : World) (K : PySem.W.Frag) (mg : Str → Option Value) (base : Heap) (CX : CXT) (k : Nat) (x : Str) (ps : List Str) (sp : Sp) : Prop where
  ex : ∃ f fd, mg x = some (.ref f) ∧ PySem.W.keepIn K (.ref f) = true ∧ Binds K fd ps [] ∧ FnOk P w K mg base CX k f fd ps sp
/-- where a def stands, and how it is called -/
structure Def (K : PySem.W.Frag) (mg : Str → Option Value) (x : Str) (st : Stmt) (ps : List Str) : Prop where
  ex : ∃ f fd, mg x = some (.ref f) ∧ Fun K x x st f fd ∧ Binds K fd ps []
theorem Cal.mono {CX : CXT} {j k : Nat} {x : Str} {ps : List Str} {sp : Sp} (c : Cal P K.w K mg base CX j x ps sp) (h : j ≤ k) : Cal P K.w K mg base CX k x ps sp :=
  let ⟨f, fd, a, b, d, e⟩ := c.ex
  ⟨f, fd, a, b, d, e.mono h⟩
theorem Cal.imp {CX : CXT} {k : Nat} {x : Str} {ps : List Str} {sp sp' : Sp} (c : Cal P K.w K mg base CX k x ps sp) (h : ∀ vs H Q E, sp' vs H Q E → sp vs H Q E) : Cal P K.w K mg base CX k x ps sp' :=
  let ⟨f, fd, a, b, d, e⟩ := c.ex
  ⟨f, fd, a, b, d, e.imp h⟩
/-- THE RULE for a def over data that raises nothing -/
theorem cal_g {x : Str} {st : Stmt} {N ps : List Str} {k : Nat} {T : List Sl → (Sl → Prop) → Prop} (D : Def K mg x st ps) (S : FnScope N ps (defScope st)) (hT : ∀ Γ Qr, T Γ Qr → Γ.length = ps.length ∧ NoMl Γ)
    (hb : ∀ (f : Addr) (cdv : Value) (A : Around) (outer : List Env) (s : Shared) (H : Hp) (E : XK), Room k (A.deeper (envOfC x (defScope st) s.heap.objs.size f cdv)) →
      ∃ t, PSs (cxOf CX0 P K.w K mg base N x (defScope st) f cdv A outer s H E).nox (defBody st) t ∧ ∀ Γ Qr, T Γ Qr → SJ K (Γ ++ List.replicate (N.length - Γ.length) .no) t (retP Γ Qr)) : Cal P K.w K mg base CX0 (k + 1) x ps (spG K T) := by
  obtain ⟨f, fd, a, F, b⟩ := D.ex
  refine ⟨f, fd, a, F.kp, b, F.ok S (len_g fun Γ Qr h => (hT Γ Qr h).1) fun cdv A outer s H vs Q E hr h => ?_⟩
  obtain ⟨t, ht, hj⟩ := hb f cdv A outer s H E hr
  exact ⟨t, ht, body_g h (fun Γ Qr z => (hT Γ Qr z).2) fun Γ Qr z => (hj Γ Qr z).t⟩
/-- a def of which nothing is asked -/
theorem cal_no {x : Str} {st : Stmt} {ps : List Str} {k : Nat} (D : Def K mg x st ps) : Cal P K.w K mg base CX0 k x ps (fun _ _ _ _ => False) := by
  obtain ⟨f, fd, a, F, b⟩ := D.ex
  exact ⟨f, fd, a, F.kp, b, ⟨fun _ _ _ _ h => h.elim, fun _ _ _ _ _ _ _ _ _ _ _ _ _ h => h.elim⟩⟩
end
section
variable {X : Cx} {k : Nat} {x : Str} {ps : List Str} {sp : Sp} {p pos : Pos} {e : Expr} {es : List Expr} {t : TA}
/-- f(e, ..) -/
theorem pe_c (c : Cal X.prog X.w X.K X.mg X.base CX0 k x ps sp) (hr : Room k X.A) (hg : Gl X x) (ha : PA X (e :: es) t) (hdb : (x == ("__debug__" : Str)) = false := by decide) (he : starEach (e :: es) X.env = (false, eval e X.env) :: starEach es X.env := by rfl) (hpl : ((backTo pos (starEach es X.env)).any fun x => x.fst) = false := by rfl) : PE X (.Call (.Name x p) (e :: es) [] pos) (tCall sp [] E0 t) := by
  obtain ⟨f, fd, a, b, d, F⟩ := c.ex
  exact pe_call F hr hg a b d .nil pass0 ha hdb he hpl
end
end Pk
end
section
set_option Elab.async false
set_option linter.all false
set_option maxRecDepth 100000
namespace Pk
open PySem PySem.Spec PyProof.Rows L2

section
variable {X : Bs} {F H : Hp} {σ : L2.St} {Γ : List Sl}
/-- a list of one's own changes -/
theorem En.mut (E : En X F H σ Γ) {i : Nat} {m : Bool} {l : Addr} {ds es : List PyData} {ys : List V} (hi : Γ[i]? = some (.ml m l ds)) (r : RpA X.K (X.ff F m) ys es) : En X F (upd H l (.lst ys)) σ (Γ.set i (.ml m l es)) := by
  obtain ⟨S, hs, hdj, ho⟩ := id E.sl
  have hil : i < Γ.length := (List.getElem?_eq_some_iff.mp hi).1
  obtain ⟨xs, e, hS, hl, _, nl⟩ := hs i _ hi
  have sl : S i l := (hS l).mpr rfl
  refine ⟨E.le.new (ho i l sl).1, by simp [E.len], ⟨S, fun j u q => ?_, hdj, fun j a sa => ⟨(ho j a sa).1, ?_, (ho j a sa).2.2⟩⟩, fun a o q n => ?_, E.f0, fun a n => ?_⟩
  · by_cases hj : j = i
    · subst hj
      rw [List.getElem?_set_self hil] at q
      cases q
      exact ⟨ys, e, hS, upd_same, r, nl⟩
    · rw [List.getElem?_set_ne (Ne.symm hj)] at q
      exact (hs j u q).mono Le.rfl' fun a sa => upd_ne fun z => hj (by subst z; exact hdj j i a sa sl)
  · by_cases z : a = l
    · subst z; rw [upd_same]; simp
    · rw [upd_ne z]; exact (ho j a sa).2.1
  · obtain ⟨q1, q2⟩ := E.fr a o q n
    refine ⟨?_, q2⟩
    rw [upd_ne]
    · exact q1
    · intro z
      subst z
      rcases (ho i a sl).2.2 with w | w
      · rw [w] at q; cases q
      · exact n w
  · by_cases z : a = l
    · subst z; rw [upd_same]; simp
    · rw [upd_ne z]; exact E.nn a n
def wipeG (Γ : List Sl) : List Nat → List Sl
  | [] => Γ
  | v :: vs => (wipeG Γ vs).set v .no
theorem wipeG_length (Γ : List Sl) : ∀ vs : List Nat, (wipeG Γ vs).length = Γ.length
  | [] => rfl
  | v :: vs => by simp [wipeG, wipeG_length Γ vs]
theorem wipeG_out {i : Nat} : ∀ {vs : List Nat}, i ∉ vs → (wipeG Γ vs)[i]? = Γ[i]?
  | [], _ => rfl
  | v :: vs, h => by
    rw [wipeG, List.getElem?_set_ne (by intro z; subst z; exact h List.mem_cons_self)]
    exact wipeG_out fun z => h (List.mem_cons_of_mem _ z)
theorem wipeG_in {i : Nat} (hl : i < Γ.length) : ∀ {vs : List Nat}, i ∈ vs → (wipeG Γ vs)[i]? = some .no
  | [], h => by cases h
  | v :: vs, h => by
    rw [wipeG]
    by_cases z : v = i
    · subst z
      rw [List.getElem?_set_self (by rw [wipeG_length]; exact hl)]
    · rw [List.getElem?_set_ne z]
      rcases List.mem_cons.mp h with w | w
      · exact absurd w.symm z
      · exact wipeG_in hl w
theorem En.set_no (E : En X F H σ Γ) (i : Nat) (ov : Option V) : En X F H (σ.set i ov) (Γ.set i .no) := by
  have h := E.pushG (ov := ov) (s := .no) (T := fun _ => False) Le.rfl' E.le (fun _ _ q => q) (fun _ _ _ => rfl) (fun _ z => z) (fun _ z => z.elim)
  exact h.put i
theorem En.wipe (E : En X F H σ Γ) : ∀ vs : List Nat, En X F H (L2.wipe σ vs) (wipeG Γ vs)
  | [] => E
  | v :: vs => (En.wipe E vs).set_no v none
/-- slots that a comprehension may use as its own -/
def wipeOk (Γ : List Sl) (vs : List Nat) : Prop := ∀ i ∈ vs, ∀ s, Γ[i]? = some s → s = .no ∨ ∃ m d, s = .dat m d
theorem wipeOk_nil : wipeOk Γ [] := fun _ h => by cases h
theorem wipeOk_no {i : Nat} {vs : List Nat} (h : Γ[i]? = some .no) (r : wipeOk Γ vs) : wipeOk Γ (i :: vs) := fun j hj s e => by
  rcases List.mem_cons.mp hj with z | z
  · subst z; rw [h] at e; cases e; exact .inl rfl
  · exact r j z s e
theorem wipeOk_dat {i : Nat} {vs : List Nat} {m : Bool} {d : PyData} (h : Γ[i]? = some (.dat m d)) (r : wipeOk Γ vs) : wipeOk Γ (i :: vs) := fun j hj s e => by
  rcases List.mem_cons.mp hj with z | z
  · subst z; rw [h] at e; cases e; exact .inr ⟨m, d, rfl⟩
  · exact r j z s e
theorem En.unwipe {X0 : Bs} {F0 H0 : Hp} {ov : Option V} {s : Sl} {vs : List Nat} (E0 : En X0 F0 H0 σ Γ) (hK : X0.K = X.K) (hN : X0.N = X.N) (lf : Le F0 F) (hv : wipeOk Γ vs) (E : En X F H (L2.wipe σ vs ++ [ov]) (wipeG Γ vs ++ [s])) : En X F H (σ ++ [ov]) (Γ ++ [s]) := by
  obtain ⟨S0, hs0, _, _⟩ := id E0.sl
  obtain ⟨S, hs, hdj, ho⟩ := id E.sl
  have hl : σ.length = Γ.length := E0.len
  refine ⟨E.le, by simp [hl], ⟨S, fun i u e => ?_, hdj, ho⟩, E.fr, E.f0, E.nn⟩
  have hi : i < (Γ ++ [s]).length := (List.getElem?_eq_some_iff.mp e).1
  simp only [List.length_append, List.length_cons, List.length_nil] at hi
  by_cases hlt : i < Γ.length
  · rw [List.getElem?_append_left hlt] at e
    rw [getD_app (by rw [hl]; exact hlt)]
    by_cases hin : i ∈ vs
    · have q := hs i .no (by rw [List.getElem?_append_left (by rw [wipeG_length]; exact hlt)]; exact wipeG_in hlt hin)
      rcases hv i hin u e with z | ⟨m, d, z⟩
      · subst z; exact q
      · subst z
        obtain ⟨⟨v, ev, r⟩, _⟩ := hs0 i _ e
        refine ⟨⟨v, ev, ?_⟩, q⟩
        rw [← hK]
        exact (Bs.mo r lf).mono (Bs.ff_to (fun a h => by rw [hN]; exact h) m)
    · have q := hs i u (by rw [List.getElem?_append_left (by rw [wipeG_length]; exact hlt), wipeG_out hin]; exact e)
      rw [getD_app (by rw [wipe_length, hl]; exact hlt)] at q
      have : (L2.wipe σ vs).getD i none = σ.getD i none := by simp [List.getD_eq_getElem?_getD, wipe_out hin]
      rw [this] at q
      exact q
  · have hie : i = Γ.length := by omega
    subst hie
    simp at e
    subst e
    rw [← hl, getD_last, hl]
    have q := hs Γ.length s (by rw [← wipeG_length Γ vs]; simp)
    have : (L2.wipe σ vs ++ [ov]).getD Γ.length none = ov := by
      rw [← hl, ← wipe_length σ vs, getD_last]
    rw [this] at q
    exact q
end

def GJ (K : Kw) (m : Bool) (Γ : List Sl) (g : TG) (d : PyData) (N : List Sl → Prop) : Prop := ∀ X : Bs, X.K = K → ∀ F H σ, En X F H σ Γ → ∀ v, Rp K (X.ff F m) v d → ∀ C : L2.St → Hp → Prop,
  (∀ F' H' σ' Γ', Le F F' → En X F' H' σ' Γ' → N Γ' → C σ' H') → g v σ H C
def GJs (K : Kw) (m : Bool) (Γ : List Sl) (g : TGs) (ds : List PyData) (N : List Sl → Prop) : Prop := ∀ X : Bs, X.K = K → ∀ F H σ, En X F H σ Γ → ∀ vs, RpA K (X.ff F m) vs ds → ∀ C : L2.St → Hp → Prop,
  (∀ F' H' σ' Γ', Le F F' → En X F' H' σ' Γ' → N Γ' → C σ' H') → g vs σ H C
section
variable {K : Kw} {m : Bool} {Γ : List Sl} {N : List Sl → Prop}
theorem gj_name {i : Nat} {d : PyData} (q : N (Γ.set i (.dat m d))) : GJ K m Γ (gName i) d N := fun X hK F H σ E v r C k => by
  subst hK
  exact k F H _ _ Le.rfl' ((E.pushD r).put i) q
theorem gj_tup {n : Nat} {gs : TGs} {ds : List PyData} (hn : ds.length = n) (h : GJs K m Γ gs ds N) : GJ K m Γ (gTup K n gs) (.tuple ds) N := fun X hK F H σ E v r C k => by
  cases r with
  | tup a b => exact ⟨_, _, rfl, sqT_le (E.lef m) a, by rw [b.length]; exact hn, h X hK F H σ E _ b C k⟩
theorem gjs_nil (q : N Γ) : GJs K m Γ gNil [] N := fun X hK F H σ E vs r C k => by
  cases r
  exact ⟨rfl, k F H σ Γ Le.rfl' E q⟩
theorem gjs_cons {g : TG} {gs : TGs} {d : PyData} {ds : List PyData} (h : GJ K m Γ g d fun Γ' => GJs K m Γ' gs ds N) : GJs K m Γ (gCons g gs) (d :: ds) N := fun X hK F H σ E vs r C k => by
  cases r with
  | cons a b => exact ⟨_, _, rfl, h X hK F H σ E _ a _ fun F' H' σ' Γ' lf E' h' => h' X hK F' H' σ' E' _ (Bs.moA b lf) C fun F2 H2 σ2 Γ2 l2 E2 q => k F2 H2 σ2 Γ2 (lf.tr l2) E2 q⟩
end
/-- a target that stores into the comprehension's own slots alone -/
def Gw (g : TG) (vs : List Nat) : Prop := ∀ v σ H (C C' : L2.St → Hp → Prop) σ0, L2.wipe σ vs = L2.wipe σ0 vs → (∀ σ2 H2, L2.wipe σ2 vs = L2.wipe σ0 vs → C σ2 H2 → C' σ2 H2) → g v σ H C → g v σ H C'
theorem wipe_in {σ : L2.St} {i : Nat} (hl : i < σ.length) : ∀ {vs : List Nat}, i ∈ vs → (L2.wipe σ vs)[i]? = some none
  | [], h => by cases h
  | v :: vs, h => by
    rw [L2.wipe]
    by_cases z : v = i
    · subst z
      rw [List.getElem?_set_self (by rw [wipe_length]; exact hl)]
    · rw [List.getElem?_set_ne z]
      rcases List.mem_cons.mp h with w | w
      · exact absurd w.symm z
      · exact wipe_in hl w
theorem wipe_eq {σ σ' : L2.St} {vs : List Nat} (hl : σ.length = σ'.length) (h : ∀ i, i ∉ vs → σ[i]? = σ'[i]?) : L2.wipe σ vs = L2.wipe σ' vs := by
  apply List.ext_getElem?
  intro i
  by_cases hin : i ∈ vs
  · by_cases hlt : i < σ.length
    · rw [wipe_in hlt hin, wipe_in (by rw [← hl]; exact hlt) hin]
    · rw [List.getElem?_eq_none (by rw [wipe_length]; omega), List.getElem?_eq_none (by rw [wipe_length]; omega)]
  · rw [wipe_out hin, wipe_out hin]
    exact h i hin
theorem wipe_set {σ : L2.St} {i : Nat} {ov : Option V} {vs : List Nat} (h : i ∈ vs) : L2.wipe (σ.set i ov) vs = L2.wipe σ vs := wipe_eq (by simp) fun j hj => by
  rw [List.getElem?_set_ne]
  intro z
  subst z
  exact hj h
theorem wipe_wipe {σ : L2.St} {vs : List Nat} : L2.wipe (L2.wipe σ vs) vs = L2.wipe σ vs := wipe_eq (wipe_length σ vs) fun j hj => wipe_out hj
theorem gw_name {i : Nat} {vs : List Nat} (h : i ∈ vs) : Gw (gName i) vs := fun v σ H C C' σ0 e k q => k _ _ ((wipe_set h).trans e) q
section
variable {K : Kw} {m : Bool} {Γ : List Sl} {P : Po} {t u ts : TS} {te ta tb : TE}
theorem Meets.imp {X : Bs} {P P' : Po} {D : Ends} (h : Meets X P D) (nx : ∀ Γ, P'.nx Γ → P.nx Γ) (rt : ∀ s Γ, P'.rt s Γ → P.rt s Γ) (bk : ∀ Γ, P'.bk Γ → P.bk Γ) (ct : ∀ Γ, P'.ct Γ → P.ct Γ) (hW : P'.W = P.W) (ex : ∀ c d Γ, P'.ex c d Γ → P.ex c d Γ) : Meets X P' D :=
  ⟨fun F H σ Γ E q => h.nx F H σ Γ E (nx Γ q), fun F H σ Γ v s E q => h.rt F H σ Γ v s E (rt s Γ q), fun F H σ Γ E q => h.bk F H σ Γ E (bk Γ q), fun F H σ Γ E q => h.ct F H σ Γ E (ct Γ q), fun F H σ Γ c o d E a q => by rw [hW]; exact h.xc F H σ Γ c o d E a (ex c o Γ q)⟩
theorem SJ.mono {P' : Po} (h : SJ K Γ ts P') (nx : ∀ Γ, P'.nx Γ → P.nx Γ) (rt : ∀ s Γ, P'.rt s Γ → P.rt s Γ) (bk : ∀ Γ, P'.bk Γ → P.bk Γ) (ct : ∀ Γ, P'.ct Γ → P.ct Γ) (hW : P'.W = P.W) (ex : ∀ c d Γ, P'.ex c d Γ → P.ex c d Γ) : SJ K Γ ts P := fun X hK F H σ E D hD => h X hK F H σ E D (hD.imp nx rt bk ct hW ex)
theorem sj_next (q : P.nx Γ) : SJ K Γ tNext P := fun X hK F H σ E D hD => hD.nx F H σ Γ E q
theorem sj_seq (h : SJ K Γ t { P with nx := fun Γ' => SJ K Γ' u P }) : SJ K Γ (tSeq t u) P := fun X hK F H σ E D hD =>
  h X hK F H σ E _ ⟨fun F' H' σ' Γ' E' q => q X hK F' H' σ' E' D hD, hD.rt, hD.bk, hD.ct, hD.xc⟩
/-- with a word between -/
theorem sj_cut (M : List Sl → Prop) (h : SJ K Γ t { P with nx := M }) (k : ∀ Γ', M Γ' → SJ K Γ' u P) : SJ K Γ (tSeq t u) P := fun X hK F H σ E D hD =>
  h X hK F H σ E _ ⟨fun F' H' σ' Γ' E' q => k Γ' q X hK F' H' σ' E' D hD, hD.rt, hD.bk, hD.ct, hD.xc⟩
theorem sj_asg {g : TG} (m : Bool) (h : WD K m Γ te fun d => GJ K m Γ g d P.nx) : SJ K Γ (tAsg te g) P := fun X hK F H σ E D hD =>
  h X hK F H σ E _ fun v F1 H1 d l1 E1 r q => q X hK F1 H1 σ E1 v r _ fun F2 H2 σ2 Γ2 l2 E2 q2 => hD.nx F2 H2 σ2 Γ2 E2 q2
theorem sj_set {i : Nat} (m : Bool) (h : WD K m Γ te fun d => P.nx (Γ.set i (.dat m d))) : SJ K Γ (tAsg te (gName i)) P := sj_asg m (h.mono fun d q => gj_name q)
theorem sj_setX {i : Nat} (h : WX K Γ te fun s => P.nx (Γ.set i s)) : SJ K Γ (tAsg te (gName i)) P := fun X hK F H σ E D hD =>
  h X hK F H σ E _ fun v F1 H1 s l1 E1 q => hD.nx F1 H1 _ _ (E1.put i) q
theorem sj_ret (h : WX K Γ te fun s => P.rt s Γ) : SJ K Γ (tRet te) P := fun X hK F H σ E D hD =>
  h X hK F H σ E _ fun v F1 H1 s l1 E1 q => hD.rt F1 H1 _ _ v s E1 q
theorem sj_retD (m : Bool) (h : WD K m Γ te fun d => P.rt (.dat m d) Γ) : SJ K Γ (tRet te) P := sj_ret (.ofD h)
/-- a list of one's own is frozen -/
theorem sj_frz (i : Nat) {l : Addr} {ds : List PyData} (hi : Γ[i]? = some (.ml m l ds)) (h : SJ K (Γ.set i (.dat m (.list ds))) ts P) : SJ K Γ ts P := fun X hK F H σ E D hD => by
  obtain ⟨F', lf, E'⟩ := E.freeze hi
  exact h X hK F' H σ E' D hD
theorem En.take {X : Bs} {F H : Hp} {σ : L2.St} (E : En X F H σ Γ) {i : Nat} {l : Addr} {ds : List PyData} (hi : Γ[i]? = some (.ml m l ds)) : En X F H (σ ++ [some (.ref l)]) (Γ.set i .no ++ [.ml m l ds]) := by
  obtain ⟨S, hs, hdj, ho⟩ := id E.sl
  have hil : i < Γ.length := (List.getElem?_eq_some_iff.mp hi).1
  refine ⟨E.le, by simp [E.len], ⟨fun j a => (j < Γ.length ∧ j ≠ i ∧ S j a) ∨ (j = Γ.length ∧ S i a), fun j u e => ?_, fun j k a h1 h2 => ?_, fun j a h1 => ?_⟩, E.fr, E.f0, E.nn⟩
  · have hj : j < (Γ.set i .no ++ [Sl.ml m l ds]).length := (List.getElem?_eq_some_iff.mp e).1
    simp only [List.length_append, List.length_cons, List.length_nil, List.length_set] at hj
    by_cases hlt : j < Γ.length
    · rw [List.getElem?_append_left (by simpa using hlt)] at e
      rw [getD_app (by rw [E.len]; exact hlt)]
      by_cases z : j = i
      · subst z
        rw [List.getElem?_set_self hil] at e
        cases e
        intro a q
        rcases q with ⟨_, q, _⟩ | ⟨q, _⟩
        · exact q rfl
        · omega
      · rw [List.getElem?_set_ne (Ne.symm z)] at e
        have eS : (fun a => (j < Γ.length ∧ j ≠ i ∧ S j a) ∨ (j = Γ.length ∧ S i a)) = S j := by
          funext a
          apply propext
          constructor
          · rintro (⟨_, _, q⟩ | ⟨q, _⟩)
            · exact q
            · omega
          · intro q; exact .inl ⟨hlt, z, q⟩
        show SlOk X F H _ (fun a => (j < Γ.length ∧ j ≠ i ∧ S j a) ∨ (j = Γ.length ∧ S i a)) _
        rw [eS]
        exact hs j u e
    · have hje : j = Γ.length := by omega
      subst hje
      have e' : (Γ.set i .no ++ [Sl.ml m l ds])[Γ.length]? = some (.ml m l ds) := by
        have : Γ.length = (Γ.set i Sl.no).length := by simp
        rw [this]; simp
      rw [e'] at e
      cases e
      have eS : (fun a => (Γ.length < Γ.length ∧ Γ.length ≠ i ∧ S Γ.length a) ∨ (Γ.length = Γ.length ∧ S i a)) = S i := by
        funext a
        apply propext
        constructor
        · rintro (⟨q, _⟩ | ⟨_, q⟩)
          · omega
          · exact q
        · intro q; exact .inr ⟨rfl, q⟩
      show SlOk X F H _ (fun a => (Γ.length < Γ.length ∧ Γ.length ≠ i ∧ S Γ.length a) ∨ (Γ.length = Γ.length ∧ S i a)) _
      rw [eS, ← E.len, getD_last]
      obtain ⟨xs, e0, r⟩ := hs i _ hi
      exact ⟨xs, rfl, r⟩
  · rcases h1 with ⟨a1, b1, c1⟩ | ⟨a1, c1⟩ <;> rcases h2 with ⟨a2, b2, c2⟩ | ⟨a2, c2⟩
    · exact hdj j k a c1 c2
    · exact absurd (hdj _ _ a c1 c2) b1
    · exact absurd (hdj _ _ a c2 c1) b2
    · omega
  · rcases h1 with ⟨_, _, c1⟩ | ⟨_, c1⟩
    · exact ho j a c1
    · exact ho i a c1
/-- return of a list of one's own -/
theorem sj_retM {i : Nat} {l : Addr} {ds : List PyData} (hi : Γ[i]? = some (.ml m l ds)) (h : P.rt (.ml m l ds) (Γ.set i .no)) : SJ K Γ (tRet (tVar i)) P := fun X hK F H σ E D hD => by
  obtain ⟨xs, e, _⟩ := E.ml hi
  exact ⟨_, e, hD.rt F H σ _ (.ref l) _ (E.take hi) h⟩
theorem sj_if {c : TT} (h : WT K Γ c fun b => if b = true then SJ K Γ t P else SJ K Γ u P) : SJ K Γ (tIfS c t u) P := fun X hK F H σ E D hD =>
  h X hK F H σ E _ fun b F1 H1 l1 E1 q => by
    cases b with
    | true => exact q X hK F1 H1 σ E1 D hD
    | false => exact q X hK F1 H1 σ E1 D hD
theorem sz_lt {n : Nat} (h : n < 100000) : n < sizeLine := Nat.lt_of_lt_of_le h (by decide)
theorem sz_le {n : Nat} (h : n ≤ 100000) : n ≤ sizeLine := Nat.le_trans h (by decide)
/-- xs.append(e), of one's own -/
theorem sj_app {i : Nat} {l : Addr} {ds : List PyData} (hi : Γ[i]? = some (.ml m l ds)) (hz : ds.length < 100000) (h : WD K m Γ te fun d => P.nx (Γ.set i (.ml m l (ds ++ [d])))) : SJ K Γ (tDrop (tBM K "list" rAppend (tVar i) (tCons te tNil))) P := fun X hK F H σ E D hD => by
  subst hK
  obtain ⟨xs, e, hl, fl, r⟩ := E.ml hi
  refine ⟨.ref l, e, .inl ⟨rfl, _, SqL.of hl⟩, h X rfl F H σ E _ fun v F1 H1 d l1 E1 rv q => ?_⟩
  obtain ⟨xs1, e1, hl1, fl1, r1⟩ := E1.ml hi
  refine ⟨l, xs1, v, rfl, rfl, hl1, sz_lt (by rw [r1.length]; exact hz), hD.nx F1 _ σ _ (E1.mut hi (r1.append (RpA.one rv))) q⟩
/-- xs.extend(e), of one's own -/
theorem sj_ext {i : Nat} {l : Addr} {ds : List PyData} (hi : Γ[i]? = some (.ml m l ds)) (h : WD K m Γ te fun d => ∃ es, d = .list es ∧ ds.length + es.length ≤ 100000 ∧ P.nx (Γ.set i (.ml m l (ds ++ es)))) : SJ K Γ (tDrop (tBM K "list" rExtend (tVar i) (tCons te tNil))) P := fun X hK F H σ E D hD => by
  subst hK
  obtain ⟨xs, e, hl, fl, r⟩ := E.ml hi
  refine ⟨.ref l, e, .inl ⟨rfl, _, SqL.of hl⟩, h X rfl F H σ E _ fun v F1 H1 d l1 E1 rv ⟨es, e2, hz, q⟩ => ?_⟩
  subst e2
  obtain ⟨xs1, e1, hl1, fl1, r1⟩ := E1.ml hi
  cases rv with
  | lst hb rb => exact ⟨l, _, xs1, _, rfl, rfl, hl1, E1.lef m _ _ hb, sz_le (by rw [r1.length, rb.length]; exact hz), hD.nx F1 _ σ _ (E1.mut hi (r1.append rb)) q⟩
end

/-- the heap has grown by a new thing, or is as it was -/
structure Gr (F H F' H' : Hp) : Prop where
  lf : Le F F'
  le : Le F' H'
  hh : ∀ a o, H a = some o → H' a = some o
  hn : ∀ a o, H a = some o → F' a = F a
theorem Gr.same {F H : Hp} (h : Le F H) : Gr F H F H := ⟨Le.rfl', h, fun _ _ q => q, fun _ _ _ => rfl⟩
theorem Gr.new {F H : Hp} (h : Le F H) {p : Addr} {o : HO} (hp : H p = none) : Gr F H (upd F p o) (upd H p o) :=
  ⟨Le.up (h.nn hp), h.both, fun a u q => by rw [upd_ne (ne_of_none q hp)]; exact q, fun a u q => by rw [upd_ne (ne_of_none q hp)]⟩
theorem En.gr {X : Bs} {F H F' H' : Hp} {σ : L2.St} {Γ : List Sl} (E : En X F H σ Γ) (g : Gr F H F' H') : En X F' H' σ Γ := E.grow g.lf g.le g.hh g.hn
def WI (K : Kw) (m : Bool) (Γ : List Sl) (wi : TI) (Q : List PyData → Prop) : Prop := ∀ X : Bs, X.K = K → ∀ F H σ, En X F H σ Γ → ∀ C : It → Hp → Prop,
  (∀ J F' H' G Y ds, Le F F' → En X F' H' σ Γ → Walk J ds.length G Y → (∀ H2, Le F' H2 → G H2) → (∀ i F2 H2 x H3, Le F' F2 → Le F2 H2 → i < ds.length → Y i H2 x H3 → ∃ d F3, ds[i]? = some d ∧ Gr F2 H2 F3 H3 ∧ Rp K (X.ff F3 m) x d) → Q ds → C J H') → wi σ H C
section
variable {K : Kw} {m : Bool} {Γ : List Sl} {P : Po} {g : TG} {tb : TS} {wi : TI} {tl : TE} {QI : List PyData → Prop} {ta : TA}
theorem sj_for (m : Bool) (h : WI K m Γ wi fun ds => ∃ I : Nat → List Sl → Prop, I 0 Γ ∧ (∀ i d Γ', ds[i]? = some d → I i Γ' → GJ K m Γ' g d fun Γ2 => SJ K Γ2 tb { P with nx := I (i + 1), ct := I (i + 1), bk := P.nx }) ∧ ∀ Γ', I ds.length Γ' → P.nx Γ') : SJ K Γ (tFor wi g tb) P := fun X hK F H σ E D hD => by
  refine h X hK F H σ E _ fun J F1 H1 G Y ds lf E1 wk hG hY ⟨I, h0, hs, he⟩ => ?_
  obtain ⟨X1, k1, n1, f1, _, Er, back⟩ := E1.rebase
  have ffe : ∀ F, X1.ff F m = X.ff F m := fun F => by cases m <;> simp [Bs.ff, n1]
  have hK1 : X1.K = K := k1.trans hK
  refine for_it wk (fun i σ' H' => ∃ F' Γ', En X1 F' H' σ' Γ' ∧ I i Γ') ⟨F1, Γ, Er, h0⟩ (fun i σ' H' _ ⟨F', Γ', E', _⟩ => hG H' ?_) (fun i x σ' H' H3 hi ⟨F', Γ', E', hI⟩ hy => ?_) (fun σ' H' ⟨F', Γ', E', hI⟩ => hD.nx F' H' σ' Γ' (back _ _ _ _ E') (he Γ' hI))
  · exact Le.tr (by rw [← f1]; exact E'.f0) E'.le
  · obtain ⟨d, F3, hd, gr, r⟩ := hY i F' H' x H3 (by rw [← f1]; exact E'.f0) E'.le hi hy
    refine hs i d Γ' hd hI X1 hK1 F3 H3 σ' (E'.gr gr) x (by rw [ffe]; exact r) _ fun F4 H4 σ4 Γ4 l4 E4 sj => ?_
    exact sj X1 hK1 F4 H4 σ4 E4 _ ⟨fun F5 H5 σ5 Γ5 E5 q => ⟨F5, Γ5, E5, q⟩, fun F5 H5 σ5 Γ5 v s E5 q => hD.rt F5 H5 σ5 Γ5 v s (back _ _ _ _ E5) q, fun F5 H5 σ5 Γ5 E5 q => hD.nx F5 H5 σ5 Γ5 (back _ _ _ _ E5) q, fun F5 H5 σ5 Γ5 E5 q => ⟨F5, Γ5, E5, q⟩, fun F5 H5 σ5 Γ5 c o d E5 a q => hD.xc F5 H5 σ5 Γ5 c o d (back _ _ _ _ E5) a q⟩
theorem wi_list (h : WD K m Γ tl fun d => ∃ ds, d = .list ds ∧ QI ds) : WI K m Γ (iList K tl) QI := fun X hK F H σ E C k =>
  h X hK F H σ E _ fun v F1 H1 d l1 E1 r ⟨ds, e, q⟩ => by
    subst e
    cases r with
    | lst ha rs =>
      rename_i a xs
      have hn : xs.length = ds.length := rs.length
      refine ⟨a, rfl, ⟨xs, SqL.of (E1.lef m _ _ ha)⟩, k (Itl K a) F1 H1 (fun H => SqL K H a xs) (YAt xs) ds l1 E1 (by rw [← hn]; exact walk_list) (fun H2 l2 => SqL.of (l2 _ _ (X.ff_le F1 m _ _ ha))) (fun i F2 H2 x H3 l2 le hi hy => ?_) q⟩
      obtain ⟨rfl, hx⟩ := hy
      obtain ⟨d, hd, rd⟩ := rs.getV hx
      exact ⟨d, F2, hd, Gr.same le, Bs.mo rd l2⟩
theorem wi_tup (h : WD K m Γ tl fun d => ∃ ds, d = .tuple ds ∧ QI ds) : WI K m Γ (iTup K tl) QI := fun X hK F H σ E C k =>
  h X hK F H σ E _ fun v F1 H1 d l1 E1 r ⟨ds, e, q⟩ => by
    subst e
    cases r with
    | tup ha rs =>
      rename_i a xs
      have hn : xs.length = ds.length := rs.length
      refine ⟨a, rfl, ⟨xs, sqT_le (E1.lef m) ha⟩, k (Itt K a) F1 H1 (fun H => SqT K H a xs) (YAt xs) ds l1 E1 (by rw [← hn]; exact walk_tup) (fun H2 l2 => sqT_le ((X.ff_le F1 m).tr l2) ha) (fun i F2 H2 x H3 l2 le hi hy => ?_) q⟩
      obtain ⟨rfl, hx⟩ := hy
      obtain ⟨d, hd, rd⟩ := rs.getV hx
      exact ⟨d, F2, hd, Gr.same le, Bs.mo rd l2⟩
/-- lo, lo + 1, .. -/
def rangeD (lo : Int) (n : Nat) : List PyData := (List.range n).map fun (i : Nat) => PyData.int (lo + i)
theorem rangeD_len {lo : Int} {n : Nat} : (rangeD lo n).length = n := by simp [rangeD]
theorem rangeD_get {lo : Int} {n i : Nat} (h : i < n) : (rangeD lo n)[i]? = some (.int (lo + i)) := by simp [rangeD, h]
theorem rangeD_of {lo : Int} {n i : Nat} {d : PyData} (h : (rangeD lo n)[i]? = some d) : i < n ∧ d = .int (lo + i) := by
  have hi : i < (rangeD lo n).length := (List.getElem?_eq_some_iff.mp h).1
  rw [rangeD_len] at hi
  rw [rangeD_get hi] at h
  exact ⟨hi, (Option.some.inj h).symm⟩
theorem walkR {X : Bs} {F' : Hp} {lo : Int} {n : Nat} : (∀ i F2 H2 x H3, Le F' F2 → Le F2 H2 → i < (rangeD lo n).length → YFn (fun i => V.int (lo + i)) i H2 x H3 → ∃ d F3, (rangeD lo n)[i]? = some d ∧ Gr F2 H2 F3 H3 ∧ Rp K (X.ff F3 m) x d) := fun i F2 H2 x H3 l2 le hi hy => by
  obtain ⟨rfl, rfl⟩ := hy
  rw [rangeD_len] at hi
  exact ⟨_, F2, rangeD_get hi, Gr.same le, .int _⟩
theorem wi_rng1 (h : WA K false Γ ta fun as => ∃ j : Int, as = [.d (.int j)] ∧ (-(2 ^ 62) ≤ j ∧ j < 2 ^ 62) ∧ QI (rangeD 0 j.toNat)) : WI K m Γ (iRng1 ta) QI := fun X hK F H σ E C k =>
  h X hK F H σ E _ fun vs F1 H1 as l1 E1 r ⟨j, e, hj, q⟩ => by
    subst e
    cases r with
    | cons a b =>
      cases b
      have a' : Rp X.K (X.ff F1 false) _ (.int j) := a
      cases a'
      exact ⟨j, rfl, hj.1, hj.2, k (Itr 0 j.toNat) F1 H1 (fun _ => True) _ (rangeD 0 j.toNat) l1 E1 (by rw [rangeD_len]; exact walk_range) (fun _ _ => trivial) walkR q⟩
/-- a list comprehension -/
theorem wx_lc {mi : Bool} (m : Bool) {tt : TT} {te : TE} {vs : List Nat} {QX : Sl → Prop} (hv : wipeOk Γ vs) (hgw : Gw g vs)
    (h : WI K mi Γ wi fun ds => ∃ I : Nat → List PyData → Prop, ds.length ≤ 100000 ∧ I 0 [] ∧ (∀ i d acc, ds[i]? = some d → acc.length ≤ i → I i acc → GJ K mi (wipeG Γ vs) g d fun Γ2 => wipeG Γ2 vs = wipeG Γ vs ∧ WT K Γ2 tt fun b => if b = true then WD K m Γ2 te fun y => I (i + 1) (acc ++ [y]) else I (i + 1) acc) ∧
      ∀ acc, acc.length ≤ ds.length → I ds.length acc → ∀ l, QX (.ml m l acc)) : WX K Γ (tLc wi g tt te vs) QX := fun X hK F H σ E C k => by
  refine h X hK F H σ E _ fun J F1 H1 G Y ds lf E1 wk hG hY ⟨I, hz, h0, hs, he⟩ Da hD => ?_
  obtain ⟨X1, k1, n1, f1, _, Er, back⟩ := E1.rebase
  have ffe : ∀ F, X1.ff F m = X.ff F m := fun F => by cases m <;> simp [Bs.ff, n1]
  have hK1 : X1.K = K := k1.trans hK
  have lef : ∀ {F' H' σ' Γ'}, En X1 F' H' σ' Γ' → Le F1 F' := fun E' => by rw [← f1]; exact E'.f0
  refine lc_it wk (fun i H' => ∃ F' acc, En X1 F' H' (L2.wipe σ vs ++ [some (.ref Da)]) (wipeG Γ vs ++ [.ml m Da acc]) ∧ acc.length ≤ i ∧ I i acc) ⟨F1, [], (Er.wipe vs).pushM hD .nil, Nat.le_refl _, h0⟩ (fun i H' _ ⟨F', acc, E', _⟩ => hG H' ((lef E').tr E'.le)) (fun i x H' H3 hi ⟨F', acc, E', hacc, hI⟩ hy => ?_) (fun H' ⟨F', acc, E', hacc, hI⟩ => ?_)
  · obtain ⟨d, F3, hd, gr, r⟩ := hY i F' H' x H3 (lef E') E'.le hi hy
    have E3 := E'.gr gr
    obtain ⟨X2, k2, n2, Ef, fb⟩ := E3.frame
    have ff2 : ∀ F m, X2.ff F m = X.ff F m := fun F m => by cases m <;> simp [Bs.ff, n2, n1]
    have hK2 : X2.K = K := k2.trans hK1
    refine hgw x _ H3 (fun σ2 H2 => L2.wipe σ2 vs = L2.wipe σ vs → _) _ σ wipe_wipe (fun σ2 H2 e2 q => ⟨e2, q e2⟩) ?_
    refine hs i d acc hd hacc hI X2 hK2 F3 H3 _ Ef x (by rw [ff2]; exact r) _ fun F4 H4 σ4 Γ4 l4 E4 ⟨eΓ, wt⟩ eσ => ?_
    have hlen : Γ4.length = (wipeG Γ vs).length := by rw [← eΓ, wipeG_length]
    have again : ∀ {F5 H5}, Le F4 F5 → En X2 F5 H5 σ4 Γ4 → En X1 F5 H5 (L2.wipe σ vs ++ [some (.ref Da)]) (wipeG Γ vs ++ [.ml m Da acc]) := fun {F5 H5} l5 E5 => by
      have := fb F5 H5 _ _ (by rw [wipeG_length, hlen]) (l4.tr l5) (E5.wipe vs)
      rw [eΓ, eσ] at this
      exact this
    refine wt X2 hK2 F4 H4 σ4 E4 _ fun b F5 H5 l5 E5 q5 => ?_
    cases b with
    | false => exact ⟨F5, acc, again l5 E5, Nat.le_succ_of_le hacc, q5⟩
    | true =>
      rw [if_pos rfl] at q5 ⊢
      refine q5 X2 hK2 F5 H5 σ4 E5 _ fun y F6 H6 dy l6 E6 ry q6 => ?_
      have E7 := again (l5.tr l6) E6
      obtain ⟨xs, _, hl, _, rx⟩ := E7.ml (i := (wipeG Γ vs).length) (m := m) (l := Da) (ds := acc) (by simp)
      have e8 := E7.mut (i := (wipeG Γ vs).length) (m := m) (l := Da) (ds := acc) (es := acc ++ [dy]) (ys := xs ++ [y]) (by simp) (rx.append (RpA.one (by rw [hK1, ffe, ← ff2]; exact ry)))
      have es : (wipeG Γ vs ++ [Sl.ml m Da acc]).set (wipeG Γ vs).length (.ml m Da (acc ++ [dy])) = wipeG Γ vs ++ [.ml m Da (acc ++ [dy])] := by simp
      rw [es] at e8
      exact ⟨xs, hl, sz_lt (by rw [rx.length]; omega), F6, acc ++ [dy], e8, by simp; omega, q6⟩
  · have hE := back _ _ _ _ (En.unwipe E1 (by rw [hK, hK1]) n1.symm (lef E') hv E')
    exact k (.ref Da) F' H' _ (lf.tr (lef E')) hE (he acc hacc hI Da)
end
end Pk
end
section
set_option Elab.async false
set_option linter.all false
set_option maxRecDepth 100000
namespace Pk
open PySem PySem.Spec PyProof.Rows L2

def Sl.frz : Sl → Sl
  | .ml _ _ ds => .dat false (.list ds)
  | .ex v Φ => match Φ.vw with
    | some d => .dat false d
    | none => .ex v Φ
  | s => s
def Sl.fz : Sl → Bool
  | .ml _ _ _ => true
  | .ex _ Φ => Φ.vw.isSome
  | _ => false
section
variable {K : Kw} {Γ : List Sl}
open Classical in
/-- all things of one's own that may be read as data are frozen for a while -/
theorem En.thaw {X : Bs} {F H : Hp} {σ : L2.St} (E : En X F H σ Γ) : ∃ F1, Le F F1 ∧ En X F1 H σ (Γ.map Sl.frz) ∧ ∀ F2 H2, Le F1 F2 → En X F2 H2 σ (Γ.map Sl.frz) → ∃ F3, Le F F3 ∧ En X F3 H2 σ Γ := by
  obtain ⟨S, hs, hdj, ho⟩ := id E.sl
  let M : Addr → Prop := fun a => ∃ (i : Nat) (s : Sl), Γ[i]? = some s ∧ s.fz = true ∧ S i a
  have hML : ∀ {a}, M a → ∃ o, H a = some o ∧ Mo o = true := fun {a} ⟨i, s, h, f, sa⟩ => by
    have q := hs i s h
    cases s with
    | no => cases f
    | dat _ _ => cases f
    | ml m l ds =>
      obtain ⟨xs, _, hS, hl, _⟩ := q
      rw [(hS a).mp sa]
      exact ⟨.lst xs, hl, rfl⟩
    | ex v Φ =>
      obtain ⟨_, _, p⟩ := q
      cases hv : Φ.vw with
      | none => simp [Sl.fz, hv] at f
      | some d => exact (Φ.view E.le p hv).2 a sa
  have hMF : ∀ {a}, M a → F a = none := fun {a} ⟨i, s, h, f, sa⟩ => (ho i a sa).1
  have hMO : ∀ {a}, M a → X.own a := fun {a} ⟨i, s, h, f, sa⟩ => (ho i a sa).2.2
  let F1 : Hp := fun a => if M a then H a else F a
  have f1M : ∀ {a}, M a → F1 a = H a := fun h => if_pos h
  have f1N : ∀ {a}, ¬ M a → F1 a = F a := fun h => if_neg h
  have lf : Le F F1 := fun a o q => by
    by_cases h : M a
    · rw [hMF h] at q; cases q
    · rw [f1N h]; exact q
  have le1 : Le F1 H := fun a o q => by
    by_cases h : M a
    · rw [f1M h] at q; exact q
    · rw [f1N h] at q; exact E.le a o q
  have notM : ∀ {j : Nat} {a : Addr} {s : Sl}, Γ[j]? = some s → s.fz = false → S j a → ¬ M a := fun {j a s} hj hn sa ⟨i, u, h, f, si⟩ => by
    have := hdj i j a si sa
    subst this
    rw [h] at hj
    cases hj
    rw [f] at hn
    cases hn
  have frM : ∀ a o, X.H0 a = some o → ¬ X.S0 a → ¬ M a := fun a o e n h => by
    rcases hMO h with w | w
    · rw [w] at e; cases e
    · exact n w
  have frz_no : ∀ {s : Sl}, s.fz = false → s.frz = s := fun {s} h => by
    cases s with
    | no => rfl
    | dat _ _ => rfl
    | ml _ _ _ => cases h
    | ex v Φ =>
      cases hv : Φ.vw with
      | none => simp [Sl.frz, hv]
      | some d => simp [Sl.fz, hv] at h
  refine ⟨F1, lf, ⟨le1, by simp [E.len], ⟨fun i a => (∀ s, Γ[i]? = some s → s.fz = false) ∧ i < Γ.length ∧ S i a, fun i s e => ?_, fun i j a h1 h2 => hdj i j a h1.2.2 h2.2.2, fun i a h1 => ?_⟩, fun a o e n => ⟨(E.fr a o e n).1, (f1N (frM a o e n)).trans (E.fr a o e n).2⟩, E.f0.tr lf, E.nn⟩, fun F2 H2 l2 E2 => ?_⟩
  · rw [List.getElem?_map] at e
    cases hg : Γ[i]? with
    | none => rw [hg] at e; cases e
    | some u =>
      rw [hg] at e
      cases e
      have hi : i < Γ.length := (List.getElem?_eq_some_iff.mp hg).1
      cases hf : u.fz with
      | false =>
        rw [frz_no hf]
        have eS : (fun a => (∀ s, Γ[i]? = some s → s.fz = false) ∧ i < Γ.length ∧ S i a) = S i := by
          funext a
          exact propext ⟨fun z => z.2.2, fun z => ⟨fun s w => (by rw [hg] at w; cases w; exact hf), hi, z⟩⟩
        show SlOk X F1 H _ (fun a => (∀ s, Γ[i]? = some s → s.fz = false) ∧ i < Γ.length ∧ S i a) u
        rw [eS]
        exact (hs i u hg).mono lf fun _ _ => rfl
      | true =>
        have none_ : ∀ a, ¬ ((∀ s, Γ[i]? = some s → s.fz = false) ∧ i < Γ.length ∧ S i a) := fun a z => by
          have := z.1 u hg
          rw [hf] at this
          cases this
        cases u with
        | no => cases hf
        | dat _ _ => cases hf
        | ml m l ds =>
          obtain ⟨xs, e0, hS, hl, r, _⟩ := hs i _ hg
          exact ⟨⟨_, e0, .lst ((f1M ⟨i, _, hg, rfl, (hS l).mpr rfl⟩).trans hl) (r.mono ((X.ff_le F m).tr lf))⟩, none_⟩
        | ex v Φ =>
          obtain ⟨e0, hk, p⟩ := hs i _ hg
          cases hv : Φ.vw with
          | none => simp [Sl.fz, hv] at hf
          | some d =>
            have rv := (Φ.view E.le p hv).1
            have ll : Le (lay (S i) H F) F1 := fun a o q => by
              unfold lay at q
              by_cases sa : S i a
              · rw [if_pos sa] at q
                rw [f1M ⟨i, _, hg, hf, sa⟩]
                exact q
              · rw [if_neg sa] at q
                exact lf a o q
            have ef : (Sl.ex v Φ).frz = .dat false d := by simp [Sl.frz, hv]
            rw [ef]
            refine ⟨⟨v, e0, ?_⟩, none_⟩
            rw [← hk]
            exact rv.mono ll
  · obtain ⟨n1, hi, sa⟩ := h1
    have hg : Γ[i]? = some Γ[i] := List.getElem?_eq_getElem hi
    have nM : ¬ M a := notM hg (n1 _ hg) sa
    exact ⟨(f1N nM).trans (ho i a sa).1, (ho i a sa).2⟩
  · obtain ⟨S2, hs2, hdj2, ho2⟩ := id E2.sl
    let F3 : Hp := fun a => if M a then none else F2 a
    have f3M : ∀ {a}, M a → F3 a = none := fun h => if_pos h
    have f3N : ∀ {a}, ¬ M a → F3 a = F2 a := fun h => if_neg h
    have l3 : Le F F3 := fun a o q => by
      by_cases h : M a
      · rw [hMF h] at q; cases q
      · rw [f3N h]; exact l2 a o (lf a o q)
    have h2M : ∀ {a}, M a → F2 a = H a ∧ H2 a = H a := fun {a} h => by
      obtain ⟨o, hx, _⟩ := hML h
      have := l2 a _ ((f1M h).trans hx)
      rw [hx]
      exact ⟨this, E2.le _ _ this⟩
    have s2M : ∀ {i a}, S2 i a → ¬ M a := fun {i a} sa h => by
      obtain ⟨o, hx, _⟩ := hML h
      have := (h2M h).1
      rw [(ho2 i a sa).1, hx] at this; cases this
    have tl : TupLe X.K F2 F3 := by
      refine ⟨fun a xs h => ?_, fun a fs h => by
        rw [f3N]
        · exact h
        · intro z
          obtain ⟨o, hx, hm⟩ := hML z
          rw [(h2M z).1, hx] at h; cases h; cases hm⟩
      rcases h with (h | ⟨o, h⟩) | h
      · refine .inl (.inl ?_)
        rw [f3N]
        · exact h
        · intro z
          obtain ⟨o, hx, hm⟩ := hML z
          rw [(h2M z).1, hx] at h; cases h; cases hm
      · refine .inl (.inr ⟨o, ?_⟩)
        rw [f3N]
        · exact h
        · intro z
          obtain ⟨o, hx, hm⟩ := hML z
          rw [(h2M z).1, hx] at h; cases h; cases hm
      · exact .inr h
    refine ⟨F3, l3, ⟨fun a o q => ?_, E.len, ⟨fun i a => (∃ s, Γ[i]? = some s ∧ s.fz = true ∧ S i a) ∨ (∃ s, Γ[i]? = some s ∧ s.fz = false ∧ S2 i a), fun i s e => ?_, fun i j a h1 h2 => ?_, fun i a h1 => ?_⟩, fun a o e n => ⟨(E2.fr a o e n).1, (f3N (frM a o e n)).trans (E2.fr a o e n).2⟩, E.f0.tr l3, E2.nn⟩⟩
    · by_cases h : M a
      · rw [f3M h] at q; cases q
      · rw [f3N h] at q; exact E2.le a o q
    · cases hf : s.fz with
      | true =>
        have eS : (fun a => (∃ s, Γ[i]? = some s ∧ s.fz = true ∧ S i a) ∨ (∃ s, Γ[i]? = some s ∧ s.fz = false ∧ S2 i a)) = S i := by
          funext a
          apply propext
          constructor
          · rintro (⟨u, z, _, w⟩ | ⟨u, z, w, _⟩)
            · exact w
            · rw [e] at z; cases z; rw [hf] at w; cases w
          · intro z; exact .inl ⟨s, e, hf, z⟩
        show SlOk X F3 H2 _ (fun a => (∃ s, Γ[i]? = some s ∧ s.fz = true ∧ S i a) ∨ (∃ s, Γ[i]? = some s ∧ s.fz = false ∧ S2 i a)) _
        rw [eS]
        exact (hs i s e).mono l3 fun a sa => (h2M ⟨i, s, e, hf, sa⟩).2
      | false =>
        have q := hs2 i s (by rw [List.getElem?_map, e]; exact congrArg some (frz_no hf))
        have eS : (fun a => (∃ s, Γ[i]? = some s ∧ s.fz = true ∧ S i a) ∨ (∃ s, Γ[i]? = some s ∧ s.fz = false ∧ S2 i a)) = S2 i := by
          funext a
          apply propext
          constructor
          · rintro (⟨u, z, w, _⟩ | ⟨u, z, _, w⟩)
            · rw [e] at z; cases z; rw [hf] at w; cases w
            · exact w
          · intro z; exact .inr ⟨s, e, hf, z⟩
        show SlOk X F3 H2 _ (fun a => (∃ s, Γ[i]? = some s ∧ s.fz = true ∧ S i a) ∨ (∃ s, Γ[i]? = some s ∧ s.fz = false ∧ S2 i a)) _
        rw [eS]
        cases s with
        | no => exact q
        | dat m d =>
          obtain ⟨⟨v, e0, r⟩, n⟩ := hs i _ e
          exact ⟨⟨v, e0, Bs.mo r l3⟩, q.2⟩
        | ml _ _ _ => cases hf
        | ex v Φ =>
          obtain ⟨e0, hk, p⟩ := q
          exact ⟨e0, hk, Φ.keepT (by
            cases hv : Φ.vw with
            | none => rfl
            | some d => simp [Sl.fz, hv] at hf) p (by rw [hk]; exact tl) fun _ _ => rfl⟩
    · rcases h1 with ⟨s1, e1, f1, z1⟩ | ⟨s1, e1, f1, z1⟩ <;> rcases h2 with ⟨s2, e2, f2, z2⟩ | ⟨s2, e2, f2, z2⟩
      · exact hdj i j a z1 z2
      · exact absurd ⟨i, s1, e1, f1, z1⟩ (s2M z2)
      · exact absurd ⟨j, s2, e2, f2, z2⟩ (s2M z1)
      · exact hdj2 i j a z1 z2
    · rcases h1 with ⟨s1, e1, f1, z1⟩ | ⟨s1, e1, f1, z1⟩
      · have hm : M a := ⟨i, s1, e1, f1, z1⟩
        exact ⟨f3M hm, by rw [(h2M hm).2]; exact (ho i a z1).2.1, (ho i a z1).2.2⟩
      · exact ⟨(f3N (s2M z1)).trans (ho2 i a z1).1, (ho2 i a z1).2⟩
theorem wt_thaw {t : TT} {Q : Bool → Prop} (h : WT K (Γ.map Sl.frz) t Q) : WT K Γ t Q := fun X hK F H σ E C k => by
  obtain ⟨F1, lf, E1, back⟩ := E.thaw
  refine h X hK F1 H σ E1 C fun b F2 H2 l2 E2 q => ?_
  obtain ⟨F3, l3, E3⟩ := back F2 H2 l2 E2
  exact k b F3 H2 l3 E3 q
/-- an item of a list of one's own -/
theorem atI_rp {F : Hp} {xs : List V} {ds : List PyData} {n : Int} {d : PyData} (r : RpA K F xs ds) (h : atI ds n = some d) : ∃ v, atI xs n = some v ∧ Rp K F v d := by
  unfold atI at h ⊢
  rw [r.length]
  cases hx : ixN ds.length n with
  | none => rw [hx] at h; cases h
  | some j =>
    rw [hx] at h
    exact r.get h
/-- an item of a list of one's own -/
theorem wd_ixm {m : Bool} {i : Nat} {l : Addr} {ds : List PyData} {ti : TE} {Q : PyData → Prop} (hi : Γ[i]? = some (.ml m l ds)) (h : WD K false Γ ti fun k => ∃ n d, k = .int n ∧ atI ds n = some d ∧ Q d) : WD K m Γ (tOp (rIx K) (tVar i) ti) Q := fun X hK F H σ E C k => by
  subst hK
  obtain ⟨xs, e, hl, fl, rx⟩ := E.ml hi
  refine ⟨.ref l, e, h X rfl F H σ E _ fun u F1 H1 x l1 E1 r1 ⟨n, d, ek, ha, q⟩ => ?_⟩
  subst ek
  cases r1
  obtain ⟨xs1, e1, hl1, fl1, rx1⟩ := E1.ml hi
  obtain ⟨v, hv, rv⟩ := atI_rp rx1 ha
  exact .inl ⟨l, xs1, n, v, rfl, rfl, SqL.of hl1, hv, k v F1 H1 d l1 E1 rv q⟩
end

section
variable {K : Kw} {m : Bool} {Γ : List Sl} {Q : PyData → Prop} {QX : Sl → Prop}
theorem rd_I0 {g : Int → Int → V} {i j : Int} {d : PyData} (hg : ∀ F, Rp K F (g i j) d) (q : Q d) : RD K m Γ (rI0 g) (.int i) (.int j) Q := rd_plain (d := d) (fun F H v u C le rv ru k => by
  cases rv; cases ru
  exact ⟨i, j, rfl, rfl, k _ (hg F)⟩) q
theorem rd_I {P : Int → Int → Prop} {g : Int → Int → V} {i j : Int} {d : PyData} (hg : ∀ F, Rp K F (g i j) d) (hc : P i j) (q : Q d) : RD K m Γ (rI P g) (.int i) (.int j) Q := rd_plain (d := d) (fun F H v u C le rv ru k => by
  cases rv; cases ru
  exact ⟨i, j, rfl, rfl, hc, k _ (hg F)⟩) q
def dAdd (K : PySem.W.Frag) : R2 := fun x y H Q => rI0 (fun i j => .int (i + j)) x y H Q ∨ rCat x y H Q ∨ (∃ i j, x = .str i ∧ y = .str j ∧ i.length + j.length ≤ sizeLine ∧ Q (.str (i ++ j)) H) ∨ rCatA K x y H Q
theorem o_add {X : Cx} : OpR X (binaryOp .Add) (dAdd X.K) := op_add.or (op_cat.or (op_add_str.or op_catA))
theorem rd_add {i j : Int} (q : Q (.int (i + j))) : RD K m Γ (dAdd K) (.int i) (.int j) Q := rd_plain (d := .int (i + j)) (fun F H v u C le rv ru k => by
  cases rv; cases ru
  exact .inl ⟨i, j, rfl, rfl, k _ (.int _)⟩) q
theorem rx_cat {a b : List PyData} (hz : a.length + b.length ≤ 100000) (q : ∀ l, QX (.ml m l (a ++ b))) : RX K m Γ (dAdd K) (.list a) (.list b) QX := rx_list (ds := a ++ b) (fun F H v u C le rv ru k => by
  cases rv with
  | lst h1 r1 =>
    cases ru with
    | lst h2 r2 => exact .inr (.inl ⟨_, _, _, _, rfl, rfl, le _ _ h1, le _ _ h2, sz_le (by rw [r1.length, r2.length]; exact hz), fun p hp => k p _ hp (r1.append r2)⟩)) q
theorem rd_cat {a b : List PyData} (hz : a.length + b.length ≤ 100000) (q : Q (.list (a ++ b))) : RD K m Γ (dAdd K) (.list a) (.list b) Q := .ofX (rx_cat hz fun _ => ⟨_, toD_ml, q⟩)
theorem rd_addS {a b : Str} (hz : a.length + b.length ≤ 100000) (q : Q (.str (a ++ b))) : RD K m Γ (dAdd K) (.str a) (.str b) Q := rd_plain (d := .str (a ++ b)) (fun F H v u C le rv ru k => by
  cases rv; cases ru
  exact .inr (.inr (.inl ⟨a, b, rfl, rfl, sz_le hz, k _ (.str _)⟩))) q
def dSub : R2 := rI0 fun i j => .int (i - j)
theorem o_sub {X : Cx} : OpR X (binaryOp .Sub) dSub := op_sub
theorem rd_sub {i j : Int} (q : Q (.int (i - j))) : RD K m Γ dSub (.int i) (.int j) Q := rd_I0 (fun _ => .int _) q
def dMul : R2 := fun x y H Q => rI CMul (fun i j => .int (i * j)) x y H Q ∨ rRep x y H Q
theorem o_mul {X : Cx} : OpR X (binaryOp .Mult) dMul := op_mul.or op_rep
theorem rd_mul {i j : Int} (hc : CMul i j) (q : Q (.int (i * j))) : RD K m Γ dMul (.int i) (.int j) Q := rd_plain (d := .int (i * j)) (fun F H v u C le rv ru k => by
  cases rv; cases ru
  exact .inl ⟨i, j, rfl, rfl, hc, k _ (.int _)⟩) q
def dDiv : R2 := rI CDiv fun i j => .int (i / j)
theorem o_div {X : Cx} : OpR X (binaryOp .FloorDiv) dDiv := op_fdiv
theorem rd_div {i j : Int} (h : 0 < j) (h2 : j < 1073741824) (q : Q (.int (i / j))) : RD K m Γ dDiv (.int i) (.int j) Q := rd_I (fun _ => .int _) ⟨h, h2⟩ q
def dMod : R2 := rI (fun _ j => 0 < j) fun i j => .int (i % j)
theorem o_mod {X : Cx} : OpR X (binaryOp .Mod) dMod := op_mod
theorem rd_mod {i j : Int} (h : 0 < j) (q : Q (.int (i % j))) : RD K m Γ dMod (.int i) (.int j) Q := rd_I (fun _ => .int _) h q
def dPow : R2 := rI CPow fun i j => .int (i ^ j.toNat)
theorem o_pow {X : Cx} : OpR X (binaryOp .Pow) dPow := op_pow
theorem rd_pow {i j : Int} (h : CPow i j) (q : Q (.int (i ^ j.toNat))) : RD K m Γ dPow (.int i) (.int j) Q := rd_I (fun _ => .int _) h q
def dNeg : V → Hp → VK → Prop := rU fun i => .int (-i)
theorem o_neg {X : Cx} : UnR X (unaryOp .USub) dNeg := un_neg
theorem ru_neg {i : Int} (q : Q (.int (-i))) : RU K m Γ dNeg (.int i) Q := ru_plain (d := .int (-i)) (fun F H v C le rv k => by
  cases rv
  exact ⟨i, rfl, k _ (.int _)⟩) q
def dLt : R2 := rI0 fun i j => .bl (decide (i < j))
def dLe : R2 := rI0 fun i j => .bl (decide (i ≤ j))
def dGt : R2 := rI0 fun i j => .bl (decide (j < i))
def dGe : R2 := rI0 fun i j => .bl (decide (j ≤ i))
theorem o_lt {X : Cx} : OpR X (compareOp .Lt) dLt := op_lt
theorem o_gt {X : Cx} : OpR X (compareOp .Gt) dGt := op_gt
theorem o_ge {X : Cx} : OpR X (compareOp .GtE) dGe := op_ge
theorem rd_lt {i j : Int} (q : Q (.bool (decide (i < j)))) : RD K m Γ dLt (.int i) (.int j) Q := rd_I0 (fun _ => .bl _) q
theorem rd_le {i j : Int} (q : Q (.bool (decide (i ≤ j)))) : RD K m Γ dLe (.int i) (.int j) Q := rd_I0 (fun _ => .bl _) q
theorem rd_gt {i j : Int} (q : Q (.bool (decide (j < i)))) : RD K m Γ dGt (.int i) (.int j) Q := rd_I0 (fun _ => .bl _) q
theorem rd_ge {i j : Int} (q : Q (.bool (decide (j ≤ i)))) : RD K m Γ dGe (.int i) (.int j) Q := rd_I0 (fun _ => .bl _) q
def dEq (K : PySem.W.Frag) : R2 := rEqD K
def dNe (K : PySem.W.Frag) : R2 := rNeD K
theorem o_eq {X : Cx} (hu : X.A.units + 64 < cLine) : OpR X (compareOp .Eq) (dEq X.K) := op_eqD hu
theorem o_ne {X : Cx} (hu : X.A.units + 64 < cLine) : OpR X (compareOp .NotEq) (dNe X.K) := op_neD hu
theorem rd_eq {x y : PyData} (sx : SeqAt.shaped x = true) (sy : SeqAt.shaped y = true) (q : Q (.bool (PyData.eqv x y))) : RD K m Γ (dEq K) x y Q := rd_plain (d := .bool (PyData.eqv x y)) (fun F H v u C le rv ru k =>
  ⟨x, y, Rp.dp x (SeqAt.canLay_of_shaped sx) (rv.mono le), Rp.dp y (SeqAt.canLay_of_shaped sy) (ru.mono le), sx, sy, k _ (.bl _)⟩) q
theorem rd_ne {x y : PyData} (sx : SeqAt.shaped x = true) (sy : SeqAt.shaped y = true) (q : Q (.bool (!PyData.eqv x y))) : RD K m Γ (dNe K) x y Q := rd_plain (d := .bool (!PyData.eqv x y)) (fun F H v u C le rv ru k =>
  ⟨x, y, Rp.dp x (SeqAt.canLay_of_shaped sx) (rv.mono le), Rp.dp y (SeqAt.canLay_of_shaped sy) (ru.mono le), sx, sy, k _ (.bl _)⟩) q
def rInDT (K : PySem.W.Frag) (f : Bool → Bool) : R2 := fun x y H Q => ∃ d ds, Dp K H x d ∧ Dp K H y (.tuple ds) ∧ SeqAt.shaped d = true ∧ SeqAt.shaped (.tuple ds) = true ∧ Q (.bl (f (ds.any fun z => PyData.eqv z d))) H
theorem op_inDT {X : Cx} (hu : X.A.units + 65 < cLine) : OpR X (compareOp .In) (rInDT X.K id) := by
  intro pins s σ H x y v u Q I rx ry ⟨d, ds, hd, he, sd, se, q⟩
  obtain ⟨as, r1⟩ := Dp.reads I d x v hd rx
  obtain ⟨bs, r2⟩ := Dp.reads I (.tuple ds) y u he ry
  exact SeqAt.in_tuple_reads r2 r1 (SeqAt.canLay_of_shaped se) (SeqAt.canLay_of_shaped sd) (room_in_shaped sd hu) ⟨.bl _, H, I, rfl, q⟩
def dIn (K : PySem.W.Frag) : R2 := fun x y H Q => rInD K x y H Q ∨ (∃ i j, x = .str i ∧ y = .str j ∧ Q (.bl (!(Builtin.Str.occurrences j i 0 j.length 1).isEmpty)) H) ∨ rInDT K id x y H Q
theorem o_in {X : Cx} (hu : X.A.units + 65 < cLine) : OpR X (compareOp .In) (dIn X.K) := (op_inD hu).or (op_in_str.or (op_inDT hu))
theorem rd_inT {x : PyData} {ds : List PyData} (sx : SeqAt.shaped x = true) (sy : SeqAt.shaped (.tuple ds) = true) (q : Q (.bool (ds.any fun z => PyData.eqv z x))) : RD K m Γ (dIn K) x (.tuple ds) Q := rd_plain (d := .bool _) (fun F H v u C le rv ru k =>
  .inr (.inr ⟨x, ds, Rp.dp _ (SeqAt.canLay_of_shaped sx) (rv.mono le), Rp.dp _ (SeqAt.canLay_of_shaped sy) (ru.mono le), sx, sy, k _ (.bl _)⟩)) q
theorem rd_ixL {ds : List PyData} {n : Int} {d : PyData} (h : atI ds n = some d) (q : Q d) : RD K m Γ (rIx K) (.list ds) (.int n) Q := rd_plain (d := d) (fun F H v u C le rv ru k => by
  cases rv with
  | lst h1 r1 =>
    cases ru
    obtain ⟨z, hz, rz⟩ := atI_rp r1 h
    exact .inl ⟨_, _, n, z, rfl, rfl, SqL.of (le _ _ h1), hz, k z rz⟩) q
theorem rd_ixT {ds : List PyData} {n : Int} {d : PyData} (h : atI ds n = some d) (q : Q d) : RD K m Γ (rIx K) (.tuple ds) (.int n) Q := rd_plain (d := d) (fun F H v u C le rv ru k => by
  cases rv with
  | tup h1 r1 =>
    cases ru
    obtain ⟨z, hz, rz⟩ := atI_rp r1 h
    exact .inr (.inl ⟨_, _, n, z, rfl, rfl, sqT_le le h1, hz, k z rz⟩)) q
theorem atI_ofNat {α : Type} {xs : List α} {n : Nat} : atI xs (n : Int) = xs[n]? := by
  unfold atI ixN
  by_cases h : n < xs.length
  · rw [if_pos (by omega), if_pos (by omega)]
    simp
  · rw [if_pos (by omega), if_neg (by omega)]
    simp [List.getElem?_eq_none (by omega : xs.length ≤ n)]
theorem atI_of {α : Type} {xs : List α} {z : Int} {n : Nat} {x : α} (e : z = (n : Int)) (h : xs[n]? = some x) : atI xs z = some x := by
  rw [e, atI_ofNat]; exact h
theorem atI_lastD {α : Type} {xs : List α} {x : α} : atI (xs ++ [x]) (-1) = some x := atI_last xs x
def dLen (K : PySem.W.Frag) : List V → Hp → VK → Prop := fun xs H Q => ∃ x n, xs = [x] ∧ LenV K x H n ∧ Q (.int n) H
theorem o_len {X : Cx} : CallR X (.builtin "len") (dLen X.K) := call_len
theorem rc_lenL {ds : List PyData} (q : Q (.int ds.length)) : RC K m Γ (dLen K) [.list ds] Q := rc_plain (d := .int ds.length) (fun F H vs C le rv k => by
  cases rv with
  | cons a b =>
    cases b
    cases a with
    | lst h1 r1 => exact ⟨_, ds.length, rfl, .inl ⟨_, SqL.of (le _ _ h1), r1.length.symm⟩, k _ (.int _)⟩) q
theorem rc_lenT {ds : List PyData} (q : Q (.int ds.length)) : RC K m Γ (dLen K) [.tuple ds] Q := rc_plain (d := .int ds.length) (fun F H vs C le rv k => by
  cases rv with
  | cons a b =>
    cases b
    cases a with
    | tup h1 r1 => exact ⟨_, ds.length, rfl, .inr ⟨_, sqT_le le h1, r1.length.symm⟩, k _ (.int _)⟩) q
def dList (K : PySem.W.Frag) : List V → Hp → VK → Prop := fun xs H Q => ∃ p ys, xs = [.ref p] ∧ (SqL K H p ys ∨ SqT K H p ys) ∧ ∀ l, H l = none → Q (.ref l) (upd H l (.lst ys))
theorem o_list {X : Cx} : CallR X (.type "list") (dList X.K) := call_list_of
theorem rcx_listL {ds : List PyData} (q : ∀ l, QX (.ml m l ds)) : RCX K m Γ (dList K) [.list ds] QX := rcx_list (fun F H vs C le rv k => by
  cases rv with
  | cons a b =>
    cases b
    cases a with
    | lst h1 r1 => exact ⟨_, _, rfl, .inl (SqL.of (le _ _ h1)), fun p hp => k p _ hp r1⟩) q
theorem rcx_listT {ds : List PyData} (q : ∀ l, QX (.ml m l ds)) : RCX K m Γ (dList K) [.tuple ds] QX := rcx_list (fun F H vs C le rv k => by
  cases rv with
  | cons a b =>
    cases b
    cases a with
    | tup h1 r1 => exact ⟨_, _, rfl, .inr (sqT_le le h1), fun p hp => k p _ hp r1⟩) q
theorem rc_listL {ds : List PyData} (q : Q (.list ds)) : RC K m Γ (dList K) [.list ds] Q := .ofX (rcx_listL fun _ => ⟨_, toD_ml, q⟩)
theorem rc_listT {ds : List PyData} (q : Q (.list ds)) : RC K m Γ (dList K) [.tuple ds] Q := .ofX (rcx_listT fun _ => ⟨_, toD_ml, q⟩)
def dTuple (K : PySem.W.Frag) : List V → Hp → VK → Prop := fun xs H Q => ∃ p ys, xs = [.ref p] ∧ ((SqL K H p ys ∧ ∀ l, H l = none → Q (.ref l) (upd H l (.tup ys))) ∨ (SqT K H p ys ∧ Q (.ref p) H))
theorem rc_tupleL {ds : List PyData} (q : Q (.tuple ds)) : RC K m Γ (dTuple K) [.list ds] Q := rc_tuple (fun F H vs C le rv k => by
  cases rv with
  | cons a b =>
    cases b
    cases a with
    | lst h1 r1 => exact ⟨_, _, rfl, .inl ⟨SqL.of (le _ _ h1), fun p hp => k p _ hp r1⟩⟩) q
theorem ints_of {F : Hp} : ∀ {xs : List V} {ns : List Int}, RpA K F xs (ns.map PyData.int) → xs = ns.map V.int
  | [], [], _ => rfl
  | _ :: _, [], h => by cases h
  | [], _ :: _, h => by cases h
  | v :: xs, n :: ns, h => by
    cases h with
    | cons a b =>
      cases a
      rw [ints_of b]
      rfl
def dMax (K : PySem.W.Frag) : List V → Hp → VK → Prop := fun xs H Q => (∃ i j, xs = [.int i, .int j] ∧ Q (.int (if j > i then j else i)) H) ∨ rMax K xs H Q
def dMin (K : PySem.W.Frag) : List V → Hp → VK → Prop := fun xs H Q => (∃ i j, xs = [.int i, .int j] ∧ Q (.int (if j < i then j else i)) H) ∨ rMin K xs H Q
theorem o_max {X : Cx} (hc : X.calm = true) : CallR X (.builtin "max") (dMax X.K) := (call_max2 hc).or (cr_max hc)
theorem o_min {X : Cx} (hc : X.calm = true) : CallR X (.builtin "min") (dMin X.K) := (call_min2 hc).or (cr_min hc)
theorem rc_max2 {i j : Int} (q : Q (.int (max i j))) : RC K m Γ (dMax K) [.int i, .int j] Q := rc_plain (d := .int (max i j)) (fun F H vs C le rv k => by
  cases rv with
  | cons a b =>
    cases b with
    | cons b c =>
      cases c; cases a; cases b
      have e : (if j > i then j else i) = max i j := by split <;> omega
      exact .inl ⟨i, j, rfl, by rw [e]; exact k _ (.int _)⟩) q
theorem rc_min2 {i j : Int} (q : Q (.int (min i j))) : RC K m Γ (dMin K) [.int i, .int j] Q := rc_plain (d := .int (min i j)) (fun F H vs C le rv k => by
  cases rv with
  | cons a b =>
    cases b with
    | cons b c =>
      cases c; cases a; cases b
      have e : (if j < i then j else i) = min i j := by split <;> omega
      exact .inl ⟨i, j, rfl, by rw [e]; exact k _ (.int _)⟩) q
def dInt : List V → Hp → VK → Prop := fun xs H Q => (∃ i, xs = [.int i] ∧ Q (.int i) H) ∨ ∃ k, xs = [.bl k] ∧ Q (.int (if k then 1 else 0)) H
theorem o_int {X : Cx} : CallR X (.type "int") dInt := call_int1
theorem rc_intB {b : Bool} (q : Q (.int (if b then 1 else 0))) : RC K m Γ dInt [.bool b] Q := rc_plain (d := .int (if b then 1 else 0)) (fun F H vs C le rv k => by
  cases rv with
  | cons a c =>
    cases c; cases a
    exact .inr ⟨b, rfl, k _ (.int _)⟩) q
theorem rc_intI {i : Int} (q : Q (.int i)) : RC K m Γ dInt [.int i] Q := rc_plain (d := .int i) (fun F H vs C le rv k => by
  cases rv with
  | cons a c =>
    cases c; cases a
    exact .inl ⟨i, rfl, k _ (.int _)⟩) q
theorem rg_rp {F : Hp} {a b : Int} : RpA K F (rgV a b) (rangeD a (b - a).toNat) := by
  unfold rgV rangeD
  generalize List.range (b - a).toNat = l
  induction l with
  | nil => exact .nil
  | cons i l ih => exact .cons (.int _) ih
theorem wx_lrg1 {ta : TE} (m : Bool) (h : WD K false Γ ta fun x => ∃ n : Int, x = .int n ∧ (0 ≤ n ∧ n ≤ 100000) ∧ ∀ l, QX (.ml m l (rangeD 0 n.toNat))) : WX K Γ (tLstRg (tRg1 ta)) QX := fun X hK F H σ E C k =>
  h X hK F H σ E _ fun v F1 H1 x l1 E1 r ⟨n, e, hn, q⟩ => by
    subst e
    cases r
    refine ⟨n, rfl, RgOk.of_le (by omega) (by omega) (by omega) (by omega), fun p hp => ?_⟩
    have rr : RpA X.K (X.ff F1 m) (rgV 0 n) (rangeD 0 n.toNat) := by
      have := rg_rp (K := X.K) (F := X.ff F1 m) (a := 0) (b := n)
      rwa [Int.sub_zero] at this
    exact k (.ref p) F1 _ _ l1 (E1.pushM hp rr) (q p)
theorem wd_lrg1 {ta : TE} (h : WD K false Γ ta fun x => ∃ n : Int, x = .int n ∧ (0 ≤ n ∧ n ≤ 100000) ∧ Q (.list (rangeD 0 n.toNat))) : WD K m Γ (tLstRg (tRg1 ta)) Q := .ofX (wx_lrg1 m (h.mono fun d ⟨n, e, hn, q⟩ => ⟨n, e, hn, fun _ => ⟨_, toD_ml, q⟩⟩))
theorem wx_rev {ta : TE} (m : Bool) (h : WD K m Γ ta fun x => ∃ ds, x = .list ds ∧ ∀ l, QX (.ml m l ds.reverse)) : WX K Γ (tRevL K ta) QX := fun X hK F H σ E C k =>
  h X hK F H σ E _ fun v F1 H1 x l1 E1 r ⟨ds, e, q⟩ => by
    subst e
    subst hK
    cases r with
    | lst h1 r1 => exact ⟨_, _, rfl, SqL.of (E1.lef m _ _ h1), fun p hp => k (.ref p) F1 _ _ l1 (E1.pushM hp r1.reverse) (q p)⟩
theorem wd_rev {ta : TE} (h : WD K m Γ ta fun x => ∃ ds, x = .list ds ∧ Q (.list ds.reverse)) : WD K m Γ (tRevL K ta) Q := .ofX (wx_rev m (h.mono fun d ⟨n, e, q⟩ => ⟨n, e, fun _ => ⟨_, toD_ml, q⟩⟩))
def WO (K : Kw) (Γ : List Sl) (t : TO) (Q : Option Int → Prop) : Prop := ∀ X : Bs, X.K = K → ∀ F H σ, En X F H σ Γ → ∀ C : Option Int → Hp → Prop, (∀ o F' H', Le F F' → En X F' H' σ Γ → Q o → C o H') → t σ H C
theorem wo_no {Q : Option Int → Prop} (q : Q none) : WO K Γ tNoPart Q := fun X hK F H σ E C k => k none F H Le.rfl' E q
theorem wo_some {t : TE} {Q : Option Int → Prop} (h : WD K false Γ t fun d => ∃ i, d = .int i ∧ Q (some i)) : WO K Γ (tPart t) Q := fun X hK F H σ E C k =>
  h X hK F H σ E _ fun v F1 H1 x l1 E1 r ⟨i, e, q⟩ => by
    subst e
    cases r
    exact ⟨i, rfl, k (some i) F1 H1 l1 E1 q⟩
def cutD {α : Type} (xs : List α) (lo hi : Option Int) : List α := (xs.drop (HT.sIx xs.length 0 lo)).take (HT.sIx xs.length xs.length hi - HT.sIx xs.length 0 lo)
theorem cut_rp {F : Hp} {xs : List V} {ds : List PyData} (r : RpA K F xs ds) (lo hi : Option Int) : RpA K F (cutV xs lo hi) (cutD ds lo hi) := by
  unfold cutV cutD
  rw [r.length]
  exact (r.drop _).take _
theorem wx_sl {t : TE} {tl th : TO} (m : Bool) (h : WD K m Γ t fun x => ∃ ds, x = .list ds ∧ WO K Γ tl fun lo => WO K Γ th fun hi => ∀ l, QX (.ml m l (cutD ds lo hi))) : WX K Γ (tSl (rSlL K) t tl th) QX := fun X hK F H σ E C k =>
  h X hK F H σ E _ fun v F1 H1 x l1 E1 r ⟨ds, e, h1⟩ => h1 X hK F1 H1 σ E1 _ fun lo F2 H2 l2 E2 h2 => h2 X hK F2 H2 σ E2 _ fun hi F3 H3 l3 E3 q => by
    subst e
    subst hK
    cases (Bs.mo r (l2.tr l3)) with
    | lst h1 r1 => exact ⟨_, _, rfl, SqL.of (E3.lef m _ _ h1), fun p hp => k (.ref p) F3 _ _ (l1.tr (l2.tr l3)) (E3.pushM hp (cut_rp r1 lo hi)) (q p)⟩
theorem WO.mono {t : TO} {Q Q' : Option Int → Prop} (h : WO K Γ t Q) (k : ∀ o, Q o → Q' o) : WO K Γ t Q' := fun X hK F H σ E C c => h X hK F H σ E C fun o F' H' l E' q => c o F' H' l E' (k o q)
theorem wd_sl {t : TE} {tl th : TO} (h : WD K m Γ t fun x => ∃ ds, x = .list ds ∧ WO K Γ tl fun lo => WO K Γ th fun hi => Q (.list (cutD ds lo hi))) : WD K m Γ (tSl (rSlL K) t tl th) Q :=
  .ofX (wx_sl m (h.mono fun d ⟨ds, e, q⟩ => ⟨ds, e, q.mono fun lo q => q.mono fun hi q l => ⟨_, toD_ml, q⟩⟩))
theorem wd_slS {t : TE} {tl th : TO} (h : WD K false Γ t fun x => ∃ z, x = .str z ∧ z.length ≤ 100000 ∧ WO K Γ tl fun lo => WO K Γ th fun hi => Q (.str (cutS z lo hi))) : WD K m Γ (tSl rSlS t tl th) Q := fun X hK F H σ E C k =>
  h X hK F H σ E _ fun v F1 H1 x l1 E1 r ⟨z, e, hz, hq⟩ => by
    subst e
    cases r
    exact hq X hK F1 H1 σ E1 _ fun lo F2 H2 l2 E2 hq2 => hq2 X hK F2 H2 σ E2 _ fun hi F3 H3 l3 E3 q => ⟨z, rfl, sz_le hz, k _ F3 H3 _ (l1.tr (l2.tr l3)) E3 (.str _) q⟩
def isLid : List (PyData × PyData) → Bool
  | (.none, .bool false) :: _ => true
  | _ => false
theorem isLid_no {kvs : List (Key × V)} {ds : List (PyData × PyData)} (t : flatDs ds = true → kvs.map kvD = ds) : isLid ds = false := by
  cases h : isLid ds with
  | false => rfl
  | true =>
    have hf : flatDs ds = true := by
      unfold isLid at h
      split at h
      · rfl
      · cases h
    have e := t hf
    rw [← e] at h
    cases kvs with
    | nil => cases h
    | cons p q =>
      obtain ⟨k, u⟩ := p
      cases k <;> cases h
def tyN : PyData → String
  | .none => "NoneType" | .bool _ => "bool" | .int _ => "int" | .str _ => "str" | .list _ => "list" | .tuple _ => "tuple" | .dict l => if isLid l then "list" else "dict"
def isTyS (a T : String) : Bool := a == T || (a == "bool" && T == "int")
def isTy (d : PyData) (T : String) : Bool := isTyS (tyN d) T
/-- a dict with tuple keys -/
def IsN (H : Hp) (v : V) : Prop := ∃ a w ep es, v = .ref a ∧ H a = some (dN w a ep es)
/-- a dict with numbers and texts as keys -/
def IsF (H : Hp) (v : V) : Prop := ∃ a w ep kvs, v = .ref a ∧ H a = some (dF w a ep kvs)
def TyN (K : PySem.W.Frag) (H : Hp) (v : V) (t : Value) : Prop := TyX K H v t ∨ (t = .type "dict" ∧ (IsN H v ∨ IsF H v))
theorem kit_ofN {X : Cx} {pins : List (Addr × Obj)} {σ : L2.St} {H : Hp} {s : Shared} {x : V} {u t : Value} (I : Inv X pins σ H s) (rx : RelV x u) (ty : TyN X.K H x t) : ∃ P : Heap → Prop, PySem.W.KitX X.K u t P ∧ P s.heap ∧ u ≠ .builtin "__main__.__loader__#opaque" := by
  rcases ty with ty | ⟨rfl, ⟨a, w, ep, es, rfl, ea⟩ | ⟨a, w, ep, es, rfl, ea⟩⟩
  · exact kit_of I rx ty
  · cases (show u = Value.ref a from rx)
    obtain ⟨⟨_, _, _, xs, _, o, es', h1, h2, _⟩, _⟩ := (show ObjOk X.prog X.w H s.heap a (dN w a ep es) from I.hok a _ ea)
    exact ⟨_, PySem.W.kitx_dict, ⟨o, h1, h2.1⟩, fun z => nomatch z⟩
  · cases (show u = Value.ref a from rx)
    obtain ⟨⟨_, _, _, _, _, o, es', h1, h2, _⟩, _⟩ := (show ObjOk X.prog X.w H s.heap a (dF w a ep es) from I.hok a _ ea)
    exact ⟨_, PySem.W.kitx_dict, ⟨o, h1, h2.1⟩, fun z => nomatch z⟩
def rIsD (K : PySem.W.Frag) : List V → Hp → VK → Prop := fun xs H Q => ∃ (x c : V) (t u : Value) (b : Bool), xs = [x, c] ∧ ClsV c u ∧ TyN K H x t ∧ PySem.W.kitOne K t u = some b ∧ Q (.bl b) H
def rIsDT (K : PySem.W.Frag) : List V → Hp → VK → Prop := fun xs H Q => ∃ (x : V) (tp : Addr) (cs : List V) (t : Value) (us : List Value) (b : Bool), xs = [x, .ref tp] ∧ H tp = some (.tup cs) ∧ Paired ClsV cs us ∧ TyN K H x t ∧ PySem.W.kitAny K t us = some b ∧ Q (.bl b) H
theorem call_isD {X : Cx} : CallR X (.builtin "isinstance") (rIsD X.K) := by
  intro pins s σ H xs us Q I r h
  obtain ⟨x, c, t, u, b, rfl, k, ty, e, q⟩ := h
  obtain ⟨u1, u2, rfl, r1, r2⟩ := vals2 r
  have e2 := k.eq r2
  subst e2
  obtain ⟨P, Z, p, hx⟩ := kit_ofN I r1 ty
  exact PySem.W.kia_one Z I.kIn p e hx fun tk => ⟨.bl b, H, I.tok tk, rfl, q⟩
theorem tyX {F H : Hp} {v : V} {d : PyData} (le : Le F H) (r : Rp K F v d) : TyN K H v (.type (tyN d)) := by
  cases r with
  | non => exact .inl (.base .non)
  | bl b => exact .inl (.base (.bl b))
  | int i => exact .inl (.base (.int i))
  | str x => exact .inl (.base (.str x))
  | lst h _ => exact .inl (.base (.lst (le _ _ h)))
  | tup h _ =>
    rcases h with (h | ⟨o, h⟩) | ⟨o, its, n, hk, hc, _⟩
    · exact .inl (.base (.tup (le _ _ h)))
    · exact .inl (.fTuple (le _ _ h))
    · exact .inl (.kTuple hk hc)
  | dct h t =>
    have e := isLid_no t
    simp only [tyN, e]
    exact .inl (.base (.dK (le _ _ h)))
  | dcn h _ => exact .inr ⟨rfl, .inl ⟨_, _, _, _, rfl, le _ _ h⟩⟩
  | dcf h _ _ => exact .inr ⟨rfl, .inr ⟨_, _, _, _, rfl, le _ _ h⟩⟩
  | lid h _ => exact .inl (.base (.lst (le _ _ h)))
theorem kit_tab : ∀ a ∈ ["NoneType", "bool", "int", "str", "list", "tuple", "dict"], ∀ T ∈ ["int", "bool", "str", "list", "tuple", "dict"], kitB a T = some (isTyS a T) := by decide +kernel
theorem tyN_mem (d : PyData) : tyN d ∈ ["NoneType", "bool", "int", "str", "list", "tuple", "dict"] := by
  cases d <;> simp [tyN]
  split <;> simp
theorem kit_isTy {d : PyData} {T : String} (hT : T ∈ ["int", "bool", "str", "list", "tuple", "dict"]) : PySem.W.kitOne K (.type (tyN d)) (.type T) = some (isTy d T) := kit_ty (kit_tab _ (tyN_mem d) T hT)
theorem wd_isi {ta : TE} {T : String} (hT : T ∈ ["int", "bool", "str", "list", "tuple", "dict"]) (h : WD K false Γ ta fun d => Q (.bool (isTy d T))) : WD K m Γ (tCB (rIsD K) (tCons ta (tCons (tC (.ty T)) tNil))) Q := fun X hK F H σ E C k =>
  h X hK F H σ E _ fun v F1 H1 d l1 E1 r q => ⟨v, .ty T, .type (tyN d), .type T, isTy d T, rfl, .ty T, tyX E1.le r, kit_isTy hT, k _ F1 H1 _ l1 E1 (.bl _) q⟩
theorem wd_isi2 {ta : TE} {T U : String} (hT : T ∈ ["int", "bool", "str", "list", "tuple", "dict"]) (hU : U ∈ ["int", "bool", "str", "list", "tuple", "dict"]) (h : WD K false Γ ta fun d => Q (.bool (isTy d T || isTy d U))) : WD K m Γ (tCB (rIsDT K) (tCons ta (tCons (tTup (tCons (tC (.ty T)) (tCons (tC (.ty U)) tNil))) tNil))) Q := fun X hK F H σ E C k =>
  h X hK F H σ E _ fun v F1 H1 d l1 E1 r q => ⟨by show 2 ≤ sizeLine; decide, fun p hp => by
    refine ⟨v, p, [.ty T, .ty U], .type (tyN d), [.type T, .type U], isTy d T || isTy d U, rfl, upd_same, .cons (.ty T) (.cons (.ty U) .nil), tyX (E1.free hp).le r, ?_, k _ F1 _ _ l1 (E1.free hp) (.bl _) q⟩
    refine kitAny_cons (kit_isTy hT) (fun e => ?_) (fun e => by rw [e]; rfl)
    refine kitAny_cons (kit_isTy hU) (fun e2 => by rw [e, e2]; exact kitAny_nil) (fun e2 => by rw [e2]; simp)⟩
end
end Pk
end
section
set_option Elab.async false
set_option linter.all false
set_option maxRecDepth 100000
namespace Pk
open PySem PySem.Spec PyProof.Rows L2
section
variable {K : Kw} {m : Bool} {Γ : List Sl} {QI : List PyData → Prop} {ta : TA} {te : TE}
end

/-- at most n deep, no dicts, texts of signs -/
def dep : Nat → PyData → Prop
  | _, .none => True
  | _, .bool _ => True
  | _, .int _ => True
  | _, .str x => PyData.strOk x = true
  | 0, .list _ => False
  | 0, .tuple _ => False
  | n + 1, .list xs => ∀ x ∈ xs, dep n x
  | n + 1, .tuple xs => ∀ x ∈ xs, dep n x
  | _, .dict _ => False
theorem dep_can : ∀ (n : Nat) (d : PyData), dep n d → d.canLay0 = true ∧ d.depth ≤ n + 1
  | _, .none, _ => ⟨rfl, by simp [PyData.depth]⟩
  | _, .bool _, _ => ⟨rfl, by simp [PyData.depth]⟩
  | _, .int _, _ => ⟨rfl, by simp [PyData.depth]⟩
  | n, .str x, h => by
    have h' : PyData.strOk x = true := by cases n <;> exact h
    exact ⟨by simpa [PyData.canLay0] using h', by simp [PyData.depth]⟩
  | 0, .list _, h => h.elim
  | 0, .tuple _, h => h.elim
  | n + 1, .list xs, h => by
    have : PyData.canLayAll0 xs = true ∧ PyData.depthAll xs ≤ n + 1 := by
      have h' : ∀ x ∈ xs, dep n x := h
      clear h
      induction xs with
      | nil => exact ⟨rfl, by simp [PyData.depthAll]⟩
      | cons x xs ih =>
        obtain ⟨a, b⟩ := dep_can n x (h' x List.mem_cons_self)
        obtain ⟨c, d⟩ := ih fun y hy => h' y (List.mem_cons_of_mem _ hy)
        exact ⟨by simp [PyData.canLayAll0, a, c], by simp only [PyData.depthAll]; omega⟩
    exact ⟨by simpa [PyData.canLay0] using this.1, by simp only [PyData.depth]; omega⟩
  | n + 1, .tuple xs, h => by
    have : PyData.canLayAll0 xs = true ∧ PyData.depthAll xs ≤ n + 1 := by
      have h' : ∀ x ∈ xs, dep n x := h
      clear h
      induction xs with
      | nil => exact ⟨rfl, by simp [PyData.depthAll]⟩
      | cons x xs ih =>
        obtain ⟨a, b⟩ := dep_can n x (h' x List.mem_cons_self)
        obtain ⟨c, d⟩ := ih fun y hy => h' y (List.mem_cons_of_mem _ hy)
        exact ⟨by simp [PyData.canLayAll0, a, c], by simp only [PyData.depthAll]; omega⟩
    exact ⟨by simpa [PyData.canLay0] using this.1, by simp only [PyData.depth]; omega⟩
  | n, .dict _, h => by cases n <;> exact h.elim
theorem dep_shaped {n : Nat} {d : PyData} (h : dep n d) (hn : n ≤ 63) : SeqAt.shaped d = true := by
  obtain ⟨a, b⟩ := dep_can n d h
  simp only [SeqAt.shaped, a, Bool.true_and, decide_eq_true_eq]
  omega
theorem sh_int {i : Int} : SeqAt.shaped (.int i) = true := dep_shaped (n := 0) (d := .int i) trivial (by decide)
theorem sh_bool {b : Bool} : SeqAt.shaped (.bool b) = true := dep_shaped (n := 0) (d := .bool b) trivial (by decide)
theorem sh_non : SeqAt.shaped .none = true := dep_shaped (n := 0) (d := .none) trivial (by decide)
theorem sh_str {x : Str} (h : PyData.strOk x = true) : SeqAt.shaped (.str x) = true := dep_shaped (n := 0) (d := .str x) h (by decide)
theorem sh_nil : SeqAt.shaped (.list []) = true := dep_shaped (n := 1) (d := .list []) (fun x h => by cases h) (by decide)
/-- == of texts, ints -/
theorem eqv_int {i j : Int} : PyData.eqv (.int i) (.int j) = decide (i = j) := by simp only [PyData.eqv]; exact Bool.beq_eq_decide_eq i j
theorem eqv_str {x y : Str} : PyData.eqv (.str x) (.str y) = decide (x = y) := by simp only [PyData.eqv]; exact Bool.beq_eq_decide_eq x y
theorem eqv_bool {x y : Bool} : PyData.eqv (.bool x) (.bool y) = (x == y) := by simp only [PyData.eqv]
/-- no truths within -/
inductive NB : PyData → Prop
  | non : NB .none
  | int (i : Int) : NB (.int i)
  | str (x : Str) : NB (.str x)
  | lst {xs : List PyData} : (∀ x ∈ xs, NB x) → NB (.list xs)
  | tup {xs : List PyData} : (∀ x ∈ xs, NB x) → NB (.tuple xs)
mutual
theorem eqv_iff : ∀ (x y : PyData), NB x → NB y → (PyData.eqv x y = true ↔ x = y)
  | .none, y, _, hy => by cases hy <;> simp [PyData.eqv]
  | .int i, y, _, hy => by cases hy <;> simp [PyData.eqv]
  | .str s, y, _, hy => by cases hy <;> simp [PyData.eqv]
  | .list xs, y, hx, hy => by
    cases hx with
    | lst h =>
      cases hy with
      | lst k => simp only [PyData.eqv, PyData.list.injEq]; exact eqvAll_iff xs _ h k
      | _ => simp [PyData.eqv]
  | .tuple xs, y, hx, hy => by
    cases hx with
    | tup h =>
      cases hy with
      | tup k => simp only [PyData.eqv, PyData.tuple.injEq]; exact eqvAll_iff xs _ h k
      | _ => simp [PyData.eqv]
  | .bool _, _, hx, _ => by cases hx
  | .dict _, _, hx, _ => by cases hx
theorem eqvAll_iff : ∀ (xs ys : List PyData), (∀ x ∈ xs, NB x) → (∀ x ∈ ys, NB x) → (PyData.eqvAll xs ys = true ↔ xs = ys)
  | [], ys, _, _ => by cases ys <;> simp [PyData.eqvAll]
  | x :: xs, [], _, _ => by simp [PyData.eqvAll]
  | x :: xs, y :: ys, hx, hy => by
    simp only [PyData.eqvAll, Bool.and_eq_true, List.cons.injEq]
    rw [eqv_iff x y (hx x List.mem_cons_self) (hy y List.mem_cons_self), eqvAll_iff xs ys (fun z h => hx z (List.mem_cons_of_mem _ h)) (fun z h => hy z (List.mem_cons_of_mem _ h))]
end
theorem eqv_self {x : PyData} (h : NB x) : PyData.eqv x x = true := (eqv_iff x x h h).mpr rfl
theorem eqv_no {x y : PyData} (h : NB x) (k : NB y) (n : x ≠ y) : PyData.eqv x y = false := by
  cases e : PyData.eqv x y with
  | false => rfl
  | true => exact absurd ((eqv_iff x y h k).mp e) n
end Pk
end
section
set_option Elab.async false
set_option linter.all false
set_option maxRecDepth 100000
namespace Pk
open PySem PySem.Spec PyProof.Rows L2
section
variable {K : Kw} {m : Bool} {Γ : List Sl} {Q : PyData → Prop} {QX : Sl → Prop} {ta tb tc td te tf : TE}
theorem wd_cb1 {r : List V → Hp → VK → Prop} (h : WD K m Γ ta fun x => RC K m Γ r [x] Q) : WD K m Γ (tCB r (tCons ta tNil)) Q := wd_cb (wa_d (h.mono fun x q => wa_nil ⟨_, rfl, q⟩))
theorem wd_cb2 {r : List V → Hp → VK → Prop} (h : WD K m Γ ta fun x => WD K m Γ tb fun y => RC K m Γ r [x, y] Q) : WD K m Γ (tCB r (tCons ta (tCons tb tNil))) Q := wd_cb (wa_d (h.mono fun x h => wa_d (h.mono fun y q => wa_nil ⟨_, rfl, q⟩)))
theorem le_lit {n : Nat} (h : Nat.ble n 100000 = true) : n ≤ 100000 := Nat.le_of_ble_eq_true h
theorem wd_tup0 (q : Q (.tuple [])) : WD K m Γ (tTup tNil) Q := wd_tup (wa_nil ⟨_, rfl, le_lit rfl, q⟩)
theorem wd_tup1 (h : WD K m Γ ta fun x => Q (.tuple [x])) : WD K m Γ (tTup (tCons ta tNil)) Q := wd_tup (wa_d (h.mono fun x q => wa_nil ⟨_, rfl, le_lit rfl, q⟩))
theorem wd_tup2 (h : WD K m Γ ta fun x => WD K m Γ tb fun y => Q (.tuple [x, y])) : WD K m Γ (tTup (tCons ta (tCons tb tNil))) Q := wd_tup (wa_d (h.mono fun x h => wa_d (h.mono fun y q => wa_nil ⟨_, rfl, le_lit rfl, q⟩)))
theorem wd_tup3 (h : WD K m Γ ta fun x => WD K m Γ tb fun y => WD K m Γ tc fun z => Q (.tuple [x, y, z])) : WD K m Γ (tTup (tCons ta (tCons tb (tCons tc tNil)))) Q := wd_tup (wa_d (h.mono fun x h => wa_d (h.mono fun y h => wa_d (h.mono fun z q => wa_nil ⟨_, rfl, le_lit rfl, q⟩))))
theorem wd_lst0 (q : Q (.list [])) : WD K m Γ (tLst tNil) Q := wd_lst (wa_nil ⟨_, rfl, le_lit rfl, q⟩)
theorem wd_lst1 (h : WD K m Γ ta fun x => Q (.list [x])) : WD K m Γ (tLst (tCons ta tNil)) Q := wd_lst (wa_d (h.mono fun x q => wa_nil ⟨_, rfl, le_lit rfl, q⟩))
theorem wd_lst2 (h : WD K m Γ ta fun x => WD K m Γ tb fun y => Q (.list [x, y])) : WD K m Γ (tLst (tCons ta (tCons tb tNil))) Q := wd_lst (wa_d (h.mono fun x h => wa_d (h.mono fun y q => wa_nil ⟨_, rfl, le_lit rfl, q⟩)))
theorem wd_lst3 (h : WD K m Γ ta fun x => WD K m Γ tb fun y => WD K m Γ tc fun z => Q (.list [x, y, z])) : WD K m Γ (tLst (tCons ta (tCons tb (tCons tc tNil)))) Q := wd_lst (wa_d (h.mono fun x h => wa_d (h.mono fun y h => wa_d (h.mono fun z q => wa_nil ⟨_, rfl, le_lit rfl, q⟩))))
theorem wd_lst4 (h : WD K m Γ ta fun x => WD K m Γ tb fun y => WD K m Γ tc fun z => WD K m Γ td fun u => Q (.list [x, y, z, u])) : WD K m Γ (tLst (tCons ta (tCons tb (tCons tc (tCons td tNil))))) Q := wd_lst (wa_d (h.mono fun x h => wa_d (h.mono fun y h => wa_d (h.mono fun z h => wa_d (h.mono fun u q => wa_nil ⟨_, rfl, le_lit rfl, q⟩)))))
theorem wd_lst5 (h : WD K m Γ ta fun x => WD K m Γ tb fun y => WD K m Γ tc fun z => WD K m Γ td fun u => WD K m Γ te fun w => Q (.list [x, y, z, u, w])) : WD K m Γ (tLst (tCons ta (tCons tb (tCons tc (tCons td (tCons te tNil)))))) Q := wd_lst (wa_d (h.mono fun x h => wa_d (h.mono fun y h => wa_d (h.mono fun z h => wa_d (h.mono fun u h => wa_d (h.mono fun w q => wa_nil ⟨_, rfl, le_lit rfl, q⟩))))))
theorem wd_lst6 (h : WD K m Γ ta fun x => WD K m Γ tb fun y => WD K m Γ tc fun z => WD K m Γ td fun u => WD K m Γ te fun w => WD K m Γ tf fun r => Q (.list [x, y, z, u, w, r])) : WD K m Γ (tLst (tCons ta (tCons tb (tCons tc (tCons td (tCons te (tCons tf tNil))))))) Q := wd_lst (wa_d (h.mono fun x h => wa_d (h.mono fun y h => wa_d (h.mono fun z h => wa_d (h.mono fun u h => wa_d (h.mono fun w h => wa_d (h.mono fun r q => wa_nil ⟨_, rfl, le_lit rfl, q⟩)))))))
theorem wx_lst0 (m : Bool) (q : ∀ l, QX (.ml m l [])) : WX K Γ (tLst tNil) QX := wx_lst m (wa_nil ⟨_, rfl, le_lit rfl, q⟩)
theorem wx_lst1 (m : Bool) (h : WD K m Γ ta fun x => ∀ l, QX (.ml m l [x])) : WX K Γ (tLst (tCons ta tNil)) QX := wx_lst m (wa_d (h.mono fun x q => wa_nil ⟨_, rfl, le_lit rfl, q⟩))
variable {T : List Sl → (Sl → Prop) → Prop} {EE : XK}
theorem wx_call0 (h : T [] QX) : WX K Γ (tCall (spG K T) [] EE tNil) QX := wx_call (wa_nil ⟨agsGood_d rfl, h⟩)
theorem wx_call1 (h : WD K false Γ ta fun x => T [.dat false x] QX) : WX K Γ (tCall (spG K T) [] EE (tCons ta tNil)) QX := wx_call (wa_d (h.mono fun x q => wa_nil ⟨agsGood_d rfl, q⟩))
theorem wx_call2 (h : WD K false Γ ta fun x => WD K false Γ tb fun y => T [.dat false x, .dat false y] QX) : WX K Γ (tCall (spG K T) [] EE (tCons ta (tCons tb tNil))) QX := wx_call (wa_d (h.mono fun x h => wa_d (h.mono fun y q => wa_nil ⟨agsGood_d rfl, q⟩)))
theorem wx_call3 (h : WD K false Γ ta fun x => WD K false Γ tb fun y => WD K false Γ tc fun z => T [.dat false x, .dat false y, .dat false z] QX) : WX K Γ (tCall (spG K T) [] EE (tCons ta (tCons tb (tCons tc tNil)))) QX := wx_call (wa_d (h.mono fun x h => wa_d (h.mono fun y h => wa_d (h.mono fun z q => wa_nil ⟨agsGood_d rfl, q⟩))))
theorem wx_call4 (h : WD K false Γ ta fun x => WD K false Γ tb fun y => WD K false Γ tc fun z => WD K false Γ td fun u => T [.dat false x, .dat false y, .dat false z, .dat false u] QX) : WX K Γ (tCall (spG K T) [] EE (tCons ta (tCons tb (tCons tc (tCons td tNil))))) QX := wx_call (wa_d (h.mono fun x h => wa_d (h.mono fun y h => wa_d (h.mono fun z h => wa_d (h.mono fun u q => wa_nil ⟨agsGood_d rfl, q⟩)))))
theorem ag_ex {i : Nat} {v : V} {Φ : Own} (hi : Γ[i]? = some (.ex v Φ)) : Ag.sl Γ (.o i) = .ex v Φ := by simp [Ag.sl, List.getD_eq_getElem?_getD, hi]
theorem wx_callO0 {i : Nat} {v : V} {Φ : Own} (hi : Γ[i]? = some (.ex v Φ)) (h : T [.ex v Φ] QX) : WX K Γ (tCall (spG K T) [] EE (tCons (tVar i) tNil)) QX := wx_call (wa_o hi (wa_nil ⟨agsGood_1 hi rfl, by rw [List.map_cons, ag_ex hi]; exact h⟩))
theorem wx_callO1 {i : Nat} {v : V} {Φ : Own} (hi : Γ[i]? = some (.ex v Φ)) (h : WD K false Γ ta fun x => T [.ex v Φ, .dat false x] QX) : WX K Γ (tCall (spG K T) [] EE (tCons (tVar i) (tCons ta tNil))) QX := wx_call (wa_o hi (wa_d (h.mono fun x q => wa_nil ⟨agsGood_1 hi rfl, by rw [List.map_cons, ag_ex hi]; exact q⟩)))
theorem wx_callO2 {i : Nat} {v : V} {Φ : Own} (hi : Γ[i]? = some (.ex v Φ)) (h : WD K false Γ ta fun x => WD K false Γ tb fun y => T [.ex v Φ, .dat false x, .dat false y] QX) : WX K Γ (tCall (spG K T) [] EE (tCons (tVar i) (tCons ta (tCons tb tNil)))) QX := wx_call (wa_o hi (wa_d (h.mono fun x h => wa_d (h.mono fun y q => wa_nil ⟨agsGood_1 hi rfl, by rw [List.map_cons, ag_ex hi]; exact q⟩))))
theorem wx_callO3 {i : Nat} {v : V} {Φ : Own} (hi : Γ[i]? = some (.ex v Φ)) (h : WD K false Γ ta fun x => WD K false Γ tb fun y => WD K false Γ tc fun z => T [.ex v Φ, .dat false x, .dat false y, .dat false z] QX) : WX K Γ (tCall (spG K T) [] EE (tCons (tVar i) (tCons ta (tCons tb (tCons tc tNil))))) QX := wx_call (wa_o hi (wa_d (h.mono fun x h => wa_d (h.mono fun y h => wa_d (h.mono fun z q => wa_nil ⟨agsGood_1 hi rfl, by rw [List.map_cons, ag_ex hi]; exact q⟩)))))
/-- what is wanted of a call's result, as data -/
def asD (m : Bool) (Q : PyData → Prop) : Sl → Prop := fun s => ∃ d, s.toD m = some d ∧ Q d
theorem asD_dat {d : PyData} (q : Q d) : asD m Q (.dat m d) := ⟨d, toD_dat, q⟩
theorem asD_new {d : PyData} (q : Q d) : asD m Q (.dat true d) := ⟨d, by cases m <;> simp [Sl.toD], q⟩
theorem asD_ml {l : Addr} {ds : List PyData} (q : Q (.list ds)) : asD m Q (.ml m l ds) := ⟨_, toD_ml, q⟩
theorem asD_mln {l : Addr} {ds : List PyData} (q : Q (.list ds)) : asD m Q (.ml true l ds) := ⟨_, by cases m <;> simp [Sl.toD], q⟩
theorem wd_call0 (h : T [] (asD m Q)) : WD K m Γ (tCall (spG K T) [] EE tNil) Q := .ofX (wx_call0 h)
theorem wd_call1 (h : WD K false Γ ta fun x => T [.dat false x] (asD m Q)) : WD K m Γ (tCall (spG K T) [] EE (tCons ta tNil)) Q := .ofX (wx_call1 h)
theorem wd_call2 (h : WD K false Γ ta fun x => WD K false Γ tb fun y => T [.dat false x, .dat false y] (asD m Q)) : WD K m Γ (tCall (spG K T) [] EE (tCons ta (tCons tb tNil))) Q := .ofX (wx_call2 h)
theorem wd_call3 (h : WD K false Γ ta fun x => WD K false Γ tb fun y => WD K false Γ tc fun z => T [.dat false x, .dat false y, .dat false z] (asD m Q)) : WD K m Γ (tCall (spG K T) [] EE (tCons ta (tCons tb (tCons tc tNil)))) Q := .ofX (wx_call3 h)
theorem wd_call4 (h : WD K false Γ ta fun x => WD K false Γ tb fun y => WD K false Γ tc fun z => WD K false Γ td fun u => T [.dat false x, .dat false y, .dat false z, .dat false u] (asD m Q)) : WD K m Γ (tCall (spG K T) [] EE (tCons ta (tCons tb (tCons tc (tCons td tNil))))) Q := .ofX (wx_call4 h)
theorem wd_callO0 {i : Nat} {v : V} {Φ : Own} (hi : Γ[i]? = some (.ex v Φ)) (h : T [.ex v Φ] (asD m Q)) : WD K m Γ (tCall (spG K T) [] EE (tCons (tVar i) tNil)) Q := .ofX (wx_callO0 hi h)
theorem wd_callO1 {i : Nat} {v : V} {Φ : Own} (hi : Γ[i]? = some (.ex v Φ)) (h : WD K false Γ ta fun x => T [.ex v Φ, .dat false x] (asD m Q)) : WD K m Γ (tCall (spG K T) [] EE (tCons (tVar i) (tCons ta tNil))) Q := .ofX (wx_callO1 hi h)
theorem wd_callO2 {i : Nat} {v : V} {Φ : Own} (hi : Γ[i]? = some (.ex v Φ)) (h : WD K false Γ ta fun x => WD K false Γ tb fun y => T [.ex v Φ, .dat false x, .dat false y] (asD m Q)) : WD K m Γ (tCall (spG K T) [] EE (tCons (tVar i) (tCons ta (tCons tb tNil)))) Q := .ofX (wx_callO2 hi h)
theorem wd_callO3 {i : Nat} {v : V} {Φ : Own} (hi : Γ[i]? = some (.ex v Φ)) (h : WD K false Γ ta fun x => WD K false Γ tb fun y => WD K false Γ tc fun z => T [.ex v Φ, .dat false x, .dat false y, .dat false z] (asD m Q)) : WD K m Γ (tCall (spG K T) [] EE (tCons (tVar i) (tCons ta (tCons tb (tCons tc tNil))))) Q := .ofX (wx_callO3 hi h)
end
theorem iteD {p A B : Prop} [Decidable p] (h1 : p → A) (h2 : ¬ p → B) : if decide p = true then A else B := by
  by_cases h : p
  · rw [decide_eq_true h, if_pos rfl]; exact h1 h
  · rw [decide_eq_false h, if_neg Bool.false_ne_true]; exact h2 h
theorem iteT' {A B : Prop} {b : Bool} (hb : b = true) (h : A) : if b = true then A else B := by rw [if_pos hb]; exact h
theorem iteF' {A B : Prop} {b : Bool} (hb : b = false) (h : B) : if b = true then A else B := by rw [hb, if_neg Bool.false_ne_true]; exact h
def OwnL (K : Kw) (P : List Int → Prop) : Own where
  K := K
  p := fun _ H v S => ∃ (l : Addr) (ns : List Int), v = .ref l ∧ (∀ b, S b ↔ b = l) ∧ H l = some (.lst (ns.map V.int)) ∧ P ns
  vw := none
  keep := fun {F F' H H' v S} ⟨l, ns, e, hS, hl, hp⟩ _ k => ⟨l, ns, e, hS, (k l ((hS l).mpr rfl)).trans hl, hp⟩
  keepT := fun _ {F F' H H' v S} ⟨l, ns, e, hS, hl, hp⟩ _ k => ⟨l, ns, e, hS, (k l ((hS l).mpr rfl)).trans hl, hp⟩
  view := fun _ _ e => nomatch e
theorem ints_rp {K : Kw} {F : Hp} : ∀ ns : List Int, RpA K F (ns.map V.int) (ns.map PyData.int)
  | [] => .nil
  | n :: ns => .cons (.int n) (ints_rp ns)
section
variable {K : Kw} {Γ : List Sl} {P : Po} {ts : TS}
/-- a slot is told otherwise -/
theorem sj_retell {i : Nat} {s s' : Sl} (hi : Γ[i]? = some s) (h : ∀ (X : Bs) (F H : Hp) (ov : Option V) (S : Addr → Prop), X.K = K → SlOk X F H ov S s → SlOk X F H ov S s') (k : SJ K (Γ.set i s') ts P) : SJ K Γ ts P := fun X hK F H σ E D hD =>
  k X hK F H σ (E.retell Le.rfl' E.le (fun _ _ _ _ => rfl) hi fun S hS q => ⟨S, h X F H _ S hK q, fun a sa => ⟨sa, (hS a sa).1⟩, fun _ z => absurd rfl z⟩) D hD
theorem sj_open (i : Nat) {v : V} {PL : List Int → Prop} (hi : Γ[i]? = some (.ex v (OwnL K PL))) (k : ∀ l ns, v = .ref l → PL ns → SJ K (Γ.set i (.ml false l (ns.map PyData.int))) ts P) : SJ K Γ ts P := fun X hK F H σ E D hD => by
  obtain ⟨S, hs, _, _⟩ := id E.sl
  obtain ⟨e, _, l, ns, rfl, hS, hl, hp⟩ := hs i _ hi
  refine k l ns rfl hp X hK F H σ (E.retell Le.rfl' E.le (fun _ _ _ _ => rfl) hi fun S hS q => ⟨S, ?_, fun a sa => ⟨sa, (hS a sa).1⟩, fun _ z => absurd rfl z⟩) D hD
  obtain ⟨e', _, l', ns', er, hS', hl', hp'⟩ := q
  cases er
  rw [hl] at hl'
  have : ns.map V.int = ns'.map V.int := by injection hl' with z; injection z
  exact ⟨ns.map V.int, e, hS', hl, ints_rp ns, fun z => nomatch z⟩
theorem sj_close (i : Nat) {m : Bool} {l : Addr} {ns : List Int} (PL : List Int → Prop) (hi : Γ[i]? = some (.ml m l (ns.map PyData.int))) (hp : PL ns) (k : SJ K (Γ.set i (.ex (.ref l) (OwnL K PL))) ts P) : SJ K Γ ts P :=
  sj_retell hi (fun X F H ov S hK q => by
    obtain ⟨xs, e, hS, hl, r, _⟩ := q
    rw [ints_of r] at hl
    exact ⟨e, hK.symm, l, ns, rfl, hS, hl, hp⟩) k
end
def ScriptO (K : Kw) (ns : List Int) : Own where
  K := K
  p := fun _ H v S => ∃ a : Addr, v = .ref a ∧ SqL K H a (ns.map V.int) ∧ ((∀ b, S b ↔ b = a) ∨ (∀ H', SqL K H' a (ns.map V.int)) ∧ ∀ b, ¬ S b)
  vw := none
  keep := fun {F F' H H' v S} ⟨a, e, h, c⟩ _ k => by
    refine ⟨a, e, ?_, c⟩
    rcases c with c | ⟨c, _⟩
    · have z := k a ((c a).mpr rfl)
      rcases h with (h | ⟨o, h⟩) | h
      · exact .inl (.inl (z.trans h))
      · exact .inl (.inr ⟨o, z.trans h⟩)
      · exact .inr h
    · exact c H'
  keepT := fun _ {F F' H H' v S} ⟨a, e, h, c⟩ _ k => by
    refine ⟨a, e, ?_, c⟩
    rcases c with c | ⟨c, _⟩
    · have z := k a ((c a).mpr rfl)
      rcases h with (h | ⟨o, h⟩) | h
      · exact .inl (.inl (z.trans h))
      · exact .inl (.inr ⟨o, z.trans h⟩)
      · exact .inr h
    · exact c H'
  view := fun _ _ e => nomatch e
section
variable {K : Kw} {m : Bool} {Γ : List Sl} {Q : PyData → Prop} {ta : TE}
theorem En.script {X : Bs} {F H : Hp} {σ : L2.St} (E : En X F H σ Γ) {i : Nat} {v : V} {ns : List Int} (hi : Γ[i]? = some (.ex v (ScriptO K ns))) : ∃ a, v = .ref a ∧ SqL K H a (ns.map V.int) := by
  obtain ⟨S, hs, _, _⟩ := E.sl
  obtain ⟨_, _, a, e, h, _⟩ := hs i _ hi
  exact ⟨a, e, h⟩
theorem wd_lenScript {i : Nat} {v : V} {ns : List Int} (hi : Γ[i]? = some (.ex v (ScriptO K ns))) (q : Q (.int ns.length)) : WD K m Γ (tCB (dLen K) (tCons (tVar i) tNil)) Q := fun X hK F H σ E C k => by
  obtain ⟨a, e, h⟩ := E.script hi
  subst e
  refine ⟨_, E.ex hi, _, ns.length, rfl, .inl ⟨_, h, by simp⟩, k _ F H _ Le.rfl' E (.int _) q⟩
theorem wd_ixScript {i : Nat} {v : V} {ns : List Int} (hi : Γ[i]? = some (.ex v (ScriptO K ns))) (h : WD K false Γ ta fun d => ∃ (n : Int) (c : Int), d = .int n ∧ atI ns n = some c ∧ Q (.int c)) : WD K m Γ (tOp (rIx K) (tVar i) ta) Q := fun X hK F H σ E C k => by
  refine ⟨v, E.ex hi, h X hK F H σ E _ fun u F1 H1 x l1 E1 r1 ⟨n, c, en, hc, q⟩ => ?_⟩
  subst en
  cases r1
  obtain ⟨a, e, hq⟩ := E1.script hi
  subst e
  refine .inl ⟨a, _, n, .int c, rfl, rfl, hq, ?_, k _ F1 H1 _ l1 E1 (.int _) q⟩
  unfold atI at hc ⊢
  rw [List.length_map]
  cases hx : ixN ns.length n with
  | none => rw [hx] at hc; cases hc
  | some j =>
    rw [hx] at hc
    simp only [Option.bind_some] at hc ⊢
    rw [List.getElem?_map, hc]
    rfl
end
end Pk
end
section
set_option Elab.async false
set_option linter.all false
set_option maxRecDepth 100000
namespace Pk
open PySem PySem.Spec PyProof.Rows L2
section
variable {K : Kw} {m mi : Bool} {Γ : List Sl} {Q : PyData → Prop} {QX : Sl → Prop} {ta tb te : TE} {wi : TI} {g : TG} {tt : TT} {vs : List Nat}
theorem WI.mono {QI QI' : List PyData → Prop} (h : WI K m Γ wi QI) (k : ∀ ds, QI ds → QI' ds) : WI K m Γ wi QI' := fun X hK F H σ E C c => h X hK F H σ E C fun J F' H' G Y ds l E' w a b q => c J F' H' G Y ds l E' w a b (k ds q)
theorem GJ.mono {N N' : List Sl → Prop} {d : PyData} (h : GJ K m Γ g d N) (k : ∀ Γ, N Γ → N' Γ) : GJ K m Γ g d N' := fun X hK F H σ E v r C c => h X hK F H σ E v r C fun F' H' σ' Γ' l E' q => c F' H' σ' Γ' l E' (k Γ' q)
/-- each item gives what R tells -/
theorem wx_lcF (m : Bool) (R : Nat → PyData → PyData → Prop) (hv : wipeOk Γ vs) (hgw : Gw g vs)
    (h : WI K mi Γ wi fun ds => ds.length ≤ 100000 ∧ (∀ (i : Nat) (d : PyData), ds[i]? = some d → GJ K mi (wipeG Γ vs) g d fun Γ2 => wipeG Γ2 vs = wipeG Γ vs ∧ WD K m Γ2 te (R i d)) ∧
      ∀ acc, acc.length = ds.length → (∀ (i : Nat) (d y : PyData), ds[i]? = some d → acc[i]? = some y → R i d y) → ∀ l, QX (.ml m l acc)) : WX K Γ (tLc wi g tYes te vs) QX :=
  wx_lc m hv hgw (h.mono fun ds ⟨hz, hs, he⟩ => ⟨fun n acc => acc.length = n ∧ ∀ (i : Nat) (d y : PyData), ds[i]? = some d → acc[i]? = some y → R i d y, hz, ⟨rfl, fun i d y _ e => by simp at e⟩,
    fun i d acc hd _ ⟨hl, ha⟩ => (hs i d hd).mono fun Γ2 ⟨e, w⟩ => ⟨e, wt_yes (by
      rw [if_pos rfl]
      refine w.mono fun y hy => ⟨by simp [hl], fun j d' y' h1 h2 => ?_⟩
      by_cases hj : j < acc.length
      · rw [List.getElem?_append_left hj] at h2
        exact ha j d' y' h1 h2
      · have hj2 : j < (acc ++ [y]).length := (List.getElem?_eq_some_iff.mp h2).1
        simp at hj2
        have hji : j = i := by omega
        subst hji
        rw [← hl] at h2
        simp at h2
        subst h2
        rw [hd] at h1
        cases h1
        exact hy)⟩,
    fun acc _ ⟨hl, ha⟩ l => he acc hl ha l⟩)
/-- .. of typed items -/
theorem wx_lcPa {α : Type} (m : Bool) (enc : α → PyData) (p : α → Bool) (f : α → PyData) (hv : wipeOk Γ vs) (hgw : Gw g vs)
    (h : WI K mi Γ wi fun ds => ∃ xs : List α, ds = xs.map enc ∧ xs.length ≤ 100000 ∧ (∀ (i : Nat) (x : α), xs[i]? = some x → GJ K mi (wipeG Γ vs) g (enc x) fun Γ2 => wipeG Γ2 vs = wipeG Γ vs ∧ WT K Γ2 tt fun b => b = p x ∧ (b = true → WD K m Γ2 te fun y => y = f x)) ∧ ∀ l, QX (.ml m l ((xs.filter p).map f))) : WX K Γ (tLc wi g tt te vs) QX :=
  wx_lc m hv hgw (h.mono fun ds ⟨xs, ed, hz, hs, he⟩ => by
    subst ed
    refine ⟨fun n acc => acc = ((xs.take n).filter p).map f, by simpa using hz, by simp, fun i d acc hd _ ha => ?_, fun acc _ ha l => ?_⟩
    · rw [List.getElem?_map] at hd
      cases hx : xs[i]? with
      | none => rw [hx] at hd; cases hd
      | some x =>
        rw [hx] at hd
        cases hd
        have ha : acc = ((xs.take i).filter p).map f := ha
        refine (hs i x hx).mono fun Γ2 ⟨e, w⟩ => ⟨e, w.mono fun b ⟨hb, hw⟩ => ?_⟩
        have ht : xs.take (i + 1) = xs.take i ++ [x] := by rw [List.take_add_one, hx]; rfl
        cases hp : b with
        | true =>
          rw [if_pos rfl]
          refine (hw hp).mono fun y hy => ?_
          show acc ++ [y] = ((xs.take (i + 1)).filter p).map f
          rw [ht, List.filter_append, List.map_append, ha, hy]
          rw [hb] at hp
          simp [hp]
        | false =>
          rw [if_neg Bool.false_ne_true]
          show acc = ((xs.take (i + 1)).filter p).map f
          rw [ht, List.filter_append, List.map_append, ha]
          rw [hb] at hp
          simp [hp]
    · have ha : acc = ((xs.take (xs.map enc).length).filter p).map f := ha
      rw [ha, List.length_map, List.take_length]
      exact he l)
theorem wx_lcMa {α : Type} (m : Bool) (enc : α → PyData) (f : α → PyData) (hv : wipeOk Γ vs) (hgw : Gw g vs)
    (h : WI K mi Γ wi fun ds => ∃ xs : List α, ds = xs.map enc ∧ xs.length ≤ 100000 ∧ (∀ (i : Nat) (x : α), xs[i]? = some x → GJ K mi (wipeG Γ vs) g (enc x) fun Γ2 => wipeG Γ2 vs = wipeG Γ vs ∧ WD K m Γ2 te fun y => y = f x) ∧ ∀ l, QX (.ml m l (xs.map f))) : WX K Γ (tLc wi g tYes te vs) QX :=
  wx_lcPa m enc (fun _ => true) f hv hgw (h.mono fun ds ⟨xs, ed, hz, hs, he⟩ => ⟨xs, ed, hz, fun i x hx => (hs i x hx).mono fun Γ2 ⟨e, w⟩ => ⟨e, wt_yes ⟨rfl, fun _ => w⟩⟩, fun l => by
    have : xs.filter (fun _ => true) = xs := by simp
    rw [this]
    exact he l⟩)
theorem wd_lcPa {α : Type} (enc : α → PyData) (p : α → Bool) (f : α → PyData) (hv : wipeOk Γ vs) (hgw : Gw g vs)
    (h : WI K mi Γ wi fun ds => ∃ xs : List α, ds = xs.map enc ∧ xs.length ≤ 100000 ∧ (∀ (i : Nat) (x : α), xs[i]? = some x → GJ K mi (wipeG Γ vs) g (enc x) fun Γ2 => wipeG Γ2 vs = wipeG Γ vs ∧ WT K Γ2 tt fun b => b = p x ∧ (b = true → WD K m Γ2 te fun y => y = f x)) ∧ Q (.list ((xs.filter p).map f))) : WD K m Γ (tLc wi g tt te vs) Q :=
  .ofX (wx_lcPa m enc p f hv hgw (h.mono fun ds ⟨xs, ed, hz, hs, q⟩ => ⟨xs, ed, hz, hs, fun l => ⟨_, toD_ml, q⟩⟩))
theorem wd_lcMa {α : Type} (enc : α → PyData) (f : α → PyData) (hv : wipeOk Γ vs) (hgw : Gw g vs)
    (h : WI K mi Γ wi fun ds => ∃ xs : List α, ds = xs.map enc ∧ xs.length ≤ 100000 ∧ (∀ (i : Nat) (x : α), xs[i]? = some x → GJ K mi (wipeG Γ vs) g (enc x) fun Γ2 => wipeG Γ2 vs = wipeG Γ vs ∧ WD K m Γ2 te fun y => y = f x) ∧ Q (.list (xs.map f))) : WD K m Γ (tLc wi g tYes te vs) Q :=
  .ofX (wx_lcMa m enc f hv hgw (h.mono fun ds ⟨xs, ed, hz, hs, q⟩ => ⟨xs, ed, hz, hs, fun l => ⟨_, toD_ml, q⟩⟩))
/-- an item of a list at a drawn place -/
theorem rd_sel {ds : List PyData} {n : Int} (h0 : 0 ≤ n) (h1 : n < ds.length) (q : ∀ d ∈ ds, Q d) : RD K m Γ (rIx K) (.list ds) (.int n) Q := by
  have hl : n.toNat < ds.length := by omega
  exact rd_ixL (d := ds[n.toNat]) (atI_of (n := n.toNat) (by omega) (by simp [hl])) (q _ (List.getElem_mem hl))
theorem rd_selN {ds : List PyData} {n : Int} (j : Nat) (e : n = j) {d : PyData} (h : ds[j]? = some d) (q : Q d) : RD K m Γ (rIx K) (.list ds) (.int n) Q := rd_ixL (atI_of e h) q
theorem gwn {i : Nat} : Gw (gName i) [i] := gw_name (by simp)
/-- over range, the slot's own name -/
theorem wi_rng {mi : Bool} {ta : TE} {QI : List PyData → Prop} (h : WD K false Γ ta fun d => ∃ j : Int, d = .int j ∧ (-(2 ^ 62) ≤ j ∧ j < 2 ^ 62) ∧ QI (rangeD 0 j.toNat)) : WI K mi Γ (iRng1 (tCons ta tNil)) QI := wi_rng1 (wa_d (h.mono fun d ⟨j, e, hj, q⟩ => wa_nil ⟨j, by rw [e], hj, q⟩))
end
end Pk
end
section
set_option Elab.async false
set_option linter.all false
set_option maxRecDepth 100000
namespace Pk
open PySem PySem.Spec PyProof.Rows L2
/-- the slots of others' things alone -/
def Sl.exo : Sl → Sl
  | .ex v Φ => match Φ.vw with
    | none => .ex v Φ
    | some _ => .no
  | _ => .no
section
variable {K : Kw} {Γ : List Sl} {P : Po}
open Classical in
end
end Pk
end
section
set_option Elab.async false
set_option linter.all false
set_option maxRecDepth 100000
namespace Pk
open PySem PySem.Spec PyProof.Rows L2
section
variable {K : Kw} {Γ : List Sl} {P : Po}
end
end Pk
end
section
set_option Elab.async false
set_option linter.all false
set_option maxRecDepth 100000
namespace Pk
open PySem PySem.Spec PyProof.Rows L2
section
variable {P : Program} {K : Kw} {mg : Str → Option Value} {base : Heap}
/-- a law's promise over data: of a script, the truth -/
def T_law (K : Kw) : List Sl → (Sl → Prop) → Prop := fun Γ Q => ∃ v ns, Γ = [.ex v (ScriptO K ns)] ∧ ns.length ≤ 63 ∧ Q (.dat true (.bool true))
theorem law_start {H : Hp} {a : Addr} {ns : List Int} {Q : VK} {E : XK} (hn : ns.length ≤ 63) (hS : SqL K H a (ns.map V.int)) (q : ∀ H', Q (.bl true) H') : spG K (T_law K) [.ref a] H Q E := by
  refine ⟨⟨K, fun _ => none, H, fun b => b = a, fun b => H b ≠ none⟩, fun _ => none, [.ex (.ref a) (ScriptO K ns)], fun s => s = .dat true (.bool true), rfl, rfl, rfl, fun _ => Iff.rfl, ?_, ⟨_, ns, rfl, hn, rfl⟩, ?_⟩
  · have hf : ∀ (b : Addr) (o : HO), H b = some o → ¬ b = a → H b = some o ∧ (none : Option HO) = none := fun b o e _ => ⟨e, rfl⟩
    rcases hS with hS | hS
    · refine ⟨fun _ _ z => (by cases z), rfl, ⟨fun i b => i = 0 ∧ b = a, fun i s e => ?_, fun i j b z1 z2 => z1.1.trans z2.1.symm, fun i b z => ⟨rfl, ?_, .inr z.2⟩⟩, hf, fun _ _ z => z, fun _ z => z⟩
      · cases i with
        | zero =>
          cases e
          exact ⟨rfl, rfl, a, rfl, .inl hS, .inl fun b => ⟨fun z => z.2, fun z => ⟨rfl, z⟩⟩⟩
        | succ i => simp at e
      · rw [z.2]
        rcases hS with h | ⟨o, h⟩ <;> rw [h] <;> simp
    · refine ⟨fun _ _ z => (by cases z), rfl, ⟨fun i b => False, fun i s e => ?_, fun i j b z1 z2 => z1.elim, fun i b z => z.elim⟩, hf, fun _ _ z => z, fun _ z => z⟩
      cases i with
      | zero =>
        cases e
        exact ⟨rfl, rfl, a, rfl, .inr hS, .inr ⟨fun H' => .inr hS, fun b z => z⟩⟩
      | succ i => simp at e
  · rintro F' H' v s _ E' rfl
    obtain ⟨S, hs, _, _⟩ := E'.sl
    obtain ⟨⟨u, e, r⟩, _⟩ := hs 1 _ rfl
    cases e
    cases r
    exact q H'
end
end Pk
end
section
set_option Elab.async false
set_option linter.all false
set_option maxRecDepth 100000
namespace Pk
open PySem PySem.Spec PyProof.Rows L2
abbrev XW := Value → Option Addr → L2.St → Hp → Prop
abbrev XQ := Value → Option Fs → Prop
/-- a promise over data of a def that may raise -/
def spX (K : Kw) (T : List Sl → (Sl → Prop) → XQ → Prop) : Sp := fun vs H Q E => ∃ (X : Bs) (F : Hp) (Γ : List Sl) (Qr : Sl → Prop) (Qe : XQ), X.K = K ∧ X.F0 = F ∧ X.H0 = H ∧ (∀ a, X.N a ↔ H a ≠ none) ∧ En X F H (vs.map some) Γ ∧ T Γ Qr Qe ∧
  (∀ F' H' v s, Le F F' → En X F' H' (vs.map some ++ [some v]) (Γ ++ [s]) → Qr s → Q v H') ∧ ∀ F' H' c o d, Le F F' → En X F' H' (vs.map some) Γ → FsAt F' o d → Qe c o → E c d H'
def retX (Γ : List Sl) (Qr : Sl → Prop) (Qe : XQ) (E : XK) : Po := { nx := fun Γ' => Keep Γ Γ' ∧ Qr (.dat true .none), rt := fun s Γ' => Keep Γ Γ' ∧ Qr s, W := fun c d _ H => E c d H, ex := fun c d Γ' => Keep Γ Γ' ∧ Qe c d }
section
variable {P : Program} {K : Kw} {mg : Str → Option Value} {base : Heap}
theorem len_x {T : List Sl → (Sl → Prop) → XQ → Prop} {n : Nat} (hl : ∀ Γ Qr Qe, T Γ Qr Qe → Γ.length = n) : ∀ vs H Q E, spX K T vs H Q E → vs.length = n := fun vs H Q E h => by
  obtain ⟨X, F, Γ, Qr, Qe, hK, hF, hH, hNN, E0, hT, k⟩ := h
  have := E0.len
  rw [List.length_map] at this
  rw [this]
  exact hl Γ Qr Qe hT
theorem body_x {N : List Str} {T : List Sl → (Sl → Prop) → XQ → Prop} {vs : List V} {H : Hp} {Q : VK} {E : XK} {t : TS} (h : spX K T vs H Q E) (hn : ∀ Γ Qr Qe, T Γ Qr Qe → NoMl Γ) (hj : ∀ Γ Qr Qe, T Γ Qr Qe → SJt K (Γ ++ List.replicate (N.length - Γ.length) .no) t (retX Γ Qr Qe E)) : t { nx := fun _ H' => Q .non H', rt := Q } (L2.start N vs) H := by
  obtain ⟨X, F, Γ, Qr, Qe, hK, hF, hH, hNN, E0, hT, k, kx⟩ := h
  have hl : vs.length = Γ.length := by simpa using E0.len
  have Ep := E0.pad (N.length - Γ.length)
  have es : L2.start N vs = vs.map some ++ List.replicate (N.length - Γ.length) none := by rw [L2.start, hl]
  rw [es]
  refine hj Γ Qr Qe hT X hK ⟨fun a => by rw [hH]; exact hNN a, by rw [hF, hH]; exact E0.le⟩ F H _ Ep _ ⟨fun F' H' σ' Γ' E' ⟨kp, q⟩ => ?_, fun F' H' σ' Γ' v s E' ⟨kp, q⟩ => ?_, fun _ _ _ _ _ z => z, fun _ _ _ _ _ z => z, fun F' H' σ' Γ' c o d E' ha ⟨kp, q⟩ => ?_⟩
  · exact k F' H' .non (.dat true .none) (by rw [← hF]; exact E'.f0) (E0.back hF (hn Γ Qr Qe hT) kp (E'.pushD .non)) q
  · exact k F' H' v s (by rw [← hF]; exact E'.drop.f0) (E0.back hF (hn Γ Qr Qe hT) kp E') q
  · exact kx F' H' c o d (by rw [← hF]; exact E'.f0) (E0.back (s := .dat true .none) hF (hn Γ Qr Qe hT) kp (E'.pushD .non)).drop ha q
/-- THE RULE for a def over data that may raise -/
theorem cal_x {x : Str} {st : Stmt} {N ps : List Str} {k : Nat} {T : List Sl → (Sl → Prop) → XQ → Prop} (D : Def K mg x st ps) (S : FnScope N ps (defScope st)) (hT : ∀ Γ Qr Qe, T Γ Qr Qe → Γ.length = ps.length ∧ NoMl Γ)
    (hb : ∀ (f : Addr) (cdv : Value) (A : Around) (outer : List Env) (s : Shared) (H : Hp) (E : XK), Room k (A.deeper (envOfC x (defScope st) s.heap.objs.size f cdv)) →
      ∃ t, PSs (cxOf (L2.CX P K.w) P K.w K mg base N x (defScope st) f cdv A outer s H E) (defBody st) t ∧ ∀ Γ Qr Qe, T Γ Qr Qe → SJt K (Γ ++ List.replicate (N.length - Γ.length) .no) t (retX Γ Qr Qe E)) : Cal P K.w K mg base (L2.CX P K.w) (k + 1) x ps (spX K T) := by
  obtain ⟨f, fd, a, F, b⟩ := D.ex
  refine ⟨f, fd, a, F.kp, b, F.okX S (len_x fun Γ Qr Qe h => (hT Γ Qr Qe h).1) fun cdv A outer s H vs Q E hr h => ?_⟩
  obtain ⟨t, ht, hj⟩ := hb f cdv A outer s H E hr
  exact ⟨t, ht, body_x h (fun Γ Qr Qe z => (hT Γ Qr Qe z).2) hj⟩
end
/-- an expression, under what an exception is let out to -/
def WXw (K : Kw) (W : XW) (ex : Value → Option Fs → List Sl → Prop) (Γ : List Sl) (t : TE) (Q : Sl → Prop) : Prop := ∀ X : Bs, X.K = K → (∀ F H σ Γ c o d, En X F H σ Γ → FsAt F o d → ex c o Γ → W c d σ H) → ∀ F H σ, En X F H σ Γ → ∀ C : VK,
  (∀ v F' H' s, Le F F' → En X F' H' (σ ++ [some v]) (Γ ++ [s]) → Q s → C v H') → t σ H C
section
variable {K : Kw} {W : XW} {ex : Value → Option Fs → List Sl → Prop} {Γ : List Sl} {Q : Sl → Prop} {T : List Sl → (Sl → Prop) → XQ → Prop} {tr : TA} {te ta tb : TE} {P : Po}
theorem wxw_call (h : WA K false Γ tr fun as => AgsGood Γ as ∧ T (as.map (Ag.sl Γ)) Q fun c d => ex c d Γ) : WXw K W ex Γ (tCallS (spX K T) (WE W) tr) Q := fun X hK hx F H σ E C k =>
  h X hK F H σ E _ fun vs F1 H1 as l1 E1 r1 ⟨hg, hT⟩ => by
    obtain ⟨X1, a, b, c, d, e, f⟩ := call_sp hK E1 r1 hg
    exact ⟨X1, F1, _, Q, _, a, b, c, d, e, hT, fun F' H' v s lf E' q => k v F' H' s (l1.tr lf) (f F' H' v s lf E') q,
      fun F' H' cl o d lf E' ha q => hx F' H' σ Γ cl o d ((f F' H' .non (.dat true .none) lf (E'.pushD .non)).drop) ha q⟩
theorem wxw_call2 (h : WD K false Γ ta fun x => WD K false Γ tb fun y => T [.dat false x, .dat false y] Q fun c d => ex c d Γ) : WXw K W ex Γ (tCallS (spX K T) (WE W) (tCons ta (tCons tb tNil))) Q := wxw_call (wa_d (h.mono fun x h => wa_d (h.mono fun y q => wa_nil ⟨agsGood_d rfl, q⟩)))
theorem sj_setW {i : Nat} (h : WXw K P.W P.ex Γ te fun s => P.nx (Γ.set i s)) : SJ K Γ (tAsg te (gName i)) P := fun X hK F H σ E D hD =>
  h X hK hD.xc F H σ E _ fun v F1 H1 s l1 E1 q => hD.nx F1 H1 _ _ (E1.put i) q
theorem sj_dropW (h : WXw K P.W P.ex Γ te fun _ => P.nx Γ) : SJ K Γ (tDrop te) P := fun X hK F H σ E D hD =>
  h X hK hD.xc F H σ E _ fun v F1 H1 s l1 E1 q => hD.nx F1 H1 _ _ E1.drop q
/-- raise C('..') -/
def tRaiseW (W : XW) (C : Addr) : TS := fun _ σ H => W (.ref C) none σ H
theorem sj_raise {C : Addr} (q : P.ex (.ref C) none Γ) : SJ K Γ (tRaiseW P.W C) P := fun X hK F H σ E D hD => hD.xc F H σ Γ _ none none E rfl q
end
end Pk
end
section
set_option Elab.async false
set_option linter.all false
set_option maxRecDepth 100000
namespace Pk
open PySem PySem.Spec PyProof.Rows L2
/-- an exception of the class cls that was caught -/
def ExH (cls : Value) (d : Option Addr) (a : Addr) : HO := .ext fun h => ∃ (oe : Obj) (vs : Array Value), h.get? a = some oe ∧ Zc cls d oe ∧ oe.data = .fields vs
theorem exH_ok {P : Program} {w : World} {H : Hp} {h : Heap} {a : Addr} {cls : Value} {d : Option Addr} {oe : Obj} {vs : Array Value} (e : h.get? a = some oe) (z : Zc cls d oe) (q : oe.data = .fields vs) : ObjOk P w H h a (ExH cls d a) :=
  ⟨⟨oe, vs, e, z, q⟩, ⟨oe, e⟩, fun h1 h2 ⟨o, v, q1, q2⟩ k => ⟨o, v, k o q1, q2⟩⟩
section
variable {X : Cx} {pins : List (Addr × Obj)} {σ : L2.St} {H : Hp} {s : Shared}
/-- a pinned exception, new since the entry, is told of in the abstract heap -/
theorem inv_track {a : Addr} {oe : Obj} {vs : Array Value} {cls : Value} {d : Option Addr} (I : Inv X pins σ H s) (ha : s.heap.get? a = some oe) (na : H a = none) (nl : a ≠ X.env.locals) (nc : ∀ v, oe.data ≠ .cell v) (n0 : X.s_0.heap.get? a = none) (np : ∀ p ∈ X.pn ++ pins, p.1 ≠ a)
    (z : Zc cls d oe) (hd : oe.data = .fields vs) : Inv X pins σ (upd H a (ExH cls d a)) s := by
  have ne : ∀ {b : Addr}, b ≠ a → upd H a (ExH cls d a) b = H b := fun h => upd_ne h
  have B := I.base
  refine ⟨I.ok, I.os, I.bare, ⟨B.keep, B.slot, fun b o q1 q2 q3 => ?_, B.there, fun b xs q => ?_, fun b o u q => ?_, fun b ps q => ?_⟩, I.loc, I.cell, ?_, fun x c q => ?_, fun p hp => ?_, ?_, I.len⟩
  · rw [ne fun z => by rw [z, n0] at q1; cases q1]; exact B.free b o q1 q2 q3
  · have := B.tups b xs q
    rw [ne fun z => by rw [z, na] at this; cases this]; exact this
  · have := B.frzs b o u q
    rw [ne fun z => by rw [z, na] at this; cases this]; exact this
  · obtain ⟨more, this⟩ := B.tbls b ps q
    exact ⟨more, by rw [ne fun z => by rw [z, na] at this; cases this]; exact this⟩
  · rw [ne (Ne.symm nl)]; exact I.free
  · obtain ⟨v, hv⟩ := I.cell x c q
    rw [ne fun z => by
      subst z
      obtain ⟨o, q1, q2⟩ := hv
      rw [ha] at q1
      cases q1
      exact nc _ q2]
    exact I.freeC x c q
  · obtain ⟨a1, a2, a3⟩ := I.pin p hp
    exact ⟨a1, by rw [ne (np p hp)]; exact a2, a3⟩
  · exact I.hok.laidN (fun _ _ q => q) na (exH_ok ha z hd)
end
/-- what the clause wishes; behind its suite the exception at a stands in the abstract heap -/
def wKeep (K : PySem.W.Frag) (c : Value) (i : Nat) (ts : Addr → TS) (Wout : XW) (D : Ends) : XW := fun cls d σ H =>
  ∃ b, PySem.W.exmOne K cls c = some b ∧ (b = true → ∀ a, H a = none → ts a { nx := fun σ' H' => H' a = none → D.nx (σ'.set i none) (upd H' a (ExH cls d a)), rt := fun _ _ => False } (σ.set i (some (.ref a))) H) ∧ (b = false → Wout cls d σ H)
section
variable {X : Cx} {x n : Str} {c : Value} {i : Nat} {body suite : List Stmt} {b₀ : Stmt} {np pos pos' : Pos} {tb : XW → TS} {ts : Addr → TS} {Wout : XW}
theorem ps_try_kept (hst : X.stack = X.env :: X.outer) (hfm : X.env.frame = some X.env.locals) (hex : X.ex = []) (hnd : X.N.Nodup) (hix : X.N[i]? = some n) (hkd : X.env.kindOf n = some .local) (hnm : Names X x c) (tko : Takes X Wout)
    (hbd : ∀ (W : XW) (pn : List (Addr × Obj)) (xe : Value → Shared → Prop), Takes (X.tr pn xe) W → PassesOwn (model X.prog X.w) X.A X.env xe → PSs (X.tr pn xe) body (tb W))
    (hsx : ∀ (a : Addr) (pn : List (Addr × Obj)), PSs (X.suite a pn) (b₀ :: suite) (ts a)) :
    PS X (.Try body [.ExceptHandler (some (.Name x np)) (some n) (b₀ :: suite) pos'] [] [] pos) (fun D σ H => tb (wKeep X.K c i ts Wout D) D σ H) := by
  refine ⟨fun pins s σ H D I hw => ?_⟩
  have fr : X.A.frames = some (X.env :: X.outer) := by rw [I.ok.frames, hst]
  refine wpAny_Try_except (wpAny_mono ((hbd (wKeep X.K c i ts Wout D) (X.pn ++ pins) (fun ev t₁ => wpAny (model X.prog X.w) X.A (noteFrame ev X.env) (fun _ t₂ => wpAny (model X.prog X.w) X.A (setFlight ev none)
    (fun _ t₃ => wpAny (model X.prog X.w) X.A (handleBy ev X.env [.ExceptHandler (some (.Name x np)) (some n) (b₀ :: suite) pos']) (SP X pins D) X.xe t₃) X.xe t₂) X.xe t₁) (fun u t ht => ?_) PassesOwn.looking).run [] s σ H D (I.toTry _) hw) (fun fl t ht => ?_) fun _ _ z => z)
  · obtain ⟨a, B, tI, qn, τ, G, cl, dd, rfl, JT, hB, hU, hY, nG, eO, eG, yes, eY, hY1, hN1⟩ := ht
    have J0 : Inv X pins τ G tI := JT.ofTry I.ok
    rw [hst] at hB
    have hY' : Sky B (X.env :: X.outer) a (Zc cl dd) X.env.locals t.heap := hst ▸ hY
    show wpAny (model X.prog X.w) X.A (noteFrame (.ref a) X.env) _ _ _
    refine Sky.land Zc.steady fr hfm hY' fun g fg ug => ?_
    have hBs : ∀ b o, tI.heap.get? b = some o → b ∉ frs X.stack → B.get? b = some o := fun b o q1 q2 => hB b o q1 (hst ▸ q2)
    have J1 : Inv X pins τ G { t with heap := g } := J0.landed hBs fg.1 (hU.trans ug) eO eG
    obtain ⟨og, vg, eg, zg, dg⟩ := fg.there
    have nfr : a ∉ frs (X.env :: X.outer) := fun hm => by
      obtain ⟨_, o', e', hnf⟩ := fg.2.2.1.mem hm
      rw [eg] at e'
      cases e'
      exact hnf _ dg
    have nLoc : a ≠ X.env.locals := fun z => nfr (List.mem_filterMap.mpr ⟨X.env, List.mem_cons_self, by rw [hfm, z]⟩)
    have nFs : a ∉ X.fs := fun hm => by
      obtain ⟨v, hv, q⟩ := List.mem_filterMap.mp hm
      exact nfr (List.mem_filterMap.mpr ⟨v, List.mem_cons_of_mem _ hv, q⟩)
    -- it is new
    have newI : tI.heap.get? a = none := by
      cases q : tI.heap.get? a with
      | none => rfl
      | some o =>
        have := hB a o q nfr
        rw [fg.2.1] at this
        cases this
    have new0 : X.s_0.heap.get? a = none := by
      cases q : X.s_0.heap.get? a with
      | none => rfl
      | some o =>
        obtain ⟨o', q'⟩ := J0.base.there a o q (by rw [hex]; exact fun z => by cases z)
        rw [newI] at q'
        cases q'
    have npin : ∀ p ∈ X.pn ++ pins, p.1 ≠ a := fun p hp z => by
      have := (J0.pin p hp).1
      rw [z, newI] at this
      cases this
    refine wpAny_handleBy_cons (codeAny_handlers_test ?_) (by intro q; cases q)
    have lk : PySem.W.Looks (model X.prog X.w) g (typeOf (.ref a)) cl := fun _ _ _ _ k q => wpAny_typeOf_ref (k _ _ eg) (by rw [zg.1]; exact q)
    have look := PySem.W.exm_one (M := model X.prog X.w) J1.kIn lk eY
    have S1 := J1.suite eg dg nG nLoc nFs
    have ask : ∀ {Q : Value → Shared → Prop} {E : Value → Shared → Prop}, Q c { t with heap := g } → wpAny (model X.prog X.w) (X.A.mark (some (.ref a))) (eval (.Name x np) X.env) Q E { t with heap := g } := fun {Q E} q => by
      obtain ⟨g1, g2, g3 | ⟨g3, g4, g5⟩⟩ := hnm
      · exact ld_glob (X := X.suite a ((a, og) :: (X.pn ++ pins))) S1 g1 g3 q g2
      · exact ld_blt (X := X.suite a ((a, og) :: (X.pn ++ pins))) S1 g1 g3 g4 q g5 g2
    refine ask (look.here ?_)
    cases yes with
    | true =>
      refine codeAny_handlers_suite_as (HandSPX.lands_againZ fg fun g2 f2 u2 => ?_)
      have J2 : Inv X pins τ G { t with heap := g2 } := J0.landed hBs f2.1 ((hU.trans ug).trans u2) eO eG
      obtain ⟨o2, v2, e2, z2, d2⟩ := f2.there
      refine store_ok (X := X.suite a ((a, o2) :: (X.pn ++ pins))) (v := .ref a) (J2.suite e2 d2 nG nLoc nFs) hnd hix (.inl hkd) rfl (fun t3 S3 => ?_) (.inr hkd)
      refine wpAny_mono ((hsx a ((a, o2) :: (X.pn ++ pins))).run [] t3 _ G _ S3 (hY1 rfl a nG)) (fun fl t4 h4 => ?_) fun _ _ z => z.elim
      cases fl with
      | next =>
        obtain ⟨τ4, G4, S4, q4⟩ := h4
        obtain ⟨p1, p2, p3, p4, p5⟩ := S4.pin (a, o2) (List.mem_append_left _ List.mem_cons_self)
        have K4 : Inv X ((a, o2) :: pins) τ4 G4 t4 := ⟨I.ok, S4.os, S4.bare, S4.base, S4.loc, S4.cell, S4.free, S4.freeC, fun p hp => S4.pin p (by
          rcases List.mem_append.mp hp with z | z
          · exact List.mem_append_left _ (List.mem_cons_of_mem _ (List.mem_append_left _ z))
          · rcases List.mem_cons.mp z with z | z
            · rw [z]; exact List.mem_append_left _ List.mem_cons_self
            · exact List.mem_append_left _ (List.mem_cons_of_mem _ (List.mem_append_right _ z))), S4.hok, S4.len⟩
        refine gone_ok K4 hnd hix hkd fun t5 K5 => ?_
        obtain ⟨r1, r2, r3, r4, r5⟩ := K5.pin (a, o2) (List.mem_append_right _ List.mem_cons_self)
        have K6 : Inv X pins (τ4.set i none) G4 t5 := ⟨K5.ok, K5.os, K5.bare, K5.base, K5.loc, K5.cell, K5.free, K5.freeC, fun p hp => K5.pin p (by
          rcases List.mem_append.mp hp with z | z
          · exact List.mem_append_left _ z
          · exact List.mem_append_right _ (List.mem_cons_of_mem _ z)), K5.hok, K5.len⟩
        exact ⟨_, _, inv_track K6 r1 r2 r3 r5 new0 npin z2 d2, q4 p2⟩
      | brk => obtain ⟨_, _, _, z⟩ := h4; exact z.elim
      | cont => obtain ⟨_, _, _, z⟩ := h4; exact z.elim
      | ret u => obtain ⟨_, _, _, _, _, z⟩ := h4; exact z.elim
    | false =>
      show wpAny _ X.A (handleBy (.ref a) X.env []) _ _ _
      refine wpAny_handleBy_nil ?_
      obtain ⟨k1, k2, k3, oz, vz, T, oT, tz, w1, w2, w3, w4, w5⟩ := id fg
      unfold PySem.passOn
      refine wpAny_bind (wpAny_field w1 w3 w4 ?_)
      rw [if_neg (show ¬ ((Value.ref T == Value.none) = true) by simp)]
      have last : wpAny (model X.prog X.w) X.A (setFlight (.ref a) X.env.frame) (fun _ t6 => wpAny (model X.prog X.w) X.A (throw (.ref a) : Sem Flow) (SP X pins D) X.xe t6) X.xe { t with heap := g } := by
        rw [hfm]
        refine HandSPX.setFlight_upZ fg fun g6 f6 u6 => wpAny_throw (tko _ _ ?_)
        exact ⟨a, B, tI, pins, τ, G, cl, dd, rfl, J0, hBs, (hU.trans ug).trans u6, .inr (.inr (by rw [hst]; exact f6)), nG, eO, eG, hN1 rfl⟩
      first
        | exact wpAny_bind (wpAny_pure (wpAny_bind last))
        | exact wpAny_bind last
  · cases fl with
    | next => obtain ⟨τ, G, J, q⟩ := ht; exact wpAny_execs_nil ⟨τ, G, J.ofTry I.ok, q⟩
    | brk => obtain ⟨τ, G, J, q⟩ := ht; exact ⟨τ, G, J.ofTry I.ok, q⟩
    | cont => obtain ⟨τ, G, J, q⟩ := ht; exact ⟨τ, G, J.ofTry I.ok, q⟩
    | ret u => obtain ⟨v, τ, G, J, r, q⟩ := ht; exact ⟨v, τ, G, J.ofTry I.ok, r, q⟩
end
end Pk
end
section
set_option Elab.async false
set_option linter.all false
set_option maxRecDepth 100000
namespace Pk
open PySem PySem.Spec PyProof.Rows L2
def dIsN : R2 := fun x y H Q => y = .non ∧ Q (.bl (decide (x = .non))) H
def isNo : PyData → Bool
  | .none => true
  | _ => false
theorem isNo_of {K : Kw} {F : Hp} {v : V} {d : PyData} (r : Rp K F v d) : decide (v = .non) = isNo d := by
  cases r <;> simp [isNo]
section
variable {K : Kw} {m : Bool} {Γ : List Sl} {Q : PyData → Prop} {QT : Bool → Prop} {te : TE}
theorem wd_isN (h : WD K false Γ te fun d => Q (.bool (isNo d))) : WD K m Γ (tOp dIsN te (tC .non)) Q := fun X hK F H σ E C k =>
  h X hK F H σ E _ fun v F1 H1 d l1 E1 r q => ⟨rfl, k _ F1 H1 _ l1 E1 (by rw [isNo_of r]; exact .bl _) q⟩
/-- .. of a thing of one's own -/
theorem wd_isNo {i : Nat} {a : Addr} {Φ : Own} (hi : Γ[i]? = some (.ex (.ref a) Φ)) (q : Q (.bool false)) : WD K m Γ (tOp dIsN (tVar i) (tC .non)) Q := fun X hK F H σ E C k =>
  ⟨_, E.ex hi, rfl, k _ F H _ Le.rfl' E (.bl false) q⟩
end
def ExcO (K : Kw) (D : Addr) : Own where
  K := K
  p := fun _ H v S => ∃ a, v = .ref a ∧ H a = some (ExH (.ref D) none a) ∧ ∀ b, S b ↔ b = a
  vw := none
  keep := fun {F F' H H' v S} ⟨a, e, h, c⟩ _ k => ⟨a, e, (k a ((c a).mpr rfl)).trans h, c⟩
  keepT := fun _ {F F' H H' v S} ⟨a, e, h, c⟩ _ k => ⟨a, e, (k a ((c a).mpr rfl)).trans h, c⟩
  view := fun _ _ e => nomatch e
/-- try: .. except X as n: y = n -/
def tTryKeep (K : PySem.W.Frag) (c : Value) (i j : Nat) (tb : XW → TS) (Wout : XW) : TS := fun D σ H => tb (wKeep K c i (fun _ => tAsg (tVar i) (gName j)) Wout D) D σ H
section
variable {K : Kw} {m : Bool} {Γ : List Sl} {P : Po} {Q : PyData → Prop}
theorem sj_tryKeep {c : Value} {i j : Nat} {tb : XW → TS} (hij : i ≠ j)
    (h : ∀ W : XW, SJ K Γ (tb W) { P with W := W, ex := fun cls d Γ' => ∃ b, PySem.W.exmOne K cls c = some b ∧ (b = true → ∃ D, cls = .ref D ∧ d = none ∧ j < Γ'.length ∧ Γ'[i]? = some .no ∧ ∀ a, P.nx (Γ'.set j (.ex (.ref a) (ExcO K D)))) ∧ (b = false → P.ex cls d Γ') }) : SJ K Γ (tTryKeep K c i j tb P.W) P := fun X hK F H σ E D hD =>
  h _ X hK F H σ E D ⟨hD.nx, hD.rt, hD.bk, hD.ct, fun F' H' σ' Γ' cls o d E' ha ⟨b, e, h1, h2⟩ => ⟨b, e, fun hb a na => by
    obtain ⟨C, rfl, rfl, hj, hi, q⟩ := h1 hb
    have ha' : d = none := ha
    subst ha'
    have hil : i < σ'.length := by rw [E'.len]; exact (List.getElem?_eq_some_iff.mp hi).1
    have push : En X F' (upd H' a (ExH (.ref C) none a)) (σ' ++ [some (.ref a)]) (Γ' ++ [.ex (.ref a) (ExcO K C)]) :=
      E'.pushG (T := fun b => b = a) Le.rfl' (E'.le.new (E'.le.nn na)) (fun b o q => by rw [upd_ne (ne_of_none q na)]; exact q) (fun _ _ _ => rfl)
        ⟨rfl, hK.symm, a, rfl, upd_same, fun _ => Iff.rfl⟩ (fun b e => by subst e; exact ⟨na, E'.le.nn na, by rw [upd_same]; simp⟩)
    have put := push.put j
    have back : En X F' (upd H' a (ExH (.ref C) none a)) ((σ'.set j (some (.ref a))).set i none) (Γ'.set j (.ex (.ref a) (ExcO K C))) := by
      have hset : Γ'.set j (.ex (.ref a) (ExcO K C)) = (Γ'.set j (.ex (.ref a) (ExcO K C))).set i .no := by
        apply List.ext_getElem?
        intro k
        by_cases hk : i = k
        · subst hk
          have hl : i < (Γ'.set j (.ex (.ref a) (ExcO K C))).length := by rw [List.length_set, ← E'.len]; exact hil
          rw [List.getElem?_set_self hl, List.getElem?_set_ne hij.symm, hi]
        · rw [List.getElem?_set_ne hk]
      rw [hset]
      have : En X F' (upd H' a (ExH (.ref C) none a)) (σ'.set j (some (.ref a)) ++ [none]) (Γ'.set j (.ex (.ref a) (ExcO K C)) ++ [.no]) :=
        put.pushG (T := fun _ => False) Le.rfl' put.le (fun _ _ q => q) (fun _ _ _ => rfl) (fun _ z => z) (fun _ z => z.elim)
      exact this.put i
    refine ⟨.ref a, by rw [List.getElem?_set_self hil], fun _ => ?_⟩
    have e2 : ((σ'.set i (some (V.ref a))).set j (some (V.ref a))).set i none = (σ'.set j (some (.ref a))).set i none := by
      rw [List.set_comm _ _ hij.symm, List.set_set, List.set_comm _ _ hij]
    show D.nx (((σ'.set i (some (V.ref a))).set j (some (V.ref a))).set i none) (upd H' a (ExH (.ref C) none a))
    rw [e2]
    exact hD.nx F' _ _ _ back (q a), fun hb => hD.xc F' H' σ' Γ' cls o d E' ha (h2 hb)⟩⟩
end
def rIsX (K : PySem.W.Frag) : List V → Hp → VK → Prop := fun xs H Q => ∃ (a D : Addr) (c : V) (u : Value) (b : Bool), xs = [.ref a, c] ∧ H a = some (ExH (.ref D) none a) ∧ ExcC K D ∧ ClsV c u ∧ PySem.W.kitOne K (.ref D) u = some b ∧ Q (.bl b) H
theorem inst_of {X : Cx} {pins : List (Addr × Obj)} {σ : L2.St} {H : Hp} {s : Shared} {a D : Addr} (I : Inv X pins σ H s) (h : H a = some (ExH (.ref D) none a)) : ∃ oe, PySem.W.InstAt s.heap a oe D none := by
  obtain ⟨⟨⟨oc, od, oda, osl⟩, vs, e, ⟨z1, z2⟩, d⟩, _⟩ := (show ObjOk X.prog X.w H s.heap a (ExH (.ref D) none a) from I.hok a _ h)
  dsimp only at z1 z2 d
  subst z1 z2 d
  exact ⟨_, e, rfl, rfl, trivial⟩
theorem call_isX {X : Cx} : CallR X (.builtin "isinstance") (rIsX X.K) := by
  intro pins s σ H xs us Q I r h
  obtain ⟨a, D, c, u, b, rfl, ha, C, k, e, q⟩ := h
  obtain ⟨u1, u2, rfl, r1, r2⟩ := vals2 r
  cases (show u1 = Value.ref a from r1)
  cases k.eq r2
  obtain ⟨oe, J⟩ := inst_of I ha
  exact PySem.W.kia_one (PySem.W.handS_kitx_exc C.hg C.hk C.hs C.hd C.ha C.hn C.ht C.hm) I.kIn J e (fun z => nomatch z) fun tk => ⟨.bl b, H, I.tok tk, rfl, q⟩
/-- .. of data or of an exception -/
def rIs (K : PySem.W.Frag) : List V → Hp → VK → Prop := fun xs H Q => rIsD K xs H Q ∨ rIsX K xs H Q
theorem call_is {X : Cx} : CallR X (.builtin "isinstance") (rIs X.K) := CallR.or call_isD call_isX
section
variable {K : Kw} {m : Bool} {Γ : List Sl} {Q : PyData → Prop}
theorem wd_isX {i : Nat} {v : V} {D : Addr} {c : V} {u : Value} {b : Bool} (hi : Γ[i]? = some (.ex v (ExcO K D))) (C : ExcC K D) (hc : ClsV c u) (hk : PySem.W.kitOne K (.ref D) u = some b) (q : Q (.bool b)) : WD K m Γ (tCB (rIs K) (tCons (tVar i) (tCons (tC c) tNil))) Q := fun X hK F H σ E X' k => by
  obtain ⟨S, hs, _, _⟩ := E.sl
  obtain ⟨_, _, a, e, h, _⟩ := hs i _ hi
  subst e
  exact ⟨_, E.ex hi, .inr ⟨a, D, c, u, b, rfl, h, C, hc, hk, k _ F H _ Le.rfl' E (.bl b) q⟩⟩
end
structure ExcT (K : PySem.W.Frag) (mg : Str → Option Value) (x : Str) (C : Addr) : Prop where
  g : mg x = some (.ref C)
  q : PySem.W.excIn K C He.veBase "ValueError.__new__" = true
  k : PySem.W.keepIn K (.ref C) = true
  s : PySem.W.subIn K (.ref C) (.type "BaseException") = some true
  t : PySem.W.typeIn K (.ref C) = some (.type "type")
  c : ExcC K C
end Pk
namespace Pk
open PySem PySem.Spec PyProof.Rows L2
section
variable {X : Cx} {k : Nat} {x : Str} {ps : List Str} {sp : Sp} {W : XW} {p pos : Pos} {e : Expr} {es : List Expr} {t : TA}
/-- f(e, ..), where f may raise -/
theorem pe_cx (c : Cal X.prog X.w X.K X.mg X.base (L2.CX X.prog X.w) k x ps sp) (hr : Room k X.A) (hg : Gl X x) (tk : Takes X W) (ha : PA X (e :: es) t) (hdb : (x == ("__debug__" : Str)) = false := by decide) (he : starEach (e :: es) X.env = (false, eval e X.env) :: starEach es X.env := by rfl) (hpl : ((backTo pos (starEach es X.env)).any fun x => x.fst) = false := by rfl) : PE X (.Call (.Name x p) (e :: es) [] pos) (tCallS sp (WE W) t) := by
  obtain ⟨f, fd, a, b, d, F⟩ := c.ex
  exact pe_callS F hr hg a b d (fun σ => passAt tk σ) ha hdb he hpl
/-- raise C('..') -/
theorem ps_rs {C : Addr} {m : Str} {j : Nat} {p2 : Pos} {pos' : Pos} (hc : X.calm = true) (tk : Takes X W) (T : ExcT X.K X.mg x C) (hg : Gl X x) (hdb : (x == ("__debug__" : Str)) = false := by decide) : PS X (.Raise (some (.Call (.Name x p) [.Constant (.str m) j p2] [] pos)) none pos') (tRaiseW W C) :=
  ps_raise hc tk (pmk_own PySem.F.excBase_ValueError T.q T.g T.k (raises_own T.s T.t) hg hdb)
end
def obsB (n : Nat) (fa : List He.Fa) (fn : List He.DefD) (ex : PySem.W.Frag → Bool) (g : Addr → Option Obj) : He.AlD × Bool := (He.obsDG n fa fn g, ex (He.frG g (He.asD g n)))
def hookB (n : Nat) (fa : List He.Fa) (fn : List He.DefD) (ex : PySem.W.Frag → Bool) : PySem.W.Hook where
  α := He.AlD × Bool
  obs := fun s => obsB n fa fn ex s.heap.get?
  val := fun _ => (He.valD fn, true)
  says := fun _ h => ∃ K : PySem.W.Frag, K.In h ∧ He.SaysD fa fn K ∧ ex K = true
  of := fun _ s e => ⟨He.frG s.heap.get? (He.asD s.heap.get? n), He.frG_in, by have h := congrArg Prod.fst e; exact h, by have h := congrArg Prod.snd e; exact h⟩
  keeps := fun _ _ _ ⟨K, hK, c⟩ k => ⟨K, PySem.W.Frag.In.keeps hK k, c⟩
theorem obsB_eq {n : Nat} {fa : List He.Fa} {fn : List He.DefD} {ex : PySem.W.Frag → Bool} {g : Addr → Option Obj} {s : Shared} (h : ∀ a, g a = s.heap.get? a) : obsB n fa fn ex g = (hookB n fa fn ex).obs s := by
  have e : g = s.heap.get? := funext h
  rw [e]
  rfl
/-- an exception's class, as a Bool -/
def excB (K : PySem.W.Frag) (x : Str) : Bool := PySem.W.excIn K (He.ga K x) He.veBase "ValueError.__new__" && PySem.W.keepIn K (.ref (He.ga K x)) && decide (PySem.W.subIn K (.ref (He.ga K x)) (.type "BaseException") = some true) && decide (PySem.W.typeIn K (.ref (He.ga K x)) = some (.type "type")) &&
  He.eqO (PySem.W.findIn K (.ref (He.ga K x)) "__getattribute__") (some (some (.builtin "BaseException.__getattribute__"))) && He.eqO (PySem.W.findIn K (.ref (He.ga K x)) "__getattr__") (some none) && PySem.W.hasDictIn K (He.ga K x) && He.eqO (PySem.W.findIn K (.ref (He.ga K x)) "__class__") (some (some (.builtin "object.__class__"))) &&
  He.eqO (PySem.W.specialIn K (.builtin "object.__class__") "__get__") (some (some (.builtin "getset_descriptor.__get__"))) && decide (PySem.W.takesIn K (.builtin "object.__class__") = some true) && decide (PySem.W.mroIn K (He.ga K x) (.type "object") = some true)
theorem excB_ok {K : PySem.W.Frag} {mg : Str → Option Value} {x : Str} (h : excB K x = true) (g : mg x = some (.ref (He.ga K x))) : ExcT K mg x (He.ga K x) := by
  simp only [excB, Bool.and_eq_true, decide_eq_true_eq] at h
  obtain ⟨⟨⟨⟨⟨⟨⟨⟨⟨⟨h1, h2⟩, h3⟩, h4⟩, h5⟩, h6⟩, h7⟩, h8⟩, h9⟩, h10⟩, h11⟩ := h
  exact ⟨g, h1, h2, h3, h4, ⟨He.eqO_ok h5, He.eqO_ok h6, h3, h7, He.eqO_ok h8, He.eqO_ok h9, h10, h11⟩⟩
end Pk
end
section
set_option Elab.async false
set_option linter.all false
set_option maxRecDepth 100000
namespace Pk
open PySem PySem.Spec PyProof.Rows L2
section
variable {X : Bs} {F H : Hp} {σ : L2.St} {Γ : List Sl}
end
section
variable {K : Kw} {m : Bool} {Γ : List Sl} {P : Po} {Q : PyData → Prop} {te : TE}
theorem wd_lenM {i : Nat} {m' : Bool} {l : Addr} {ds : List PyData} (hi : Γ[i]? = some (.ml m' l ds)) (q : Q (.int ds.length)) : WD K m Γ (tCB (dLen K) (tCons (tVar i) tNil)) Q := fun X hK F H σ E C k => by
  subst hK
  obtain ⟨xs, e, hl, fl, rx⟩ := E.ml hi
  exact ⟨_, e, _, ds.length, rfl, .inl ⟨_, SqL.of hl, rx.length.symm⟩, k _ F H _ Le.rfl' E (.int _) q⟩
end
end Pk
end
section
set_option Elab.async false
set_option linter.all false
set_option maxRecDepth 100000
namespace Pk
open PySem PySem.Spec PyProof.Rows L2
section
variable {K : Kw} {m : Bool} {Γ : List Sl} {Q : PyData → Prop} {ta tb : TE}
end
end Pk
end
section
set_option Elab.async false
set_option linter.all false
set_option maxRecDepth 100000
set_option maxHeartbeats 1000000
namespace Pz
open PySem PySem.Spec PyProof.Rows L2
/-- an iterator over the things at l, at turn k -/
structure Nx (prog : Program) (w : World) (it l : Addr) (its : Array Value) (St : Nat → Heap → Prop) : Prop where
  item : ∀ {A : Around} {E : Value → Shared → Prop} {s : Shared} {k : Nat} {x : Value} {Q : Value → Shared → Prop}, St k s.heap → its[k]? = some x → (∀ g, St (k + 1) g → Heap.SameBut it s.heap g → Q x { s with heap := g }) → wpAny (model prog w) A (Builtin.SmallTypes.nextOf (.ref it)) Q E s
  stop : ∀ {A : Around} {E : Value → Shared → Prop} {s : Shared} {k : Nat} {Q : Value → Shared → Prop}, A.handled = none → St k s.heap → its[k]? = none → (∀ g e, Heap.ExtBut it s.heap g → (∃ o, g.get? e = some o ∧ o.cls = .type "StopIteration") → E (.ref e) { s with heap := g }) → wpAny (model prog w) A (Builtin.SmallTypes.nextOf (.ref it)) Q E s
  fr : ∀ {k : Nat} {h g : Heap}, St k h → (∀ c o, c = it ∨ c = l → h.get? c = some o → g.get? c = some o) → St k g
  obj : ∀ {k : Nat} {h : Heap}, St k h → ∃ o, h.get? it = some o ∧ ∀ v, o.data ≠ .cell v
  seq : ∀ {k : Nat} {h : Heap}, St k h → ∃ o, h.get? l = some o
section
variable {prog : Program} {w : World} {A : Around} {E : Value → Shared → Prop} {s : Shared}
variable {z TI TO i1 i2 l1 l2 : Addr} {m n : Nat} {xs ys : Array Value} {x y : Value} {S1 S2 : Nat → Heap → Prop}
end
end Pz
end
section
set_option Elab.async false
set_option linter.all false
set_option maxRecDepth 100000
namespace Pk
open PySem PySem.Spec PyProof.Rows L2
section
variable {X : Bs} {F H : Hp} {σ : L2.St} {Γ : List Sl}
/-- slot i and the last one become slot i -/
theorem En.merge {ov : Option V} {s1 s2 : Sl} {i : Nat} (E : En X F H (σ ++ [ov]) (Γ ++ [s2])) (hi : Γ[i]? = some s1) :
    ∃ S1 S2 : Addr → Prop, SlOk X F H (σ.getD i none) S1 s1 ∧ SlOk X F H ov S2 s2 ∧ (∀ a, S1 a → ¬ S2 a) ∧ (∀ a, S1 a ∨ S2 a → F a = none ∧ H a ≠ none) ∧
      ∀ (H' : Hp) (s' : Sl) (S' : Addr → Prop), (∀ a o, H a = some o → ¬ S1 a → ¬ S2 a → H' a = some o) → (∀ a, S1 a ∨ S2 a → H' a ≠ none) → (∀ a, S' a → S1 a ∨ S2 a) → SlOk X F H' (σ.getD i none) S' s' → En X F H' σ (Γ.set i s') := by
  have hl : σ.length = Γ.length := by
    have := E.len
    simp at this
    exact this
  have hil : i < Γ.length := (List.getElem?_eq_some_iff.mp hi).1
  obtain ⟨S, hs, hdj, ho⟩ := id E.sl
  have q1 := hs i s1 (by rw [List.getElem?_append_left hil]; exact hi)
  rw [getD_app (by rw [hl]; exact hil)] at q1
  have q2 := hs Γ.length s2 (by simp)
  rw [← hl, getD_last] at q2
  have ow : ∀ a, S i a ∨ S σ.length a → F a = none ∧ H a ≠ none ∧ X.own a := fun a h => by
    rcases h with h | h
    · exact ho _ a h
    · exact ho _ a h
  refine ⟨S i, S σ.length, q1, q2, fun a h1 h2 => ?_, fun a h => ⟨(ow a h).1, (ow a h).2.1⟩, fun H' s' S' hk hn hS q => ?_⟩
  · have := hdj _ _ a h1 h2
    omega
  · have keep : ∀ (j : Nat) (a : Addr), j < Γ.length → j ≠ i → S j a → H' a = H a := fun j a hj ji sa => by
      cases z : H a with
      | none => exact absurd z (ho j a sa).2.1
      | some o => exact hk a o z (fun w => ji (hdj j i a sa w)) (fun w => by have := hdj j _ a sa w; omega)
    have some_ : ∀ a, H a ≠ none → H' a ≠ none := fun a h => by
      by_cases w1 : S i a
      · exact hn a (.inl w1)
      · by_cases w2 : S σ.length a
        · exact hn a (.inr w2)
        · cases z : H a with
          | none => exact absurd z h
          | some o => rw [hk a o z w1 w2]; simp
    refine ⟨fun a o z => ?_, by simp [hl], ⟨fun j a => (j = i ∧ S' a) ∨ (j ≠ i ∧ j < Γ.length ∧ S j a), fun j u e => ?_, fun j k a h1 h2 => ?_, fun j a h1 => ?_⟩, fun a o e n => ?_, E.f0, fun a n => some_ a (E.nn a n)⟩
    · have hz := E.le a o z
      refine hk a o hz (fun w => ?_) (fun w => ?_)
      · rw [(ho _ a w).1] at z; cases z
      · rw [(ho _ a w).1] at z; cases z
    · by_cases hj : j = i
      · subst hj
        rw [List.getElem?_set_self hil] at e
        cases e
        have eS : (fun a => (j = j ∧ S' a) ∨ (j ≠ j ∧ j < Γ.length ∧ S j a)) = S' := by
          funext a
          exact propext ⟨fun z => by rcases z with z | z; exact z.2; exact absurd rfl z.1, fun z => .inl ⟨rfl, z⟩⟩
        show SlOk X F H' _ (fun a => (j = j ∧ S' a) ∨ (j ≠ j ∧ j < Γ.length ∧ S j a)) _
        rw [eS]
        exact q
      · rw [List.getElem?_set_ne (Ne.symm hj)] at e
        have hjl : j < Γ.length := (List.getElem?_eq_some_iff.mp e).1
        have eS : (fun a => (j = i ∧ S' a) ∨ (j ≠ i ∧ j < Γ.length ∧ S j a)) = S j := by
          funext a
          exact propext ⟨fun z => by rcases z with z | z; exact absurd z.1 hj; exact z.2.2, fun z => .inr ⟨hj, hjl, z⟩⟩
        show SlOk X F H' _ (fun a => (j = i ∧ S' a) ∨ (j ≠ i ∧ j < Γ.length ∧ S j a)) _
        rw [eS]
        have z := hs j u (by rw [List.getElem?_append_left hjl]; exact e)
        rw [getD_app (by rw [hl]; exact hjl)] at z
        exact z.mono Le.rfl' fun a sa => keep j a hjl hj sa
    · rcases h1 with ⟨e1, h1⟩ | ⟨n1, l1, h1⟩ <;> rcases h2 with ⟨e2, h2⟩ | ⟨n2, l2, h2⟩
      · omega
      · rcases hS a h1 with w | w
        · exact absurd (hdj _ _ a h2 w) n2
        · have := hdj _ _ a h2 w; omega
      · rcases hS a h2 with w | w
        · exact absurd (hdj _ _ a h1 w) n1
        · have := hdj _ _ a h1 w; omega
      · exact hdj j k a h1 h2
    · rcases h1 with ⟨e1, h1⟩ | ⟨n1, l1, h1⟩
      · have := ow a (hS a h1)
        exact ⟨this.1, hn a (hS a h1), this.2.2⟩
      · have := ho j a h1
        exact ⟨this.1, some_ a this.2.1, this.2.2⟩
    · obtain ⟨r1, r2⟩ := E.fr a o e n
      have nS : ∀ j, S j a → False := fun j sj => by
        rcases (ho j a sj).2.2 with w | w
        · rw [w] at e; cases e
        · exact n w
      exact ⟨hk a o r1 (nS _) (nS _), r2⟩
/-- slot i changes -/
theorem En.reown {s1 : Sl} {i : Nat} (E : En X F H σ Γ) (hi : Γ[i]? = some s1) :
    ∃ S1 : Addr → Prop, SlOk X F H (σ.getD i none) S1 s1 ∧ (∀ a, S1 a → F a = none ∧ H a ≠ none) ∧
      ∀ (H' : Hp) (s' : Sl) (S' : Addr → Prop), (∀ a o, H a = some o → ¬ S1 a → H' a = some o) → (∀ a, S1 a → H' a ≠ none) → (∀ a, S' a → S1 a) → SlOk X F H' (σ.getD i none) S' s' → En X F H' σ (Γ.set i s') := by
  obtain ⟨S1, S2, q1, q2, hd, ho, k⟩ := (E.pushD (v := .non) (m := false) .non).merge hi
  refine ⟨S1, q1, fun a h => ho a (.inl h), fun H' s' S' h1 h2 h3 h4 => k H' s' S' (fun a o z w _ => h1 a o z w) (fun a h => ?_) (fun a h => .inl (h3 a h)) h4⟩
  rcases h with h | h
  · exact h2 a h
  · exact absurd h (q2.2 a)
end
def PoolsP (K : PySem.W.Frag) (PP : List (List Int) → Prop) (H : Hp) (l : Addr) (qs : List Addr) : Prop := ∃ nss : List (List Int), H l = some (.lst (qs.map V.ref)) ∧ qs.length = nss.length ∧ (l :: qs).Nodup ∧ PP nss ∧ ∀ (i : Nat) (q : Addr) (ns : List Int), qs[i]? = some q → nss[i]? = some ns → H q = some (.lst (ns.map V.int))
theorem PoolsP.keep {K : PySem.W.Frag} {PP : List (List Int) → Prop} {H H' : Hp} {l : Addr} {qs : List Addr} (h : PoolsP K PP H l qs) (k : ∀ a, a = l ∨ a ∈ qs → H' a = H a) : PoolsP K PP H' l qs := by
  obtain ⟨nss, h1, h2, h3, h4, h5⟩ := h
  exact ⟨nss, (k l (.inl rfl)).trans h1, h2, h3, h4, fun i q ns a b => (k q (.inr (List.mem_of_getElem? a))).trans (h5 i q ns a b)⟩
/-- [pools, n] -/
def DeckO (K : Kw) (PP : List (List Int) → Prop) : Own where
  K := K
  p := fun _ H v S => ∃ (t l : Addr) (qs : List Addr) (n : Int), v = .ref t ∧ H t = some (.lst [.ref l, .int n]) ∧ t ≠ l ∧ t ∉ qs ∧ PoolsP K PP H l qs ∧ ∀ a, S a ↔ a = t ∨ a = l ∨ a ∈ qs
  vw := none
  keep := fun {F F' H H' v S} ⟨t, l, qs, n, e, ht, h1, h2, h, hS⟩ _ k => ⟨t, l, qs, n, e, (k t ((hS t).mpr (.inl rfl))).trans ht, h1, h2, h.keep fun a ha => k a ((hS a).mpr (.inr ha)), hS⟩
  keepT := fun _ {F F' H H' v S} ⟨t, l, qs, n, e, ht, h1, h2, h, hS⟩ _ k => ⟨t, l, qs, n, e, (k t ((hS t).mpr (.inl rfl))).trans ht, h1, h2, h.keep fun a ha => k a ((hS a).mpr (.inr ha)), hS⟩
  view := fun _ _ e => nomatch e
section
variable {K : Kw} {Γ : List Sl} {P : Po} {te : TE} {ts : TS}
/-- a deck laid open: its parts, and how it is closed again, changed in its own lists -/
theorem En.deck {X : Bs} {F H : Hp} {σ : L2.St} (E : En X F H σ Γ) {i : Nat} {v : V} {PP : List (List Int) → Prop} (hi : Γ[i]? = some (.ex v (DeckO X.K PP))) :
    ∃ (t l : Addr) (qs : List Addr) (n : Int) (nss : List (List Int)), v = .ref t ∧ σ[i]? = some (some v) ∧ H t = some (.lst [.ref l, .int n]) ∧ H l = some (.lst (qs.map V.ref)) ∧ qs.length = nss.length ∧ (t :: l :: qs).Nodup ∧ PP nss ∧ (∀ (i : Nat) (q : Addr) (ns : List Int), qs[i]? = some q → nss[i]? = some ns → H q = some (.lst (ns.map V.int))) ∧
      ∀ (H' : Hp) (n' : Int) (nss' : List (List Int)), (∀ a, a ≠ t → a ∉ qs → H' a = H a) → H' t = some (.lst [.ref l, .int n']) → qs.length = nss'.length → PP nss' → (∀ (i : Nat) (q : Addr) (ns : List Int), qs[i]? = some q → nss'[i]? = some ns → H' q = some (.lst (ns.map V.int))) → En X F H' σ Γ := by
  obtain ⟨S1, q1, ho, k⟩ := E.reown hi
  obtain ⟨e1, hk, t, l, qs, n, er, ht, ntl, ntq, ⟨nss, hl, hn, nd, hp, hq⟩, hS⟩ := q1
  refine ⟨t, l, qs, n, nss, er, E.ex hi, ht, hl, hn, List.nodup_cons.mpr ⟨by simp [ntl, ntq], nd⟩, hp, hq, fun H' n' nss' h1 h2 h3 h4 h5 => ?_⟩
  have nl : l ∉ qs := (List.nodup_cons.mp nd).1
  have hl' : H' l = some (.lst (qs.map V.ref)) := (h1 l (Ne.symm ntl) nl).trans hl
  have eΓ : Γ.set i (.ex v (DeckO X.K PP)) = Γ := by
    apply List.ext_getElem?
    intro j
    by_cases h : j = i
    · subst h
      rw [List.getElem?_set_self (List.getElem?_eq_some_iff.mp hi).1, hi]
    · rw [List.getElem?_set_ne (Ne.symm h)]
  have := k H' (.ex v (DeckO X.K PP)) S1 (fun a o z w => ?_) (fun a w => ?_) (fun _ w => w) ⟨e1, rfl, t, l, qs, n', er, h2, ntl, ntq, ⟨nss', hl', h3, nd, h4, h5⟩, hS⟩
  · rw [eΓ] at this
    exact this
  · rw [h1 a (fun z => w ((hS a).mpr (.inl z))) (fun z => w ((hS a).mpr (.inr (.inr z))))]; exact z
  · rcases (hS a).mp w with z | z | z
    · rw [z, h2]; simp
    · rw [z, hl']; simp
    · obtain ⟨j, hj⟩ := List.getElem?_of_mem z
      have hjl := (List.getElem?_eq_some_iff.mp hj).1
      rw [h5 j a (nss'[j]'(by omega)) hj (by simp [show j < nss'.length by omega])]
      simp
end
end Pk
end
section
set_option Elab.async false
set_option linter.all false
set_option maxRecDepth 100000
set_option maxHeartbeats 1000000
namespace Pz
open PySem PySem.Spec PyProof.Rows L2
abbrev g1 (h : Heap) (a : Addr) : Heap := h.push { cls := .type "list_iterator", data := .fields #[.ref a, .int 0 0] }
abbrev g2 (h : Heap) (a b : Addr) : Heap := (g1 h a).push { cls := .type "tuple_iterator", data := .fields #[.ref b, .int 0 0] }
abbrev g3 (h : Heap) (a b : Addr) : Heap := (g2 h a b).push { cls := .type "tuple", data := .seq #[.ref h.objs.size, .ref (g1 h a).objs.size] }
abbrev g4 (h : Heap) (a b : Addr) : Heap := (g3 h a b).push { cls := .type "tuple", data := .seq #[.none, .none] }
abbrev g5 (h : Heap) (a b : Addr) : Heap := (g4 h a b).push { cls := .type "zip", data := .fields #[.none, .bool false, .bool false, .ref (g2 h a b).objs.size, .ref (g3 h a b).objs.size] }
section
variable {prog : Program} {w : World} {A : Around} {E : Value → Shared → Prop} {s : Shared}
variable {z TI TO i1 i2 l1 l2 : Addr} {m n : Nat} {xs ys : Array Value} {x y a b : Value} {S1 S2 : Nat → Heap → Prop}
end
section
variable {prog : Program} {w : World} {z TI TO i1 i2 l1 l2 : Addr} {xs ys : Array Value} {S1 S2 : Nat → Heap → Prop}
end
structure Zst (X : Cx) (pins : List (Addr × Obj)) (H : Hp) (h : Heap) (z TI TO i1 i2 a b : Addr) : Prop where
  D : ZipApart z TI TO i1 i2 a b
  zz : IsZip h z TI TO .none
  I : IsPair h TI (.ref i1) (.ref i2)
  O : ∃ x y, IsPair h TO x y
  p1 : h.IsListIter i1 a 0
  p2 : h.IsTupleIter i2 b 0
  fp : ∀ c ∈ [z, TI, TO, i1, i2], FpOk X pins H c
end Pz
namespace Pk
open PySem PySem.Spec PyProof.Rows L2 Pz
section
variable {K : Kw} {m : Bool} {Γ : List Sl} {ta : TA} {QI : List PyData → Prop}
end
end Pk
end
section
set_option Elab.async false
set_option linter.all false
set_option maxRecDepth 100000
namespace Pk
open PySem PySem.Spec PyProof.Rows L2 Pz
def rJoin (K : PySem.W.Frag) : V → List V → Hp → VK → Prop := fun x xs H Q => ∃ a p, ∃ ys : List Str, x = .str a ∧ xs = [.ref p] ∧ (SqL K H p (ys.map V.str) ∨ SqT K H p (ys.map V.str)) ∧ (ys.map (·.length)).sum + ys.length * a.length ≤ 16777216 ∧ Q (.str (Txt.join a ys)) H
section
variable {K : Kw} {m : Bool} {Γ : List Sl} {Q : PyData → Prop} {QX : Sl → Prop} {te ti ta tb : TE} {tr : TA}
theorem strs_of {F : Hp} : ∀ {xs : List V} {ns : List Str}, RpA K F xs (ns.map PyData.str) → xs = ns.map V.str
  | [], [], _ => rfl
  | _ :: _, [], h => by cases h
  | [], _ :: _, h => by cases h
  | x :: xs, n :: ns, h => by
    cases h with
    | cons a b => cases a; rw [strs_of b]; rfl
theorem wd_join {sep : Str} (h : WD K false Γ te fun d => ∃ ys : List Str, d = .list (ys.map PyData.str) ∧ (ys.map (·.length)).sum + ys.length * sep.length ≤ 16777216 ∧ Q (.str (Txt.join sep ys))) : WD K m Γ (tBM K "str" (rJoin K) (tC (.str sep)) (tCons te tNil)) Q := fun X hK F H σ E C k => by
  subst hK
  refine ⟨rfl, h X rfl F H σ E _ fun v F1 H1 d l1 E1 r ⟨ys, e, hz, q⟩ => ?_⟩
  subst e
  cases r with
  | lst ha ra => exact ⟨sep, _, ys, rfl, rfl, .inl (by rw [← strs_of ra]; exact SqL.of (E1.le _ _ ha)), hz, k _ F1 H1 _ l1 E1 (.str _) q⟩
/-- xs.index(e) -/
theorem wd_index (h : WD K false Γ te fun d => ∃ ds, d = .list ds ∧ WD K false Γ ti fun x => ∃ (j : Nat) (z : PyData), SeqAt.shaped (.list ds) = true ∧ SeqAt.shaped x = true ∧ ds[j]? = some z ∧ PyData.eqv z x = true ∧ (∀ (m : Nat) (z' : PyData), m < j → ds[m]? = some z' → PyData.eqv z' x = false) ∧ Q (.int j)) : WD K m Γ (tBM K "list" (rIndexD K) te (tCons ti tNil)) Q := fun X hK F H σ E C k => by
  subst hK
  refine h X rfl F H σ E _ fun v F1 H1 d l1 E1 r ⟨ds, e, h2⟩ => ?_
  subst e
  cases r with
  | lst ha ra =>
    rename_i a xs
    refine ⟨.inl ⟨rfl, _, SqL.of (E1.le _ _ ha)⟩, h2 X rfl F1 H1 σ E1 _ fun u F2 H2 x l2 E2 ru ⟨j, z, s1, s2, hj, he, hn, q⟩ => ?_⟩
    have r2 : Rp X.K H2 (.ref a) (.list ds) := (Rp.lst (ha) ra).mono (l2.tr E2.le)
    exact ⟨a, u, x, ds, j, z, rfl, rfl, Rp.dp _ (SeqAt.canLay_of_shaped s1) r2, Rp.dp _ (SeqAt.canLay_of_shaped s2) (ru.mono E2.le), s1, s2, hj, he, hn, k _ F2 H2 _ (l1.tr l2) E2 (.int _) q⟩
end
end Pk
end
section
set_option Elab.async false
set_option linter.all false
set_option maxRecDepth 100000
namespace Dk
open PySem PySem.Spec PyProof.Rows L2 Pk
inductive Op where
  | plus | times | less | same
  deriving DecidableEq
def Op.w : Op → Str
  | .plus => "plus" | .times => "times" | .less => "less" | .same => "same"
inductive Th where
  | num (n : Nat)
  | box (x : Str)
  | op (o : Op) (a b : Th)
def Th.d : Th → PyData
  | .num n => .tuple [.str "number", .int n]
  | .box x => .tuple [.str "box", .str x]
  | .op o a b => .tuple [.str o.w, a.d, b.d]
/-- at most so deep, of numbers below m and of the boxes -/
def Th.Ok (m : Nat) (bs : List Str) : Nat → Th → Prop
  | 0, _ => False
  | _ + 1, .num k => k < m
  | _ + 1, .box x => x ∈ bs
  | n + 1, .op _ a b => a.Ok m bs n ∧ b.Ok m bs n
theorem Th.Ok.up {m : Nat} {bs : List Str} : ∀ {n : Nat} {t : Th}, t.Ok m bs n → t.Ok m bs (n + 1)
  | 0, _, h => by cases h
  | n + 1, .num k, h => h
  | n + 1, .box x, h => h
  | n + 1, .op o a b, h => ⟨Th.Ok.up (n := n) h.1, Th.Ok.up (n := n) h.2⟩
theorem Th.Ok.mono {m : Nat} {bs : List Str} {n k : Nat} {t : Th} (h : t.Ok m bs n) (le : n ≤ k) : t.Ok m bs k := by
  obtain ⟨j, rfl⟩ := Nat.exists_eq_add_of_le le
  induction j with
  | zero => exact h
  | succ j ih => exact (ih (by omega)).up
def ltr (c : Nat) : Prop := 97 ≤ c ∧ c ≤ 122
def NameOk (x : Str) : Prop := 1 ≤ x.length ∧ x.length ≤ 8 ∧ ∀ c ∈ x.cps.toList, ltr c
theorem NameOk.strOk {x : Str} (h : NameOk x) : PyData.strOk x = true := by
  unfold PyData.strOk
  rw [← Array.all_toList, List.all_eq_true]
  intro c hc
  have := (h.2.2 c hc).2
  exact decide_eq_true (by omega)
structure BsOk (bs : List Str) : Prop where
  len0 : 1 ≤ bs.length
  len5 : bs.length ≤ 5
  nd : bs.Nodup
  nm : ∀ x ∈ bs, NameOk x
abbrev bsD (bs : List Str) : PyData := .list (bs.map PyData.str)
inductive Rw where
  | set (x : Str) (t : Th)
  | pick (x : Str) (ts : List Th)
  | need (t : Th)
  | skip (t : Th) (k : Nat)
  | give (t : Th)
def Rw.d : Rw → PyData
  | .set x t => .tuple [.str "set", .str x, t.d]
  | .pick x ts => .tuple [.str "pick", .str x, .list (ts.map Th.d)]
  | .need t => .tuple [.str "need", t.d]
  | .skip t k => .tuple [.str "skip", t.d, .int k]
  | .give t => .tuple [.str "give", t.d]
def Rw.Ok (m : Nat) (bs : List Str) : Rw → Prop
  | .set x t => x ∈ bs ∧ t.Ok m bs 4
  | .pick x ts => x ∈ bs ∧ 1 ≤ ts.length ∧ ts.length ≤ 5 ∧ ∀ t ∈ ts, t.Ok m bs 4
  | .need t => t.Ok m bs 4
  | .skip t k => t.Ok m bs 4 ∧ 1 ≤ k ∧ k ≤ 30
  | .give t => t.Ok m bs 4
structure Pg where
  m : Nat
  bs : List Str
  rows : List Rw
def Pg.d (p : Pg) : PyData := .tuple [.int p.m, bsD p.bs, .list (p.rows.map Rw.d)]
structure Pg.Ok (p : Pg) : Prop where
  m2 : 2 ≤ p.m
  m16 : p.m ≤ 16
  bs : BsOk p.bs
  r30 : p.rows.length ≤ 30
  rows : ∀ r ∈ p.rows, r.Ok p.m p.bs
abbrev stD (st : List Nat) : PyData := .tuple (st.map fun (n : Nat) => PyData.int n)
structure StOk (m : Nat) (bs : List Str) (st : List Nat) : Prop where
  len : st.length = bs.length
  lt : ∀ n ∈ st, n < m
def Op.v (m : Nat) : Op → Nat → Nat → Nat
  | .plus, a, b => (a + b) % m
  | .times, a, b => a * b % m
  | .less, a, b => if a < b then 1 else 0
  | .same, a, b => if a = b then 1 else 0
def at_ (bs : List Str) (st : List Nat) (x : Str) : Nat := st.getD (bs.idxOf x) 0
def Th.v (m : Nat) (bs : List Str) (st : List Nat) : Th → Nat
  | .num n => n
  | .box x => at_ bs st x
  | .op o a b => o.v m (a.v m bs st) (b.v m bs st)
theorem idx_lt {bs : List Str} {x : Str} (h : x ∈ bs) : bs.idxOf x < bs.length := List.idxOf_lt_length_of_mem h
theorem at_get {m : Nat} {bs : List Str} {st : List Nat} (s : StOk m bs st) {x : Str} (h : x ∈ bs) : st[bs.idxOf x]? = some (at_ bs st x) := by
  have := idx_lt h
  have hl : bs.idxOf x < st.length := by rw [s.len]; exact this
  simp [at_, List.getD_eq_getElem?_getD, hl]
theorem at_lt {m : Nat} {bs : List Str} {st : List Nat} (s : StOk m bs st) {x : Str} (h : x ∈ bs) : at_ bs st x < m := s.lt _ (List.mem_of_getElem? (at_get s h))
theorem Op.v_lt {m : Nat} (h2 : 2 ≤ m) (o : Op) (a b : Nat) : o.v m a b < m := by
  cases o with
  | plus => exact Nat.mod_lt _ (by omega)
  | times => exact Nat.mod_lt _ (by omega)
  | less => show (if a < b then 1 else 0) < m; split <;> omega
  | same => show (if a = b then 1 else 0) < m; split <;> omega
theorem Th.v_lt {m : Nat} {bs : List Str} {st : List Nat} (h2 : 2 ≤ m) (s : StOk m bs st) : ∀ {n : Nat} {t : Th}, t.Ok m bs n → t.v m bs st < m
  | 0, _, h => by cases h
  | n + 1, .num k, h => h
  | n + 1, .box x, h => at_lt s h
  | n + 1, .op o a b, h => Op.v_lt h2 o _ _
theorem sh_of {n : Nat} {d : PyData} (h : dep n d) (hn : n ≤ 63) : SeqAt.shaped d = true := dep_shaped h hn
end Dk
end
section
set_option Elab.async false
set_option linter.all false
set_option maxRecDepth 100000
namespace Dk
open PySem PySem.Spec PyProof.Rows L2 Pk
def one (c : Nat) : Str := ⟨#[c]⟩
theorem op_ok (o : Op) : PyData.strOk o.w = true := by cases o <;> decide +kernel
theorem ok_w {x : Str} (h : x ∈ [("number" : Str), "box", "set", "pick", "need", "skip", "give", "nothing", "gives"]) : PyData.strOk x = true := by
  have : ∀ y ∈ [("number" : Str), "box", "set", "pick", "need", "skip", "give", "nothing", "gives"], PyData.strOk y = true := by decide +kernel
  exact this x h
theorem Th.dep {m : Nat} {bs : List Str} (hb : ∀ x ∈ bs, NameOk x) : ∀ {n : Nat} {t : Th}, t.Ok m bs n → Pk.dep n t.d
  | 0, _, h => by cases h
  | n + 1, .num k, h => by
    intro x hx
    simp at hx
    rcases hx with rfl | rfl
    · cases n <;> exact ok_w (by simp)
    · cases n <;> exact True.intro
  | n + 1, .box y, h => by
    intro x hx
    simp at hx
    rcases hx with rfl | rfl
    · cases n <;> exact ok_w (by simp)
    · have := (hb y h).strOk
      cases n <;> exact this
  | n + 1, .op o a b, h => by
    intro x hx
    simp at hx
    rcases hx with rfl | rfl | rfl
    · have := op_ok o
      cases n <;> exact this
    · exact Th.dep hb h.1
    · exact Th.dep hb h.2
theorem dep_up {n k : Nat} {d : PyData} (h : Pk.dep n d) (le : n ≤ k) : Pk.dep k d := by
  induction n generalizing k d with
  | zero => cases d <;> cases k <;> first | exact h | exact h.elim
  | succ n ih =>
    cases k with
    | zero => omega
    | succ k =>
      cases d with
      | list xs => exact fun x hx => ih (h x hx) (by omega)
      | tuple xs => exact fun x hx => ih (h x hx) (by omega)
      | none => exact h
      | bool _ => exact h
      | int _ => exact h
      | str _ => exact h
      | dict _ => exact h
theorem dep_str {n : Nat} {x : Str} (h : PyData.strOk x = true) : Pk.dep n (.str x) := by cases n <;> exact h
theorem dep_int {n : Nat} {i : Int} : Pk.dep n (.int i) := by cases n <;> exact True.intro
theorem Rw.dep {m : Nat} {bs : List Str} (hb : ∀ x ∈ bs, NameOk x) {r : Rw} (h : r.Ok m bs) : Pk.dep 6 r.d := by
  cases r with
  | set y t =>
    intro x hx
    simp at hx
    rcases hx with rfl | rfl | rfl
    · exact dep_str (ok_w (by simp))
    · exact dep_str (hb y h.1).strOk
    · exact dep_up (Th.dep hb h.2) (by decide)
  | pick y ts =>
    intro x hx
    simp at hx
    rcases hx with rfl | rfl | rfl
    · exact dep_str (ok_w (by simp))
    · exact dep_str (hb y h.1).strOk
    · intro z hz
      obtain ⟨t, ht, rfl⟩ := List.mem_map.mp hz
      exact dep_up (Th.dep hb (h.2.2.2 t ht)) (by decide)
  | need t =>
    intro x hx
    simp at hx
    rcases hx with rfl | rfl
    · exact dep_str (ok_w (by simp))
    · exact dep_up (Th.dep hb h) (by decide)
  | skip t k =>
    intro x hx
    simp at hx
    rcases hx with rfl | rfl | rfl
    · exact dep_str (ok_w (by simp))
    · exact dep_up (Th.dep hb h.1) (by decide)
    · exact dep_int
  | give t =>
    intro x hx
    simp at hx
    rcases hx with rfl | rfl
    · exact dep_str (ok_w (by simp))
    · exact dep_up (Th.dep hb h) (by decide)
theorem bs_dep {bs : List Str} (hb : ∀ x ∈ bs, NameOk x) (n : Nat) : Pk.dep (n + 1) (bsD bs) := fun x hx => by
  obtain ⟨y, hy, rfl⟩ := List.mem_map.mp hx
  exact dep_str (hb y hy).strOk
theorem Pg.dep {p : Pg} (h : p.Ok) : Pk.dep 8 p.d := by
  intro x hx
  simp at hx
  rcases hx with rfl | rfl | rfl
  · exact dep_int
  · exact bs_dep h.bs.nm 6
  · intro y hy
    obtain ⟨r, hr, rfl⟩ := List.mem_map.mp hy
    exact Rw.dep h.bs.nm (h.rows r hr)
theorem Pg.sh {p : Pg} (h : p.Ok) : SeqAt.shaped p.d = true := sh_of (Pg.dep h) (by decide)
theorem Th.nb : ∀ t : Th, NB t.d
  | .num n => .tup fun x hx => by
    simp at hx
    rcases hx with rfl | rfl
    · exact .str _
    · exact .int _
  | .box y => .tup fun x hx => by
    simp at hx
    rcases hx with rfl | rfl
    · exact .str _
    · exact .str _
  | .op o a b => .tup fun x hx => by
    simp at hx
    rcases hx with rfl | rfl | rfl
    · exact .str _
    · exact Th.nb a
    · exact Th.nb b
theorem Rw.nb (r : Rw) : NB r.d := by
  cases r <;> refine .tup fun x hx => ?_ <;> simp at hx
  · rcases hx with rfl | rfl | rfl
    · exact .str _
    · exact .str _
    · exact Th.nb _
  · rcases hx with rfl | rfl | rfl
    · exact .str _
    · exact .str _
    · refine .lst fun z hz => ?_
      obtain ⟨t, _, rfl⟩ := List.mem_map.mp hz
      exact Th.nb t
  · rcases hx with rfl | rfl
    · exact .str _
    · exact Th.nb _
  · rcases hx with rfl | rfl | rfl
    · exact .str _
    · exact Th.nb _
    · exact .int _
  · rcases hx with rfl | rfl
    · exact .str _
    · exact Th.nb _
theorem Pg.nb (p : Pg) : NB p.d := .tup fun x hx => by
  simp at hx
  rcases hx with rfl | rfl | rfl
  · exact .int _
  · refine .lst fun z hz => ?_
    obtain ⟨t, _, rfl⟩ := List.mem_map.mp hz
    exact .str t
  · refine .lst fun z hz => ?_
    obtain ⟨t, _, rfl⟩ := List.mem_map.mp hz
    exact Rw.nb t
theorem Th.lf : ∀ t : Th, Pk.lf t.d = true
  | .num n => rfl
  | .box y => rfl
  | .op o a b => by
    show Pk.lfA [.str o.w, a.d, b.d] = true
    simp [Pk.lfA, Th.lf a, Th.lf b, Pk.lf]
theorem st_lf (st : List Nat) : Pk.lf (stD st) = true := by
  show Pk.lfA _ = true
  induction st with
  | nil => rfl
  | cons n st ih => simp [Pk.lfA, ih, Pk.lf]
def Rw.w : Rw → Str
  | .set _ _ => "set" | .pick _ _ => "pick" | .need _ => "need" | .skip _ _ => "skip" | .give _ => "give"
def Rw.isPick : Rw → Bool
  | .pick _ _ => true | _ => false
section
variable {K : Kw} {m : Bool} {Γ : List Sl} {Q : PyData → Prop}
theorem rd_neSelf {d : PyData} (hs : SeqAt.shaped d = true) (nb : NB d) (q : Q (.bool false)) : RD K m Γ (dNe K) d d Q := rd_ne hs hs (by rw [eqv_self nb]; exact q)
theorem rd_eqSelf {d : PyData} (hs : SeqAt.shaped d = true) (nb : NB d) (q : Q (.bool true)) : RD K m Γ (dEq K) d d Q := rd_eq hs hs (by rw [eqv_self nb]; exact q)
end
end Dk
end
section
set_option Elab.async false
set_option linter.all false
set_option maxRecDepth 100000
namespace Pk
open PySem PySem.Spec PyProof.Rows L2
end Pk
end
section
set_option Elab.async false
set_option linter.all false
set_option maxRecDepth 100000
namespace Ps
open PySem PySem.Spec PyProof.Rows L2
section
variable {prog : Program} {w : World} {A : Around} {R : Result → Shared → Prop} {I : Addr} {fp wr : List Addr} {G : Array GenState → Array GenState → Prop} {n : Nat} {P : Nat → Value → Prop} {St : Nat → Shared → Prop}
end
section
variable {prog : Program} {w : World} {A : Around} {E : Value → Shared → Prop} {s : Shared}
end
end Ps
namespace Pk
open PySem PySem.Spec PyProof.Rows L2 Ps
end Pk
end
section
set_option Elab.async false
set_option linter.all false
set_option maxRecDepth 100000
namespace Pk
open PySem PySem.Spec PyProof.Rows L2
theorem Bs.ff_dct {X : Bs} {F : Hp} {m : Bool} {a : Addr} {kvs : List (Key × V)} (h : F a = some (.dK kvs)) : X.ff F m a = some (.dK kvs) := by
  cases m with
  | false => exact h
  | true =>
    show cutN X.N F a = _
    unfold cutN
    rw [h]
theorem En.newD {X : Bs} {Γ : List Sl} {m : Bool} {F H : Hp} {σ : L2.St} (E : En X F H σ Γ) {p : Addr} {kvs : List (Key × V)} (hp : H p = none) {ds : List (PyData × PyData)} (t : flatDs ds = true → kvs.map kvD = ds) : Le F (upd F p (.dK kvs)) ∧ En X (upd F p (.dK kvs)) (upd H p (.dK kvs)) σ Γ ∧ Rp X.K (X.ff (upd F p (.dK kvs)) m) (.ref p) (.dict ds) :=
  ⟨Le.up (E.le.nn hp), E.alloc hp, .dct (Bs.ff_dct upd_same) t⟩
section
variable {K : Kw} {m : Bool} {Γ : List Sl} {Q : PyData → Prop} {te : TE}
theorem wd_dict0 (ds : List (PyData × PyData)) (q : Q (.dict ds)) (t : flatDs ds = true → ([] : List (PyData × PyData)) = ds := by intro _; rfl) : WD K m Γ tDNewK Q := fun X hK F H σ E C k => fun p hp => by
  subst hK
  obtain ⟨a, b, c⟩ := E.newD (m := m) (kvs := []) hp (ds := ds) t
  exact k _ _ _ _ a b c q
end
section
variable {K : Kw} {Γ : List Sl} {W : XW} {ex : Value → Option Fs → List Sl → Prop} {T : List Sl → (Sl → Prop) → XQ → Prop} {Q : Sl → Prop} {ta tb tc : TE} {r : R2}
theorem wxw_call3 (h : WD K false Γ ta fun x => WD K false Γ tb fun y => WD K false Γ tc fun z => T [.dat false x, .dat false y, .dat false z] Q fun c d => ex c d Γ) : WXw K W ex Γ (tCallS (spX K T) (WE W) (tCons ta (tCons tb (tCons tc tNil)))) Q := wxw_call (wa_d (h.mono fun x h => wa_d (h.mono fun y h => wa_d (h.mono fun z q => wa_nil ⟨agsGood_d rfl, q⟩))))
end
end Pk
end
section
set_option Elab.async false
set_option linter.all false
set_option maxRecDepth 100000
namespace Pk
open PySem PySem.Spec PyProof.Rows L2
section
variable {K : Kw} {m : Bool} {Γ : List Sl} {P : Po} {te : TE} {ta : TA} {QI : List PyData → Prop}
theorem RpA.eraseIdx {F : Hp} : ∀ {vs : List V} {ds : List PyData} (n : Nat), RpA K F vs ds → RpA K F (vs.eraseIdx n) (ds.eraseIdx n)
  | [], [], _, _ => .nil
  | _ :: _, [], _, h => by cases h
  | [], _ :: _, _, h => by cases h
  | _ :: _, _ :: _, 0, h => by
    cases h with
    | cons a b => exact b
  | _ :: _, _ :: _, n + 1, h => by
    cases h with
    | cons a b => exact .cons a (RpA.eraseIdx n b)
end
end Pk
end
section
set_option Elab.async false
set_option linter.all false
set_option maxRecDepth 100000
namespace Pk
open PySem PySem.Spec PyProof.Rows L2
/-- what __init__(self, f): self.f = f promises -/
def spIni (K : PySem.W.Frag) (C : Addr) (f : Str) : Sp := fun vs H Q _ => ∃ (a : Addr) (y : V), vs = [.ref a, y] ∧ H a = some (exo a C none) ∧ ∀ dx, H dx = none → dx ≠ a → Q .non (upd (upd H dx (exd dx [(f, y)])) a (exo a C (some dx)))
section
variable {K : Kw} {m : Bool} {Γ : List Sl} {P : Po} {te : TE} {Q : PyData → Prop}
end
/-- such a class, as the top tells it -/
structure IniT (P : Program) (w : World) (K : PySem.W.Frag) (mg : Str → Option Value) (base : Heap) (k : Nat) (x : Str) (C : Addr) (f : Str) : Prop where
  g : mg x = some (.ref C)
  o : OexC K C
  i : ∃ (fI : Addr) (fd : FuncData), PySem.W.findIn K (.ref C) "__init__" = some (some (.ref fI)) ∧ PySem.W.typeIn K (.ref fI) = some (.type "function") ∧ FnOk P w K mg base CX0 k fI fd ["self", f] (spIni K C f) ∧ Binds K fd ["self", f] []
section
variable {X : Cx} {W : XW} {x f : Str} {C : Addr} {k : Nat} {e : Expr} {te : TE} {p pos pos' : Pos}
end
end Pk
end
section
set_option Elab.async false
set_option linter.all false
set_option maxRecDepth 100000
namespace Pk
open PySem PySem.Spec PyProof.Rows L2
/-- such a class, as the head tells it -/
structure IniD (K : PySem.W.Frag) (mg : Str → Option Value) (x : Str) (C : Addr) (qual f : Str) (st : Stmt) : Prop where
  g : mg x = some (.ref C)
  o : OexC K C
  n : PySem.W.findIn K (.ref C) f = some none
  x : XfC K C
  c : ExcC K C
  i : ∃ (fI : Addr) (fd : FuncData), PySem.W.findIn K (.ref C) "__init__" = some (some (.ref fI)) ∧ PySem.W.typeIn K (.ref fI) = some (.type "function") ∧ Fun K "__init__" qual st fI fd ∧ Binds K fd ["self", f] []
section
variable {P : Program} {K : Kw} {mg : Str → Option Value} {base : Heap}
end
section
variable {K : Kw} {m : Bool} {Γ : List Sl} {P : Po} {Q : PyData → Prop}
end
section
variable {K : Kw} {m : Bool} {Γ : List Sl} {Q : PyData → Prop}
end
section
variable {K : Kw} {m : Bool} {Γ : List Sl} {Q : PyData → Prop}
end
section
variable {K : Kw} {m : Bool} {W : XW} {ex : Value → Option Fs → List Sl → Prop} {Γ : List Sl} {Q : Sl → Prop} {ta tb : TE} {r : R2}
end
end Pk
end
section
set_option Elab.async false
set_option linter.all false
set_option maxRecDepth 100000
namespace Pk
open PySem PySem.Spec PyProof.Rows L2
section
variable {K : Kw} {m : Bool} {Γ : List Sl} {Q : PyData → Prop} {QX : Sl → Prop} {ta : TE}
end
end Pk
end
section
set_option Elab.async false
set_option linter.all false
set_option maxRecDepth 100000
namespace PkI
open PySem PySem.W PySem.Spec PySem.Calls PyProof.Rows
section
variable {prog : Program} {w : World} {A : Around} {E : Value → Shared → Prop} {s : Shared} {K : Frag} {x D : Addr} {ox : Obj} {od : Option Obj}
end
end PkI
namespace Pk
open PySem PySem.Spec PyProof.Rows L2
section
variable {K : Kw} {m : Bool} {Γ : List Sl} {Q : PyData → Prop}
end
section
variable {K : Kw} {m : Bool} {Γ : List Sl} {Q : PyData → Prop}
end
section
variable {K : Kw} {m : Bool} {Γ : List Sl} {Q : PyData → Prop}
end
end Pk
end
section
set_option Elab.async false
set_option linter.all false
set_option maxRecDepth 100000
namespace Pk
open PySem PySem.Spec PyProof.Rows L2 Pz
section
variable {K : Kw} {m : Bool} {Γ : List Sl} {Q : PyData → Prop} {te ti : TE} {tr : TA}
end
/-- an expression that may change an own list -/
def WDg (K : Kw) (m : Bool) (Γ : List Sl) (t : TE) (Q : PyData → List Sl → Prop) : Prop := ∀ X : Bs, X.K = K → ∀ F H σ, En X F H σ Γ → ∀ C : VK,
  (∀ v F' H' d Γ', Le F F' → En X F' H' σ Γ' → Rp K (X.ff F' m) v d → Q d Γ' → C v H') → t σ H C
def WXg (K : Kw) (Γ : List Sl) (t : TE) (Q : List Sl → Sl → Prop) : Prop := ∀ X : Bs, X.K = K → ∀ F H σ, En X F H σ Γ → ∀ C : VK,
  (∀ v F' H' Γ' s, Le F F' → En X F' H' (σ ++ [some v]) (Γ' ++ [s]) → Q Γ' s → C v H') → t σ H C
theorem wipeG_no {Γ : List Sl} : ∀ {vs : List Nat}, (∀ i ∈ vs, Γ[i]? = some .no) → wipeG Γ vs = Γ
  | [], _ => rfl
  | v :: vs, h => by
    show (wipeG Γ vs).set v .no = Γ
    rw [wipeG_no fun i hi => h i (List.mem_cons_of_mem _ hi)]
    have hv := h v List.mem_cons_self
    apply List.ext_getElem?
    intro i
    by_cases hi : v = i
    · subst hi
      rw [List.getElem?_set_self (List.getElem?_eq_some_iff.mp hv).1, hv]
    · rw [List.getElem?_set_ne hi]
theorem En.unwipeN {X : Bs} {F H : Hp} {σ : L2.St} {Γ : List Sl} {ov : Option V} {s : Sl} {vs : List Nat} (hl : σ.length = Γ.length) (hv : ∀ i ∈ vs, Γ[i]? = some .no) (E : En X F H (L2.wipe σ vs ++ [ov]) (Γ ++ [s])) : En X F H (σ ++ [ov]) (Γ ++ [s]) := by
  obtain ⟨S, hs, hdj, ho⟩ := id E.sl
  refine ⟨E.le, by simp [hl], ⟨S, fun i u e => ?_, hdj, ho⟩, E.fr, E.f0, E.nn⟩
  have q := hs i u e
  have hi : i < (Γ ++ [s]).length := (List.getElem?_eq_some_iff.mp e).1
  simp only [List.length_append, List.length_cons, List.length_nil] at hi
  by_cases hlt : i < Γ.length
  · rw [getD_app (by rw [wipe_length, hl]; exact hlt)] at q
    rw [getD_app (by rw [hl]; exact hlt)]
    by_cases hin : i ∈ vs
    · rw [List.getElem?_append_left hlt, hv i hin] at e
      cases e
      exact q
    · have : (L2.wipe σ vs).getD i none = σ.getD i none := by simp [List.getD_eq_getElem?_getD, wipe_out hin]
      rw [this] at q
      exact q
  · have hie : i = Γ.length := by omega
    subst hie
    have e1 : (L2.wipe σ vs ++ [ov]).getD Γ.length none = ov := by rw [← hl, ← wipe_length σ vs, getD_last]
    have e2 : (σ ++ [ov]).getD Γ.length none = ov := by rw [← hl, getD_last]
    rw [e1] at q
    rw [e2]
    exact q
section
variable {K : Kw} {Γ : List Sl} {g : TG} {wi : TI} {te : TE} {vs : List Nat} {P : Po}
theorem wxg_lc {mi : Bool} (m : Bool) {j : Nat} {mj : Bool} {l : Addr} {ds0 : List PyData} {QX : List Sl → Sl → Prop} (hj : Γ[j]? = some (.ml mj l ds0)) (hv : ∀ i ∈ vs, Γ[i]? = some .no) (hgw : Gw g vs)
    (h : WI K mi Γ wi fun ds => ∃ I : Nat → List PyData → List PyData → Prop, ds.length ≤ 100000 ∧ I 0 [] ds0 ∧ (∀ i d acc lv, ds[i]? = some d → acc.length ≤ i → I i acc lv → GJ K mi (Γ.set j (.ml mj l lv)) g d fun Γ2 => WDg K m Γ2 te fun y Γ3 => ∃ lv', wipeG Γ3 vs = Γ.set j (.ml mj l lv') ∧ I (i + 1) (acc ++ [y]) lv') ∧
      ∀ acc lv, acc.length ≤ ds.length → I ds.length acc lv → ∀ la, QX (Γ.set j (.ml mj l lv)) (.ml m la acc)) : WXg K Γ (tLc wi g tYes te vs) QX := fun X hK F H σ E C k => by
  have hset : ∀ lv i, i ∈ vs → (Γ.set j (.ml mj l lv))[i]? = some .no := fun lv i hi => by
    have hne : j ≠ i := fun z => by subst z; rw [hv j hi] at hj; cases hj
    rw [List.getElem?_set_ne hne]
    exact hv i hi
  have h00 : Γ.set j (.ml mj l ds0) = Γ := by
    apply List.ext_getElem?
    intro i
    by_cases hi : j = i
    · subst hi
      rw [List.getElem?_set_self (List.getElem?_eq_some_iff.mp hj).1, hj]
    · rw [List.getElem?_set_ne hi]
  refine h X hK F H σ E _ fun J F1 H1 G Y ds lf E1 wk hG hY ⟨I, hz, h0, hs, he⟩ Da hD => ?_
  obtain ⟨X1, k1, n1, f1, _, Er, back⟩ := E1.rebase
  have ffe : ∀ F, X1.ff F m = X.ff F m := fun F => by cases m <;> simp [Bs.ff, n1]
  have hK1 : X1.K = K := k1.trans hK
  have lef : ∀ {F' H' σ' Γ'}, En X1 F' H' σ' Γ' → Le F1 F' := fun E' => by rw [← f1]; exact E'.f0
  have hlen0 : σ.length = Γ.length := E1.len
  refine lc_it wk (fun i H' => ∃ F' acc lv, En X1 F' H' (L2.wipe σ vs ++ [some (.ref Da)]) (Γ.set j (.ml mj l lv) ++ [.ml m Da acc]) ∧ acc.length ≤ i ∧ I i acc lv) ⟨F1, [], ds0, ?_, Nat.le_refl _, h0⟩ (fun i H' _ ⟨F', acc, lv, E', _⟩ => hG H' ((lef E').tr E'.le)) (fun i x H' H3 hi ⟨F', acc, lv, E', hacc, hI⟩ hy => ?_) (fun H' ⟨F', acc, lv, E', hacc, hI⟩ => ?_)
  · have := (Er.wipe vs).pushM (m := m) hD .nil
    rw [wipeG_no hv] at this
    rw [h00]
    exact this
  · obtain ⟨d, F3, hd, gr, r⟩ := hY i F' H' x H3 (lef E') E'.le hi hy
    have E3 := E'.gr gr
    obtain ⟨X2, k2, n2, Ef, fb⟩ := E3.frame
    have ff2 : ∀ F m, X2.ff F m = X.ff F m := fun F m => by cases m <;> simp [Bs.ff, n2, n1]
    have hK2 : X2.K = K := k2.trans hK1
    refine hgw x _ H3 (fun σ2 H2 => L2.wipe σ2 vs = L2.wipe σ vs → _) _ σ wipe_wipe (fun σ2 H2 e2 q => ⟨e2, q e2⟩) ?_
    refine hs i d acc lv hd hacc hI X2 hK2 F3 H3 _ Ef x (by rw [ff2]; exact r) _ fun F4 H4 σ4 Γ4 l4 E4 wt eσ => ?_
    show (tYes : TT) σ4 H4 _
    refine (show WT K Γ4 tYes fun b => b = true from wt_yes rfl) X2 hK2 F4 H4 σ4 E4 _ fun b F5 H5 l5 E5 q5 => ?_
    subst q5
    rw [if_pos rfl]
    refine wt X2 hK2 F5 H5 σ4 E5 _ fun y F6 H6 dy Γ6 l6 E6 ry ⟨lv', eΓ, q6⟩ => ?_
    have hlen : (wipeG Γ6 vs).length = (Γ.set j (.ml mj l lv)).length := by rw [eΓ, List.length_set, List.length_set]
    have E7 : En X1 F6 H6 (L2.wipe σ vs ++ [some (.ref Da)]) (Γ.set j (.ml mj l lv') ++ [.ml m Da acc]) := by
      have := fb F6 H6 _ _ hlen (l4.tr (l5.tr l6)) (E6.wipe vs)
      rw [eΓ, eσ] at this
      exact this
    obtain ⟨xs, _, hl, _, rx⟩ := E7.ml (i := (Γ.set j (.ml mj l lv')).length) (m := m) (l := Da) (ds := acc) (by simp)
    have e8 := E7.mut (i := (Γ.set j (.ml mj l lv')).length) (m := m) (l := Da) (ds := acc) (es := acc ++ [dy]) (ys := xs ++ [y]) (by simp) (rx.append (RpA.one (by rw [hK1, ffe, ← ff2]; exact ry)))
    have es : (Γ.set j (.ml mj l lv') ++ [Sl.ml m Da acc]).set (Γ.set j (.ml mj l lv')).length (.ml m Da (acc ++ [dy])) = Γ.set j (.ml mj l lv') ++ [.ml m Da (acc ++ [dy])] := by simp
    rw [es] at e8
    exact ⟨xs, hl, sz_lt (by rw [rx.length]; omega), F6, acc ++ [dy], lv', e8, by simp; omega, q6⟩
  · have hE := back _ _ _ _ (En.unwipeN (by rw [List.length_set]; exact hlen0) (hset lv) E')
    exact k (.ref Da) F' H' _ _ (lf.tr (lef E')) hE (he acc lv hacc hI Da)
theorem wdg_popAt {m : Bool} {i : Nat} {l : Addr} {ds : List PyData} {Q : PyData → List Sl → Prop} (hi : Γ[i]? = some (.ml m l ds)) (h : WD K false Γ te fun x => ∃ (n : Nat) (d : PyData), x = .int n ∧ n < 100000 ∧ ds[n]? = some d ∧ Q d (Γ.set i (.ml m l (ds.eraseIdx n)))) : WDg K m Γ (tBM K "list" rPopAt (tVar i) (tCons te tNil)) Q := fun X hK F H σ E C k => by
  subst hK
  obtain ⟨xs, e, hl, fl, r⟩ := E.ml hi
  refine ⟨.ref l, e, .inl ⟨rfl, _, SqL.of hl⟩, h X rfl F H σ E _ fun v F1 H1 d l1 E1 rv ⟨n, y, ev, hn, hy, q⟩ => ?_⟩
  subst ev
  have rv' : Rp X.K (X.ff F1 false) v (.int (n : Int)) := rv
  cases rv'
  obtain ⟨xs1, e1, hl1, fl1, r1⟩ := E1.ml hi
  obtain ⟨u, hu, ru⟩ := r1.get hy
  have hlt : n < xs1.length := by rw [r1.length]; exact (List.getElem?_eq_some_iff.mp hy).1
  refine ⟨l, xs1, n, n, u, rfl, rfl, hl1, by omega, by omega, ?_, hu, ?_⟩
  · unfold seqIndex?
    have h0 : ¬ ((n : Int) < 0) := by omega
    simp [h0]
    omega
  · exact k u F1 _ y _ l1 (E1.mut hi (r1.eraseIdx n)) ru q
end
end Pk
end
section
set_option Elab.async false
set_option linter.all false
set_option maxRecDepth 100000
namespace Pk
open PySem PySem.Spec PyProof.Rows L2
section
variable {K : Kw} {Γ : List Sl} {P : Po}
end
end Pk
end
section
set_option Elab.async false
set_option linter.all false
set_option maxRecDepth 100000
namespace Pk
open PySem PySem.Spec PyProof.Rows L2
def nval (kvs : NEs) (k : NestedKey) : Option V := (kvs.find? fun x => decide (x.1 = k)).map (·.2.2)
def nput (kvs : NEs) (k : NestedKey) (b : Addr) (v : V) : NEs := if (nval kvs k).isSome then kvs.map (fun x => if x.1 = k then (x.1, x.2.1, v) else x) else kvs ++ [(k, b, v)]
abbrev NP (kvs : NEs) (xs : List (NestedKey × Addr × Value)) : Prop := Paired (fun (p : NestedKey × Addr × V) (q : NestedKey × Addr × Value) => p.1 = q.1 ∧ p.2.1 = q.2.1 ∧ RelV p.2.2 q.2.2) kvs xs
theorem nval_pos {p : NestedKey × Addr × V} {r : NEs} {k : NestedKey} (e : p.1 = k) : nval (p :: r) k = some p.2.2 := by simp [nval, List.find?_cons, e]
theorem nval_neg {p : NestedKey × Addr × V} {r : NEs} {k : NestedKey} (e : ¬ p.1 = k) : nval (p :: r) k = nval r k := by simp [nval, List.find?_cons, e]
theorem NP.val {kvs : NEs} {xs : List (NestedKey × Addr × Value)} (r : NP kvs xs) (k : NestedKey) : RelO (nval kvs k) ((atKey xs k).map (·.2)) := by
  induction r with
  | nil => exact True.intro
  | @cons p q ps qs h t ih =>
    obtain ⟨h1, _, h2⟩ := h
    by_cases e : p.1 = k
    · have e' : q.1 = k := h1.symm.trans e
      have b : atKey (q :: qs) k = some q.2 := by simp [atKey, List.find?_cons, e']
      rw [nval_pos e, b]; exact h2
    · have e' : ¬ q.1 = k := fun z => e (h1.trans z)
      have b : atKey (q :: qs) k = atKey qs k := by simp [atKey, List.find?_cons, e']
      rw [nval_neg e, b]; exact ih
theorem NP.repl {kvs : NEs} {xs : List (NestedKey × Addr × Value)} (r : NP kvs xs) (k : NestedKey) {y : V} {u : Value} (ry : RelV y u) :
    NP (kvs.map fun x => if x.1 = k then (x.1, x.2.1, y) else x) (xs.map (putAt k u)) := by
  induction r with
  | nil => exact .nil
  | @cons p q ps qs h t ih =>
    rw [List.map_cons, List.map_cons]
    refine .cons ?_ ih
    obtain ⟨h1, h2, h3⟩ := h
    unfold putAt
    by_cases e : p.1 = k
    · rw [if_pos e, if_pos (h1.symm.trans e)]; exact ⟨h1, h2, ry⟩
    · rw [if_neg e, if_neg (fun z => e (h1.trans z))]; exact ⟨h1, h2, h3⟩
theorem NP.put {kvs : NEs} {xs : List (NestedKey × Addr × Value)} (r : NP kvs xs) (k : NestedKey) {b : Addr} {y : V} {u : Value} (ry : RelV y u) : NP (nput kvs k b y) (storedH xs k b u) := by
  have e : (nval kvs k).isSome = (atKey xs k).isSome := by rw [(r.val k).isSome_eq, Option.isSome_map]
  unfold nput storedH
  rw [e]
  by_cases q : (atKey xs k).isSome = true
  · rw [if_pos q, if_pos q]; exact r.repl k ry
  · rw [if_neg q, if_neg q]; exact Paired.snoc r ⟨rfl, rfl, ry⟩
/-- the keys' tuples stand -/
def NKeys (K : PySem.W.Frag) (H : Hp) (kvs : NEs) : Prop := ∀ x ∈ kvs, Dp K H (.ref x.2.1) x.1.data
section
variable {X : Cx} {pins : List (Addr × Obj)} {σ : L2.St} {H : Hp} {s : Shared} {a b : Addr} {ep : Nat} {kvs : NEs} {k : NestedKey}
end
section
variable {X : Cx} {pins : List (Addr × Obj)} {σ : L2.St} {H : Hp} {s : Shared} {a : Addr} {y v : V} {u r : Value} {o : Option V} {A : Around} {E : Value → Shared → Prop}
end
section
variable {X : Cx} {o i e f value : Expr} {pos pos' tpos apos cpos : Pos} {td ty tv tx tk : TE}
end

section
variable {prog : Program} {w : World} {K : Type} [DecidableEq K] {knd : HeapKind prog w K} {A : Around} {E : Value → Shared → Prop} {s : Shared}
end

section
variable {X : Cx} {pos : Pos} {tk tv : TE} {k v : Expr}
end
section
variable {P : Program} {w w0 : World} {K : PySem.W.Frag} {tg : Expr} {d : Addr} {ep : Nat} {kvs : NEs}
end
section
variable {X : Cx} {tg e : Expr} {td : TE} {apos cpos : Pos}
end
end Pk
end
section
set_option Elab.async false
set_option linter.all false
set_option maxRecDepth 100000
namespace Pk
open PySem PySem.Spec PyProof.Rows L2
open PySem.W (KdlSrc)
section
variable {prog : Program} {w : World} {A : Around} {E : Value → Shared → Prop} {s : Shared} {T : String} {r d : Addr} {n : Nat} {P : Nat → Value → Prop} {OK : Heap → Prop}
end
section
variable {X : Cx}
end
end Pk
end
section
set_option Elab.async false
set_option linter.all false
set_option maxRecDepth 100000
namespace Pk
open PySem PySem.Spec PyProof.Rows L2
def dval (ds : NDs) (k : NestedKey) : Option PyData := (ds.find? fun x => decide (x.1 = k)).map (·.2)
def dput (ds : NDs) (k : NestedKey) (d : PyData) : NDs := if (dval ds k).isSome then ds.map (fun x => if x.1 = k then (x.1, d) else x) else ds ++ [(k, d)]
mutual
theorem Rp.dpK {K : Kw} {F : Hp} : ∀ (k : NestedKey) {v : V}, Rp K F v k.data → Dp K F v k.data
  | .none, _, h => by have h' : Rp K F _ .none := h; cases h'; exact .non
  | .num i, _, h => by have h' : Rp K F _ (.int i) := h; cases h'; exact .int _
  | .text x, _, h => by have h' : Rp K F _ (.str x) := h; cases h'; exact .str _
  | .tup ks, _, h => by
    have h' : Rp K F _ (.tuple (NestedKey.datas ks)) := h
    cases h' with
    | tup a b => exact .tup a (RpA.dpK ks b)
theorem RpA.dpK {K : Kw} {F : Hp} : ∀ (ks : List NestedKey) {vs : List V}, RpA K F vs (NestedKey.datas ks) → DpAll K F vs (NestedKey.datas ks)
  | [], _, h => by have h' : RpA K F _ [] := h; cases h'; exact .nil
  | k :: ks, _, h => by
    have h' : RpA K F _ (k.data :: NestedKey.datas ks) := h
    cases h' with
    | cons a b => exact .cons (Rp.dpK k a) (RpA.dpK ks b)
end
section
variable {K : Kw} {F F' H : Hp} {es : NEs} {ds : NDs}
theorem RpD.length (r : RpD K F es ds) : es.length = ds.length := by
  induction es generalizing ds with
  | nil => cases r; rfl
  | cons e es ih => cases r with
    | cons a b c => simp [ih c]
theorem RpD.keys (le : Le F H) (r : RpD K F es ds) : NKeys K H es := by
  induction es generalizing ds with
  | nil => exact fun x hx => nomatch hx
  | cons e es ih => cases r with
    | cons a b c =>
      intro x hx
      rcases List.mem_cons.mp hx with rfl | hx
      · exact Rp.dpK _ (a.mono le)
      · exact ih c x hx
theorem RpD.vSome {k : NestedKey} {d : PyData} (r : RpD K F es ds) (h : dval ds k = some d) : ∃ v, nval es k = some v ∧ Rp K F v d := by
  induction es generalizing ds with
  | nil => cases r; cases h
  | cons e es ih => cases r with
    | @cons k' b v d' _ ds a b' c =>
      by_cases e : k' = k
      · subst e
        have : dval ((k', d') :: ds) k' = some d' := by simp [dval]
        rw [this] at h
        cases h
        exact ⟨v, nval_pos rfl, b'⟩
      · have : dval ((k', d') :: ds) k = dval ds k := by simp [dval, List.find?_cons, e]
        rw [this] at h
        rw [nval_neg e]
        exact ih c h
theorem RpD.vNone {k : NestedKey} (r : RpD K F es ds) (h : dval ds k = none) : nval es k = none := by
  induction es generalizing ds with
  | nil => rfl
  | cons e es ih => cases r with
    | @cons k' b v d' _ ds a b' c =>
      by_cases e : k' = k
      · subst e
        have : dval ((k', d') :: ds) k' = some d' := by simp [dval]
        rw [this] at h
        cases h
      · have : dval ((k', d') :: ds) k = dval ds k := by simp [dval, List.find?_cons, e]
        rw [this] at h
        rw [nval_neg e]
        exact ih c h
theorem RpD.repl {k : NestedKey} {v : V} {d : PyData} (r : RpD K F es ds) (rv : Rp K F v d) : RpD K F (es.map fun x => if x.1 = k then (x.1, x.2.1, v) else x) (ds.map fun x => if x.1 = k then (x.1, d) else x) := by
  induction es generalizing ds with
  | nil => cases r; exact .nil
  | cons e es ih => cases r with
    | @cons k' b v' d' _ ds a b' c =>
      rw [List.map_cons, List.map_cons]
      by_cases e : k' = k
      · rw [if_pos e, if_pos e]
        exact .cons a rv (ih c)
      · rw [if_neg e, if_neg e]
        exact .cons a b' (ih c)
theorem RpD.app {es' : NEs} {ds' : NDs} (r : RpD K F es ds) (r' : RpD K F es' ds') : RpD K F (es ++ es') (ds ++ ds') := by
  induction es generalizing ds with
  | nil => cases r; exact r'
  | cons e es ih => cases r with
    | cons a b c => exact .cons a b (ih c)
theorem RpD.put {k : NestedKey} {b : Addr} {v : V} {d : PyData} (r : RpD K F es ds) (rb : Rp K F (.ref b) k.data) (rv : Rp K F v d) : RpD K F (nput es k b v) (dput ds k d) := by
  have e : (nval es k).isSome = (dval ds k).isSome := by
    cases h : dval ds k with
    | none => rw [r.vNone h]; rfl
    | some x => obtain ⟨u, hu, _⟩ := r.vSome h; rw [hu]; rfl
  unfold nput dput
  rw [e]
  split
  · exact r.repl rv
  · exact r.app (.cons rb rv .nil)
theorem RpD.get (r : RpD K F es ds) {i : Nat} {k : NestedKey} {b : Addr} {v : V} (h : es[i]? = some (k, b, v)) : ∃ d, ds[i]? = some (k, d) ∧ Rp K F (.ref b) k.data ∧ Rp K F v d := by
  induction es generalizing ds i with
  | nil => simp at h
  | cons e es ih => cases r with
    | cons a b c =>
      cases i with
      | zero => simp at h; obtain ⟨rfl, rfl, rfl⟩ := h; exact ⟨_, rfl, a, b⟩
      | succ i => exact ih c (by simpa using h)
end
section
variable {K : Kw} {m : Bool} {Γ : List Sl} {Q : PyData → Prop} {QX : Sl → Prop} {te ti tx td : TE}
end
section
variable {K : Kw} {m : Bool} {Γ : List Sl} {Q : PyData → Prop} {QX : Sl → Prop} {te ti tx td : TE} {P : Po}
end
end Pk
end
section
set_option Elab.async false
set_option linter.all false
set_option maxRecDepth 100000
namespace Pk
open PySem PySem.Spec PyProof.Rows L2
section
variable {K : Kw} {m : Bool} {Γ : List Sl} {Q : PyData → Prop} {QX : Sl → Prop} {te ti tx td tk : TE} {P : Po}
end
end Pk
end
section
set_option Elab.async false
set_option linter.all false
set_option maxRecDepth 100000
namespace Pk
open PySem PySem.Spec PyProof.Rows L2
section
variable {K : Kw} {m : Bool} {Γ : List Sl} {Q : PyData → Prop} {QX : Sl → Prop}
end
end Pk
end
section
set_option Elab.async false
set_option linter.all false
set_option maxRecDepth 100000
namespace Pk
open PySem PySem.Spec PyProof.Rows L2
/-- the same but for what is told of things of one's own -/
def Alk (Γ Ξ : List Sl) : Prop := Ξ.length = Γ.length ∧ ∀ (i : Nat), (∃ v Φ Φ', Γ[i]? = some (.ex v Φ) ∧ Ξ[i]? = some (.ex v Φ')) ∨ ((∀ v Φ, Γ[i]? ≠ some (.ex v Φ)) ∧ Ξ[i]? = Γ[i]?)
theorem Alk.same {Γ Ξ : List Sl} (h : Alk Γ Ξ) {i : Nat} {s : Sl} (e : Ξ[i]? = some s) (n : ∀ v Φ, s ≠ .ex v Φ) : Γ[i]? = some s := by
  rcases h.2 i with ⟨v, Φ, Φ', _, z⟩ | ⟨_, z⟩
  · rw [e] at z; injection z with z; exact absurd z (n v Φ')
  · rw [← z]; exact e
section
variable {P : Program} {K : Kw} {mg : Str → Option Value} {base : Heap}
end
section
variable {K : Kw} {m : Bool} {Γ : List Sl} {T : List Sl → (List Sl → Sl → Prop) → Prop} {EE : XK} {tr : TA} {te : TE} {P : Po}
end
end Pk
end
section
set_option Elab.async false
set_option linter.all false
set_option maxRecDepth 100000
namespace Pk
open PySem PySem.Spec PyProof.Rows L2
open PySem.W (KdlSrc)
section
variable {prog : Program} {w : World} {A : Around} {E : Value → Shared → Prop} {s : Shared} {T : String} {r d : Addr} {n : Nat} {P : Nat → Value → Prop} {OK : Heap → Prop}
end
section
variable {X : Cx} {e : Expr} {td : TE} {apos cpos p0 pos : Pos}
end
section
variable {K : Kw} {m : Bool} {Γ : List Sl} {Q : PyData → Prop} {td : TE}
end
end Pk
end
section
set_option Elab.async false
set_option linter.all false
set_option maxRecDepth 100000
namespace Pk
open PySem PySem.Spec PyProof.Rows L2
section
variable {K : Kw} {m : Bool} {Γ : List Sl} {Q : PyData → Prop} {QX : Sl → Prop} {te ti tx td tk : TE} {P : Po}
end
end Pk
end
section
set_option Elab.async false
set_option linter.all false
set_option maxRecDepth 100000
namespace Pk
open PySem PySem.Spec PyProof.Rows L2
section
variable {K : Kw} {m : Bool} {Γ : List Sl} {Q : PyData → Prop} {QX : Sl → Prop} {W : XW} {ex : Value → Option Fs → List Sl → Prop} {T : List Sl → (Sl → Prop) → XQ → Prop} {ta tb tc te : TE} {tt : TT} {g : TG} {vs : List Nat} {a : V} {P : Po}
/-- a call that may raise, where it does not -/
theorem WXw.good (h : WXw K W (fun _ _ _ => False) Γ te QX) : WX K Γ te QX := fun X hK F H σ E C k => h X hK (fun _ _ _ _ _ _ _ _ _ z => z.elim) F H σ E C k
end
end Pk
end
section
set_option Elab.async false
set_option linter.all false
set_option maxRecDepth 100000
namespace Pk
open PySem PySem.Spec PyProof.Rows L2
section
variable {K : Kw} {m : Bool} {Γ : List Sl} {Q : PyData → Prop} {QX : Sl → Prop} {t : TE}
end
end Pk
end
section
set_option Elab.async false
set_option linter.all false
set_option maxRecDepth 100000
namespace Pk
open PySem PySem.Spec PyProof.Rows L2
section
variable {K : Kw} {m : Bool} {Γ : List Sl} {P : Po} {te : TE} {ta : TA} {QI : List PyData → Prop} {Q : PyData → Prop}
end
end Pk
end
section
set_option Elab.async false
set_option linter.all false
set_option maxRecDepth 100000
namespace Pk
open PySem PySem.Spec PyProof.Rows L2
section
variable {K : Kw} {Γ : List Sl} {P : Po} {te : TE} {ts : TS}
/-- return xs.pop(), xs ints of another's -/
theorem sj_retPop {i : Nat} {l : Addr} {ns : List Int} {n : Int} (PL : List Int → Prop) (hi : Γ[i]? = some (.ml false l ((ns ++ [n]).map PyData.int))) (hp : PL ns) (h : P.rt (.dat true (.int n)) (Γ.set i (.ex (.ref l) (OwnL K PL)))) : SJ K Γ (tRet (tBM0 K "list" rPop (tVar i))) P := fun X hK F H σ E D hD => by
  subst hK
  obtain ⟨xs, e, hl, fl, r⟩ := E.ml hi
  have ex := ints_of r
  subst ex
  have rd : RpA X.K (X.ff F false) ((ns ++ [n]).map V.int).dropLast (ns.map PyData.int) := by
    have : ((ns ++ [n]).map V.int).dropLast = ns.map V.int := by simp
    rw [this]
    exact ints_rp ns
  refine ⟨.ref l, e, .inl ⟨rfl, _, SqL.of hl⟩, l, _, .int n, rfl, rfl, hl, by simp, ?_⟩
  have hil : i < Γ.length := (List.getElem?_eq_some_iff.mp hi).1
  have E2 := E.mut hi rd
  have E3 := E2.retell (i := i) (s' := .ex (.ref l) (OwnL X.K PL)) Le.rfl' E2.le (fun _ _ _ _ => rfl) (List.getElem?_set_self hil) fun S hS q => ⟨S, (by
    obtain ⟨xs, e, hS, hl, r, _⟩ := q
    rw [ints_of r] at hl
    exact ⟨e, rfl, l, ns, rfl, hS, hl, hp⟩), fun a sa => ⟨sa, (hS a sa).1⟩, fun _ z => absurd rfl z⟩
  rw [List.set_set] at E3
  exact hD.rt F _ _ _ (.int n) _ (E3.pushD (.int n)) h
theorem sj_setG {i : Nat} (h : WXg K Γ te fun Γ' s => P.nx (Γ'.set i s)) : SJ K Γ (tAsg te (gName i)) P := fun X hK F H σ E D hD =>
  h X hK F H σ E _ fun v F1 H1 Γ' s l1 E1 q => hD.nx F1 H1 _ _ (E1.put i) q
end
end Pk
end
section
set_option Elab.async false
set_option linter.all false
set_option maxRecDepth 100000
namespace Pk
open PySem PySem.Spec PyProof.Rows L2
section
variable {K : Kw} {m : Bool} {Γ : List Sl} {N : List Sl → Prop}
end
end Pk
end
section
set_option Elab.async false
set_option linter.all false
set_option maxRecDepth 100000
set_option pp.maxSteps 1000
namespace Pk
open PySem PySem.Spec PyProof.Rows L2
open PySem.W (DilG)
section
variable {X : Cx} {pins : List (Addr × Obj)} {σ : L2.St} {H : Hp} {s : Shared}
end
section
open PySem.W (EachIs keyToks keyToksAll alike dataLt SortsAt)
variable {prog : Program} {w : World} {A : Around} {E : Value → Shared → Prop} {s : Shared}
abbrev Pr3 := Value × PyData × PyData
structure PrOk (h : Heap) (u : Nat) (bs : List Pr3) : Prop where
  rd : ∀ p ∈ bs, ∃ as, Reads h p.1 (.tuple [p.2.1, p.2.2]) as
  one : ∀ p ∈ bs, ∀ q ∈ bs, p.1 = q.1 → p = q
  key : ∀ p ∈ bs, ∀ q ∈ bs, p = q ∨ (alike p.2.1 q.2.1 = true ∧ PyData.eqv p.2.1 q.2.1 = false)
  self : ∀ p ∈ bs, alike p.2.1 p.2.1 = true ∧ alike p.2.2 p.2.2 = true
  tup : ∀ p ∈ bs, ∃ xs, p.2.1 = .tuple xs
  dep : ∀ p ∈ bs, u + 1 + p.2.1.depth < cLine ∧ u + 1 + p.2.2.depth < cLine
end
/-- items that can be sorted by their keys -/
structure NSrt (K : PySem.W.Frag) (H : Hp) (kvs : NEs) (vds : List PyData) : Prop where
  keys : NKeys K H kvs
  vals : DpAll K H (kvs.map fun x => x.2.2) vds
  len : vds.length = kvs.length
  nd : (kvs.map fun x => x.1).Nodup
  al : ∀ x ∈ kvs, ∀ y ∈ kvs, PySem.W.alike x.1.data y.1.data = true
  ne : ∀ x ∈ kvs, ∀ y ∈ kvs, x.1 ≠ y.1 → PyData.eqv x.1.data y.1.data = false
  tup : ∀ x ∈ kvs, ∃ ks, x.1 = .tup ks
  kd : ∀ x ∈ kvs, x.1.data.depth ≤ 50
  va : ∀ d ∈ vds, PySem.W.alike d d = true
  vd : ∀ d ∈ vds, d.depth ≤ 50
section
variable {X : Cx} {pins : List (Addr × Obj)} {σ : L2.St} {H : Hp} {s : Shared}
end
section
variable {X : Cx} {e : Expr} {td : TE} {apos cpos p0 pos : Pos}
end
end Pk
end
section
set_option Elab.async false
set_option linter.all false
set_option maxRecDepth 100000
set_option pp.maxSteps 1000
namespace Pk
open PySem PySem.Spec PyProof.Rows L2
section
variable {K : Kw} {F F' H : Hp}
end
/-- pairs that can be sorted by their first ones -/
structure DSrt (ds : NDs) : Prop where
  nd : (ds.map fun x => x.1).Nodup
  al : ∀ x ∈ ds, ∀ y ∈ ds, PySem.W.alike x.1.data y.1.data = true
  ne : ∀ x ∈ ds, ∀ y ∈ ds, x.1 ≠ y.1 → PyData.eqv x.1.data y.1.data = false
  tup : ∀ x ∈ ds, ∃ ks, x.1 = .tup ks
  kd : ∀ x ∈ ds, x.1.data.depth ≤ 50
  vc : PyData.canLayAll0 (ds.map fun x => x.2) = true
  va : ∀ x ∈ ds, PySem.W.alike x.2 x.2 = true
  vd : ∀ x ∈ ds, x.2.depth ≤ 50
section
variable {K : Kw} {Γ : List Sl} {td : TE} {QX : Sl → Prop}
end
section
section
variable {X : Cx} {pins : List (Addr × Obj)} {σ : L2.St} {H : Hp} {s : Shared}
end
section
variable {K : Kw} {Γ : List Sl} {te : TE} {QX : Sl → Prop} {Q : PyData → Prop}
end
end
end Pk
end
section
set_option Elab.async false
set_option linter.all false
set_option maxRecDepth 100000
set_option pp.maxSteps 1000
namespace Pk
open PySem PySem.Spec PyProof.Rows L2
section
variable {X : Cx} {o i value : Expr} {pos pos' : Pos} {td ty tv : TE}
end
section
variable {K : Kw} {m : Bool} {Γ : List Sl} {QI : List PyData → Prop} {Q : PyData → Prop} {P : Po} {td ti tx te : TE}
end
section
variable {K : Kw} {m : Bool} {Γ : List Sl} {Q : PyData → Prop}
end
end Pk
end
section
set_option Elab.async false
set_option linter.all false
set_option maxRecDepth 100000
set_option pp.maxSteps 1000
namespace Pk
open PySem PySem.Spec PyProof.Rows L2 Pz
section
variable {K : Kw} {m : Bool} {Γ : List Sl} {ta tb tc : TE} {QX : Sl → Prop}
end
end Pk
end
section
set_option Elab.async false
set_option linter.all false
set_option maxRecDepth 100000
set_option pp.maxSteps 1000
namespace Pk
open PySem PySem.Spec PyProof.Rows L2
section
variable {X : Cx} {pins : List (Addr × Obj)} {σ : L2.St} {H : Hp} {s : Shared} {a b : Addr} {ep : Nat} {kvs : List (Key × V)} {k : Key}
end
section
variable {X : Cx} {pins : List (Addr × Obj)} {σ : L2.St} {H : Hp} {s : Shared} {a : Addr} {y v : V} {u r : Value} {o : Option V} {A : Around} {E : Value → Shared → Prop}
end
section
variable {X : Cx} {o i e f value : Expr} {pos pos' tpos apos cpos : Pos} {td ty tv tx tk : TE}
end
section
variable {P : Program} {w w0 : World} {K : PySem.W.Frag} {tg : Expr} {d : Addr} {ep : Nat} {kvs : List (Key × V)}
end
section
variable {X : Cx} {tg e : Expr} {td : TE} {apos cpos : Pos}
end
end Pk
end
section
set_option Elab.async false
set_option linter.all false
set_option maxRecDepth 100000
set_option pp.maxSteps 1000
namespace Pk
open PySem PySem.Spec PyProof.Rows L2
section
variable {X : Cx} {pins : List (Addr × Obj)} {σ : L2.St} {H : Hp} {s : Shared} {a : Addr} {ep : Nat} {kvs : List (Key × V)} {y v : V} {u r : Value} {o : Option V} {A : Around} {E : Value → Shared → Prop}
end
section
variable {X : Cx} {o e f : Expr} {pos apos cpos : Pos} {t td ty tx : TE}
end
end Pk
end
section
set_option Elab.async false
set_option linter.all false
set_option maxRecDepth 100000
set_option pp.maxSteps 1000
namespace Pk
open PySem PySem.Spec PyProof.Rows L2
def fval (fs : FDs) (k : Key) : Option PyData := (fs.find? fun x => decide (x.1 = k)).map (·.2)
def fput (fs : FDs) (k : Key) (d : PyData) : FDs := if (fs.any fun x => decide (x.1 = k)) = true then fs.map (fun x => if x.1 = k then (x.1, d) else x) else fs ++ [(k, d)]
/-- entries and what they stand for -/
structure RpF (K : Kw) (F : Hp) (kvs : List (Key × V)) (fs : FDs) : Prop where
  ks : kvs.map (·.1) = fs.map (·.1)
  vs : RpA K F (kvs.map (·.2)) (fs.map (·.2))
section
variable {K : Kw} {F F' H : Hp}
theorem RpF.nil : RpF K F [] [] := ⟨rfl, .nil⟩
theorem RpF.mono {kvs : List (Key × V)} {fs : FDs} (r : RpF K F kvs fs) (e : Le F F') : RpF K F' kvs fs := ⟨r.ks, r.vs.mono e⟩
theorem RpF.length {kvs : List (Key × V)} {fs : FDs} (r : RpF K F kvs fs) : kvs.length = fs.length := by
  have := congrArg List.length r.ks
  rw [List.length_map, List.length_map] at this
  exact this
theorem RpF.unc {p : Key × V} {q : Key × PyData} {kvs : List (Key × V)} {fs : FDs} (r : RpF K F (p :: kvs) (q :: fs)) : p.1 = q.1 ∧ Rp K F p.2 q.2 ∧ RpF K F kvs fs := by
  obtain ⟨h1, h2⟩ := r
  rw [List.map_cons, List.map_cons] at h1 h2
  injection h1 with a b
  cases h2 with
  | cons x y => exact ⟨a, x, b, y⟩
theorem RpF.cons {p : Key × V} {q : Key × PyData} {kvs : List (Key × V)} {fs : FDs} (h : p.1 = q.1) (hv : Rp K F p.2 q.2) (r : RpF K F kvs fs) : RpF K F (p :: kvs) (q :: fs) :=
  ⟨by rw [List.map_cons, List.map_cons, h, r.ks], .cons hv r.vs⟩
theorem RpF.vSome {k : Key} {d : PyData} : ∀ {kvs : List (Key × V)} {fs : FDs}, RpF K F kvs fs → fval fs k = some d → ∃ v, valV kvs k = some v ∧ Rp K F v d
  | [], [], _, h => by simp [fval] at h
  | [], _ :: _, r, _ => by have := r.length; simp at this
  | _ :: _, [], r, _ => by have := r.length; simp at this
  | p :: kvs, q :: fs, r, h => by
    obtain ⟨a, b, c⟩ := r.unc
    by_cases e : q.1 = k
    · have : fval (q :: fs) k = some q.2 := by simp [fval, e]
      rw [this] at h
      cases h
      exact ⟨p.2, by simp [valV, a, e], b⟩
    · have : fval (q :: fs) k = fval fs k := by simp [fval, List.find?_cons, e]
      rw [this] at h
      obtain ⟨v, hv, rv⟩ := RpF.vSome c h
      refine ⟨v, ?_, rv⟩
      rw [← hv]
      simp [valV, List.find?_cons, a, e]
theorem RpF.vNone {k : Key} : ∀ {kvs : List (Key × V)} {fs : FDs}, RpF K F kvs fs → fval fs k = none → valV kvs k = none
  | [], [], _, h => rfl
  | [], _ :: _, r, _ => by have := r.length; simp at this
  | _ :: _, [], r, _ => by have := r.length; simp at this
  | p :: kvs, q :: fs, r, h => by
    obtain ⟨a, b, c⟩ := r.unc
    by_cases e : q.1 = k
    · have : fval (q :: fs) k = some q.2 := by simp [fval, e]
      rw [this] at h
      cases h
    · have : fval (q :: fs) k = fval fs k := by simp [fval, List.find?_cons, e]
      rw [this] at h
      rw [← RpF.vNone c h]
      simp [valV, List.find?_cons, a, e]
theorem RpF.anyK {k : Key} {kvs : List (Key × V)} {fs : FDs} (r : RpF K F kvs fs) : (kvs.any fun x => decide (x.1 = k)) = fs.any fun x => decide (x.1 = k) := by
  have e1 : (kvs.any fun x => decide (x.1 = k)) = (kvs.map (·.1)).any fun x => decide (x = k) := by rw [List.any_map]; rfl
  have e2 : (fs.any fun x => decide (x.1 = k)) = (fs.map (·.1)).any fun x => decide (x = k) := by rw [List.any_map]; rfl
  rw [e1, e2, r.ks]
theorem RpF.repl {k : Key} {v : V} {d : PyData} (hv : Rp K F v d) : ∀ {kvs : List (Key × V)} {fs : FDs}, RpF K F kvs fs → RpF K F (kvs.map fun x => if x.1 = k then (x.1, v) else x) (fs.map fun x => if x.1 = k then (x.1, d) else x)
  | [], [], _ => .nil
  | [], _ :: _, r => by have := r.length; simp at this
  | _ :: _, [], r => by have := r.length; simp at this
  | p :: kvs, q :: fs, r => by
    obtain ⟨a, b, c⟩ := r.unc
    rw [List.map_cons, List.map_cons]
    refine .cons ?_ ?_ (RpF.repl hv c)
    · rw [a]; split <;> simp [a]
    · rw [a]; split
      · exact hv
      · exact b
theorem RpF.snoc {k : Key} {v : V} {d : PyData} (hv : Rp K F v d) : ∀ {kvs : List (Key × V)} {fs : FDs}, RpF K F kvs fs → RpF K F (kvs ++ [(k, v)]) (fs ++ [(k, d)])
  | [], [], _ => .cons rfl hv .nil
  | [], _ :: _, r => by have := r.length; simp at this
  | _ :: _, [], r => by have := r.length; simp at this
  | p :: kvs, q :: fs, r => by
    obtain ⟨a, b, c⟩ := r.unc
    exact .cons a b (RpF.snoc hv c)
theorem RpF.put {k : Key} {v : V} {d : PyData} {kvs : List (Key × V)} {fs : FDs} (r : RpF K F kvs fs) (hv : Rp K F v d) : RpF K F (putK kvs k v) (fput fs k d) := by
  unfold putK fput
  rw [r.anyK]
  by_cases h : (fs.any fun x => decide (x.1 = k)) = true
  · rw [if_pos h, if_pos h]; exact r.repl hv
  · rw [if_neg h, if_neg h]; exact r.snoc hv
theorem RpF.get {kvs : List (Key × V)} {fs : FDs} (r : RpF K F kvs fs) {i : Nat} {k : Key} {v : V} (h : kvs[i]? = some (k, v)) : ∃ d, fs[i]? = some (k, d) ∧ Rp K F v d := by
  induction kvs generalizing fs i with
  | nil => simp at h
  | cons p kvs ih =>
    cases fs with
    | nil => have := r.length; simp at this
    | cons q fs =>
      obtain ⟨a, b, c⟩ := r.unc
      cases i with
      | zero =>
        simp at h
        subst h
        exact ⟨q.2, by simp; rw [show k = q.1 from a], b⟩
      | succ i =>
        obtain ⟨d, h1, h2⟩ := ih c (by simpa using h)
        exact ⟨d, by simpa using h1, h2⟩
end
section
variable {K : Kw} {m : Bool} {Γ : List Sl} {Q : PyData → Prop} {QX : Sl → Prop} {te ti tx td : TE}
end
section
variable {K : Kw} {m : Bool} {Γ : List Sl} {Q : PyData → Prop} {QX : Sl → Prop} {te ti tx td : TE} {P : Po}
end
end Pk
end
section
set_option Elab.async false
set_option linter.all false
set_option maxRecDepth 100000
set_option pp.maxSteps 1000
namespace Pk
open PySem PySem.Spec PyProof.Rows L2
section
variable {X : Cx} {pins : List (Addr × Obj)} {σ : L2.St} {H : Hp} {s : Shared} {d : Addr} {ep : Nat} {kvs : List (Key × V)}
end
section
variable {K : Kw} {m : Bool} {Γ : List Sl} {Q : PyData → Prop} {QX : Sl → Prop} {ta tb : TE}
end
end Pk
end
section
set_option Elab.async false
set_option linter.all false
set_option maxRecDepth 100000
set_option pp.maxSteps 1000
namespace Pk
open PySem PySem.Spec PyProof.Rows L2
section
variable {K : Kw} {m : Bool} {Γ : List Sl} {Q : PyData → Prop} {QX : Sl → Prop} {te : TE}
end
end Pk
end
section
set_option Elab.async false
set_option linter.all false
set_option maxRecDepth 100000
namespace Pk
open PySem PySem.Spec PyProof.Rows L2
/-- where a def stands that a global of another name holds -/
structure DefA (K : PySem.W.Frag) (mg : Str → Option Value) (x y : Str) (st : Stmt) (ps : List Str) : Prop where
  ex : ∃ f fd, mg x = some (.ref f) ∧ Fun K y y st f fd ∧ Binds K fd ps []
section
variable {P : Program} {K : Kw} {mg : Str → Option Value} {base : Heap}
end
end Pk
end
section
set_option Elab.async false
set_option linter.all false
set_option maxRecDepth 100000
set_option pp.maxSteps 1000
namespace Pk
open PySem PySem.Spec PyProof.Rows L2
section
variable {X : Cx} {pins : List (Addr × Obj)} {σ : L2.St} {H : Hp} {s : Shared}
end
section
variable {K : Kw} {m : Bool} {Γ : List Sl} {Q : PyData → Prop}
end
end Pk
end
section
set_option Elab.async false
set_option linter.all false
set_option maxRecDepth 100000
set_option pp.maxSteps 1000
namespace Pk
open PySem PySem.Spec PyProof.Rows L2
def rCountD (K : PySem.W.Frag) : V → List V → Hp → VK → Prop := fun x xs H Q => ∃ (a : Addr) (y : V) (d : PyData) (ds : List PyData), x = V.ref a ∧ xs = [y] ∧ Dp K H (V.ref a) (.list ds) ∧ Dp K H y d ∧
  SeqAt.shaped (.list ds) = true ∧ SeqAt.shaped d = true ∧ Q (.int (ds.countP fun z => PyData.eqv z d : Nat)) H
theorem mt_countD {X : Cx} (hu : X.A.units + 65 < cLine) : MtR X "list.count" (rCountD X.K) := by
  intro pins s σ H x xs v us Q I rx rxs h
  obtain ⟨a, y, d, ds, rfl, rfl, hl, hy, sl, sd, q⟩ := h
  cases rx
  cases rxs with
  | cons ry rt =>
    rename_i uy ut
    cases rt
    obtain ⟨bs, r1⟩ := Dp.reads I d y uy hy ry
    have hxs : PyData.canLayAll0 ds = true := SeqAt.canLay_of_shaped sl
    have hroom : X.A.units + 1 + min (PyData.depthAll ds) d.depth < cLine := room_in_shaped sd hu
    cases hl with
    | lst hs ha =>
      obtain ⟨its, rv, ⟨⟨cls, dd, data, sls⟩, n, ho, hc, hdn, hdt⟩, hlen⟩ := I.list hs
      simp only at hc hdt
      subst hc hdt
      obtain ⟨as, h4⟩ := Dp.readsAll I ds _ its ha rv
      have hmap : its.map (SeqAt.readOf s.heap) = ds := SeqAt.readsAll_map ds its as hxs h4
      refine call_meets PySem.F.slot_list_count ⟨_, ho, rfl⟩ PySem.F.entry_list_count (PySem.F.args_list_count_2 _ _)
        (SeqAt.list_countAt a its.toArray n dd sls uy (fun u => PyData.eqv (SeqAt.readOf s.heap u) d)) ⟨ho, SeqAt.items_eqAt (vs := its.toArray) (show ReadsAll s.heap its.toArray.toList ds as from h4) r1 hxs (SeqAt.canLay_of_shaped sd) hroom, ?_⟩
      have ec : its.toArray.toList.countP (fun u => PyData.eqv (SeqAt.readOf s.heap u) d) = ds.countP fun z => PyData.eqv z d := by
        rw [← hmap, List.countP_map]
        rfl
      refine ⟨.int (ds.countP fun z => PyData.eqv z d : Nat), H, I.tok _, ⟨s.toks, ?_⟩, q⟩
      show Value.int ((its.toArray.toList.countP (fun u => PyData.eqv (SeqAt.readOf s.heap u) d) : Nat) : Int) s.toks = Value.int ((ds.countP (fun z => PyData.eqv z d) : Nat) : Int) s.toks
      rw [ec]
section
variable {K : Kw} {m : Bool} {Γ : List Sl} {Q : PyData → Prop} {te ti : TE}
theorem wd_count (h : WD K false Γ te fun d => ∃ ds, d = .list ds ∧ WD K false Γ ti fun x => SeqAt.shaped (.list ds) = true ∧ SeqAt.shaped x = true ∧ Q (.int (ds.countP fun z => PyData.eqv z x : Nat))) : WD K m Γ (tBM K "list" (rCountD K) te (tCons ti tNil)) Q := fun X hK F H σ E C k => by
  subst hK
  refine h X rfl F H σ E _ fun v F1 H1 d l1 E1 r ⟨ds, e, h2⟩ => ?_
  subst e
  cases r with
  | lst ha ra =>
    rename_i a xs
    refine ⟨.inl ⟨rfl, _, SqL.of (E1.le _ _ ha)⟩, h2 X rfl F1 H1 σ E1 _ fun u F2 H2 x l2 E2 ru ⟨s1, s2, q⟩ => ?_⟩
    have r2 : Rp X.K H2 (.ref a) (.list ds) := (Rp.lst (ha) ra).mono (l2.tr E2.le)
    exact ⟨a, u, x, ds, rfl, rfl, Rp.dp _ (SeqAt.canLay_of_shaped s1) r2, Rp.dp _ (SeqAt.canLay_of_shaped s2) (ru.mono E2.le), s1, s2, k _ F2 H2 _ (l1.tr l2) E2 (.int _) q⟩
end
end Pk
end
section
set_option Elab.async false
set_option linter.all false
set_option maxRecDepth 100000
set_option pp.maxSteps 1000
namespace Pk
open PySem PySem.Spec PyProof.Rows L2
/-- the same slots, own things told otherwise -/
structure SameEx (Γ Γ2 : List Sl) : Prop where
  len : Γ2.length = Γ.length
  at_ : ∀ i : Nat, Γ2[i]? = Γ[i]? ∨ ∃ v Φ Φ', Γ[i]? = some (Sl.ex v Φ) ∧ Γ2[i]? = some (Sl.ex v Φ')
section
variable {P : Program} {K : Kw} {mg : Str → Option Value} {base : Heap}
end
end Pk
end
section
set_option Elab.async false
set_option linter.all false
set_option maxRecDepth 100000
set_option pp.maxSteps 1000
namespace Pk
open PySem PySem.Spec PyProof.Rows L2
section
variable {K : Kw} {m : Bool} {Γ : List Sl} {t ta tb tc te : TE} {Q : PyData → List Sl → Prop} {QX : List Sl → Sl → Prop} {P : Po}
variable {tr : TA} {QA : List PyData → List Sl → Prop}
variable {T : List Sl → (List Sl → Sl → Prop) → Prop} {EE : XK}
variable {tt tu : TT} {QT : Bool → List Sl → Prop}
variable {wi : TI} {QI : List PyData → List Sl → Prop} {g : TG} {tbs : TS}
end
end Pk
end
section
set_option Elab.async false
set_option linter.all false
set_option maxRecDepth 100000
set_option pp.maxSteps 1000
namespace Pk
open PySem PySem.Spec PyProof.Rows L2
end Pk
end
section
set_option Elab.async false
set_option linter.all false
set_option maxRecDepth 100000
set_option pp.maxSteps 1000
namespace Pk
open PySem PySem.Spec PyProof.Rows L2
variable {K : Kw} {m : Bool} {Γ : List Sl} {te ti ta tb tk : TE} {Q : PyData → Prop}
end Pk
end
section
set_option Elab.async false
set_option linter.all false
set_option maxRecDepth 100000
set_option pp.maxSteps 1000
namespace PySem.W
open Lean Elab Tactic Meta PySem PySem.Calls PyProof.Rows PyProof.V PySem.Spec
section
variable {prog : Program} {w : World} {K : Type} [DecidableEq K] {knd : KeyKind prog w K} {A : Around} {E : Value → Shared → Prop} {s : Shared}
end
section
variable {prog : Program} {w : World} {K : Type} [DecidableEq K] {knd : HeapKind prog w K} {A : Around} {E : Value → Shared → Prop} {s : Shared}
inductive KeqHitsH {K : Type} [DecidableEq K] (prog : Program) (w : World) (A : Around) (s : Shared) (kb : List (K × Addr × Value)) : List (K × Addr × Value) → Bool → Prop
  | nil : KeqHitsH prog w A s kb [] true
  | miss {k : K} {p : Addr × Value} {r : List (K × Addr × Value)} : atKey kb k = none → KeqHitsH prog w A s kb ((k, p) :: r) false
  | hit {k : K} {p q : Addr × Value} {r : List (K × Addr × Value)} {e b : Bool} : atKey kb k = some q → SeqAt.EqP prog w A s p.2 q.2 e → KeqHitsH prog w A s kb r b → KeqHitsH prog w A s kb ((k, p) :: r) (e && b)
end
end PySem.W
namespace Pk
open PySem PySem.Spec PyProof.Rows L2
section
variable {X : Cx} {pins : List (Addr × Obj)} {σ : L2.St} {H : Hp} {s : Shared}
end
section
variable {K : Kw} {m : Bool} {Γ : List Sl} {Q : PyData → Prop}
end
end Pk
end
section
set_option Elab.async false
set_option linter.all false
set_option maxRecDepth 100000
set_option pp.maxSteps 1000
namespace Pk
open PySem PySem.Spec PyProof.Rows L2
variable {K : Kw} {m : Bool} {Γ : List Sl}
end Pk
end
section
set_option Elab.async false
set_option linter.all false
set_option maxRecDepth 100000
namespace Pr
open PySem PySem.Spec PyProof.Rows L2 Pk
structure FnOkG (P : Program) (w : World) (K : PySem.W.Frag) (mg : Str → Option Value) (base : Heap) (CX : CXT) (k : Nat) (f : Addr) (fd : FuncData) (ps : List Str) (sp : Sp) : Prop where
  len : ∀ vs H Q E, sp vs H Q E → vs.length = ps.length
  run : ∀ (A : Around) (outer : List Env) (s : Shared) (H : Hp) (args : Args) (us : List Value) (vs : List V) (Q : VK) (E : XK), Room k A → A.guards = some [] → Env0 P w K mg base A outer s H → BindsTo s fd args (ps.zip us) → Vals vs us → sp vs H Q E →
    codeAny (model P w) A (.call (.ref f) args) (CR CX outer P w H s Q E) s
section
variable {P : Program} {w : World} {K : PySem.W.Frag} {mg : Str → Option Value} {base : Heap} {CX : CXT} {k : Nat} {f : Addr} {fd : FuncData} {ps : List Str} {sp : Sp}
theorem FnOkG.of (F : FnOk P w K mg base CX k f fd ps sp) : FnOkG P w K mg base CX k f fd ps sp :=
  ⟨F.len, fun A outer s H args us vs Q E hr _ e b r h => F.run A outer s H args us vs Q E hr e b r h⟩
theorem FnOkG.mono {j : Nat} (F : FnOkG P w K mg base CX j f fd ps sp) (h : j ≤ k) : FnOkG P w K mg base CX k f fd ps sp :=
  ⟨F.len, fun A outer s H args us vs Q E hr hG e b r q => F.run A outer s H args us vs Q E (hr.mono h) hG e b r q⟩
/-- by its body -/
theorem Fun.okG {x qual : Str} {st : Stmt} {N : List Str} (F : Fun K x qual st f fd) (S : FnScope N ps (defScope st)) (len : ∀ vs H Q E, sp vs H Q E → vs.length = ps.length)
    (hb : ∀ (cdv : Value) (A : Around) (outer : List Env) (s : Shared) (H : Hp) (vs : List V) (Q : VK) (E : XK), Room k (A.deeper (envOfC qual (defScope st) s.heap.objs.size f cdv)) → A.guards = some [] → sp vs H Q E →
      ∃ t, PSs (cxOf CX0 P w K mg base N qual (defScope st) f cdv A outer s H E).nox (defBody st) t ∧ t { nx := fun _ H' => Q .non H', rt := Q } (start N vs) H) : FnOkG P w K mg base CX0 (k + 1) f fd ps sp := by
  obtain ⟨oc, od, kV, doc, pm, an, cdv, ct, osl, rfl, lk, hcd⟩ := F.ex
  refine ⟨len, fun A outer s H args us vs Q E hr hG e0 b r q => ?_⟩
  have n := len _ _ _ _ q
  have KX : K.In s.heap := e0.mod.kin.keeps fun b o e => (e0.bs b o e).1
  have lim : s.heap.NoLimit := e0.mod.nolimit.keeps fun b o e => (e0.bs b o e).1
  have hk : ∀ y ∈ ps.zip us, (defScope st).names.lookup y.1 = some .local ∨ ((defScope st).names.lookup y.1 = some .cell ∧ ((cellsFrom (s.heap.objs.size + 1) (defScope st).names []).lookup y.1).isSome = true) := fun ⟨z, v⟩ hy =>
    (S.par z (List.of_mem_zip hy).1).elim .inl fun c => .inr ⟨c, PySem.W.cellsFrom_some _ _ _ (.inl c)⟩
  refine codeAny_call_function hr.depth (KX _ _ lk) rfl S.co S.gen rfl (PySem.W.codeRec_of KX hcd) (b _ _ _ _ ?_)
  refine wpAny_newFunctionEnv_cells S.kind hk fun env he s1 x => ?_
  subst he
  refine ⟨lim.keeps x.toInCall.keep, codeAny_func ?_⟩
  obtain ⟨t, ht, hq⟩ := hb cdv A outer s H vs Q E (hr.deeper _) hG q
  refine wpAny_mono (ht.nox.run [] s1 (start N vs) H _ (inv_start S hr.hd e0 n r x) hq) (fun fl s' hs => ?_) fun e s' hs => hs
  cases fl with
  | brk => obtain ⟨_, _, _, z⟩ := hs; exact False.elim z
  | cont => obtain ⟨_, _, _, z⟩ := hs; exact False.elim z
  | next =>
    obtain ⟨σ', H', J, z⟩ := hs
    exact ⟨.non, H', J.os, J.bare, J.base, J.hok, rfl, z⟩
  | ret u =>
    obtain ⟨v, σ', H', J, rv, z⟩ := hs
    exact ⟨v, H', J.os, J.bare, J.base, J.hok, rv, z⟩
end
section
variable {P : Program} {K : Kw} {mg : Str → Option Value} {base : Heap}
theorem fnOk_gG {x : Str} {st : Stmt} {N ps : List Str} {k : Nat} {f : Addr} {fd : FuncData} {T : List Sl → (Sl → Prop) → Prop} (F : Fun K x x st f fd) (S : FnScope N ps (defScope st)) (hT : ∀ Γ Qr, T Γ Qr → Γ.length = ps.length ∧ NoMl Γ)
    (hb : ∀ (f : Addr) (cdv : Value) (A : Around) (outer : List Env) (s : Shared) (H : Hp) (E : XK), A.guards = some [] → Room k (A.deeper (envOfC x (defScope st) s.heap.objs.size f cdv)) →
      ∃ t, PSs (cxOf CX0 P K.w K mg base N x (defScope st) f cdv A outer s H E).nox (defBody st) t ∧ ∀ Γ Qr, T Γ Qr → SJ K (Γ ++ List.replicate (N.length - Γ.length) .no) t (retP Γ Qr)) : FnOkG P K.w K mg base CX0 (k + 1) f fd ps (spG K T) := by
  refine Fun.okG F S (len_g fun Γ Qr h => (hT Γ Qr h).1) fun cdv A outer s H vs Q E hr hG h => ?_
  obtain ⟨t, ht, hj⟩ := hb f cdv A outer s H E hG hr
  exact ⟨t, ht, body_g h (fun Γ Qr z => (hT Γ Qr z).2) fun Γ Qr z => (hj Γ Qr z).t⟩
/-- such a def, as it is called -/
structure CalG (P : Program) (w : World) (K : PySem.W.Frag) (mg : Str → Option Value) (base : Heap) (CX : CXT) (k : Nat) (x : Str) (ps : List Str) (sp : Sp) : Prop where
  ex : ∃ f fd, mg x = some (.ref f) ∧ PySem.W.keepIn K (.ref f) = true ∧ Binds K fd ps [] ∧ FnOkG P w K mg base CX k f fd ps sp
theorem CalG.mono {CX : CXT} {j k : Nat} {x : Str} {ps : List Str} {sp : Sp} (c : CalG P K.w K mg base CX j x ps sp) (h : j ≤ k) : CalG P K.w K mg base CX k x ps sp :=
  let ⟨f, fd, a, b, d, e⟩ := c.ex
  ⟨f, fd, a, b, d, e.mono h⟩
end
section
variable {X : Cx} {k : Nat} {x : Str} {ps : List Str} {sp : Sp} {p pos : Pos} {e : Expr} {es : List Expr} {t : TA}
end
mutual
def rok : PyData → Bool
  | .none | .bool _ | .int _ | .str _ => true
  | .list ds => rokAll ds
  | .tuple ds => rokAll ds
  | .dict kvs => kvs.isEmpty
def rokAll : List PyData → Bool
  | [] => true
  | d :: ds => rok d && rokAll ds
end
section
variable {X : Cx} {pins : List (Addr × Obj)} {σ : L2.St} {H : Hp} {s : Shared}
theorem empty_dict (I : Inv X pins σ H s) {a : Addr} (e : H a = some (.dK [])) : (a == sysModules) = false ∧ ∃ o n, s.heap.get? a = some o ∧ o.cls = .type "dict" ∧ o.data = .dict #[] n := by
  obtain ⟨_, h2, vs, kv, o, es, ep, h3, h4, h5, _, hp, _⟩ := dk_of I.hok e
  cases kv
  have : es = #[] := by
    have z := Pairs.length (knd := mixKind X.prog X.w) hp
    simpa using z
  subst this
  exact ⟨h2, o, ep, h3, h4.1, h5⟩
mutual
theorem rkD (I : Inv X pins σ H s) {K : Kw} (hK : X.K = K.K) : ∀ (d : PyData) {v : V} {u : Value}, Rp K H v d → RelV v u → rok d = true → d.showable = true → d.shown.length ≤ sizeLine →
    ∃ as bs, Reads s.heap u d as ∧ ReadAtMost s.heap d.depth bs ∧ ReprK X.prog X.w bs s.heap d.depth u d.shown
  | .none, _, _, h, r, _, _, _ => by
    cases h; cases r
    exact ⟨[], [], .none, (fun _ h => nomatch h), by simp only [PyData.shown]; exact .of_is ReprIs.none _ _ _⟩
  | .bool b, _, _, h, r, _, _, _ => by
    cases h; cases r
    exact ⟨[], [], .bool b, (fun _ h => nomatch h), by simp only [PyData.shown]; exact .of_is (ReprIs.bool b) _ _ _⟩
  | .int i, _, _, h, r, _, hs, _ => by
    cases h
    obtain ⟨t, rfl⟩ := r
    exact ⟨[], [], .int i t, (fun _ h => nomatch h), by simp only [PyData.shown]; exact .of_is (ReprIs.int t (by simpa [PyData.showable] using hs)) _ _ _⟩
  | .str x, _, _, h, r, _, _, hz => by
    cases h
    obtain ⟨t, rfl⟩ := r
    exact ⟨[], [], .str x t, (fun _ h => nomatch h), by simp only [PyData.shown]; exact .of_is (ReprIs.str x t (by simpa only [PyData.shown] using hz)) _ _ _⟩
  | .list ds, _, _, h, r, c, hs, hz => by
    cases h with
    | @lst a xs _ ha hr =>
      cases r
      have hz' : (listText (PyData.shownAll ds)).length ≤ sizeLine := by simpa only [PyData.shown] using hz
      obtain ⟨its, rv, ⟨o, n, e1, e2, _, e3⟩, _⟩ := I.list (show SqL X.K H a xs by rw [hK]; exact SqL.of ha)
      obtain ⟨as, bs, R, hb, hk⟩ := rkA I hK ds hr rv (by simpa [rok] using c) (by simpa [PyData.showable] using hs) (fun t ht => Nat.le_trans (listText_mem_le ht) hz')
      have R' : Reads s.heap (.ref a) (.list ds) (a :: as) := .list e1 e2 e3 (by simpa using R)
      have na : a ∉ bs := not_mem_of_deeper R' (by simp only [PyData.depth]; omega) hb
      refine ⟨_, a :: bs, R', ReadAtMost.cons R' (by simp only [PyData.depth]; omega) hb, ?_⟩
      simp only [PyData.depth, PyData.shown]
      cases its with
      | nil =>
        cases R
        simp only [PyData.shownAll, listText_nil]
        exact ReprK.listEmpty e1 e2 e3
      | cons y l => exact ReprK.list e1 e2 e3 na (by simpa using hk.length_eq) fun i y e => hk.item i y (by simpa using e)
  | .tuple ds, _, _, h, r, c, hs, hz => by
    cases h with
    | @tup a xs _ ha hr =>
      cases r
      have hz' : (tupleText (PyData.shownAll ds)).length ≤ sizeLine := by simpa only [PyData.shown] using hz
      obtain ⟨its, rv, ⟨o, e1, e2, n, e3⟩, _⟩ := I.tuple (show SqT X.K H a xs by rw [hK]; exact ha)
      obtain ⟨as, bs, R, hb, hk⟩ := rkA I hK ds hr rv (by simpa [rok] using c) (by simpa [PyData.showable] using hs) (fun t ht => Nat.le_trans (tupleText_mem_le ht) hz')
      have R' : Reads s.heap (.ref a) (.tuple ds) as := .tuple e1 e2 e3 (by simpa using R)
      have na : a ∉ bs := not_mem_of_deeper R' (by simp only [PyData.depth]; omega) hb
      refine ⟨_, a :: bs, R', ReadAtMost.cons R' (by simp only [PyData.depth]; omega) hb, ?_⟩
      simp only [PyData.depth, PyData.shown]
      exact ReprK.tuple e1 e2 e3 na (by simpa using hk)
  | .dict kvs, _, _, h, r, c, _, _ => by
    have : kvs = [] := by simpa [rok] using c
    subst this
    rcases h.dict_inv with ⟨a, ks, rfl, ha, hf⟩ | ⟨a, _, _, _, _, e, _⟩ | ⟨a, _, _, _, _, e, _⟩ | ⟨a, _, _, _, e, _⟩
    · have : ks = [] := by simpa using hf rfl
      subst this
      cases r
      obtain ⟨hm, o, n, e1, e2, e3⟩ := empty_dict I ha
      have R' : Reads s.heap (.ref a) (.dict []) (a :: [] ++ []) := .dict e1 e2 e3 .nil .nil
      have hb : ReadAtMost s.heap 0 [] := fun _ h => nomatch h
      refine ⟨_, [a], R', ReadAtMost.cons R' (Nat.zero_le _) hb, ?_⟩
      simp only [PyData.depth, PyData.shown, PyData.shownKv]
      exact ReprK.dict e1 e2 e3 hm (by simp) .nil
    · cases e
    · cases e
    · cases e
theorem rkA (I : Inv X pins σ H s) {K : Kw} (hK : X.K = K.K) : ∀ (ds : List PyData) {vs : List V} {us : List Value}, RpA K H vs ds → Vals vs us → rokAll ds = true → PyData.showableAll ds = true → (∀ t ∈ PyData.shownAll ds, t.length ≤ sizeLine) →
    ∃ as bs, ReadsAll s.heap us ds as ∧ ReadAtMost s.heap (PyData.depthAll ds) bs ∧ ReprAllK X.prog X.w bs s.heap (PyData.depthAll ds) us (PyData.shownAll ds)
  | [], _, _, h, r, _, _, _ => by
    cases h; cases r
    exact ⟨[], [], .nil, (fun _ h => nomatch h), by simp only [PyData.shownAll]; exact .nil⟩
  | d :: ds, _, _, h, r, c, hs, hz => by
    cases h with
    | cons h1 h2 =>
      cases r with
      | cons r1 r2 =>
        have c' : rok d = true ∧ rokAll ds = true := by simpa [rokAll] using c
        have hs' : d.showable = true ∧ PyData.showableAll ds = true := by simpa [PyData.showableAll] using hs
        obtain ⟨a1, b1, R1, hb1, k1⟩ := rkD I hK d h1 r1 c'.1 hs'.1 (hz _ (by simp only [PyData.shownAll]; exact List.mem_cons_self ..))
        obtain ⟨a2, b2, R2, hb2, k2⟩ := rkA I hK ds h2 r2 c'.2 hs'.2 (fun t ht => hz t (by simp only [PyData.shownAll]; exact List.mem_cons_of_mem _ ht))
        refine ⟨_, b1 ++ b2, .cons R1 R2, ?_, ?_⟩
        · simp only [PyData.depthAll]
          exact (hb1.mono (Nat.le_max_left _ _)).append (hb2.mono (Nat.le_max_right _ _))
        · simp only [PyData.depthAll, PyData.shownAll]
          exact .cons ((k1.more fun b hb => List.mem_append_left _ hb).level_le (Nat.le_max_left _ _)) (k2.more_le (fun b hb => List.mem_append_right _ hb) (Nat.le_max_right _ _))
end
/-- repr, called -/
theorem call_repr (I : Inv X pins σ H s) {K : Kw} (hK : X.K = K.K) (hG : X.A.guards = some []) {d : PyData} {v : V} {u : Value} (h : Rp K H v d) (r : RelV v u) (c : rok d = true) (hs : d.showable = true) (hu : X.A.units + (d.depth + 2) < cLine) (hz : d.shown.length ≤ sizeLine) {Q : Value → Shared → Prop} {E : Value → Shared → Prop}
    (hQ : ∀ h' u tk, (∀ b o, s.heap.get? b = some o → h'.get? b = some o) → Q (.str d.shown u) { s with heap := h', toks := tk }) : wpAny (model X.prog X.w) X.A (call (.builtin "repr") [u]) Q E s := by
  have hq : ∀ (u : Tok) (tk : Nat), Q (.str d.shown u) { s with toks := tk } := fun u tk => hQ s.heap u tk fun _ _ e => e
  cases d with
  | none => cases h; cases r; simp only [PyData.shown] at hq; exact P.repr_of_none (hq _ _)
  | bool b => cases h; cases r; simp only [PyData.shown] at hq; exact P.repr_of_bool (hq _ _)
  | int i =>
    cases h
    obtain ⟨t, rfl⟩ := r
    simp only [PyData.shown] at hq
    exact P.repr_of_int (by simpa [PyData.showable] using hs) (hq _ _)
  | str x =>
    cases h
    obtain ⟨t, rfl⟩ := r
    simp only [PyData.shown] at hq
    exact P.repr_of_str (hq _ _) (by simpa only [PyData.shown] using hz)
  | list ds =>
    cases h with
    | @lst a xs _ ha hr =>
      cases r
      have hz' : (listText (PyData.shownAll ds)).length ≤ sizeLine := by simpa only [PyData.shown] using hz
      obtain ⟨its, rv, ⟨o, n, e1, e2, _, e3⟩, _⟩ := I.list (show SqL X.K H a xs by rw [hK]; exact SqL.of ha)
      obtain ⟨as, bs, R, hb, hk⟩ := rkA I hK ds hr rv (by simpa [rok] using c) (by simpa [PyData.showable] using hs) (fun t ht => Nat.le_trans (listText_mem_le ht) hz')
      have R' : Reads s.heap (.ref a) (.list ds) (a :: as) := .list e1 e2 e3 (by simpa using R)
      have na : a ∉ bs := not_mem_of_deeper R' (by simp only [PyData.depth]; omega) hb
      simp only [PyData.depth] at hu
      simp only [PyData.shown] at hQ
      refine call_repr_slot (by omega) (T := "list") ⟨o, e1, e2⟩ F.slot_list_repr.toG ?_
      cases its with
      | nil =>
        cases R
        simp only [PyData.shownAll, listText_nil] at hQ
        exact call_list_repr_empty ⟨o, e1, e2⟩ e1 e3 ⟨_, _, rfl, hQ s.heap _ _ fun _ _ e => e⟩
      | cons y l => exact call_list_reprK e1 e2 e3 na (by simpa using hk.length_eq) (fun i y e => hk.item i y (by simpa using e)) hG (fun b _ => Clear.nil b) (by show X.A.units + 1 + (_ + 1) < cLine; omega) (fun _ _ e => e) (fun h' u tk hk => ⟨_, _, rfl, hQ h' u tk hk⟩) hz'
  | tuple ds =>
    cases h with
    | @tup a xs _ ha hr =>
      cases r
      have hz' : (tupleText (PyData.shownAll ds)).length ≤ sizeLine := by simpa only [PyData.shown] using hz
      obtain ⟨its, rv, ⟨o, e1, e2, n, e3⟩, _⟩ := I.tuple (show SqT X.K H a xs by rw [hK]; exact ha)
      obtain ⟨as, bs, R, hb, hk⟩ := rkA I hK ds hr rv (by simpa [rok] using c) (by simpa [PyData.showable] using hs) (fun t ht => Nat.le_trans (tupleText_mem_le ht) hz')
      have R' : Reads s.heap (.ref a) (.tuple ds) as := .tuple e1 e2 e3 (by simpa using R)
      have na : a ∉ bs := not_mem_of_deeper R' (by simp only [PyData.depth]; omega) hb
      simp only [PyData.depth] at hu
      simp only [PyData.shown] at hQ
      refine call_repr_slot (by omega) (T := "tuple") ⟨o, e1, e2⟩ F.slot_tuple_repr ?_
      exact call_tuple_reprK e1 e2 e3 na (by simpa using hk) hG (fun b _ => Clear.nil b) (by show X.A.units + 1 + (_ + 1) < cLine; omega) (fun _ _ e => e) (fun h' u tk hk => ⟨_, _, rfl, hQ h' u tk hk⟩) hz'
  | dict kvs =>
    have : kvs = [] := by simpa [rok] using c
    subst this
    rcases h.dict_inv with ⟨a, ks, rfl, ha, hf⟩ | ⟨a, _, _, _, _, e, _⟩ | ⟨a, _, _, _, _, e, _⟩ | ⟨a, _, _, _, e, _⟩
    · have : ks = [] := by simpa using hf rfl
      subst this
      cases r
      obtain ⟨hm, o, n, e1, e2, e3⟩ := empty_dict I ha
      simp only [PyData.shown, PyData.shownKv] at hQ hz
      simp only [PyData.depth, PyData.depthKv] at hu
      refine call_repr_slot (by omega) (T := "dict") ⟨o, e1, e2⟩ F.slot_dict_repr ?_
      exact call_dict_reprK (as := []) (d := 0) e1 e2 e3 hm (by simp) .nil hG (fun b _ => Clear.nil b) (by show X.A.units + 1 + (0 + 1) < cLine; omega) (fun _ _ e => e) (fun h' u tk hk => ⟨_, _, rfl, hQ h' u tk hk⟩) hz
    · cases e
    · cases e
    · cases e
end
/-- repr(e) -/
def tRepr (K : Kw) (ta : TE) : TE := fun σ H Q => ta σ H fun x H1 => ∃ d, Rp K H1 x d ∧ rok d = true ∧ d.showable = true ∧ d.depth ≤ 190 ∧ d.shown.length ≤ sizeLine ∧ Q (.str d.shown) H1
theorem pe_repr {X : Cx} {K : Kw} {k : Nat} {a : Expr} {ta : TE} {p pos : Pos} (hK : X.K = K.K) (hr : Room k X.A) (hG : X.A.guards = some []) (hg : Gl X "repr") (hm : X.mg "repr" = none) (ha : PE X a ta)
    (na : starEach [a] X.env = (false, eval a X.env) :: starEach [] X.env := by rfl) : PE X (.Call (.Name "repr" p) [a] [] pos) (tRepr K ta) := by
  refine ⟨fun pins s σ H Q I h => ?_⟩
  refine Call_ (ld_blt I hg hm boot_repr ?_); refine PyProof.Rows.callWith_builtin1 (PyProof.Rows.args_cons (thn (ha.run pins s σ H _ I h) fun v s1 ⟨x, H1, I1, r1, q1⟩ => PyProof.Rows.args_nil ?_) na) na rfl
  obtain ⟨d, h1, h2, h3, h4, h5, q⟩ := q1
  have := hr.un
  exact call_repr I1 hK hG h1 r1 h2 h3 (by omega) h5 fun h' u tk hk => ⟨.str d.shown, H1, I1.kept hk, ⟨u, rfl⟩, q⟩
end Pr
namespace Pk
open PySem PySem.Spec PyProof.Rows L2
/-- != of texts -/
def dNeS : R2 := fun x y H Q => ∃ a b : Str, x = .str a ∧ y = .str b ∧ Q (.bl (a != b)) H
theorem o_neS {X : Cx} : OpR X (compareOp .NotEq) dNeS := by
  intro pins s σ H x y v u Q I rx ry h
  obtain ⟨a, b, rfl, rfl, q⟩ := h
  obtain ⟨t, rfl⟩ := rx
  obtain ⟨t', rfl⟩ := ry
  exact PyProof.Rows.ne_str ⟨.bl (a != b), H, I, rfl, q⟩
theorem rd_neS {K : Kw} {m : Bool} {Γ : List Sl} {Q : PyData → Prop} {a b : Str} (q : Q (.bool (a != b))) : RD K m Γ dNeS (.str a) (.str b) Q := rd_plain (d := .bool (a != b)) (fun F H v u C le rv ru k => by
  cases rv
  cases ru
  exact ⟨a, b, rfl, rfl, k _ (.bl _)⟩) q
theorem wd_repr {K : Kw} {m : Bool} {Γ : List Sl} {Q : PyData → Prop} {te : TE} (h : WD K false Γ te fun d => Pr.rok d = true ∧ d.showable = true ∧ d.depth ≤ 190 ∧ d.shown.length ≤ sizeLine ∧ Q (.str d.shown)) : WD K m Γ (Pr.tRepr K te) Q := fun X hK F H σ E C k => by
  subst hK
  refine h X rfl F H σ E _ fun v F1 H1 d l1 E1 r ⟨h2, h3, h4, h5, q⟩ => ?_
  exact ⟨d, r.mono E1.le, h2, h3, h4, h5, k _ F1 H1 _ l1 E1 (.str _) q⟩
end Pk
end
section
set_option Elab.async false
set_option linter.all false
set_option maxRecDepth 100000
namespace Pr
open PySem PySem.Spec PyProof.Rows L2 Pk
/-- the script alone is tracked, or nothing -/
structure Sc (K : PySem.W.Frag) (P : Program) (w : World) (h : Heap) (H : Hp) (a : Addr) (ns : List Int) : Prop where
  only : Only H
  seq : SqL K H a (ns.map V.int)
  ok : HOk P w H h
  at_ : ∀ b, H b ≠ none → b = a
  out : H a ≠ none → K.lookup a = none
theorem sc_ex {P : Program} {w : World} {K : PySem.W.Frag} {h : Heap} {a : Addr} {vs : List Value} {ns : List Int} (KX : K.In h) (ha : h.get? a = some { cls := .type "list", data := .seq vs.toArray }) (hi : IntsAre vs ns) (hl : ns.length ≤ sizeLine) : ∃ H, Sc K P w h H a ns := by
  have rv := vals_ints hi
  have lv := hi.length
  cases hk : K.lookup a with
  | some o =>
    have e := KX a o hk
    rw [ha] at e
    cases e
    exact ⟨fun _ => none, fun _ => .inl rfl, .inr ⟨_, vs.toArray, _, hk, rfl, rfl, rfl, by rw [List.size_toArray, lv]; exact hl, by simpa using rv⟩, fun b u z => (by cases z), fun b z => absurd rfl z, fun z => absurd rfl z⟩
  | none =>
    have one : ∀ {b : Addr} {u : HO}, (if b = a then some (HO.frz { cls := .type "list", data := .seq vs.toArray } (.lst (ns.map V.int))) else none) = some u → b = a ∧ u = HO.frz { cls := .type "list", data := .seq vs.toArray } (.lst (ns.map V.int)) := fun {b u} z => by
      by_cases hb : b = a
      · rw [if_pos hb] at z; exact ⟨hb, (Option.some.inj z).symm⟩
      · rw [if_neg hb] at z; cases z
    refine ⟨fun b => if b = a then some (.frz { cls := .type "list", data := .seq vs.toArray } (.lst (ns.map V.int))) else none, fun b => ?_, .inl (.inr ⟨{ cls := .type "list", data := .seq vs.toArray }, if_pos rfl⟩), fun b u z => ?_, fun b z => ?_, fun _ => hk⟩
    · by_cases hb : b = a
      · exact .inr ⟨_, _, if_pos hb⟩
      · exact .inl (if_neg hb)
    · obtain ⟨rfl, rfl⟩ := one z
      exact ⟨ha, by rw [List.length_map]; exact hl, vs, _, rv, ha⟩
    · cases q : (if b = a then some (HO.frz { cls := .type "list", data := .seq vs.toArray } (.lst (ns.map V.int))) else none) with
      | none => exact absurd q z
      | some u => exact (one q).1
theorem law_callG {P : Program} {w : World} {K : PySem.W.Frag} {mg mb : Str → Option Value} {CX : CXT} {k : Nat} {fa a : Addr} {fd : FuncData} {x : Str} {sp : Sp} {s₁ : Shared} {vs : List Value} {ns : List Int}
    (KX : K.In s₁.heap) (hns : s₁.heap.Ns mainGlobals mg) (hb : s₁.heap.Ns builtinsNs mb) (hbb : ∀ x : Str, x ≠ "__name__" → mb x = bootBuiltins x) (hlim : s₁.heap.NoLimit) (hg : s₁.gens = #[])
    (ha : s₁.heap.get? a = some { cls := .type "list", data := .seq vs.toArray }) (hi : IntsAre vs ns) (hl : ns.length ≤ sizeLine) (hr : Room k callerA)
    (F : ∀ base : Heap, K.In base → base.Ns mainGlobals mg → FnOkG P w K mg base CX k fa fd [x] sp) (hbind : ∀ (s : Shared) (u : Value), BindsTo s fd ⟨[u], []⟩ [(x, u)])
    (hsp : ∀ H : Hp, Only H → SqL K H a (ns.map V.int) → sp [.ref a] H (fun v _ => v = .bl true) fun _ _ _ => False)
    (hCX : ∀ H e s', CX [] H s₁ (fun _ _ _ => False) e s' → False) :
    codeAny (model P w) callerA (.call (.ref fa) ⟨[.ref a], []⟩) (fun r s' => r = .ok (.ret (.bool true)) ∧ OldK s₁.heap s'.heap ∧ s'.os = s₁.os ∧ AllBare s'.gens) s₁ := by
  obtain ⟨H, S⟩ := sc_ex (P := P) (w := w) KX ha hi hl
  have hidden : ∀ {b : Addr} {o : Obj}, s₁.heap.get? b = some o → (b = a → H b = none) → (hidT s₁.heap H).get? b = some o := fun {b o} e n => hidT_get e (by
    cases q : H b with
    | none => rfl
    | some u =>
      have := n (S.at_ b (by rw [q]; simp))
      rw [q] at this
      cases this)
  have notD : ∀ {b : Addr} {o : Obj} {es : Array DictEntry} {ep : Nat}, s₁.heap.get? b = some o → o.data = .dict es ep → b ≠ a := fun {b o es ep} e d z => by
    subst z
    rw [ha] at e; cases e
    have d' : Data.seq vs.toArray _ = Data.dict es ep := d
    cases d'
  have nsK : ∀ {b : Addr} {m : Str → Option Value}, s₁.heap.Ns b m → (hidT s₁.heap H).Ns b m := fun ⟨o, es, ep, e, d, r⟩ => ⟨o, es, ep, hidden e fun z => absurd z (notD e d), d, r⟩
  have hKb : K.In (hidT s₁.heap H) := fun b o e => hidden (KX b o e) fun z => by
    subst z
    cases q : H b with
    | none => rfl
    | some u =>
      rw [S.out (by rw [q]; simp)] at e
      cases e
  have e0 : Env0 P w K mg (hidT s₁.heap H) callerA [] s₁ H :=
    ⟨rfl, ⟨hKb, nsK hns, ⟨mb, nsK hb, hbb⟩, let ⟨mc, h1, h2⟩ := hlim; ⟨mc, nsK h1, h2⟩⟩, fun b o e => of_hidT e, Nat.le_of_eq (hidT_size _ _), trivial, fun b hb => absurd (show b ∈ ([] : List Addr) from hb) (by simp), S.ok, .of_eq hg⟩
  refine codeAny_mono ((F _ hKb (nsK hns)).run callerA [] s₁ H ⟨[.ref a], []⟩ [.ref a] [.ref a] _ _ hr rfl e0 (hbind s₁ (.ref a)) (.cons rfl .nil) (hsp H S.only S.seq)) fun r s' h => ?_
  match r, h with
  | .error e, h => exact (hCX H e s' h).elim
  | .ok .next, h => exact False.elim h
  | .ok .brk, h => exact False.elim h
  | .ok .cont, h => exact False.elim h
  | .ok (.ret u), h =>
    obtain ⟨v, H', os, bare, un, hok', r', q⟩ := h
    obtain rfl : v = .bl true := q
    obtain rfl : u = Value.bool true := r'
    refine ⟨rfl, OldK.of_keep fun b o e => ?_, os, bare⟩
    rcases S.only b with z | ⟨ob, xs, z⟩
    · exact un.keep b o e z (by intro y; exact absurd (show b ∈ ([] : List Addr) from y) (by simp)) (by simp)
    · obtain ⟨e1, _⟩ := S.ok b _ z
      obtain ⟨e2, _⟩ := hok' b _ (un.frzs b ob _ z)
      rw [e] at e1; cases e1
      exact e2
/-- a law's end, over a head by facts -/
theorem walk_ofG {l : PySem.W.OpenLaw} {n k : Nat} {q : Program} {loose : List Str} {XP : (Str → Option Value) → Heap → Prop} {YP : World → Heap → Prop} {d : DefRec} {CX : CXT} {x : Str}
    (hn : l.most = some n) (hn2 : n ≤ sizeLine) (hdf : d.params.defaults = []) (hr : Room k callerA)
    (F : ∀ (w : World) (mg : Str → Option Value) (fa : Addr) (h : Heap), YP w h → h.Ns mainGlobals mg → mg d.name = some (.ref fa) →
      ∃ (K : PySem.W.Frag) (fd : FuncData) (sp : Sp), K.In h ∧ (∀ (s : Shared) (u : Value), BindsTo s fd ⟨[u], []⟩ [(x, u)]) ∧
        (∀ (H : Hp) (a : Addr) (ns : List Int), ns.length ≤ n → Only H → SqL K H a (ns.map V.int) → sp [.ref a] H (fun v _ => v = .bl true) fun _ _ _ => False) ∧
        ∀ base : Heap, K.In base → base.Ns mainGlobals mg → FnOkG l.prog w K mg base CX k fa fd [x] sp)
    (hCX : ∀ (H : Hp) (s : Shared) (e : Value) (s' : Shared), CX [] H s (fun _ _ _ => False) e s' → False) :
    PySem.W.WalkO q loose XP YP l.row.toRowW d [] (fun f vs => PySem.call f vs) := by
  refine Att.attach_call hn hdf fun w s₀ s₁ mg mb fa o pm cd doc a vs ns G Y ho hd hcd hmg hobj hints hlen hg => ?_
  obtain ⟨K, fd, sp, KX, hb, hsp, hF⟩ := F w mg fa _ Y G.T.g hmg
  exact law_callG KX G.T.g G.T.b G.T.builtins G.T.nolimit hg hobj hints (Nat.le_trans hlen hn2) hr hF hb (fun H hO hS => hsp H a ns hlen hO hS) fun H e s' => hCX H s₁ e s'
end Pr
namespace Pk
open PySem PySem.Spec PyProof.Rows L2
end Pk
end
section
set_option Elab.async false
set_option linter.all false
set_option maxRecDepth 100000
namespace Pr
open PySem PySem.Spec PyProof.Rows L2 Pk
structure CalX (P : Program) (w : World) (K : PySem.W.Frag) (mg : Str → Option Value) (base : Heap) (k : Nat) (x : Str) (ps : List Str) (sp : Sp) : Prop where
  ex : ∃ f fd fd' sp1 sp2, mg x = some (.ref f) ∧ PySem.W.keepIn K (.ref f) = true ∧ Binds K fd ps [] ∧ Binds K fd' ps [] ∧ FnOk P w K mg base CX0 k f fd ps sp1 ∧ FnOk P w K mg base (L2.CX P w) k f fd' ps sp2 ∧ ∀ vs H Q E, sp vs H Q E → sp1 vs H Q E0 ∨ sp2 vs H Q E
section
variable {P : Program} {K : Kw} {mg : Str → Option Value} {base : Heap} {k j : Nat} {x : Str} {ps : List Str} {sp : Sp}
theorem CalX.of (c : Cal P K.w K mg base (L2.CX P K.w) k x ps sp) : CalX P K.w K mg base k x ps sp := by
  obtain ⟨f, fd, a, b, d, F⟩ := c.ex
  exact ⟨f, fd, fd, fun _ _ _ _ => False, sp, a, b, d, d, ⟨fun _ _ _ _ h => h.elim, fun _ _ _ _ _ _ _ _ _ _ _ _ _ h => h.elim⟩, F, fun _ _ _ _ h => .inr h⟩
theorem CalX.mono (c : CalX P K.w K mg base j x ps sp) (h : j ≤ k) : CalX P K.w K mg base k x ps sp := by
  obtain ⟨f, fd, fd', s1, s2, a, b, d, d', F, G, i⟩ := c.ex
  exact ⟨f, fd, fd', s1, s2, a, b, d, d', F.mono h, G.mono h, i⟩
theorem CalX.or {T1 : List Sl → (Sl → Prop) → Prop} {T2 : List Sl → (Sl → Prop) → XQ → Prop} (c1 : Cal P K.w K mg base CX0 k x ps (spG K T1)) (c2 : Cal P K.w K mg base (L2.CX P K.w) k x ps (spX K T2)) : CalX P K.w K mg base k x ps (spX K fun Γ Qr Qe => T1 Γ Qr ∨ T2 Γ Qr Qe) := by
  obtain ⟨f, fd, a, b, d, F⟩ := c1.ex
  obtain ⟨f', fd', a', b', d', G⟩ := c2.ex
  obtain rfl : f = f' := by
    rw [a] at a'
    injection a' with a'
    injection a'
  refine ⟨f, fd, fd', _, _, a, b, d, d', F, G, fun vs H Q E h => ?_⟩
  obtain ⟨X, F0, Γ, Qr, Qe, h1, h2, h3, h4, h5, h6, h7, h8⟩ := h
  rcases h6 with h6 | h6
  · exact .inl ⟨X, F0, Γ, Qr, h1, h2, h3, h4, h5, h6, h7⟩
  · exact .inr ⟨X, F0, Γ, Qr, Qe, h1, h2, h3, h4, h5, h6, h7, h8⟩
end
section
variable {X : Cx} {k : Nat} {x : Str} {ps : List Str} {sp : Sp} {W : XW} {p pos : Pos} {e : Expr} {es : List Expr} {t : TA}
end
end Pr
end
section
set_option Elab.async false
set_option linter.all false
set_option maxRecDepth 100000
set_option maxHeartbeats 4000000
namespace Pr
open PySem PySem.Spec PyProof.Rows L2 Pk
section
variable {X : Cx}
end
end Pr
namespace Pk
open PySem PySem.Spec PyProof.Rows L2
end Pk
end
section
set_option Elab.async false
set_option linter.all false
set_option maxRecDepth 100000
namespace Dk
open PySem PySem.Spec PyProof.Rows L2 Pk
section
variable {K : Kw} {m : Bool} {Γ : List Sl} {Q : PyData → Prop} {te ti : TE}
end
def Th.w : Th → Str
  | .num _ => "number" | .box _ => "box" | .op o _ _ => o.w
theorem op_tab : ∀ o ∈ [Op.plus, .times, .less, .same], ∀ u ∈ [Op.plus, .times, .less, .same], decide (o.w = u.w) = decide (o = u) := by decide +kernel
theorem op_mem (o : Op) : o ∈ [Op.plus, .times, .less, .same] := by cases o <;> simp
theorem Op.eqW (o u : Op) : PyData.eqv (.str o.w) (.str u.w) = decide (o = u) := by rw [eqv_str]; exact op_tab o (op_mem o) u (op_mem u)
end Dk
end
section
set_option Elab.async false
set_option linter.all false
set_option maxRecDepth 100000
namespace Dk
open PySem PySem.Spec PyProof.Rows L2 Pk
inductive Wy where
  | place (row : Nat) (st : List Nat)
  | gives (n : Nat)
  | nothing
  deriving DecidableEq
def Wy.d : Wy → PyData
  | .place row st => .tuple [.int row, stD st]
  | .gives n => .tuple [.str "gives", .int n]
  | .nothing => .tuple [.str "nothing"]
def Wy.isPl : Wy → Bool
  | .place _ _ => true | _ => false
def poe (p : Pg) (row : Nat) (st : List Nat) : Wy := if p.rows.length ≤ row then .nothing else .place row st
def put (bs : List Str) (st : List Nat) (x : Str) (n : Nat) : List Nat := st.set (bs.idxOf x) n
theorem put_ok {m : Nat} {bs : List Str} {st : List Nat} {x : Str} {n : Nat} (h : StOk m bs st) (hn : n < m) : StOk m bs (put bs st x n) := ⟨by simp [put, h.len], fun k hk => by
  rcases List.mem_or_eq_of_mem_set hk with z | z
  · exact h.lt k z
  · rw [z]; exact hn⟩
def tv (p : Pg) (st : List Nat) (t : Th) : Nat := t.v p.m p.bs st
def nxt (p : Pg) (row : Nat) (st : List Nat) : Rw → List Wy
  | .set x t => [poe p (row + 1) (put p.bs st x (tv p st t))]
  | .pick x ts => ts.map fun t => poe p (row + 1) (put p.bs st x (tv p st t))
  | .need t => if tv p st t = 0 then [.nothing] else [poe p (row + 1) st]
  | .skip t k => [poe p (row + 1 + if tv p st t = 0 then 0 else k) st]
  | .give t => [.gives (tv p st t)]
def ways (p : Pg) (row : Nat) (st : List Nat) : List Wy := match p.rows[row]? with
  | some r => nxt p row st r
  | none => []
def isPickAt (p : Pg) (row : Nat) : Bool := match p.rows[row]? with
  | some r => r.isPick
  | none => false
theorem ways_at {p : Pg} {row : Nat} {st : List Nat} {r : Rw} (h : p.rows[row]? = some r) : ways p row st = nxt p row st r := by unfold ways; rw [h]
/-- a way of the program -/
def WyOk (p : Pg) : Wy → Prop
  | .place row st => row < p.rows.length ∧ StOk p.m p.bs st
  | .gives n => n < p.m
  | .nothing => True
theorem poe_ok {p : Pg} {row : Nat} {st : List Nat} (h : StOk p.m p.bs st) : WyOk p (poe p row st) := by
  unfold poe
  split
  · exact True.intro
  · exact ⟨by omega, h⟩
/-- further on than row -/
def past (row : Nat) : Wy → Prop
  | .place r _ => row < r
  | _ => True
theorem poe_past {p : Pg} {row k : Nat} {st : List Nat} (h : row < k) : past row (poe p k st) := by
  unfold poe
  split
  · exact True.intro
  · exact h
theorem tv_lt {p : Pg} (hp : p.Ok) {st : List Nat} (hs : StOk p.m p.bs st) {n : Nat} {t : Th} (ht : t.Ok p.m p.bs n) : tv p st t < p.m := Th.v_lt hp.m2 hs ht
theorem nxt_ok {p : Pg} (hp : p.Ok) {row : Nat} {st : List Nat} (hs : StOk p.m p.bs st) {r : Rw} (hr : r.Ok p.m p.bs) : ∀ w ∈ nxt p row st r, WyOk p w ∧ past row w := fun w hw => by
  cases r with
  | set x t =>
    simp only [nxt, List.mem_singleton] at hw
    rw [hw]
    exact ⟨poe_ok (put_ok hs (tv_lt hp hs hr.2)), poe_past (by omega)⟩
  | pick x ts =>
    simp only [nxt] at hw
    obtain ⟨t, ht, rfl⟩ := List.mem_map.mp hw
    exact ⟨poe_ok (put_ok hs (tv_lt hp hs (hr.2.2.2 t ht))), poe_past (by omega)⟩
  | need t =>
    simp only [nxt] at hw
    split at hw
    · simp at hw; rw [hw]; exact ⟨True.intro, True.intro⟩
    · simp at hw; rw [hw]; exact ⟨poe_ok hs, poe_past (by omega)⟩
  | skip t k =>
    simp only [nxt, List.mem_singleton] at hw
    rw [hw]
    exact ⟨poe_ok hs, poe_past (by omega)⟩
  | give t =>
    simp only [nxt, List.mem_singleton] at hw
    rw [hw]
    exact ⟨tv_lt hp hs hr, True.intro⟩
theorem ways_ok {p : Pg} (hp : p.Ok) {row : Nat} {st : List Nat} (hs : StOk p.m p.bs st) : ∀ w ∈ ways p row st, WyOk p w ∧ past row w := fun w hw => by
  cases h : p.rows[row]? with
  | none => unfold ways at hw; rw [h] at hw; cases hw
  | some r => rw [ways_at h] at hw; exact nxt_ok hp hs (hp.rows r (List.mem_of_getElem? h)) w hw
/-- the run from a way that makes just these choices comes to this end -/
inductive Goes (p : Pg) : Wy → List Nat → Wy → Prop
  | fin {e : Wy} : e.isPl = false → Goes p e [] e
  | step {row : Nat} {st cs : List Nat} {w e : Wy} : isPickAt p row = false → ways p row st = [w] → Goes p w cs e → Goes p (.place row st) cs e
  | pick {row c : Nat} {st cs : List Nat} {w e : Wy} : isPickAt p row = true → (ways p row st)[c]? = some w → Goes p w cs e → Goes p (.place row st) (c :: cs) e
theorem Goes.end {p : Pg} {w e : Wy} {cs : List Nat} (h : Goes p w cs e) : e.isPl = false := by
  induction h with
  | fin h => exact h
  | step _ _ _ ih => exact ih
  | pick _ _ _ ih => exact ih
/-- its row; an end has the bound -/
def Wy.rowN : Wy → Nat
  | .place r _ => r | _ => 30
theorem past_le {p : Pg} (hp : p.Ok) {row : Nat} (hr : row < p.rows.length) {w : Wy} (h : past row w) : row + 1 ≤ w.rowN := by
  have := hp.r30
  cases w with
  | place r s => exact h
  | gives n => show row + 1 ≤ 30; omega
  | nothing => show row + 1 ≤ 30; omega
theorem Goes.len {p : Pg} (hp : p.Ok) {w e : Wy} {cs : List Nat} (h : Goes p w cs e) : WyOk p w → cs.length + w.rowN ≤ 30 := by
  have h30 := hp.r30
  induction h with
  | fin h =>
    intro hw
    rename_i e
    clear hw
    cases e with
    | place r s => cases h
    | gives n => exact Nat.le_refl _
    | nothing => exact Nat.le_refl _
  | step h1 h2 h3 ih =>
    intro hw
    rename_i row st cs w e
    have hm := ways_ok hp hw.2 w (by rw [h2]; exact List.mem_singleton.mpr rfl)
    have := ih hm.1
    have := past_le hp hw.1 hm.2
    show cs.length + row ≤ 30
    omega
  | pick h1 h2 h3 ih =>
    intro hw
    rename_i row c st cs w e
    have hm := ways_ok hp hw.2 w (List.mem_of_getElem? h2)
    have := ih hm.1
    have := past_le hp hw.1 hm.2
    show (c :: cs).length + row ≤ 30
    rw [List.length_cons]
    omega
theorem Wy.sh {w : Wy} : SeqAt.shaped w.d = true := by
  refine sh_of (n := 2) ?_ (by decide)
  cases w with
  | place row st =>
    intro x hx
    simp at hx
    rcases hx with rfl | rfl
    · exact dep_int
    · intro y hy
      obtain ⟨n, _, rfl⟩ := List.mem_map.mp hy
      exact dep_int
  | gives n =>
    intro x hx
    simp at hx
    rcases hx with rfl | rfl
    · exact dep_str (ok_w (by simp))
    · exact dep_int
  | nothing =>
    intro x hx
    simp at hx
    subst hx
    exact dep_str (ok_w (by simp))
theorem st_nb (st : List Nat) : NB (stD st) := .tup fun y hy => by
  obtain ⟨n, _, rfl⟩ := List.mem_map.mp hy
  exact .int _
theorem Wy.nb (w : Wy) : NB w.d := by
  cases w with
  | place row st =>
    refine .tup fun x hx => ?_
    simp at hx
    rcases hx with rfl | rfl
    · exact .int _
    · exact st_nb st
  | gives n =>
    refine .tup fun x hx => ?_
    simp at hx
    rcases hx with rfl | rfl
    · exact .str _
    · exact .int _
  | nothing =>
    refine .tup fun x hx => ?_
    simp at hx
    subst hx
    exact .str _
theorem Wy.lf (w : Wy) : Pk.lf w.d = true := by
  cases w with
  | place row st =>
    show Pk.lfA [.int row, stD st] = true
    simp only [Pk.lfA, st_lf, Bool.and_true]
    rfl
  | gives n => rfl
  | nothing => rfl
abbrev natsD (ns : List Nat) : PyData := .list (ns.map fun (n : Nat) => PyData.int n)
inductive Kd where
  | set | pick | need | skip | give
  deriving DecidableEq
def Kd.w : Kd → Str
  | .set => "set" | .pick => "pick" | .need => "need" | .skip => "skip" | .give => "give"
theorem kd_tab : ∀ o ∈ [Kd.set, .pick, .need, .skip, .give], ∀ u ∈ [Kd.set, .pick, .need, .skip, .give], decide (o.w = u.w) = decide (o = u) := by decide +kernel
theorem kd_mem (o : Kd) : o ∈ [Kd.set, .pick, .need, .skip, .give] := by cases o <;> simp
theorem Kd.eqW (o u : Kd) : PyData.eqv (.str o.w) (.str u.w) = decide (o = u) := by rw [eqv_str]; exact kd_tab o (kd_mem o) u (kd_mem u)
theorem kd_okt : ∀ o ∈ [Kd.set, .pick, .need, .skip, .give], PyData.strOk o.w = true := by decide +kernel
theorem Kd.ok (o : Kd) : PyData.strOk o.w = true := kd_okt o (kd_mem o)
def Rw.kd : Rw → Kd
  | .set _ _ => .set | .pick _ _ => .pick | .need _ => .need | .skip _ _ => .skip | .give _ => .give
section
variable {K : Kw} {m : Bool} {Γ : List Sl} {Q : PyData → Prop}
theorem rd_w {a b : Kd} (q : Q (.bool (decide (a = b)))) : RD K m Γ (dEq K) (.str a.w) (.str b.w) Q := rd_eq (sh_str a.ok) (sh_str b.ok) (by rw [Kd.eqW]; exact q)
theorem rd_rk {r : Rw} (q : Q (.str r.kd.w)) : RD K m Γ (rIx K) r.d (.int 0) Q := by cases r <;> exact rd_ixT rfl q
end
/-- rows that are no picks, gone on -/
inductive Stp (p : Pg) : Wy → Wy → Prop
  | rfl {w : Wy} : Stp p w w
  | step {row : Nat} {st : List Nat} {w z : Wy} : isPickAt p row = false → ways p row st = [w] → Stp p w z → Stp p (.place row st) z
/-- a run with the places that it comes to -/
inductive Tr (p : Pg) : Wy → List Nat → List Wy → Wy → Prop
  | fin {w : Wy} : w.isPl = false → Tr p w [] [] w
  | step {r : Nat} {s : List Nat} {w : Wy} {cs : List Nat} {ws : List Wy} {e : Wy} : isPickAt p r = false → ways p r s = [w] → Tr p w cs ws e → Tr p (.place r s) cs (.place r s :: ws) e
  | pick {r : Nat} {s : List Nat} {c : Nat} {w : Wy} {cs : List Nat} {ws : List Wy} {e : Wy} : isPickAt p r = true → (ways p r s)[c]? = some w → Tr p w cs ws e → Tr p (.place r s) (c :: cs) (.place r s :: ws) e
end Dk
end
section
set_option Elab.async false
set_option linter.all false
set_option maxRecDepth 100000
namespace Dk
/-- what comes next, told as the law tells it: a place behind the last row, too -/
def lnx (p : Pg) (row : Nat) (st : List Nat) : Rw → List Wy
  | .set x t => [.place (row + 1) (put p.bs st x (tv p st t))]
  | .pick x ts => ts.map fun t => .place (row + 1) (put p.bs st x (tv p st t))
  | .need t => if tv p st t = 0 then [.nothing] else [.place (row + 1) st]
  | .skip t k => [.place (min (row + 1 + if tv p st t = 0 then 0 else k) p.rows.length) st]
  | .give t => [.gives (tv p st t)]
def lways (p : Pg) (row : Nat) (st : List Nat) : List Wy := match p.rows[row]? with
  | some r => lnx p row st r
  | none => [.nothing]
def plc : Wy → Option (Nat × List Nat)
  | .place r s => some (r, s)
  | _ => none
def behind (p : Pg) (row : Nat) (st : List Nat) : List (Nat × List Nat) := (lways p row st).filterMap plc
abbrev Sts := List (List (List Nat))
def gt (nss : Sts) (r : Nat) : List (List Nat) := nss.getD r []
/-- what holds of all stages -/
structure Sg (p : Pg) (st : List Nat) (n : Nat) (nss : Sts) : Prop where
  len : nss.length = p.rows.length + 1
  nd : ∀ r, (gt nss r).Nodup
  ok : ∀ r, ∀ s ∈ gt nss r, StOk p.m p.bs s
  cl : ∀ r, r < n → ∀ s ∈ gt nss r, ∀ b ∈ behind p r s, b.2 ∈ gt nss b.1
  st : st ∈ gt nss 0
/-- in the midst of a row's stores: those of hs are done -/
structure Mid (p : Pg) (st : List Nat) (row : Nat) (old nss : Sts) (hs : List (List Nat)) : Prop where
  len : nss.length = p.rows.length + 1
  nd : ∀ r, (gt nss r).Nodup
  ok : ∀ r, ∀ s ∈ gt nss r, StOk p.m p.bs s
  lo : ∀ r, r ≤ row → gt nss r = gt old r
  up : ∀ r, ∀ s ∈ gt old r, s ∈ gt nss r
  cl : ∀ s ∈ hs, ∀ b ∈ behind p row s, b.2 ∈ gt nss b.1
end Dk
end
section
set_option Elab.async false
set_option linter.all false
set_option maxRecDepth 100000
namespace Pr
open PySem PySem.Spec PyProof.Rows L2 Pk Dk
/-- it can be shown; so deep, so long -/
structure SL (e n : Nat) (d : PyData) : Prop where
  ok : rok d = true
  sh : d.showable = true
  dp : d.depth ≤ e
  len : d.shown.length ≤ n
section
variable {e n k : Nat} {d : PyData}
theorem SL.mono {e' n' : Nat} (h : SL e n d) (he : e ≤ e') (hn : n ≤ n') : SL e' n' d := ⟨h.ok, h.sh, Nat.le_trans h.dp he, Nat.le_trans h.len hn⟩
theorem SL.non : SL 0 4 .none := ⟨rfl, rfl, Nat.le_refl _, by decide⟩
theorem SL.bool (b : Bool) : SL 0 5 (.bool b) := ⟨rfl, rfl, Nat.le_refl _, by cases b <;> decide⟩
theorem SL.int {i : Int} (h : i.natAbs < 10 ^ k) (h0 : 0 < k) (h5 : k ≤ 500) : SL 0 (k + 1) (.int i) := by
  have hl : i.natAbs.log2 < 1920 := by
    by_cases z : i.natAbs = 0
    · rw [z]; decide
    · refine (Nat.log2_lt z).mpr (Nat.lt_of_lt_of_le h ?_)
      exact Nat.le_trans (Nat.pow_le_pow_right (by decide) h5) (by decide)
  refine ⟨rfl, by simp only [PyData.showable]; exact decide_eq_true hl, by simp [PyData.depth], ?_⟩
  simp only [PyData.shown]
  rw [PySem.ofString_length]
  exact int_text_length_le10 h0 h
theorem SL.nat {i : Nat} (h : i < 10 ^ k) (h0 : 0 < k) (h5 : k ≤ 500) : SL 0 (k + 1) (.int (i : Int)) := SL.int (by rw [Int.natAbs_natCast]; exact h) h0 h5
theorem SL.str {x : Str} (h : ∀ c ∈ x.cps.toList, c < 16 ^ 8) : SL 0 (10 * x.length + 2) (.str x) := ⟨rfl, rfl, by simp [PyData.depth], by simp only [PyData.shown]; exact StrLaws.reprText_len x h⟩
theorem SL.name {x : Str} (h : NameOk x) : SL 0 82 (.str x) := (SL.str fun c hc => by
  have := (h.2.2 c hc).2
  omega).mono (Nat.le_refl _) (by have := h.2.1; omega)
theorem all_rok : ∀ {xs : List PyData}, (∀ x ∈ xs, rok x = true) → rokAll xs = true
  | [], _ => rfl
  | x :: xs, h => by simp [rokAll, h x List.mem_cons_self, all_rok fun y hy => h y (List.mem_cons_of_mem _ hy)]
theorem all_sh : ∀ {xs : List PyData}, (∀ x ∈ xs, x.showable = true) → PyData.showableAll xs = true
  | [], _ => rfl
  | x :: xs, h => by simp [PyData.showableAll, h x List.mem_cons_self, all_sh fun y hy => h y (List.mem_cons_of_mem _ hy)]
theorem all_dp : ∀ {xs : List PyData}, (∀ x ∈ xs, x.depth ≤ e) → PyData.depthAll xs ≤ e
  | [], _ => Nat.zero_le _
  | x :: xs, h => by
    have a := h x List.mem_cons_self
    have b := all_dp fun y hy => h y (List.mem_cons_of_mem _ hy)
    simp only [PyData.depthAll]
    omega
theorem all_len : ∀ {xs : List PyData}, (∀ x ∈ xs, x.shown.length ≤ n) → ((PyData.shownAll xs).map (·.length)).sum + 2 * (PyData.shownAll xs).length ≤ xs.length * (n + 2)
  | [], _ => by simp [PyData.shownAll]
  | x :: xs, h => by
    have a := h x List.mem_cons_self
    have b := all_len fun y hy => h y (List.mem_cons_of_mem _ hy)
    simp only [PyData.shownAll, List.map_cons, List.sum_cons, List.length_cons] at b ⊢
    have c : (xs.length + 1) * (n + 2) = xs.length * (n + 2) + (n + 2) := Nat.succ_mul _ _
    omega
theorem SL.lst {xs : List PyData} (h : ∀ x ∈ xs, SL e n x) : SL (e + 1) (xs.length * (n + 2) + 3) (.list xs) := by
  refine ⟨?_, ?_, ?_, ?_⟩
  · simp only [rok]; exact all_rok fun x hx => (h x hx).ok
  · simp only [PyData.showable]; exact all_sh fun x hx => (h x hx).sh
  · simp only [PyData.depth]; exact Nat.succ_le_succ (all_dp fun x hx => (h x hx).dp)
  · simp only [PyData.shown]
    have a := listText_len_le (PyData.shownAll xs)
    have b := all_len (n := n) fun x hx => (h x hx).len
    omega
theorem SL.tup {xs : List PyData} (h : ∀ x ∈ xs, SL e n x) : SL (e + 1) (xs.length * (n + 2) + 3) (.tuple xs) := by
  refine ⟨?_, ?_, ?_, ?_⟩
  · simp only [rok]; exact all_rok fun x hx => (h x hx).ok
  · simp only [PyData.showable]; exact all_sh fun x hx => (h x hx).sh
  · simp only [PyData.depth]; exact Nat.succ_le_succ (all_dp fun x hx => (h x hx).dp)
  · simp only [PyData.shown]
    have a := tupleText_len_le (PyData.shownAll xs)
    have b := all_len (n := n) fun x hx => (h x hx).len
    omega
theorem SL.tup2 {a b : PyData} {na nb : Nat} (ha : SL e na a) (hb : SL e nb b) : SL (e + 1) (na + nb + 7) (.tuple [a, b]) := by
  refine ⟨?_, ?_, ?_, ?_⟩
  · simp [rok, rokAll, ha.ok, hb.ok]
  · simp [PyData.showable, PyData.showableAll, ha.sh, hb.sh]
  · have := ha.dp; have := hb.dp
    simp only [PyData.depth, PyData.depthAll]; omega
  · have x := ha.len; have y := hb.len
    have t := tupleText_len_le (PyData.shownAll [a, b])
    simp only [PyData.shown]
    simp [PyData.shownAll] at t ⊢
    omega
theorem SL.tup3 {a b c : PyData} {na nb nc : Nat} (ha : SL e na a) (hb : SL e nb b) (hc : SL e nc c) : SL (e + 1) (na + nb + nc + 9) (.tuple [a, b, c]) := by
  refine ⟨?_, ?_, ?_, ?_⟩
  · simp [rok, rokAll, ha.ok, hb.ok, hc.ok]
  · simp [PyData.showable, PyData.showableAll, ha.sh, hb.sh, hc.sh]
  · have := ha.dp; have := hb.dp; have := hc.dp
    simp only [PyData.depth, PyData.depthAll]; omega
  · have x := ha.len; have y := hb.len; have z := hc.len
    have t := tupleText_len_le (PyData.shownAll [a, b, c])
    simp only [PyData.shown]
    simp [PyData.shownAll] at t ⊢
    omega
/-- a word of a row or a thing -/
theorem SL.word {x : Str} (h : (x.cps.toList.all fun c => decide (c < 16 ^ 8)) = true) (hl : x.length ≤ 6) : SL 0 62 (.str x) := (SL.str fun c hc => of_decide_eq_true (List.all_eq_true.mp h c hc)).mono (Nat.le_refl _) (by omega)
theorem th_sl {m : Nat} {bs : List Str} (hm : m ≤ 16) (hb : ∀ x ∈ bs, NameOk x) : ∀ {N : Nat} {t : Th}, t.Ok m bs N → SL N (600 * 2 ^ N - 100) t.d
  | 0, _, h => h.elim
  | N + 1, .num k, h => by
    have h' : k < m := h
    have p : 1 ≤ 2 ^ N := Nat.one_le_two_pow
    have e : 2 ^ (N + 1) = 2 * 2 ^ N := by rw [Nat.pow_succ]; omega
    exact (SL.tup2 (SL.word (x := "number") (by decide +kernel) (by decide +kernel)) (SL.nat (k := 2) (by omega) (by decide) (by decide))).mono (by omega) (by omega)
  | N + 1, .box x, h => by
    have p : 1 ≤ 2 ^ N := Nat.one_le_two_pow
    have e : 2 ^ (N + 1) = 2 * 2 ^ N := by rw [Nat.pow_succ]; omega
    exact (SL.tup2 (SL.word (x := "box") (by decide +kernel) (by decide +kernel)) (SL.name (hb x h))).mono (by omega) (by omega)
  | N + 1, .op o a b, h => by
    have p : 1 ≤ 2 ^ N := Nat.one_le_two_pow
    have e : 2 ^ (N + 1) = 2 * 2 ^ N := by rw [Nat.pow_succ]; omega
    have ha := th_sl hm hb h.1
    have hbb := th_sl hm hb h.2
    have w : SL N 62 (.str o.w) := (show SL 0 62 (.str o.w) by cases o <;> exact SL.word (by decide +kernel) (by decide +kernel)).mono (Nat.zero_le _) (Nat.le_refl _)
    exact (SL.tup3 w ha hbb).mono (Nat.le_refl _) (by omega)
/-- what repr asks -/
theorem SL.rep (h : SL e n d) (he : e ≤ 190) (hn : n ≤ 16777216) : rok d = true ∧ d.showable = true ∧ d.depth ≤ 190 ∧ d.shown.length ≤ sizeLine := ⟨h.ok, h.sh, Nat.le_trans h.dp he, Nat.le_trans h.len (Nat.le_trans hn (Nat.le_of_eq (by rw [sizeLine_eq])))⟩
end
end Pr
end
section
set_option Elab.async false
set_option linter.all false
set_option maxRecDepth 100000
set_option maxHeartbeats 4000000
namespace Pu
open PySem PySem.Spec PyProof.Rows L2 Pk PySem.SeqAt
-- equal as == tells, where dicts are empty
mutual
def eqe : PyData → PyData → Bool
  | .list xs, .list ys => eqeA xs ys
  | .tuple xs, .tuple ys => eqeA xs ys
  | .dict _, .dict _ => true
  | x, y => PyData.eqv x y
def eqeA : List PyData → List PyData → Bool
  | [], [] => true
  | x :: xs, y :: ys => eqe x y && eqeA xs ys
  | _, _ => false
end
abbrev pairE (xs ys : List PyData) (j : Nat) : Bool := eqe (xs.getD j .none) (ys.getD j .none)
theorem eqeA_eq : ∀ xs ys : List PyData, ((List.range (min xs.length ys.length)).all (pairE xs ys) && xs.length == ys.length) = eqeA xs ys
  | [], [] => rfl
  | [], _ :: _ => by simp [eqeA]
  | _ :: _, [] => by simp [eqeA]
  | x :: xs, y :: ys => by
    have ih := eqeA_eq xs ys
    have e1 : min (x :: xs).length (y :: ys).length = min xs.length ys.length + 1 := by simp only [List.length_cons]; omega
    have e2 : ((x :: xs).length == (y :: ys).length) = (xs.length == ys.length) := by simp
    have e3 : (List.range (min xs.length ys.length + 1)).all (pairE (x :: xs) (y :: ys)) = (eqe x y && (List.range (min xs.length ys.length)).all (pairE xs ys)) := by
      rw [List.range_succ_eq_map, List.all_cons, List.all_map]
      first | rfl | simp [pairE, Function.comp_def]
    rw [e1, e2, e3, eqeA, ← ih, Bool.and_assoc]
theorem eqeA_same {xs ys : List PyData} (h : xs.length = ys.length) : (List.range xs.length).all (pairE xs ys) = eqeA xs ys := by
  have := eqeA_eq xs ys
  rw [← h, Nat.min_self] at this
  simpa using this
theorem eqeA_other {xs ys : List PyData} (h : xs.length ≠ ys.length) : eqeA xs ys = false := by
  rw [← eqeA_eq xs ys]
  simp [h]
mutual
theorem eqe_refl : ∀ d : PyData, eqe d d = true
  | .none => rfl
  | .bool b => by simp [eqe, PyData.eqv]
  | .int i => by simp [eqe, PyData.eqv]
  | .str x => by simp [eqe, PyData.eqv]
  | .list xs => by rw [eqe]; exact eqeA_refl xs
  | .tuple xs => by rw [eqe]; exact eqeA_refl xs
  | .dict _ => by simp [eqe]
theorem eqeA_refl : ∀ xs : List PyData, eqeA xs xs = true
  | [] => rfl
  | x :: xs => by rw [eqeA, eqe_refl x, eqeA_refl xs]; rfl
end
mutual
inductive RdE (h : Heap) : Value → PyData → Prop
  | none : RdE h .none .none
  | bool (b : Bool) : RdE h (.bool b) (.bool b)
  | int (i : Int) (t : Tok) : RdE h (.int i t) (.int i)
  | str (x : Str) (t : Tok) : RdE h (.str x t) (.str x)
  | list {a : Addr} {vs : List Value} {ds : List PyData} : h.IsList a vs.toArray → RdEs h vs ds → RdE h (.ref a) (.list ds)
  | tuple {a : Addr} {vs : List Value} {ds : List PyData} : h.IsTuple a vs.toArray → RdEs h vs ds → RdE h (.ref a) (.tuple ds)
  | dict {a : Addr} {o : Obj} {n : Nat} : (a == sysModules) = false → h.get? a = some o → o.ExactDict → o.data = .dict #[] n → RdE h (.ref a) (.dict [])
inductive RdEs (h : Heap) : List Value → List PyData → Prop
  | nil : RdEs h [] []
  | cons {v : Value} {vs : List Value} {d : PyData} {ds : List PyData} : RdE h v d → RdEs h vs ds → RdEs h (v :: vs) (d :: ds)
end
theorem RdEs.length {h : Heap} : ∀ {vs : List Value} {ds : List PyData}, RdEs h vs ds → vs.length = ds.length
  | [], [], _ => rfl
  | [], _ :: _, r => by cases r
  | _ :: _, [], r => by cases r
  | v :: vs, d :: ds, r => by
    cases r with
    | cons _ b => simp [RdEs.length b]
mutual
theorem RdE.uniq {h : Heap} : ∀ (d e : PyData) {v : Value}, RdE h v d → RdE h v e → d = e
  | .none, _, _, r, q => by cases r; cases q; rfl
  | .bool _, _, _, r, q => by cases r; cases q; rfl
  | .int _, _, _, r, q => by cases r; cases q; rfl
  | .str _, _, _, r, q => by cases r; cases q; rfl
  | .list xs, e, _, r, q => by
    cases r with
    | list h1 h2 =>
      obtain ⟨o, ho, hc, n, hd⟩ := h1
      cases q with
      | list k1 k2 =>
        obtain ⟨o', ho', _, n', hd'⟩ := k1
        rw [ho] at ho'; cases ho'
        rw [hd] at hd'
        injection hd' with e1
        have e2 := congrArg Array.toList e1
        simp only at e2
        subst e2
        rw [RdEs.uniq xs _ h2 k2]
      | tuple k1 k2 =>
        obtain ⟨o', ho', hc', _⟩ := k1
        rw [ho] at ho'; cases ho'
        rw [hc] at hc'
        exact absurd hc' (by decide)
      | dict _ k1 k2 _ =>
        rw [ho] at k1; cases k1
        have k2 := k2.1
        rw [hc] at k2
        exact absurd k2 (by decide)
  | .tuple xs, e, _, r, q => by
    cases r with
    | tuple h1 h2 =>
      obtain ⟨o, ho, hc, n, hd⟩ := h1
      cases q with
      | tuple k1 k2 =>
        obtain ⟨o', ho', _, n', hd'⟩ := k1
        rw [ho] at ho'; cases ho'
        rw [hd] at hd'
        injection hd' with e1
        have e2 := congrArg Array.toList e1
        simp only at e2
        subst e2
        rw [RdEs.uniq xs _ h2 k2]
      | list k1 k2 =>
        obtain ⟨o', ho', hc', _⟩ := k1
        rw [ho] at ho'; cases ho'
        rw [hc] at hc'
        exact absurd hc' (by decide)
      | dict _ k1 k2 _ =>
        rw [ho] at k1; cases k1
        have k2 := k2.1
        rw [hc] at k2
        exact absurd k2 (by decide)
  | .dict _, e, _, r, q => by
    cases r with
    | dict _ h1 h2 _ =>
      cases q with
      | dict => rfl
      | list k1 k2 =>
        obtain ⟨o', ho', hc', _⟩ := k1
        rw [h1] at ho'; cases ho'
        rw [h2.1] at hc'
        exact absurd hc' (by decide)
      | tuple k1 k2 =>
        obtain ⟨o', ho', hc', _⟩ := k1
        rw [h1] at ho'; cases ho'
        rw [h2.1] at hc'
        exact absurd hc' (by decide)
theorem RdEs.uniq {h : Heap} : ∀ (ds es : List PyData) {vs : List Value}, RdEs h vs ds → RdEs h vs es → ds = es
  | [], es, _, r, q => by cases r; cases q; rfl
  | d :: ds, es, _, r, q => by
    cases r with
    | cons a b =>
      cases q with
      | cons a' b' => rw [RdE.uniq d _ a a', RdEs.uniq ds _ b b']
end
section
variable {prog : Program} {w : World} {A : Around} {E : Value → Shared → Prop} {s : Shared}
theorem dict_declines {a : Addr} {x : Value} {T : String} {Q : Value → Shared → Prop} (ha : s.TypeIs (.ref a) "dict") (hx : s.TypeIs x T) (hs : isSubtype (.type T) (.type "dict") = pure false) (h : Q .notImplemented s) : wpAny (model prog w) A (call (.builtin "dict.__eq__") [.ref a, x]) Q E s := by
  refine wpAny_call_entry PySem.F.slot_dict_eq ha PySem.F.entry_dict_eq ?_ (PySem.F.args_dict_eq_2 _ _)
  show wpAny _ _ (Builtin.Dict.dictSlotArgs "__eq__" ⟨[.ref a, x], []⟩ >>= _) _ _ s
  refine wpAny_bind ?_
  unfold Builtin.Dict.dictSlotArgs
  refine wpAny_bind (wpAny_notOrdered_dict ha ?_)
  show wpAny _ _ (pure (Value.ref a, x)) _ _ s
  refine wpAny_pure ?_
  refine wpAny_bind (wpAny_isInstance hx hs ?_)
  simp only [Bool.not_false, if_true]
  refine wpAny_bind (wpAny_rule ?_)
  refine wpAny_bind (wpAny_pure ?_)
  exact wpAny_pure ⟨_, rfl, h⟩
theorem int_declinesB (b : Bool) (l : Addr) (c : Value) (es : Array DictEntry) (n : Nat) (dd : Option Addr) (sl : Array (Option Value)) :
    Meets (Builtin.«int.__eq__» ⟨[.bool b, .ref l], []⟩) (fun _ R s => s.heap.get? l = some { cls := c, dict := dd, data := .dict es n, slots := sl } ∧ R (.ok (.ret .notImplemented)) s) :=
  .of_wp fun prog w A R s h => by obtain ⟨hp, g, d, tk, os⟩ := s; obtain ⟨hl, h⟩ := h; wp_walk using wpAny_loadPart' hl, wpAny_load hl; exact ⟨_, rfl, h⟩
theorem int_declinesI (b : Int) (u : Tok) (l : Addr) (c : Value) (es : Array DictEntry) (n : Nat) (dd : Option Addr) (sl : Array (Option Value)) :
    Meets (Builtin.«int.__eq__» ⟨[.int b u, .ref l], []⟩) (fun _ R s => s.heap.get? l = some { cls := c, dict := dd, data := .dict es n, slots := sl } ∧ R (.ok (.ret .notImplemented)) s) :=
  .of_wp fun prog w A R s h => by obtain ⟨hp, g, d, tk, os⟩ := s; obtain ⟨hl, h⟩ := h; wp_walk using wpAny_loadPart' hl, wpAny_load hl; exact ⟨_, rfl, h⟩
theorem str_declinesD (b : Str) (u : Tok) (l : Addr) (c : Value) (es : Array DictEntry) (n : Nat) (dd : Option Addr) (sl : Array (Option Value)) :
    Meets (Builtin.«str.__eq__» ⟨[.str b u, .ref l], []⟩) (fun _ R s => s.heap.get? l = some { cls := c, dict := dd, data := .dict es n, slots := sl } ∧ R (.ok (.ret .notImplemented)) s) :=
  .of_wp fun prog w A R s h => by obtain ⟨hp, g, d, tk, os⟩ := s; obtain ⟨hl, h⟩ := h; wp_walk using wpAny_loadPart' hl, wpAny_load hl; exact ⟨_, rfl, h⟩
theorem list_declinesD (l b : Addr) (items : Array Value) (es : Array DictEntry) (n n2 : Nat) (dd dd2 : Option Addr) (sl sl2 : Array (Option Value)) :
    Meets (Builtin.«list.__eq__» ⟨[.ref l, .ref b], []⟩) (fun _ R s => s.heap.get? l = some { cls := .type "list", dict := dd, data := .seq items n, slots := sl } ∧ s.heap.get? b = some { cls := .type "dict", dict := dd2, data := .dict es n2, slots := sl2 } ∧ R (.ok (.ret .notImplemented)) s) :=
  .of_wp fun prog w A R s h => by obtain ⟨hp, g, d, tk, os⟩ := s; obtain ⟨hl, hb, h⟩ := h; have f1 := F.sub_dict_list; wp_walk using wpAny_loadPart' hl, wpAny_loadPart' hb; exact ⟨_, rfl, h⟩
theorem tuple_declinesD (l b : Addr) (items : Array Value) (es : Array DictEntry) (n n2 : Nat) (dd dd2 : Option Addr) (sl sl2 : Array (Option Value)) :
    Meets (Builtin.«tuple.__eq__» ⟨[.ref l, .ref b], []⟩) (fun _ R s => s.heap.get? l = some { cls := .type "tuple", dict := dd, data := .seq items n, slots := sl } ∧ s.heap.get? b = some { cls := .type "dict", dict := dd2, data := .dict es n2, slots := sl2 } ∧ R (.ok (.ret .notImplemented)) s) :=
  .of_wp fun prog w A R s h => by obtain ⟨hp, g, d, tk, os⟩ := s; obtain ⟨hl, hb, h⟩ := h; have f1 := F.sub_dict_tuple; wp_walk using wpAny_loadPart' hl, wpAny_loadPart' hb; exact ⟨_, rfl, h⟩
end
section
variable {A : Around} {s : Shared}
/-- an empty dict -/
def D0 (h : Heap) (a : Addr) : Prop := ∃ o n, h.get? a = some o ∧ o.cls = .type "dict" ∧ o.data = .dict #[] n
theorem RcAt.dictN {a : Addr} (hd : D0 s.heap a) (hu : A.units < cLine) : RcAt A s (.ref a) .none false := fun prog w E Q h => by
  obtain ⟨⟨cls, dd, data, sl⟩, n, ho, hc, hd⟩ := hd
  simp only at hc hd
  subst hc hd
  exact rc_eq_decline_or (k := false) ⟨_, ho, rfl⟩ rfl (by decide) F.sub_NoneType_dict F.slot_dict_eq F.slot_NoneType_eq_refl
    (fun _ hq => dict_declines (T := "NoneType") ⟨_, ho, rfl⟩ rfl F.sub_NoneType_dict hq)
    (fun _ hq => call_gives F.slot_NoneType_eq_refl rfl F.entry_NoneType_eq (F.args_NoneType_eq_2 _ _) (NoneType___eq___none_ref_0 a) hq)
    (fun _ hq => wpAny_of_eq (rfl : isSame (.ref a) .none = pure false) hq) (.inr hu) h
theorem RcAt.nDict {a : Addr} (hd : D0 s.heap a) (hu : A.units < cLine) : RcAt A s .none (.ref a) false := fun prog w E Q h => by
  obtain ⟨⟨cls, dd, data, sl⟩, n, ho, hc, hd⟩ := hd
  simp only at hc hd
  subst hc hd
  exact rc_eq_decline_or (k := false) rfl ⟨_, ho, rfl⟩ (by decide) F.sub_dict_NoneType F.slot_NoneType_eq F.slot_dict_eq_refl
    (fun _ hq => call_gives F.slot_NoneType_eq rfl F.entry_NoneType_eq (F.args_NoneType_eq_2 _ _) (NoneType___eq___none_ref_0 a) hq)
    (fun _ hq => dict_declines (T := "NoneType") ⟨_, ho, rfl⟩ rfl F.sub_NoneType_dict hq)
    (fun _ hq => wpAny_of_eq (rfl : isSame .none (.ref a) = pure false) hq) (.inr hu) h
theorem RcAt.dictB {a : Addr} (b : Bool) (hd : D0 s.heap a) (hu : A.units < cLine) : RcAt A s (.ref a) (.bool b) false := fun prog w E Q h => by
  obtain ⟨⟨cls, dd, data, sl⟩, n, ho, hc, hd⟩ := hd
  simp only at hc hd
  subst hc hd
  exact rc_eq_decline_or (k := false) ⟨_, ho, rfl⟩ rfl (by decide) F.sub_bool_dict F.slot_dict_eq F.slot_bool_eq_refl
    (fun _ hq => dict_declines (T := "bool") ⟨_, ho, rfl⟩ rfl F.sub_bool_dict hq)
    (fun _ hq => call_meets F.slot_bool_eq_refl rfl F.entry_int_eq (F.args_int_eq_2 _ _) (int_declinesB b a (.type "dict") #[] n dd sl) ⟨ho, hq⟩)
    (fun _ hq => wpAny_of_eq (rfl : isSame (.ref a) (.bool b) = pure false) hq) (.inr hu) h
theorem RcAt.bDict {a : Addr} (b : Bool) (hd : D0 s.heap a) (hu : A.units < cLine) : RcAt A s (.bool b) (.ref a) false := fun prog w E Q h => by
  obtain ⟨⟨cls, dd, data, sl⟩, n, ho, hc, hd⟩ := hd
  simp only at hc hd
  subst hc hd
  exact rc_eq_decline_or (k := false) rfl ⟨_, ho, rfl⟩ (by decide) F.sub_dict_bool F.slot_bool_eq F.slot_dict_eq_refl
    (fun _ hq => call_meets F.slot_bool_eq rfl F.entry_int_eq (F.args_int_eq_2 _ _) (int_declinesB b a (.type "dict") #[] n dd sl) ⟨ho, hq⟩)
    (fun _ hq => dict_declines (T := "bool") ⟨_, ho, rfl⟩ rfl F.sub_bool_dict hq)
    (fun _ hq => wpAny_of_eq (rfl : isSame (.bool b) (.ref a) = pure false) hq) (.inr hu) h
theorem RcAt.dictI {a : Addr} (b : Int) (u : Tok) (hd : D0 s.heap a) (hu : A.units < cLine) : RcAt A s (.ref a) (.int b u) false := fun prog w E Q h => by
  obtain ⟨⟨cls, dd, data, sl⟩, n, ho, hc, hd⟩ := hd
  simp only at hc hd
  subst hc hd
  exact rc_eq_decline_or (k := false) ⟨_, ho, rfl⟩ (typeIs_int s b u) (by decide) F.sub_int_dict F.slot_dict_eq F.slot_int_eq_refl
    (fun _ hq => dict_declines (T := "int") ⟨_, ho, rfl⟩ (typeIs_int s b u) F.sub_int_dict hq)
    (fun _ hq => call_meets F.slot_int_eq_refl (typeIs_int s b u) F.entry_int_eq (F.args_int_eq_2 _ _) (int_declinesI b u a (.type "dict") #[] n dd sl) ⟨ho, hq⟩)
    (fun _ hq => wpAny_of_eq (rfl : isSame (.ref a) (.int b u) = pure false) hq) (.inr hu) h
theorem RcAt.iDict {a : Addr} (b : Int) (u : Tok) (hd : D0 s.heap a) (hu : A.units < cLine) : RcAt A s (.int b u) (.ref a) false := fun prog w E Q h => by
  obtain ⟨⟨cls, dd, data, sl⟩, n, ho, hc, hd⟩ := hd
  simp only at hc hd
  subst hc hd
  exact rc_eq_decline_or (k := false) (typeIs_int s b u) ⟨_, ho, rfl⟩ (by decide) F.sub_dict_int F.slot_int_eq F.slot_dict_eq_refl
    (fun _ hq => call_meets F.slot_int_eq (typeIs_int s b u) F.entry_int_eq (F.args_int_eq_2 _ _) (int_declinesI b u a (.type "dict") #[] n dd sl) ⟨ho, hq⟩)
    (fun _ hq => dict_declines (T := "int") ⟨_, ho, rfl⟩ (typeIs_int s b u) F.sub_int_dict hq)
    (fun _ hq => wpAny_of_eq (rfl : isSame (.int b u) (.ref a) = pure false) hq) (.inr hu) h
theorem RcAt.dictS {a : Addr} (b : Str) (u : Tok) (hd : D0 s.heap a) (hu : A.units < cLine) : RcAt A s (.ref a) (.str b u) false := fun prog w E Q h => by
  obtain ⟨⟨cls, dd, data, sl⟩, n, ho, hc, hd⟩ := hd
  simp only at hc hd
  subst hc hd
  exact rc_eq_decline_or (k := false) ⟨_, ho, rfl⟩ (typeIs_str s b u) (by decide) F.sub_str_dict F.slot_dict_eq F.slot_str_eq_refl
    (fun _ hq => dict_declines (T := "str") ⟨_, ho, rfl⟩ (typeIs_str s b u) F.sub_str_dict hq)
    (fun _ hq => call_meets F.slot_str_eq_refl (typeIs_str s b u) F.entry_str_eq (F.args_str_eq_2 _ _) (str_declinesD b u a (.type "dict") #[] n dd sl) ⟨ho, hq⟩)
    (fun _ hq => wpAny_of_eq (rfl : isSame (.ref a) (.str b u) = pure false) hq) (.inr hu) h
theorem RcAt.sDict {a : Addr} (b : Str) (u : Tok) (hd : D0 s.heap a) (hu : A.units < cLine) : RcAt A s (.str b u) (.ref a) false := fun prog w E Q h => by
  obtain ⟨⟨cls, dd, data, sl⟩, n, ho, hc, hd⟩ := hd
  simp only at hc hd
  subst hc hd
  exact rc_eq_decline_or (k := false) (typeIs_str s b u) ⟨_, ho, rfl⟩ (by decide) F.sub_dict_str F.slot_str_eq F.slot_dict_eq_refl
    (fun _ hq => call_meets F.slot_str_eq (typeIs_str s b u) F.entry_str_eq (F.args_str_eq_2 _ _) (str_declinesD b u a (.type "dict") #[] n dd sl) ⟨ho, hq⟩)
    (fun _ hq => dict_declines (T := "str") ⟨_, ho, rfl⟩ (typeIs_str s b u) F.sub_str_dict hq)
    (fun _ hq => wpAny_of_eq (rfl : isSame (.str b u) (.ref a) = pure false) hq) (.inr hu) h
theorem ne_of_cls {l b : Addr} {o o' : Obj} (h : s.heap.get? l = some o) (h' : s.heap.get? b = some o') (hc : o.cls ≠ o'.cls) : l ≠ b := fun e => by
  subst e
  rw [h] at h'
  cases h'
  exact hc rfl
theorem RcAt.dictL {a l : Addr} {items : Array Value} (hd : D0 s.heap a) (hl : s.heap.IsList l items) (hu : A.units < cLine) : RcAt A s (.ref a) (.ref l) false := fun prog w E Q h => by
  obtain ⟨⟨cls, dd, data, sl⟩, n, ho, hc, hd⟩ := hd
  obtain ⟨⟨cls2, dd2, data2, sl2⟩, ho2, hc2, n2, hd2⟩ := id hl
  simp only at hc hd hc2 hd2
  subst hc hd hc2 hd2
  exact (rc_eq_decline_or (k := false) ⟨_, ho, rfl⟩ ⟨_, ho2, rfl⟩ (by decide) F.sub_list_dict F.slot_dict_eq F.slot_list_eq_refl
    (fun _ hq => dict_declines (T := "list") ⟨_, ho, rfl⟩ ⟨_, ho2, rfl⟩ F.sub_list_dict hq)
    (fun _ hq => call_meets F.slot_list_eq_refl ⟨_, ho2, rfl⟩ F.entry_list_eq (F.args_list_eq_2 _ _) (list_declinesD l a items #[] n2 n dd2 dd sl2 sl) ⟨ho2, ho, hq⟩)
    (fun _ hq => wpAny_isSame_ref_other' (ne_of_cls ho ho2 (fun z => by simp at z)) ho ho2 (by simp) hq) (.inr hu) h)
theorem RcAt.lDict {a l : Addr} {items : Array Value} (hd : D0 s.heap a) (hl : s.heap.IsList l items) (hu : A.units < cLine) : RcAt A s (.ref l) (.ref a) false := fun prog w E Q h => by
  obtain ⟨⟨cls, dd, data, sl⟩, n, ho, hc, hd⟩ := hd
  obtain ⟨⟨cls2, dd2, data2, sl2⟩, ho2, hc2, n2, hd2⟩ := id hl
  simp only at hc hd hc2 hd2
  subst hc hd hc2 hd2
  exact (rc_eq_decline_or (k := false) ⟨_, ho2, rfl⟩ ⟨_, ho, rfl⟩ (by decide) F.sub_dict_list F.slot_list_eq F.slot_dict_eq_refl
    (fun _ hq => call_meets F.slot_list_eq ⟨_, ho2, rfl⟩ F.entry_list_eq (F.args_list_eq_2 _ _) (list_declinesD l a items #[] n2 n dd2 dd sl2 sl) ⟨ho2, ho, hq⟩)
    (fun _ hq => dict_declines (T := "list") ⟨_, ho, rfl⟩ ⟨_, ho2, rfl⟩ F.sub_list_dict hq)
    (fun _ hq => wpAny_isSame_ref_other' (ne_of_cls ho2 ho (fun z => by simp at z)) ho2 ho (by simp) hq) (.inr hu) h)
theorem RcAt.dictT {a l : Addr} {items : Array Value} (hd : D0 s.heap a) (hl : s.heap.IsTuple l items) (hu : A.units < cLine) : RcAt A s (.ref a) (.ref l) false := fun prog w E Q h => by
  obtain ⟨⟨cls, dd, data, sl⟩, n, ho, hc, hd⟩ := hd
  obtain ⟨⟨cls2, dd2, data2, sl2⟩, ho2, hc2, n2, hd2⟩ := id hl
  simp only at hc hd hc2 hd2
  subst hc hd hc2 hd2
  exact (rc_eq_decline_or (k := false) ⟨_, ho, rfl⟩ ⟨_, ho2, rfl⟩ (by decide) F.sub_tuple_dict F.slot_dict_eq F.slot_tuple_eq_refl
    (fun _ hq => dict_declines (T := "tuple") ⟨_, ho, rfl⟩ ⟨_, ho2, rfl⟩ F.sub_tuple_dict hq)
    (fun _ hq => call_meets F.slot_tuple_eq_refl ⟨_, ho2, rfl⟩ F.entry_tuple_eq (F.args_tuple_eq_2 _ _) (tuple_declinesD l a items #[] n2 n dd2 dd sl2 sl) ⟨ho2, ho, hq⟩)
    (fun _ hq => wpAny_isSame_ref_other (ne_of_cls ho ho2 (fun z => by simp at z)) ho ho2 (by simp) hq) (.inr hu) h)
theorem RcAt.tDict {a l : Addr} {items : Array Value} (hd : D0 s.heap a) (hl : s.heap.IsTuple l items) (hu : A.units < cLine) : RcAt A s (.ref l) (.ref a) false := fun prog w E Q h => by
  obtain ⟨⟨cls, dd, data, sl⟩, n, ho, hc, hd⟩ := hd
  obtain ⟨⟨cls2, dd2, data2, sl2⟩, ho2, hc2, n2, hd2⟩ := id hl
  simp only at hc hd hc2 hd2
  subst hc hd hc2 hd2
  exact (rc_eq_decline_or (k := false) ⟨_, ho2, rfl⟩ ⟨_, ho, rfl⟩ (by decide) F.sub_dict_tuple F.slot_tuple_eq F.slot_dict_eq_refl
    (fun _ hq => call_meets F.slot_tuple_eq ⟨_, ho2, rfl⟩ F.entry_tuple_eq (F.args_tuple_eq_2 _ _) (tuple_declinesD l a items #[] n2 n dd2 dd sl2 sl) ⟨ho2, ho, hq⟩)
    (fun _ hq => dict_declines (T := "tuple") ⟨_, ho, rfl⟩ ⟨_, ho2, rfl⟩ F.sub_tuple_dict hq)
    (fun _ hq => wpAny_isSame_ref_other' (ne_of_cls ho2 ho (fun z => by simp at z)) ho2 ho (by simp) hq) (.inr hu) h)
end
section
mutual
/-- == over data with empty dicts -/
theorem eqAt_E {s : Shared} : ∀ (d e : PyData) {A : Around} {a b : Value}, RdE s.heap a d → RdE s.heap b e → A.units + min d.depth e.depth < cLine → EqAt A s a b (eqe d e)
  | .none, _, A, _, _, ra, rb, hu => by
    cases ra
    cases rb with
    | none => exact EqAt.same _
    | bool y => exact EqAt.none_bool y
    | int y u => exact EqAt.none_int y u
    | str y u => exact EqAt.none_str y u
    | list k1 k2 => exact EqAt.none_list k1 (room_here hu)
    | tuple k1 k2 => exact EqAt.none_tuple k1 (room_here hu)
    | dict k0 k1 k2 k3 =>
      exact fun prog w E Q hq => by
        unfold eqBool
        refine wpAny_holding ?_
        refine wpAny_ite_split (fun hab => absurd (eq_of_beq hab) nofun) (fun _ => ?_)
        exact wpAny_bind ((RcAt.nDict ⟨_, _, k1, k2.1, k3⟩ (room_here hu)) prog w E _ (wpAny_truthy_bool hq))
  | .bool x, _, A, _, _, ra, rb, hu => by
    cases ra
    cases rb with
    | none => exact EqAt.bool_none x
    | bool y => exact EqAt.bool_bool x y
    | int y u => exact EqAt.bool_int x y u
    | str y u => exact EqAt.bool_str x y u
    | list k1 k2 => exact EqAt.bool_list x k1 (room_here hu)
    | tuple k1 k2 => exact EqAt.bool_tuple x k1 (room_here hu)
    | dict k0 k1 k2 k3 =>
      exact fun prog w E Q hq => by
        unfold eqBool
        refine wpAny_holding ?_
        refine wpAny_ite_split (fun hab => absurd (eq_of_beq hab) nofun) (fun _ => ?_)
        exact wpAny_bind ((RcAt.bDict x ⟨_, _, k1, k2.1, k3⟩ (room_here hu)) prog w E _ (wpAny_truthy_bool hq))
  | .int x, _, A, _, _, ra, rb, hu => by
    cases ra with
    | int _ t =>
      cases rb with
      | none => exact EqAt.int_none x t
      | bool y => exact EqAt.int_bool x t y
      | int y u => exact EqAt.int_int x t y u
      | str y u => exact EqAt.int_str x t y u
      | list k1 k2 => exact EqAt.int_list x t k1 (room_here hu)
      | tuple k1 k2 => exact EqAt.int_tuple x t k1 (room_here hu)
      | dict k0 k1 k2 k3 =>
        exact fun prog w E Q hq => by
          unfold eqBool
          refine wpAny_holding ?_
          refine wpAny_ite_split (fun hab => absurd (eq_of_beq hab) nofun) (fun _ => ?_)
          exact wpAny_bind ((RcAt.iDict x t ⟨_, _, k1, k2.1, k3⟩ (room_here hu)) prog w E _ (wpAny_truthy_bool hq))
  | .str x, _, A, _, _, ra, rb, hu => by
    cases ra with
    | str _ t =>
      cases rb with
      | none => exact EqAt.str_none x t
      | bool y => exact EqAt.str_bool x t y
      | int y u => exact EqAt.str_int x t y u
      | str y u => exact EqAt.str_str x t y u
      | list k1 k2 => exact EqAt.str_list x t k1 (room_here hu)
      | tuple k1 k2 => exact EqAt.str_tuple x t k1 (room_here hu)
      | dict k0 k1 k2 k3 =>
        exact fun prog w E Q hq => by
          unfold eqBool
          refine wpAny_holding ?_
          refine wpAny_ite_split (fun hab => absurd (eq_of_beq hab) nofun) (fun _ => ?_)
          exact wpAny_bind ((RcAt.sDict x t ⟨_, _, k1, k2.1, k3⟩ (room_here hu)) prog w E _ (wpAny_truthy_bool hq))
  | .list xs, _, A, _, _, ra, rb, hu => by
    cases ra with
    | @list l vs _ hl hr =>
      cases rb with
      | none => exact EqAt.list_none hl (room_here hu)
      | bool y => exact EqAt.list_bool y hl (room_here hu)
      | int y u => exact EqAt.list_int y u hl (room_here hu)
      | str y u => exact EqAt.list_str y u hl (room_here hu)
      | tuple k1 k2 => exact EqAt.list_tuple hl k1 (room_here hu)
      | dict k0 k1 k2 k3 =>
        exact EqAt.of_refs (fun z => by
          obtain ⟨o, ho, hc, _⟩ := hl
          exact ne_of_cls ho k1 (by rw [hc, k2.1]; decide) z) (RcAt.lDict ⟨_, _, k1, k2.1, k3⟩ hl (room_here hu))
      | @list l' vs' ys hl' hr' =>
        have n1 : vs.toArray.size = xs.length := by simpa using hr.length
        have n2 : vs'.toArray.size = ys.length := by simpa using hr'.length
        show EqAt A s (.ref l) (.ref l') (eqe (.list xs) (.list ys))
        by_cases hll : l = l'
        · subst hll
          have e := RdE.uniq (.list xs) (.list ys) (.list hl hr) (.list hl' hr')
          rw [← e, eqe_refl]
          exact EqAt.same _
        · rw [eqe]
          by_cases hsz : vs.toArray.size = vs'.toArray.size
          · rw [← eqeA_same (by omega : xs.length = ys.length), ← n1]
            refine EqAt.of_refs hll (RcAt.lists hl hl' hsz (room_here hu) fun j j1 j2 => ?_)
            have := eqAt_Es xs ys (A := A.in1) hr hr' (room_in hu) j (by simpa using j1) (by simpa using j2)
            simpa using this
          · rw [eqeA_other (by omega : xs.length ≠ ys.length)]
            exact EqAt.of_refs hll (RcAt.lists_lengths hl hl' (by simpa using hsz) (room_here hu))
  | .tuple xs, _, A, _, _, ra, rb, hu => by
    cases ra with
    | @tuple l vs _ hl hr =>
      cases rb with
      | none => exact EqAt.tuple_none hl (room_here hu)
      | bool y => exact EqAt.tuple_bool y hl (room_here hu)
      | int y u => exact EqAt.tuple_int y u hl (room_here hu)
      | str y u => exact EqAt.tuple_str y u hl (room_here hu)
      | list k1 k2 => exact EqAt.tuple_list hl k1 (room_here hu)
      | dict k0 k1 k2 k3 =>
        exact EqAt.of_refs (fun z => by
          obtain ⟨o, ho, hc, _⟩ := hl
          exact ne_of_cls ho k1 (by rw [hc, k2.1]; decide) z) (RcAt.tDict ⟨_, _, k1, k2.1, k3⟩ hl (room_here hu))
      | @tuple l' vs' ys hl' hr' =>
        have n1 : vs.toArray.size = xs.length := by simpa using hr.length
        have n2 : vs'.toArray.size = ys.length := by simpa using hr'.length
        show EqAt A s (.ref l) (.ref l') (eqe (.tuple xs) (.tuple ys))
        by_cases hll : l = l'
        · subst hll
          have e := RdE.uniq (.tuple xs) (.tuple ys) (.tuple hl hr) (.tuple hl' hr')
          rw [← e, eqe_refl]
          exact EqAt.same _
        · rw [eqe, ← eqeA_eq xs ys, ← n1, ← n2]
          refine EqAt.of_refs hll (RcAt.tuples hl hl' (room_here hu) fun j j1 j2 => ?_)
          have := eqAt_Es xs ys (A := A.in1) hr hr' (room_in hu) j (by simpa using j1) (by simpa using j2)
          simpa using this
  | .dict _, _, A, _, _, ra, rb, hu => by
    cases ra with
    | @dict a o n h0 h1 h2 h3 =>
      have D : D0 s.heap a := ⟨_, _, h1, h2.1, h3⟩
      cases rb with
      | none =>
        exact fun prog w E Q hq => by
          unfold eqBool
          refine wpAny_holding ?_
          refine wpAny_ite_split (fun hab => absurd (eq_of_beq hab) nofun) (fun _ => ?_)
          exact wpAny_bind ((RcAt.dictN D (room_here hu)) prog w E _ (wpAny_truthy_bool hq))
      | bool y =>
        exact fun prog w E Q hq => by
          unfold eqBool
          refine wpAny_holding ?_
          refine wpAny_ite_split (fun hab => absurd (eq_of_beq hab) nofun) (fun _ => ?_)
          exact wpAny_bind ((RcAt.dictB y D (room_here hu)) prog w E _ (wpAny_truthy_bool hq))
      | int y u =>
        exact fun prog w E Q hq => by
          unfold eqBool
          refine wpAny_holding ?_
          refine wpAny_ite_split (fun hab => absurd (eq_of_beq hab) nofun) (fun _ => ?_)
          exact wpAny_bind ((RcAt.dictI y u D (room_here hu)) prog w E _ (wpAny_truthy_bool hq))
      | str y u =>
        exact fun prog w E Q hq => by
          unfold eqBool
          refine wpAny_holding ?_
          refine wpAny_ite_split (fun hab => absurd (eq_of_beq hab) nofun) (fun _ => ?_)
          exact wpAny_bind ((RcAt.dictS y u D (room_here hu)) prog w E _ (wpAny_truthy_bool hq))
      | list k1 k2 =>
        exact EqAt.of_refs (fun z => by
          obtain ⟨o', ho, hc, _⟩ := k1
          exact ne_of_cls h1 ho (by rw [hc, h2.1]; decide) z) (RcAt.dictL D k1 (room_here hu))
      | tuple k1 k2 =>
        exact EqAt.of_refs (fun z => by
          obtain ⟨o', ho, hc, _⟩ := k1
          exact ne_of_cls h1 ho (by rw [hc, h2.1]; decide) z) (RcAt.dictT D k1 (room_here hu))
      | @dict b o' n' k0 k1 k2 k3 =>
        by_cases hab : a = b
        · subst hab
          exact EqAt.same _
        · refine EqAt.of_refs hab fun prog w E Q h => ?_
          have da : s.heap.DictOf (mixKind prog w) a [] := ⟨o, #[], n, h1, h2, h3, (fun _ he => by simp at he), Pairs.nil, List.nodup_nil⟩
          have db : s.heap.DictOf (mixKind prog w) b [] := ⟨o', #[], n', k1, k2, k3, (fun _ he => by simp at he), Pairs.nil, List.nodup_nil⟩
          exact PySem.W.keq_eq (r := true) h0 k0 da db (room_here hu) (fun _ => .nil) h
theorem eqAt_Es {s : Shared} : ∀ (xs ys : List PyData) {A : Around} {vs ws : List Value}, RdEs s.heap vs xs → RdEs s.heap ws ys → A.units + min (PyData.depthAll xs) (PyData.depthAll ys) < cLine → ∀ j (h1 : j < vs.length) (h2 : j < ws.length), EqAt A s vs[j] ws[j] (pairE xs ys j)
  | [], _, _, _, _, ra, _, _, j, h1, _ => by cases ra; exact absurd h1 (Nat.not_lt_zero _)
  | _ :: _, [], _, _, _, _, rb, _, j, _, h2 => by cases rb; exact absurd h2 (Nat.not_lt_zero _)
  | x :: xs, y :: ys, A, _, _, ra, rb, hu, j, h1, h2 => by
    cases ra with
    | cons r rs =>
      cases rb with
      | cons r' rs' =>
        cases j with
        | zero => exact eqAt_E x y r r' (room_head hu)
        | succ j => exact eqAt_Es xs ys rs rs' (room_tail hu) j (Nat.lt_of_succ_lt_succ h1) (Nat.lt_of_succ_lt_succ h2)
end
end
section
variable {X : Cx} {pins : List (Addr × Obj)} {σ : L2.St} {H : Hp} {s : Shared}
mutual
theorem rdE (I : Inv X pins σ H s) {K : Kw} (hK : X.K = K.K) : ∀ (d : PyData) {v : V} {u : Value}, Rp K H v d → RelV v u → Pr.rok d = true → RdE s.heap u d
  | .none, _, _, h, r, _ => by cases h; cases r; exact .none
  | .bool b, _, _, h, r, _ => by cases h; cases r; exact .bool b
  | .int i, _, _, h, r, _ => by
    cases h
    obtain ⟨t, rfl⟩ := r
    exact .int i t
  | .str x, _, _, h, r, _ => by
    cases h
    obtain ⟨t, rfl⟩ := r
    exact .str x t
  | .list ds, _, _, h, r, c => by
    cases h with
    | @lst a xs _ ha hr =>
      cases r
      obtain ⟨its, rv, ⟨o, n, e1, e2, _, e3⟩, _⟩ := I.list (show SqL X.K H a xs by rw [hK]; exact SqL.of ha)
      exact .list ⟨o, e1, e2, n, e3⟩ (rdEs I hK ds hr rv (by simpa [Pr.rok] using c))
  | .tuple ds, _, _, h, r, c => by
    cases h with
    | @tup a xs _ ha hr =>
      cases r
      obtain ⟨its, rv, ⟨o, e1, e2, n, e3⟩, _⟩ := I.tuple (show SqT X.K H a xs by rw [hK]; exact ha)
      exact .tuple ⟨o, e1, e2, n, e3⟩ (rdEs I hK ds hr rv (by simpa [Pr.rok] using c))
  | .dict kvs, _, _, h, r, c => by
    have : kvs = [] := by simpa [Pr.rok] using c
    subst this
    rcases h.dict_inv with ⟨a, ks, rfl, ha, hf⟩ | ⟨a, _, _, _, _, e, _⟩ | ⟨a, _, _, _, _, e, _⟩ | ⟨a, _, _, _, e, _⟩
    · have : ks = [] := by simpa using hf rfl
      subst this
      cases r
      obtain ⟨_, h2, vs, kv, o, es, ep, h3, h4, h5, _, hp, _⟩ := dk_of I.hok ha
      cases kv
      have : es = #[] := by
        have z := Pairs.length (knd := mixKind X.prog X.w) hp
        simpa using z
      subst this
      exact .dict h2 h3 h4 h5
    · cases e
    · cases e
    · cases e
theorem rdEs (I : Inv X pins σ H s) {K : Kw} (hK : X.K = K.K) : ∀ (ds : List PyData) {vs : List V} {us : List Value}, RpA K H vs ds → Vals vs us → Pr.rokAll ds = true → RdEs s.heap us ds
  | [], _, _, h, r, _ => by cases h; cases r; exact .nil
  | d :: ds, _, _, h, r, c => by
    have c' : Pr.rok d = true ∧ Pr.rokAll ds = true := by simpa [Pr.rokAll] using c
    cases h with
    | cons h1 h2 =>
      cases r with
      | cons r1 r2 => exact .cons (rdE I hK d h1 r1 c'.1) (rdEs I hK ds h2 r2 c'.2)
end
theorem depth_mem {d : PyData} : ∀ {ds : List PyData}, d ∈ ds → d.depth ≤ PyData.depthAll ds
  | x :: xs, h => by
    rcases List.mem_cons.mp h with rfl | h
    · exact Nat.le_max_left _ _
    · exact Nat.le_trans (depth_mem h) (Nat.le_max_right _ _)
theorem RdEs.mem {h : Heap} {x : PyData} : ∀ {vs : List Value} {ds : List PyData}, RdEs h vs ds → ∃ f : Value → PyData, (∀ v ∈ vs, RdE h v (f v) ∧ f v ∈ ds) ∧ (vs.any fun v => eqe (f v) x) = ds.any fun d => eqe d x
  | [], [], _ => ⟨fun _ => .none, ⟨fun _ z => (by cases z), rfl⟩⟩
  | [], _ :: _, r => by cases r
  | _ :: _, [], r => by cases r
  | v :: vs, d :: ds, r => by
    cases r with
    | cons a b =>
      obtain ⟨f, h1, h2⟩ := RdEs.mem (x := x) b
      classical
      have e0 : (fun w : Value => if w = v then d else f w) v = d := if_pos rfl
      have hf : ∀ w ∈ vs, (fun w : Value => if w = v then d else f w) w = f w := fun w hw => by
        by_cases e : w = v
        · subst e
          exact (if_pos rfl).trans (RdE.uniq _ _ a (h1 _ hw).1)
        · exact if_neg e
      generalize (fun w : Value => if w = v then d else f w) = g at e0 hf
      refine ⟨g, fun w hw => ?_, ?_⟩
      · rcases List.mem_cons.mp hw with rfl | hw
        · rw [e0]; exact ⟨a, List.mem_cons_self⟩
        · rw [hf w hw]; exact ⟨(h1 w hw).1, List.mem_cons_of_mem _ (h1 w hw).2⟩
      · rw [List.any_cons, List.any_cons, e0, ← h2]
        congr 1
        apply Bool.eq_iff_iff.mpr
        rw [List.any_eq_true, List.any_eq_true]
        constructor
        · rintro ⟨w, hw, e⟩; exact ⟨w, hw, by rw [← hf w hw]; exact e⟩
        · rintro ⟨w, hw, e⟩; exact ⟨w, hw, by rw [hf w hw]; exact e⟩
end
def rInE (K : PySem.W.Frag) (w : World) (neg : Bool) : R2 := fun x y H Q => ∃ d es, Rp ⟨K, w⟩ H x d ∧ Rp ⟨K, w⟩ H y (.list es) ∧ Pr.rok d = true ∧ Pr.rokAll es = true ∧ min (PyData.depthAll es) d.depth ≤ 60 ∧ Q (.bl ((es.any fun z => eqe z d) ^^ neg)) H
theorem op_notInE {X : Cx} (hu : X.A.units + 65 < cLine) : OpR X (compareOp .NotIn) (rInE X.K X.w true) := by
  intro pins s σ H x y v u Q I rx ry ⟨d, es, hd, he, rd, re, hz, q⟩
  have a := rdE (K := ⟨X.K, X.w⟩) I rfl d hd rx rd
  have b := rdE (K := ⟨X.K, X.w⟩) I rfl (.list es) he ry (by simpa [Pr.rok] using re)
  cases b with
  | list hl hr =>
    obtain ⟨f, h1, h2⟩ := RdEs.mem (x := d) hr
    refine SeqAt.notIn_listAt (fun w => eqe (f w) d) hl (fun w hw => ?_) ⟨.bl _, H, I, rfl, ?_⟩
    · obtain ⟨k1, k2⟩ := h1 w (by simpa using hw)
      refine eqAt_E _ _ k1 a ?_
      have := depth_mem k2
      show X.A.units + 1 + _ < cLine
      omega
    · rw [← h2] at q
      simpa using q
end Pu
end
section
set_option Elab.async false
set_option linter.all false
set_option maxRecDepth 100000
namespace Pk
open PySem PySem.Spec PyProof.Rows L2
section
variable {K : Kw} {m : Bool} {Γ : List Sl} {Q : PyData → Prop} {te ti : TE}
end
end Pk
end
section
set_option Elab.async false
set_option linter.all false
set_option maxRecDepth 100000
namespace Pu
open PySem PySem.Spec PyProof.Rows L2 Pk
section
variable {K : Kw} {m : Bool} {Γ : List Sl} {Q : PyData → Prop} {te : TE}
theorem rd_inE {neg : Bool} {x : PyData} {ds : List PyData} (hx : Pr.rok x = true) (hy : Pr.rokAll ds = true) (hd : min (PyData.depthAll ds) x.depth ≤ 60) (q : Q (.bool ((ds.any fun z => eqe z x) ^^ neg))) : RD K m Γ (rInE K.K K.w neg) x (.list ds) Q := rd_plain (d := .bool _) (fun F H v u C le rv ru k =>
  ⟨x, ds, rv.mono le, ru.mono le, hx, hy, hd, k _ (.bl _)⟩) q
/-- .. a list of texts -/
theorem rok_strs (bs : List Str) : Pr.rokAll (bs.map PyData.str) = true := by
  induction bs with
  | nil => rfl
  | cons b bs ih => simp [Pr.rokAll, Pr.rok, ih]
theorem dpt_strs (bs : List Str) : PyData.depthAll (bs.map PyData.str) = 0 := by
  induction bs with
  | nil => rfl
  | cons b bs ih => simp [PyData.depthAll, PyData.depth, ih]
theorem rd_inStrs {neg : Bool} {x : PyData} {bs : List Str} (hx : Pr.rok x = true) (q : Q (.bool (((bs.map PyData.str).any fun z => eqe z x) ^^ neg))) : RD K m Γ (rInE K.K K.w neg) x (.list (bs.map PyData.str)) Q :=
  rd_inE hx (rok_strs bs) (by rw [dpt_strs]; omega) q
theorem eqe_str (x y : Str) : eqe (.str x) (.str y) = decide (x = y) := by
  simp only [eqe, PyData.eqv]
  by_cases h : x = y
  · subst h; simp
  · rw [decide_eq_false h]
    exact beq_eq_false_iff_ne.mpr h
def rUpper : V → List V → Hp → VK → Prop := fun x xs H Q => ∃ a, x = .str a ∧ xs = [] ∧ a.length ≤ 5592405 ∧ Q (.str (Txt.upper a)) H
/-- x.upper() -/
theorem wd_upper (h : WD K false Γ te fun d => ∃ z, d = .str z ∧ z.length ≤ 100000 ∧ Q (.str (Txt.upper z))) : WD K m Γ (tM0 rUpper te) Q := fun X hK F H σ E C k => by
  subst hK
  refine h X rfl F H σ E _ fun v F1 H1 d l1 E1 r ⟨z, e, hz, q⟩ => ?_
  subst e
  cases r
  exact ⟨⟨_, rfl⟩, z, rfl, rfl, by omega, k _ F1 H1 _ l1 E1 (.str _) q⟩
end
theorem strOk_of {x : Str} (h : ∀ c ∈ x.cps.toList, c < 1114112) : PyData.strOk x = true := by
  unfold PyData.strOk
  rw [← Array.all_toList, List.all_eq_true]
  intro c hc
  exact decide_eq_true (by have := h c hc; omega)
theorem cut_mem {x : Str} {lo hi : Option Int} {c : Nat} (h : c ∈ (cutS x lo hi).cps.toList) : c ∈ x.cps.toList := by
  unfold cutS at h
  simp only at h
  exact List.mem_of_mem_drop (List.mem_of_mem_take h)
theorem joinL_mem {s : List Nat} {c : Nat} : ∀ {ps : List (List Nat)}, c ∈ TL.joinL s ps → c ∈ s ∨ ∃ p ∈ ps, c ∈ p
  | [], h => by simp [TL.joinL] at h
  | [p], h => .inr ⟨p, List.mem_cons_self, by simpa [TL.joinL] using h⟩
  | p :: q :: ps, h => by
    have e : TL.joinL s (p :: q :: ps) = p ++ s ++ TL.joinL s (q :: ps) := by simp [TL.joinL, List.append_assoc]
    rw [e] at h
    rcases List.mem_append.mp h with h | h
    · rcases List.mem_append.mp h with h | h
      · exact .inr ⟨p, List.mem_cons_self, h⟩
      · exact .inl h
    · rcases joinL_mem h with h | ⟨r, hr, h⟩
      · exact .inl h
      · exact .inr ⟨r, List.mem_cons_of_mem _ hr, h⟩
theorem join_mem {s : Str} {ps : List Str} {c : Nat} (h : c ∈ (Txt.join s ps).cps.toList) : c ∈ s.cps.toList ∨ ∃ p ∈ ps, c ∈ p.cps.toList := by
  rw [TL.join_eq] at h
  have e := TL.tl_join s ps
  have h' : c ∈ TL.joinL (TL.tl s) (ps.map TL.tl) := by rw [← e]; exact h
  rcases joinL_mem h' with h | ⟨p, hp, h⟩
  · exact .inl h
  · obtain ⟨y, hy, rfl⟩ := List.mem_map.mp hp
    exact .inr ⟨y, hy, h⟩
end Pu
end
section
set_option Elab.async false
set_option linter.all false
set_option maxRecDepth 100000
namespace Sy
open PySem PySem.Spec PyProof.Rows L2 Pk Pz Ps
def topS (i : Nat) : Stmt := PySem.Challenge.pw_pickruns_k71_not_put_behind.main.body.getD i (.Pass ⟨0, 0, 0, 0⟩)
theorem room1 {k : Nat} {A : Around} (r : Room k A) : A.units + 1 < cLine := by have := r.un; omega
theorem room65 {k : Nat} {A : Around} (r : Room k A) : A.units + 65 < cLine := by have := r.un; omega
abbrev s_need_alike : Stmt := topS 12
theorem sc_need_alike : FnScope ["one", "other"] ["one", "other"] (defScope s_need_alike) := ⟨rfl, rfl, rfl, by decide +kernel, rfl, by decide +kernel, by decide +kernel⟩
def t_need_alike (K : PySem.W.Frag) (a_NoFit : Addr) (W : XW) : TS :=
  (tIfS (tOr (tTest (tOp (dNe K) (tOp (rIx K) (tVar 0) (tC (.int 0))) (tOp (rIx K) (tVar 1) (tC (.int 0))))) (tTest (tOp (dNe K) (tOp (rIx K) (tVar 0) (tC (.int 1))) (tOp (rIx K) (tVar 1) (tC (.int 1)))))) (tRaiseW W a_NoFit) tNext)
theorem wk_need_alike {P : Program} {w : World} {K : PySem.W.Frag} {mg : Str → Option Value} {base : Heap} {k : Nat} {a_NoFit : Addr} (e_NoFit : ExcT K mg "NoFit" a_NoFit)
    (f : Addr) (cdv : Value) (A : Around) (outer : List Env) (s : Shared) (H : Hp) (E : XK) (hr : Room k (A.deeper (envOfC "need_alike" (defScope s_need_alike) s.heap.objs.size f cdv))) :
    PSs (cxOf (L2.CX P w) P w K mg base ["one", "other"] "need_alike" (defScope s_need_alike) f cdv A outer s H E) (defBody s_need_alike) (t_need_alike K a_NoFit (fun c d _ H' => E c d H')) := by
  have hu : (cxOf (L2.CX P w) P w K mg base ["one", "other"] "need_alike" (defScope s_need_alike) f cdv A outer s H E).A.units + 64 < cLine := hr.units
  have hu5 : (cxOf (L2.CX P w) P w K mg base ["one", "other"] "need_alike" (defScope s_need_alike) f cdv A outer s H E).A.units + 65 < cLine := room65 hr
  have hu1 : (cxOf (L2.CX P w) P w K mg base ["one", "other"] "need_alike" (defScope s_need_alike) f cdv A outer s H E).A.units + 1 < cLine := room1 hr
  unfold t_need_alike
  exact (pss_one (ps_if (PW.pt (pw_or (pt_cmpR (o_ne hu) (pe_ix ix_seq (pv 0) pe_int (fun _ _ => rfl)) (pe_ix ix_seq (pv 1) pe_int (fun _ _ => rfl)) (nomark _)) (pw_or1 (pt_cmpR (o_ne hu) (pe_ix ix_seq (pv 0) pe_int (fun _ _ => rfl)) (pe_ix ix_seq (pv 1) pe_int (fun _ _ => rfl)) (nomark _))))) (pss_one (ps_rs rfl (takes_of rfl rfl rfl rfl) e_NoFit (by rfl))) pss_nil))
abbrev s_spots_behind : Stmt := topS 13
theorem sc_spots_behind : FnScope ["rows", "found", "row"] ["rows"] (defScope s_spots_behind) := ⟨rfl, rfl, rfl, by decide +kernel, rfl, by decide +kernel, by decide +kernel⟩
def t_spots_behind (K : PySem.W.Frag) : TS :=
  (tSeq (tAsg (tLst (tCons (tC (.int 0)) tNil)) (gName 1))
    (tSeq (tFor (iList K (tVar 0)) (gName 2) (tDrop (tBM K "list" rAppend (tVar 1) (tCons (tOp (dAdd K) (tOp (dAdd K) (tOp (rIx K) (tVar 1) (tUn dNeg (tC (.int 1)))) (tC (.int 1))) (tCB dInt (tCons (tOp (dEq K) (tOp (rIx K) (tVar 2) (tC (.int 0))) (tC (.str "give"))) tNil))) tNil))))
    (tRet (tVar 1))))
theorem wk_spots_behind {P : Program} {w : World} {K : PySem.W.Frag} {mg : Str → Option Value} {base : Heap} {k : Nat} (m_int : mg "int" = none)
    (f : Addr) (cdv : Value) (A : Around) (outer : List Env) (s : Shared) (H : Hp) (E : XK) (hr : Room k (A.deeper (envOfC "spots_behind" (defScope s_spots_behind) s.heap.objs.size f cdv))) :
    PSs (cxOf CX0 P w K mg base ["rows", "found", "row"] "spots_behind" (defScope s_spots_behind) f cdv A outer s H E).nox (defBody s_spots_behind) (t_spots_behind K) := by
  have hu : (cxOf CX0 P w K mg base ["rows", "found", "row"] "spots_behind" (defScope s_spots_behind) f cdv A outer s H E).nox.A.units + 64 < cLine := hr.units
  have hu5 : (cxOf CX0 P w K mg base ["rows", "found", "row"] "spots_behind" (defScope s_spots_behind) f cdv A outer s H E).nox.A.units + 65 < cLine := room65 hr
  have hu1 : (cxOf CX0 P w K mg base ["rows", "found", "row"] "spots_behind" (defScope s_spots_behind) f cdv A outer s H E).nox.A.units + 1 < cLine := room1 hr
  unfold t_spots_behind
  exact (pss_cons (ps_set (i := 1) sc_spots_behind.nd rfl (by first | exact Or.inl rfl | exact Or.inr rfl) (pe_lst (pa_cons pe_int pa_nil)))
    (pss_cons (ps_for PassesOwn.never rfl (pi_list (pv 0)) (pg_name (i := 2) sc_spots_behind.nd rfl (by first | exact Or.inl rfl | exact Or.inr rfl)) (pss_one (ps_expr (pe_bm PySem.F.plainAttrs_list PySem.F.slot_list_append PySem.F.type_list_append mt_append (pv 1) (pa_cons (pe_op o_add (pe_op o_add (pe_ix ix_seq (pv 1) (pe_un o_neg pe_int) (fun _ _ => rfl)) pe_int) (pe_callTy o_int (by rfl) m_int (by decide +kernel) (pa_cons (pe_cmpR (o_eq hu) (pe_ix ix_seq (pv 2) pe_int (fun _ _ => rfl)) pe_str (nomark _)) pa_nil))) pa_nil)))))
    (pss_one (ps_ret (pv 1)))))
abbrev s_skip_by : Stmt := topS 14
theorem sc_skip_by : FnScope ["thing", "many", "boxes"] ["thing", "many", "boxes"] (defScope s_skip_by) := ⟨rfl, rfl, rfl, by decide +kernel, rfl, by decide +kernel, by decide +kernel⟩
def t_skip_by (K : PySem.W.Frag) : TS :=
  (tSeq (tIfS (tTest (tOp (dEq K) (tVar 1) (tC (.int 0)))) (tRet (tTup (tCons (tC (.str "set")) (tCons (tOp (rIx K) (tVar 2) (tC (.int 0))) (tCons (tTup (tCons (tC (.str "box")) (tCons (tOp (rIx K) (tVar 2) (tC (.int 0))) tNil))) tNil))))) tNext)
    (tRet (tTup (tCons (tC (.str "skip")) (tCons (tVar 0) (tCons (tVar 1) tNil))))))
theorem wk_skip_by {P : Program} {w : World} {K : PySem.W.Frag} {mg : Str → Option Value} {base : Heap} {k : Nat}
    (f : Addr) (cdv : Value) (A : Around) (outer : List Env) (s : Shared) (H : Hp) (E : XK) (hr : Room k (A.deeper (envOfC "skip_by" (defScope s_skip_by) s.heap.objs.size f cdv))) :
    PSs (cxOf CX0 P w K mg base ["thing", "many", "boxes"] "skip_by" (defScope s_skip_by) f cdv A outer s H E).nox (defBody s_skip_by) (t_skip_by K) := by
  have hu : (cxOf CX0 P w K mg base ["thing", "many", "boxes"] "skip_by" (defScope s_skip_by) f cdv A outer s H E).nox.A.units + 64 < cLine := hr.units
  have hu5 : (cxOf CX0 P w K mg base ["thing", "many", "boxes"] "skip_by" (defScope s_skip_by) f cdv A outer s H E).nox.A.units + 65 < cLine := room65 hr
  have hu1 : (cxOf CX0 P w K mg base ["thing", "many", "boxes"] "skip_by" (defScope s_skip_by) f cdv A outer s H E).nox.A.units + 1 < cLine := room1 hr
  unfold t_skip_by
  exact (pss_cons (ps_if (pt_cmpR (o_eq hu) (pv 1) pe_int (nomark _)) (pss_one (ps_ret (pe_tup (pa_cons pe_str (pa_cons (pe_ix ix_seq (pv 2) pe_int (fun _ _ => rfl)) (pa_cons (pe_tup (pa_cons pe_str (pa_cons (pe_ix ix_seq (pv 2) pe_int (fun _ _ => rfl)) pa_nil))) pa_nil)))))) pss_nil)
    (pss_one (ps_ret (pe_tup (pa_cons pe_str (pa_cons (pv 0) (pa_cons (pv 1) pa_nil)))))))
abbrev s_row_anew : Stmt := topS 15
theorem sc_row_anew : FnScope ["rows", "at", "spots", "box", "boxes", "row", "last"] ["rows", "at", "spots", "box", "boxes"] (defScope s_row_anew) := ⟨rfl, rfl, rfl, by decide +kernel, rfl, by decide +kernel, by decide +kernel⟩
def t_row_anew (K : PySem.W.Frag) (sp_copied_row : Sp) (sp_skip_by : Sp) : TS :=
  (tSeq (tAsg (tOp (rIx K) (tVar 0) (tVar 1)) (gName 5))
    (tSeq (tAsg (tOp (rIx K) (tVar 2) (tUn dNeg (tC (.int 1)))) (gName 6))
    (tSeq (tIfS (tTest (tOp (dEq K) (tOp (rIx K) (tVar 5) (tC (.int 0))) (tC (.str "give")))) (tRet (tLst (tCons (tTup (tCons (tC (.str "set")) (tCons (tVar 3) (tCons (tOp (rIx K) (tVar 5) (tC (.int 1))) tNil)))) (tCons (tTup (tCons (tC (.str "skip")) (tCons (tTup (tCons (tC (.str "number")) (tCons (tC (.int 1)) tNil))) (tCons (tOp dSub (tOp dSub (tVar 6) (tOp (rIx K) (tVar 2) (tVar 1))) (tC (.int 1))) tNil)))) tNil)))) tNext)
    (tSeq (tIfS (tTest (tOp (dEq K) (tOp (rIx K) (tVar 5) (tC (.int 0))) (tC (.str "skip")))) (tRet (tLst (tCons (tCall sp_skip_by [] E0 (tCons (tOp (rIx K) (tVar 5) (tC (.int 1))) (tCons (tOp dSub (tOp dSub (tOp (rIx K) (tVar 2) (tCB (dMin K) (tCons (tOp (dAdd K) (tOp (dAdd K) (tVar 1) (tC (.int 1))) (tOp (rIx K) (tVar 5) (tC (.int 2)))) (tCons (tCB (dLen K) (tCons (tVar 0) tNil)) tNil)))) (tOp (rIx K) (tVar 2) (tVar 1))) (tC (.int 1))) (tCons (tVar 4) tNil)))) tNil))) tNext)
    (tRet (tLst (tCons (tCall sp_copied_row [] E0 (tCons (tVar 5) tNil)) tNil)))))))
theorem wk_row_anew {P : Program} {w : World} {K : PySem.W.Frag} {mg : Str → Option Value} {base : Heap} {k : Nat} {sp_copied_row : Sp} {sp_skip_by : Sp}
    (c_copied_row : Cal P w K mg base CX0 k "copied_row" ["row"] sp_copied_row)
    (c_skip_by : Cal P w K mg base CX0 k "skip_by" ["thing", "many", "boxes"] sp_skip_by) (m_min : mg "min" = none) (m_len : mg "len" = none)
    (f : Addr) (cdv : Value) (A : Around) (outer : List Env) (s : Shared) (H : Hp) (E : XK) (hr : Room k (A.deeper (envOfC "row_anew" (defScope s_row_anew) s.heap.objs.size f cdv))) :
    PSs (cxOf CX0 P w K mg base ["rows", "at", "spots", "box", "boxes", "row", "last"] "row_anew" (defScope s_row_anew) f cdv A outer s H E).nox (defBody s_row_anew) (t_row_anew K sp_copied_row sp_skip_by) := by
  have hu : (cxOf CX0 P w K mg base ["rows", "at", "spots", "box", "boxes", "row", "last"] "row_anew" (defScope s_row_anew) f cdv A outer s H E).nox.A.units + 64 < cLine := hr.units
  have hu5 : (cxOf CX0 P w K mg base ["rows", "at", "spots", "box", "boxes", "row", "last"] "row_anew" (defScope s_row_anew) f cdv A outer s H E).nox.A.units + 65 < cLine := room65 hr
  have hu1 : (cxOf CX0 P w K mg base ["rows", "at", "spots", "box", "boxes", "row", "last"] "row_anew" (defScope s_row_anew) f cdv A outer s H E).nox.A.units + 1 < cLine := room1 hr
  unfold t_row_anew
  exact (pss_cons (ps_set (i := 5) sc_row_anew.nd rfl (by first | exact Or.inl rfl | exact Or.inr rfl) (pe_ix ix_seq (pv 0) (pv 1) (fun _ _ => rfl)))
    (pss_cons (ps_set (i := 6) sc_row_anew.nd rfl (by first | exact Or.inl rfl | exact Or.inr rfl) (pe_ix ix_seq (pv 2) (pe_un o_neg pe_int) (fun _ _ => rfl)))
    (pss_cons (ps_if (pt_cmpR (o_eq hu) (pe_ix ix_seq (pv 5) pe_int (fun _ _ => rfl)) pe_str (nomark _)) (pss_one (ps_ret (pe_lst (pa_cons (pe_tup (pa_cons pe_str (pa_cons (pv 3) (pa_cons (pe_ix ix_seq (pv 5) pe_int (fun _ _ => rfl)) pa_nil)))) (pa_cons (pe_tup (pa_cons pe_str (pa_cons (pe_tup (pa_cons pe_str (pa_cons pe_int pa_nil))) (pa_cons (pe_op o_sub (pe_op o_sub (pv 6) (pe_ix ix_seq (pv 2) (pv 1) (fun _ _ => rfl))) pe_int) pa_nil)))) pa_nil))))) pss_nil)
    (pss_cons (ps_if (pt_cmpR (o_eq hu) (pe_ix ix_seq (pv 5) pe_int (fun _ _ => rfl)) pe_str (nomark _)) (pss_one (ps_ret (pe_lst (pa_cons (pe_c c_skip_by hr (by rfl) (pa_cons (pe_ix ix_seq (pv 5) pe_int (fun _ _ => rfl)) (pa_cons (pe_op o_sub (pe_op o_sub (pe_ix ix_seq (pv 2) (pe_callB (o_min rfl) (by rfl) m_min (by decide +kernel) (pa_cons (pe_op o_add (pe_op o_add (pv 1) pe_int) (pe_ix ix_seq (pv 5) pe_int (fun _ _ => rfl))) (pa_cons (pe_callB o_len (by rfl) m_len (by decide +kernel) (pa_cons (pv 0) pa_nil)) pa_nil))) (fun _ _ => rfl)) (pe_ix ix_seq (pv 2) (pv 1) (fun _ _ => rfl))) pe_int) (pa_cons (pv 4) pa_nil)))) pa_nil)))) pss_nil)
    (pss_one (ps_ret (pe_lst (pa_cons (pe_c c_copied_row hr (by rfl) (pa_cons (pv 5) pa_nil)) pa_nil))))))))
abbrev s_copied_row : Stmt := topS 16
theorem sc_copied_row : FnScope ["row"] ["row"] (defScope s_copied_row) := ⟨rfl, rfl, rfl, by decide +kernel, rfl, by decide +kernel, by decide +kernel⟩
def t_copied_row (K : PySem.W.Frag) : TS :=
  (tSeq (tIfS (tTest (tOp (dEq K) (tOp (rIx K) (tVar 0) (tC (.int 0))) (tC (.str "pick")))) (tRet (tTup (tCons (tC (.str "pick")) (tCons (tOp (rIx K) (tVar 0) (tC (.int 1))) (tCons (tCB (dList K) (tCons (tOp (rIx K) (tVar 0) (tC (.int 2))) tNil)) tNil))))) tNext)
    (tRet (tVar 0)))
theorem wk_copied_row {P : Program} {w : World} {K : PySem.W.Frag} {mg : Str → Option Value} {base : Heap} {k : Nat} (m_list : mg "list" = none)
    (f : Addr) (cdv : Value) (A : Around) (outer : List Env) (s : Shared) (H : Hp) (E : XK) (hr : Room k (A.deeper (envOfC "copied_row" (defScope s_copied_row) s.heap.objs.size f cdv))) :
    PSs (cxOf CX0 P w K mg base ["row"] "copied_row" (defScope s_copied_row) f cdv A outer s H E).nox (defBody s_copied_row) (t_copied_row K) := by
  have hu : (cxOf CX0 P w K mg base ["row"] "copied_row" (defScope s_copied_row) f cdv A outer s H E).nox.A.units + 64 < cLine := hr.units
  have hu5 : (cxOf CX0 P w K mg base ["row"] "copied_row" (defScope s_copied_row) f cdv A outer s H E).nox.A.units + 65 < cLine := room65 hr
  have hu1 : (cxOf CX0 P w K mg base ["row"] "copied_row" (defScope s_copied_row) f cdv A outer s H E).nox.A.units + 1 < cLine := room1 hr
  unfold t_copied_row
  exact (pss_cons (ps_if (pt_cmpR (o_eq hu) (pe_ix ix_seq (pv 0) pe_int (fun _ _ => rfl)) pe_str (nomark _)) (pss_one (ps_ret (pe_tup (pa_cons pe_str (pa_cons (pe_ix ix_seq (pv 0) pe_int (fun _ _ => rfl)) (pa_cons (pe_callTy o_list (by rfl) m_list (by decide +kernel) (pa_cons (pe_ix ix_seq (pv 0) pe_int (fun _ _ => rfl)) pa_nil)) pa_nil)))))) pss_nil)
    (pss_one (ps_ret (pv 0))))
abbrev s_put_after : Stmt := topS 17
theorem sc_put_after : FnScope ["one", "other", "box", "spots", "rows", "at", "row"] ["one", "other", "box"] (defScope s_put_after) := ⟨rfl, rfl, rfl, by decide +kernel, rfl, by decide +kernel, by decide +kernel⟩
def t_put_after (K : PySem.W.Frag) (w : World) (sp_copied_row : Sp) (sp_row_anew : Sp) (sp_spots_behind : Sp) (sp_need_alike : Sp) (a_TooMany : Addr) (a_NoName : Addr) (W : XW) : TS :=
  (tSeq (tDrop (tCallS sp_need_alike (WE W) (tCons (tVar 0) (tCons (tVar 1) tNil))))
    (tSeq (tIfS (tOr (tNot (tB (tCB (rIsD K) (tCons (tVar 2) (tCons (tC (.ty "str")) tNil))))) (tTest (tOp (Pu.rInE K w true) (tVar 2) (tOp (rIx K) (tVar 0) (tC (.int 1)))))) (tRaiseW W a_NoName) tNext)
    (tSeq (tAsg (tCall sp_spots_behind [] E0 (tCons (tOp (rIx K) (tVar 0) (tC (.int 2))) tNil)) (gName 3))
    (tSeq (tIfS (tTest (tOp dGt (tOp (dAdd K) (tOp (dAdd K) (tOp (rIx K) (tVar 3) (tUn dNeg (tC (.int 1)))) (tC (.int 1))) (tCB (dLen K) (tCons (tOp (rIx K) (tVar 1) (tC (.int 2))) tNil))) (tC (.int 30)))) (tRaiseW W a_TooMany) tNext)
    (tSeq (tAsg (tLst tNil) (gName 4))
    (tSeq (tFor (iRng1 (tCons (tCB (dLen K) (tCons (tOp (rIx K) (tVar 0) (tC (.int 2))) tNil)) tNil)) (gName 5) (tDrop (tBM K "list" rExtend (tVar 4) (tCons (tCall sp_row_anew [] E0 (tCons (tOp (rIx K) (tVar 0) (tC (.int 2))) (tCons (tVar 5) (tCons (tVar 3) (tCons (tVar 2) (tCons (tOp (rIx K) (tVar 0) (tC (.int 1))) tNil)))))) tNil))))
    (tSeq (tDrop (tBM K "list" rAppend (tVar 4) (tCons (tTup (tCons (tC (.str "need")) (tCons (tTup (tCons (tC (.str "number")) (tCons (tC (.int 0)) tNil))) tNil))) tNil)))
    (tRet (tTup (tCons (tOp (rIx K) (tVar 0) (tC (.int 0))) (tCons (tCB (dList K) (tCons (tOp (rIx K) (tVar 0) (tC (.int 1))) tNil)) (tCons (tOp (dAdd K) (tVar 4) (tLc (iList K (tOp (rIx K) (tVar 1) (tC (.int 2)))) (gName 6) tYes (tCall sp_copied_row [] E0 (tCons (tVar 6) tNil)) [6])) tNil))))))))))))
theorem wk_put_after {P : Program} {w : World} {K : PySem.W.Frag} {mg : Str → Option Value} {base : Heap} {k : Nat} {sp_copied_row : Sp} {sp_row_anew : Sp} {sp_spots_behind : Sp} {sp_need_alike : Sp} {a_TooMany : Addr} {a_NoName : Addr}
    (c_copied_row : Cal P w K mg base CX0 k "copied_row" ["row"] sp_copied_row)
    (c_row_anew : Cal P w K mg base CX0 k "row_anew" ["rows", "at", "spots", "box", "boxes"] sp_row_anew)
    (c_spots_behind : Cal P w K mg base CX0 k "spots_behind" ["rows"] sp_spots_behind)
    (c_need_alike : Cal P w K mg base (L2.CX P w) k "need_alike" ["one", "other"] sp_need_alike) (m_list : mg "list" = none) (m_range : mg "range" = none) (m_len : mg "len" = none) (m_isinstance : mg "isinstance" = none) (m_str : mg "str" = none) (g_MOST_ROWS : ∃ t, mg "MOST_ROWS" = some (.int 30 t)) (e_TooMany : ExcT K mg "TooMany" a_TooMany) (e_NoName : ExcT K mg "NoName" a_NoName)
    (f : Addr) (cdv : Value) (A : Around) (outer : List Env) (s : Shared) (H : Hp) (E : XK) (hr : Room k (A.deeper (envOfC "put_after" (defScope s_put_after) s.heap.objs.size f cdv))) :
    PSs (cxOf (L2.CX P w) P w K mg base ["one", "other", "box", "spots", "rows", "at", "row"] "put_after" (defScope s_put_after) f cdv A outer s H E) (defBody s_put_after) (t_put_after K w sp_copied_row sp_row_anew sp_spots_behind sp_need_alike a_TooMany a_NoName (fun c d _ H' => E c d H')) := by
  obtain ⟨tk_MOST_ROWS, g_MOST_ROWS⟩ := g_MOST_ROWS
  have hu : (cxOf (L2.CX P w) P w K mg base ["one", "other", "box", "spots", "rows", "at", "row"] "put_after" (defScope s_put_after) f cdv A outer s H E).A.units + 64 < cLine := hr.units
  have hu5 : (cxOf (L2.CX P w) P w K mg base ["one", "other", "box", "spots", "rows", "at", "row"] "put_after" (defScope s_put_after) f cdv A outer s H E).A.units + 65 < cLine := room65 hr
  have hu1 : (cxOf (L2.CX P w) P w K mg base ["one", "other", "box", "spots", "rows", "at", "row"] "put_after" (defScope s_put_after) f cdv A outer s H E).A.units + 1 < cLine := room1 hr
  unfold t_put_after
  exact (pss_cons (ps_expr (pe_cx c_need_alike hr (by rfl) (takes_of rfl rfl rfl rfl) (pa_cons (pv 0) (pa_cons (pv 1) pa_nil))))
    (pss_cons (ps_if (PW.pt (pw_or (pt_not (pt_val (pe_callB call_isD (by rfl) m_isinstance (by decide +kernel) (pa_cons (pv 2) (pa_cons (pe_bltn (by rfl) m_str (by decide +kernel) rfl) pa_nil))))) (pw_or1 (pt_cmpR (Pu.op_notInE hu5) (pv 2) (pe_ix ix_seq (pv 0) pe_int (fun _ _ => rfl)) (by rfl))))) (pss_one (ps_rs rfl (takes_of rfl rfl rfl rfl) e_NoName (by rfl))) pss_nil)
    (pss_cons (ps_set (i := 3) sc_put_after.nd rfl (by first | exact Or.inl rfl | exact Or.inr rfl) (pe_c c_spots_behind hr (by rfl) (pa_cons (pe_ix ix_seq (pv 0) pe_int (fun _ _ => rfl)) pa_nil)))
    (pss_cons (ps_if (pt_cmpR o_gt (pe_op o_add (pe_op o_add (pe_ix ix_seq (pv 3) (pe_un o_neg pe_int) (fun _ _ => rfl)) pe_int) (pe_callB o_len (by rfl) m_len (by decide +kernel) (pa_cons (pe_ix ix_seq (pv 1) pe_int (fun _ _ => rfl)) pa_nil))) (pe_glob (by rfl) g_MOST_ROWS ⟨_, rfl⟩) (nomark _)) (pss_one (ps_rs rfl (takes_of rfl rfl rfl rfl) e_TooMany (by rfl))) pss_nil)
    (pss_cons (ps_set (i := 4) sc_put_after.nd rfl (by first | exact Or.inl rfl | exact Or.inr rfl) (pe_lst pa_nil))
    (pss_cons (ps_for (passes_of rfl) rfl (pi_range1 (by rfl) m_range (pa_cons (pe_callB o_len (by rfl) m_len (by decide +kernel) (pa_cons (pe_ix ix_seq (pv 0) pe_int (fun _ _ => rfl)) pa_nil)) pa_nil)) (pg_name (i := 5) sc_put_after.nd rfl (by first | exact Or.inl rfl | exact Or.inr rfl)) (pss_one (ps_expr (pe_bm PySem.F.plainAttrs_list PySem.F.slot_list_extend PySem.F.type_list_extend mt_extend (pv 4) (pa_cons (pe_c c_row_anew hr (by rfl) (pa_cons (pe_ix ix_seq (pv 0) pe_int (fun _ _ => rfl)) (pa_cons (pv 5) (pa_cons (pv 3) (pa_cons (pv 2) (pa_cons (pe_ix ix_seq (pv 0) pe_int (fun _ _ => rfl)) pa_nil)))))) pa_nil)))))
    (pss_cons (ps_expr (pe_bm PySem.F.plainAttrs_list PySem.F.slot_list_append PySem.F.type_list_append mt_append (pv 4) (pa_cons (pe_tup (pa_cons pe_str (pa_cons (pe_tup (pa_cons pe_str (pa_cons pe_int pa_nil))) pa_nil))) pa_nil)))
    (pss_one (ps_ret (pe_tup (pa_cons (pe_ix ix_seq (pv 0) pe_int (fun _ _ => rfl)) (pa_cons (pe_callTy o_list (by rfl) m_list (by decide +kernel) (pa_cons (pe_ix ix_seq (pv 0) pe_int (fun _ _ => rfl)) pa_nil)) (pa_cons (pe_op o_add (pv 4) (pe_lc (own := [("row", 6)]) (g := (gName 6)) (tt := tYes) rfl sc_put_after.nd (pi_list (pe_ix ix_seq (pv 1) pe_int (fun _ _ => rfl))) (blkOk_by (N := ["one", "other", "box", "spots", "rows", "at", "row"]) (sc := defScope s_put_after) (by decide +kernel)) (fun _ _ _ _ _ => (pg_name (i := 6) sc_put_after.nd rfl (by first | exact Or.inl rfl | exact Or.inr rfl))) (fun _ _ _ _ _ => pts_nil) (fun _ _ _ _ _ => (pe_c c_copied_row hr (by rfl) (pa_cons (pv 6) pa_nil))))) pa_nil)))))))))))))
abbrev s_l_cell_at : Stmt := topS 19
theorem sc_l_cell_at : FnScope ["script", "k"] ["script", "k"] (defScope s_l_cell_at) := ⟨rfl, rfl, rfl, by decide +kernel, rfl, by decide +kernel, by decide +kernel⟩
def t_l_cell_at (K : PySem.W.Frag) : TS :=
  (tSeq (tIfS (tTest (tOp dLt (tVar 1) (tCB (dLen K) (tCons (tVar 0) tNil)))) (tRet (tOp (rIx K) (tVar 0) (tVar 1))) tNext)
    (tRet (tC (.int 0))))
theorem wk_l_cell_at {P : Program} {w : World} {K : PySem.W.Frag} {mg : Str → Option Value} {base : Heap} {k : Nat} (m_len : mg "len" = none)
    (f : Addr) (cdv : Value) (A : Around) (outer : List Env) (s : Shared) (H : Hp) (E : XK) (hr : Room k (A.deeper (envOfC "_law_cell_at" (defScope s_l_cell_at) s.heap.objs.size f cdv))) :
    PSs (cxOf CX0 P w K mg base ["script", "k"] "_law_cell_at" (defScope s_l_cell_at) f cdv A outer s H E).nox (defBody s_l_cell_at) (t_l_cell_at K) := by
  have hu : (cxOf CX0 P w K mg base ["script", "k"] "_law_cell_at" (defScope s_l_cell_at) f cdv A outer s H E).nox.A.units + 64 < cLine := hr.units
  have hu5 : (cxOf CX0 P w K mg base ["script", "k"] "_law_cell_at" (defScope s_l_cell_at) f cdv A outer s H E).nox.A.units + 65 < cLine := room65 hr
  have hu1 : (cxOf CX0 P w K mg base ["script", "k"] "_law_cell_at" (defScope s_l_cell_at) f cdv A outer s H E).nox.A.units + 1 < cLine := room1 hr
  unfold t_l_cell_at
  exact (pss_cons (ps_if (pt_cmpR o_lt (pv 1) (pe_callB o_len (by rfl) m_len (by decide +kernel) (pa_cons (pv 0) pa_nil)) (nomark _)) (pss_one (ps_ret (pe_ix ix_seq (pv 0) (pv 1) (fun _ _ => rfl)))) pss_nil)
    (pss_one (ps_ret pe_int)))
abbrev s_l_stir : Stmt := topS 20
theorem sc_l_stir : FnScope ["cell", "k", "one"] ["cell", "k"] (defScope s_l_stir) := ⟨rfl, rfl, rfl, by decide +kernel, rfl, by decide +kernel, by decide +kernel⟩
def t_l_stir (K : PySem.W.Frag) : TS :=
  (tSeq (tAsg (tOp dMod (tOp dMul (tOp (dAdd K) (tOp (dAdd K) (tOp dMod (tVar 0) (tC (.int 2147483629))) (tOp dMul (tC (.int 9973)) (tVar 1))) (tC (.int 5))) (tC (.int 48271))) (tC (.int 2147483647))) (gName 2))
    (tSeq (tAsg (tOp dMod (tOp dMul (tVar 2) (tVar 2)) (tC (.int 2147483587))) (gName 2))
    (tRet (tOp dDiv (tOp dMod (tOp dMul (tOp (dAdd K) (tVar 2) (tOp dMul (tC (.int 7919)) (tVar 1))) (tC (.int 16807))) (tC (.int 2147483563))) (tC (.int 8))))))
theorem wk_l_stir {P : Program} {w : World} {K : PySem.W.Frag} {mg : Str → Option Value} {base : Heap} {k : Nat}
    (f : Addr) (cdv : Value) (A : Around) (outer : List Env) (s : Shared) (H : Hp) (E : XK) (hr : Room k (A.deeper (envOfC "_law_stir" (defScope s_l_stir) s.heap.objs.size f cdv))) :
    PSs (cxOf CX0 P w K mg base ["cell", "k", "one"] "_law_stir" (defScope s_l_stir) f cdv A outer s H E).nox (defBody s_l_stir) (t_l_stir K) := by
  have hu : (cxOf CX0 P w K mg base ["cell", "k", "one"] "_law_stir" (defScope s_l_stir) f cdv A outer s H E).nox.A.units + 64 < cLine := hr.units
  have hu5 : (cxOf CX0 P w K mg base ["cell", "k", "one"] "_law_stir" (defScope s_l_stir) f cdv A outer s H E).nox.A.units + 65 < cLine := room65 hr
  have hu1 : (cxOf CX0 P w K mg base ["cell", "k", "one"] "_law_stir" (defScope s_l_stir) f cdv A outer s H E).nox.A.units + 1 < cLine := room1 hr
  unfold t_l_stir
  exact (pss_cons (ps_set (i := 2) sc_l_stir.nd rfl (by first | exact Or.inl rfl | exact Or.inr rfl) (pe_op o_mod (pe_op o_mul (pe_op o_add (pe_op o_add (pe_op o_mod (pv 0) pe_int) (pe_op o_mul pe_int (pv 1))) pe_int) pe_int) pe_int))
    (pss_cons (ps_set (i := 2) sc_l_stir.nd rfl (by first | exact Or.inl rfl | exact Or.inr rfl) (pe_op o_mod (pe_op o_mul (pv 2) (pv 2)) pe_int))
    (pss_one (ps_ret (pe_op o_div (pe_op o_mod (pe_op o_mul (pe_op o_add (pv 2) (pe_op o_mul pe_int (pv 1))) pe_int) pe_int) pe_int)))))
abbrev s_l_deck : Stmt := topS 21
theorem sc_l_deck : FnScope ["cell", "many", "found", "digits", "k", "number"] ["cell", "many"] (defScope s_l_deck) := ⟨rfl, rfl, rfl, by decide +kernel, rfl, by decide +kernel, by decide +kernel⟩
def t_l_deck (K : PySem.W.Frag) (sp_l_stir : Sp) : TS :=
  (tSeq (tAsg (tLst tNil) (gName 2))
    (tSeq (tAsg (tVar 0) (gName 3))
    (tSeq (tFor (iRng1 (tCons (tVar 1) tNil)) (gName 4) (tSeq (tAsg (tCall sp_l_stir [] E0 (tCons (tVar 0) (tCons (tVar 4) tNil))) (gName 5))
    (tSeq (tIfS (tTest (tOp dGe (tVar 0) (tOp dPow (tC (.int 10)) (tC (.int 18))))) (tAsg (tOp dMod (tVar 3) (tC (.int 720720))) (gName 5)) tNext)
    (tSeq (tAsg (tOp dDiv (tVar 3) (tC (.int 720720))) (gName 3))
    (tDrop (tBM K "list" rAppend (tVar 2) (tCons (tVar 5) tNil)))))))
    (tRet (tRevL K (tVar 2))))))
theorem wk_l_deck {P : Program} {w : World} {K : PySem.W.Frag} {mg : Str → Option Value} {base : Heap} {k : Nat} {sp_l_stir : Sp}
    (c_l_stir : Cal P w K mg base CX0 k "_law_stir" ["cell", "k"] sp_l_stir) (m_range : mg "range" = none)
    (f : Addr) (cdv : Value) (A : Around) (outer : List Env) (s : Shared) (H : Hp) (E : XK) (hr : Room k (A.deeper (envOfC "_law_deck" (defScope s_l_deck) s.heap.objs.size f cdv))) :
    PSs (cxOf CX0 P w K mg base ["cell", "many", "found", "digits", "k", "number"] "_law_deck" (defScope s_l_deck) f cdv A outer s H E).nox (defBody s_l_deck) (t_l_deck K sp_l_stir) := by
  have hu : (cxOf CX0 P w K mg base ["cell", "many", "found", "digits", "k", "number"] "_law_deck" (defScope s_l_deck) f cdv A outer s H E).nox.A.units + 64 < cLine := hr.units
  have hu5 : (cxOf CX0 P w K mg base ["cell", "many", "found", "digits", "k", "number"] "_law_deck" (defScope s_l_deck) f cdv A outer s H E).nox.A.units + 65 < cLine := room65 hr
  have hu1 : (cxOf CX0 P w K mg base ["cell", "many", "found", "digits", "k", "number"] "_law_deck" (defScope s_l_deck) f cdv A outer s H E).nox.A.units + 1 < cLine := room1 hr
  unfold t_l_deck
  exact (pss_cons (ps_set (i := 2) sc_l_deck.nd rfl (by first | exact Or.inl rfl | exact Or.inr rfl) (pe_lst pa_nil))
    (pss_cons (ps_set (i := 3) sc_l_deck.nd rfl (by first | exact Or.inl rfl | exact Or.inr rfl) (pv 0))
    (pss_cons (ps_for PassesOwn.never rfl (pi_range1 (by rfl) m_range (pa_cons (pv 1) pa_nil)) (pg_name (i := 4) sc_l_deck.nd rfl (by first | exact Or.inl rfl | exact Or.inr rfl)) (pss_cons (ps_set (i := 5) sc_l_deck.nd rfl (by first | exact Or.inl rfl | exact Or.inr rfl) (pe_c c_l_stir hr (by rfl) (pa_cons (pv 0) (pa_cons (pv 4) pa_nil))))
    (pss_cons (ps_if (pt_cmpR o_ge (pv 0) (pe_op o_pow pe_int pe_int) (nomark _)) (pss_one (ps_set (i := 5) sc_l_deck.nd rfl (by first | exact Or.inl rfl | exact Or.inr rfl) (pe_op o_mod (pv 3) pe_int))) pss_nil)
    (pss_cons (ps_set (i := 3) sc_l_deck.nd rfl (by first | exact Or.inl rfl | exact Or.inr rfl) (pe_op o_div (pv 3) pe_int))
    (pss_one (ps_expr (pe_bm PySem.F.plainAttrs_list PySem.F.slot_list_append PySem.F.type_list_append mt_append (pv 2) (pa_cons (pv 5) pa_nil))))))))
    (pss_one (ps_ret (pe_revL (pv 2)))))))
abbrev s_l_next : Stmt := topS 22
theorem sc_l_next : FnScope ["deck"] ["deck"] (defScope s_l_next) := ⟨rfl, rfl, rfl, by decide +kernel, rfl, by decide +kernel, by decide +kernel⟩
def t_l_next (K : PySem.W.Frag) : TS :=
  (tSeq (tIfS (tTest (tOp (dEq K) (tVar 0) (tLst tNil))) (tRet (tC (.int 0))) tNext)
    (tRet (tBM0 K "list" rPop (tVar 0))))
theorem wk_l_next {P : Program} {w : World} {K : PySem.W.Frag} {mg : Str → Option Value} {base : Heap} {k : Nat}
    (f : Addr) (cdv : Value) (A : Around) (outer : List Env) (s : Shared) (H : Hp) (E : XK) (hr : Room k (A.deeper (envOfC "_law_next" (defScope s_l_next) s.heap.objs.size f cdv))) :
    PSs (cxOf CX0 P w K mg base ["deck"] "_law_next" (defScope s_l_next) f cdv A outer s H E).nox (defBody s_l_next) (t_l_next K) := by
  have hu : (cxOf CX0 P w K mg base ["deck"] "_law_next" (defScope s_l_next) f cdv A outer s H E).nox.A.units + 64 < cLine := hr.units
  have hu5 : (cxOf CX0 P w K mg base ["deck"] "_law_next" (defScope s_l_next) f cdv A outer s H E).nox.A.units + 65 < cLine := room65 hr
  have hu1 : (cxOf CX0 P w K mg base ["deck"] "_law_next" (defScope s_l_next) f cdv A outer s H E).nox.A.units + 1 < cLine := room1 hr
  unfold t_l_next
  exact (pss_cons (ps_if (pt_cmpR (o_eq hu) (pv 0) (pe_lst pa_nil) (nomark _)) (pss_one (ps_ret pe_int)) pss_nil)
    (pss_one (ps_ret (pe_bm0 PySem.F.plainAttrs_list PySem.F.slot_list_pop PySem.F.type_list_pop mt_pop (pv 0)))))
abbrev s_l_thing : Stmt := topS 23
theorem sc_l_thing : FnScope ["deck", "m", "boxes", "deep", "way", "word"] ["deck", "m", "boxes", "deep"] (defScope s_l_thing) := ⟨rfl, rfl, rfl, by decide +kernel, rfl, by decide +kernel, by decide +kernel⟩
def t_l_thing (K : PySem.W.Frag) (sp_l_thing : Sp) (sp_l_next : Sp) : TS :=
  (tSeq (tAsg (tOp dMod (tCall sp_l_next [] E0 (tCons (tVar 0) tNil)) (tC (.int 8))) (gName 4))
    (tSeq (tIfS (tOr (tTest (tOp dLt (tVar 3) (tC (.int 2)))) (tTest (tOp dLt (tVar 4) (tC (.int 2))))) (tSeq (tIfS (tTest (tOp (dEq K) (tOp dMod (tCall sp_l_next [] E0 (tCons (tVar 0) tNil)) (tC (.int 2))) (tC (.int 0)))) (tRet (tTup (tCons (tC (.str "number")) (tCons (tOp dMod (tCall sp_l_next [] E0 (tCons (tVar 0) tNil)) (tVar 1)) tNil)))) tNext)
    (tRet (tTup (tCons (tC (.str "box")) (tCons (tOp (rIx K) (tVar 2) (tOp dMod (tCall sp_l_next [] E0 (tCons (tVar 0) tNil)) (tCB (dLen K) (tCons (tVar 2) tNil)))) tNil))))) tNext)
    (tSeq (tAsg (tOp (rIx K) (tLst (tCons (tC (.str "plus")) (tCons (tC (.str "times")) (tCons (tC (.str "less")) (tCons (tC (.str "same")) (tCons (tC (.str "plus")) (tCons (tC (.str "times")) tNil))))))) (tOp dSub (tVar 4) (tC (.int 2)))) (gName 5))
    (tRet (tTup (tCons (tVar 5) (tCons (tCall sp_l_thing [] E0 (tCons (tVar 0) (tCons (tVar 1) (tCons (tVar 2) (tCons (tOp dSub (tVar 3) (tC (.int 1))) tNil))))) (tCons (tCall sp_l_thing [] E0 (tCons (tVar 0) (tCons (tVar 1) (tCons (tVar 2) (tCons (tOp dSub (tVar 3) (tC (.int 1))) tNil))))) tNil))))))))
theorem wk_l_thing {P : Program} {w : World} {K : PySem.W.Frag} {mg : Str → Option Value} {base : Heap} {k : Nat} {sp_l_thing : Sp} {sp_l_next : Sp}
    (c_l_thing : Cal P w K mg base CX0 k "_law_thing" ["deck", "m", "boxes", "deep"] sp_l_thing)
    (c_l_next : Cal P w K mg base CX0 k "_law_next" ["deck"] sp_l_next) (m_len : mg "len" = none)
    (f : Addr) (cdv : Value) (A : Around) (outer : List Env) (s : Shared) (H : Hp) (E : XK) (hr : Room k (A.deeper (envOfC "_law_thing" (defScope s_l_thing) s.heap.objs.size f cdv))) :
    PSs (cxOf CX0 P w K mg base ["deck", "m", "boxes", "deep", "way", "word"] "_law_thing" (defScope s_l_thing) f cdv A outer s H E).nox (defBody s_l_thing) (t_l_thing K sp_l_thing sp_l_next) := by
  have hu : (cxOf CX0 P w K mg base ["deck", "m", "boxes", "deep", "way", "word"] "_law_thing" (defScope s_l_thing) f cdv A outer s H E).nox.A.units + 64 < cLine := hr.units
  have hu5 : (cxOf CX0 P w K mg base ["deck", "m", "boxes", "deep", "way", "word"] "_law_thing" (defScope s_l_thing) f cdv A outer s H E).nox.A.units + 65 < cLine := room65 hr
  have hu1 : (cxOf CX0 P w K mg base ["deck", "m", "boxes", "deep", "way", "word"] "_law_thing" (defScope s_l_thing) f cdv A outer s H E).nox.A.units + 1 < cLine := room1 hr
  unfold t_l_thing
  exact (pss_cons (ps_set (i := 4) sc_l_thing.nd rfl (by first | exact Or.inl rfl | exact Or.inr rfl) (pe_op o_mod (pe_c c_l_next hr (by rfl) (pa_cons (pv 0) pa_nil)) pe_int))
    (pss_cons (ps_if (PW.pt (pw_or (pt_cmpR o_lt (pv 3) pe_int (nomark _)) (pw_or1 (pt_cmpR o_lt (pv 4) pe_int (nomark _))))) (pss_cons (ps_if (pt_cmpR (o_eq hu) (pe_op o_mod (pe_c c_l_next hr (by rfl) (pa_cons (pv 0) pa_nil)) pe_int) pe_int (nomark _)) (pss_one (ps_ret (pe_tup (pa_cons pe_str (pa_cons (pe_op o_mod (pe_c c_l_next hr (by rfl) (pa_cons (pv 0) pa_nil)) (pv 1)) pa_nil))))) pss_nil)
    (pss_one (ps_ret (pe_tup (pa_cons pe_str (pa_cons (pe_ix ix_seq (pv 2) (pe_op o_mod (pe_c c_l_next hr (by rfl) (pa_cons (pv 0) pa_nil)) (pe_callB o_len (by rfl) m_len (by decide +kernel) (pa_cons (pv 2) pa_nil))) (fun _ _ => rfl)) pa_nil)))))) pss_nil)
    (pss_cons (ps_set (i := 5) sc_l_thing.nd rfl (by first | exact Or.inl rfl | exact Or.inr rfl) (pe_ix ix_seq (pe_lst (pa_cons pe_str (pa_cons pe_str (pa_cons pe_str (pa_cons pe_str (pa_cons pe_str (pa_cons pe_str pa_nil))))))) (pe_op o_sub (pv 4) pe_int) (fun _ _ => rfl)))
    (pss_one (ps_ret (pe_tup (pa_cons (pv 5) (pa_cons (pe_c c_l_thing hr (by rfl) (pa_cons (pv 0) (pa_cons (pv 1) (pa_cons (pv 2) (pa_cons (pe_op o_sub (pv 3) pe_int) pa_nil))))) (pa_cons (pe_c c_l_thing hr (by rfl) (pa_cons (pv 0) (pa_cons (pv 1) (pa_cons (pv 2) (pa_cons (pe_op o_sub (pv 3) pe_int) pa_nil))))) pa_nil)))))))))
abbrev s_l_boxes : Stmt := topS 24
theorem sc_l_boxes : FnScope ["deck", "spare", "boxes", "k"] ["deck"] (defScope s_l_boxes) := ⟨rfl, rfl, rfl, by decide +kernel, rfl, by decide +kernel, by decide +kernel⟩
def t_l_boxes (K : PySem.W.Frag) (sp_l_next : Sp) : TS :=
  (tSeq (tAsg (tLst (tCons (tC (.str "a")) (tCons (tC (.str "b")) (tCons (tC (.str "ab")) (tCons (tC (.str "zzzzzzzz")) (tCons (tC (.str "give")) (tCons (tC (.str "if")) (tCons (tC (.str "x")) tNil)))))))) (gName 1))
    (tSeq (tAsg (tLc (iRng1 (tCons (tOp (rIx K) (tLst (tCons (tC (.int 1)) (tCons (tC (.int 2)) (tCons (tC (.int 2)) (tCons (tC (.int 3)) (tCons (tC (.int 5)) tNil)))))) (tOp dMod (tCall sp_l_next [] E0 (tCons (tVar 0) tNil)) (tC (.int 5)))) tNil)) (gName 3) tYes (tBM K "list" rPopAt (tVar 1) (tCons (tOp dMod (tCall sp_l_next [] E0 (tCons (tVar 0) tNil)) (tCB (dLen K) (tCons (tVar 1) tNil))) tNil)) [3]) (gName 2))
    (tRet (tTup (tCons (tOp (dAdd K) (tC (.int 2)) (tOp dMod (tCall sp_l_next [] E0 (tCons (tVar 0) tNil)) (tC (.int 15)))) (tCons (tVar 2) tNil))))))
theorem wk_l_boxes {P : Program} {w : World} {K : PySem.W.Frag} {mg : Str → Option Value} {base : Heap} {k : Nat} {sp_l_next : Sp}
    (c_l_next : Cal P w K mg base CX0 k "_law_next" ["deck"] sp_l_next) (m_range : mg "range" = none) (m_len : mg "len" = none)
    (f : Addr) (cdv : Value) (A : Around) (outer : List Env) (s : Shared) (H : Hp) (E : XK) (hr : Room k (A.deeper (envOfC "_law_boxes" (defScope s_l_boxes) s.heap.objs.size f cdv))) :
    PSs (cxOf CX0 P w K mg base ["deck", "spare", "boxes", "k"] "_law_boxes" (defScope s_l_boxes) f cdv A outer s H E).nox (defBody s_l_boxes) (t_l_boxes K sp_l_next) := by
  have hu : (cxOf CX0 P w K mg base ["deck", "spare", "boxes", "k"] "_law_boxes" (defScope s_l_boxes) f cdv A outer s H E).nox.A.units + 64 < cLine := hr.units
  have hu5 : (cxOf CX0 P w K mg base ["deck", "spare", "boxes", "k"] "_law_boxes" (defScope s_l_boxes) f cdv A outer s H E).nox.A.units + 65 < cLine := room65 hr
  have hu1 : (cxOf CX0 P w K mg base ["deck", "spare", "boxes", "k"] "_law_boxes" (defScope s_l_boxes) f cdv A outer s H E).nox.A.units + 1 < cLine := room1 hr
  unfold t_l_boxes
  exact (pss_cons (ps_set (i := 1) sc_l_boxes.nd rfl (by first | exact Or.inl rfl | exact Or.inr rfl) (pe_lst (pa_cons pe_str (pa_cons pe_str (pa_cons pe_str (pa_cons pe_str (pa_cons pe_str (pa_cons pe_str (pa_cons pe_str pa_nil)))))))))
    (pss_cons (ps_setLc (i := 2) (own := [("k", 3)]) (g := (gName 3)) (tt := tYes) rfl sc_l_boxes.nd rfl rfl (sw_true rfl rfl rfl (by decide +kernel)) (pi_range1 (by rfl) m_range (pa_cons (pe_ix ix_seq (pe_lst (pa_cons pe_int (pa_cons pe_int (pa_cons pe_int (pa_cons pe_int (pa_cons pe_int pa_nil)))))) (pe_op o_mod (pe_c c_l_next hr (by rfl) (pa_cons (pv 0) pa_nil)) pe_int) (fun _ _ => rfl)) pa_nil)) (blkOk_by (N := ["deck", "spare", "boxes", "k"]) (sc := defScope s_l_boxes) (by decide +kernel)) (fun _ _ _ _ _ => (pg_name (i := 3) sc_l_boxes.nd rfl (by first | exact Or.inl rfl | exact Or.inr rfl))) (fun _ _ _ _ _ => pts_nil) (fun _ _ _ _ _ => (pe_bm PySem.F.plainAttrs_list PySem.F.slot_list_pop PySem.F.type_list_pop mt_popAt (pv 1) (pa_cons (pe_op o_mod (pe_c c_l_next hr (by rfl) (pa_cons (pv 0) pa_nil)) (pe_callB o_len (by rfl) m_len (by decide +kernel) (pa_cons (pv 1) pa_nil))) pa_nil))))
    (pss_one (ps_ret (pe_tup (pa_cons (pe_op o_add pe_int (pe_op o_mod (pe_c c_l_next hr (by rfl) (pa_cons (pv 0) pa_nil)) pe_int)) (pa_cons (pv 2) pa_nil)))))))
abbrev s_l_word : Stmt := topS 25
theorem sc_l_word : FnScope ["caught", "kinds", "words"] ["caught"] (defScope s_l_word) := ⟨rfl, rfl, rfl, by decide +kernel, rfl, by decide +kernel, by decide +kernel⟩
def t_l_word (K : PySem.W.Frag) (a_NoChoice : Addr) (a_NoRow : Addr) (a_NoText : Addr) (a_NoName : Addr) (a_NoFit : Addr) (a_TooMany : Addr) (a_NoNumber : Addr) (a_NoStore : Addr) : TS :=
  (tSeq (tAsg (tLst (tCons (tCB (rIs K) (tCons (tVar 0) (tCons (tC (.ref a_NoStore)) tNil))) (tCons (tCB (rIs K) (tCons (tVar 0) (tCons (tC (.ref a_NoNumber)) tNil))) (tCons (tCB (rIs K) (tCons (tVar 0) (tCons (tC (.ref a_TooMany)) tNil))) tNil)))) (gName 1))
    (tSeq (tAsg (tOp (dAdd K) (tVar 1) (tLst (tCons (tCB (rIs K) (tCons (tVar 0) (tCons (tC (.ref a_NoFit)) tNil))) (tCons (tCB (rIs K) (tCons (tVar 0) (tCons (tC (.ref a_NoName)) tNil))) (tCons (tCB (rIs K) (tCons (tVar 0) (tCons (tC (.ref a_NoText)) tNil))) tNil))))) (gName 1))
    (tSeq (tAsg (tOp (dAdd K) (tVar 1) (tLst (tCons (tCB (rIs K) (tCons (tVar 0) (tCons (tC (.ref a_NoRow)) tNil))) (tCons (tCB (rIs K) (tCons (tVar 0) (tCons (tC (.ref a_NoChoice)) tNil))) tNil)))) (gName 1))
    (tSeq (tIfS (tOr (tTest (tOp (dNe K) (tBM K "list" (rCountD K) (tVar 1) (tCons (tC (.bl true)) tNil)) (tC (.int 1)))) (tNot (tB (tCB (rIs K) (tCons (tVar 0) (tCons (tC (.ty "ValueError")) tNil)))))) (tRet (tC (.str "odd"))) tNext)
    (tSeq (tAsg (tLst (tCons (tC (.str "NoStore")) (tCons (tC (.str "NoNumber")) (tCons (tC (.str "TooMany")) (tCons (tC (.str "NoFit")) (tCons (tC (.str "NoName")) (tCons (tC (.str "NoText")) (tCons (tC (.str "NoRow")) (tCons (tC (.str "NoChoice")) tNil))))))))) (gName 2))
    (tRet (tOp (rIx K) (tVar 2) (tBM K "list" (rIndexD K) (tVar 1) (tCons (tC (.bl true)) tNil)))))))))
theorem wk_l_word {P : Program} {w : World} {K : PySem.W.Frag} {mg : Str → Option Value} {base : Heap} {k : Nat} {a_NoChoice : Addr} {a_NoRow : Addr} {a_NoText : Addr} {a_NoName : Addr} {a_NoFit : Addr} {a_TooMany : Addr} {a_NoNumber : Addr} {a_NoStore : Addr} (m_isinstance : mg "isinstance" = none) (m_ValueError : mg "ValueError" = none) (g_NoChoice : mg "NoChoice" = some (.ref a_NoChoice)) (g_NoRow : mg "NoRow" = some (.ref a_NoRow)) (g_NoText : mg "NoText" = some (.ref a_NoText)) (g_NoName : mg "NoName" = some (.ref a_NoName)) (g_NoFit : mg "NoFit" = some (.ref a_NoFit)) (g_TooMany : mg "TooMany" = some (.ref a_TooMany)) (g_NoNumber : mg "NoNumber" = some (.ref a_NoNumber)) (g_NoStore : mg "NoStore" = some (.ref a_NoStore))
    (f : Addr) (cdv : Value) (A : Around) (outer : List Env) (s : Shared) (H : Hp) (E : XK) (hr : Room k (A.deeper (envOfC "_law_word" (defScope s_l_word) s.heap.objs.size f cdv))) :
    PSs (cxOf CX0 P w K mg base ["caught", "kinds", "words"] "_law_word" (defScope s_l_word) f cdv A outer s H E).nox (defBody s_l_word) (t_l_word K a_NoChoice a_NoRow a_NoText a_NoName a_NoFit a_TooMany a_NoNumber a_NoStore) := by
  have hu : (cxOf CX0 P w K mg base ["caught", "kinds", "words"] "_law_word" (defScope s_l_word) f cdv A outer s H E).nox.A.units + 64 < cLine := hr.units
  have hu5 : (cxOf CX0 P w K mg base ["caught", "kinds", "words"] "_law_word" (defScope s_l_word) f cdv A outer s H E).nox.A.units + 65 < cLine := room65 hr
  have hu1 : (cxOf CX0 P w K mg base ["caught", "kinds", "words"] "_law_word" (defScope s_l_word) f cdv A outer s H E).nox.A.units + 1 < cLine := room1 hr
  unfold t_l_word
  exact (pss_cons (ps_set (i := 1) sc_l_word.nd rfl (by first | exact Or.inl rfl | exact Or.inr rfl) (pe_lst (pa_cons (pe_callB call_is (by rfl) m_isinstance (by decide +kernel) (pa_cons (pv 0) (pa_cons (pe_glob (by rfl) g_NoStore rfl) pa_nil))) (pa_cons (pe_callB call_is (by rfl) m_isinstance (by decide +kernel) (pa_cons (pv 0) (pa_cons (pe_glob (by rfl) g_NoNumber rfl) pa_nil))) (pa_cons (pe_callB call_is (by rfl) m_isinstance (by decide +kernel) (pa_cons (pv 0) (pa_cons (pe_glob (by rfl) g_TooMany rfl) pa_nil))) pa_nil)))))
    (pss_cons (ps_set (i := 1) sc_l_word.nd rfl (by first | exact Or.inl rfl | exact Or.inr rfl) (pe_op o_add (pv 1) (pe_lst (pa_cons (pe_callB call_is (by rfl) m_isinstance (by decide +kernel) (pa_cons (pv 0) (pa_cons (pe_glob (by rfl) g_NoFit rfl) pa_nil))) (pa_cons (pe_callB call_is (by rfl) m_isinstance (by decide +kernel) (pa_cons (pv 0) (pa_cons (pe_glob (by rfl) g_NoName rfl) pa_nil))) (pa_cons (pe_callB call_is (by rfl) m_isinstance (by decide +kernel) (pa_cons (pv 0) (pa_cons (pe_glob (by rfl) g_NoText rfl) pa_nil))) pa_nil))))))
    (pss_cons (ps_set (i := 1) sc_l_word.nd rfl (by first | exact Or.inl rfl | exact Or.inr rfl) (pe_op o_add (pv 1) (pe_lst (pa_cons (pe_callB call_is (by rfl) m_isinstance (by decide +kernel) (pa_cons (pv 0) (pa_cons (pe_glob (by rfl) g_NoRow rfl) pa_nil))) (pa_cons (pe_callB call_is (by rfl) m_isinstance (by decide +kernel) (pa_cons (pv 0) (pa_cons (pe_glob (by rfl) g_NoChoice rfl) pa_nil))) pa_nil)))))
    (pss_cons (ps_if (PW.pt (pw_or (pt_cmpR (o_ne hu) (pe_bm PySem.F.plainAttrs_list PySem.F.slot_list_count PySem.F.type_list_count (mt_countD hu5) (pv 1) (pa_cons pe_bl pa_nil)) pe_int (nomark _)) (pw_or1 (pt_not (pt_val (pe_callB call_is (by rfl) m_isinstance (by decide +kernel) (pa_cons (pv 0) (pa_cons (pe_bltn (by rfl) m_ValueError (by decide +kernel) rfl) pa_nil)))))))) (pss_one (ps_ret pe_str)) pss_nil)
    (pss_cons (ps_set (i := 2) sc_l_word.nd rfl (by first | exact Or.inl rfl | exact Or.inr rfl) (pe_lst (pa_cons pe_str (pa_cons pe_str (pa_cons pe_str (pa_cons pe_str (pa_cons pe_str (pa_cons pe_str (pa_cons pe_str (pa_cons pe_str pa_nil))))))))))
    (pss_one (ps_ret (pe_ix ix_seq (pv 2) (pe_bm PySem.F.plainAttrs_list PySem.F.slot_list_index PySem.F.type_list_index (mt_indexD hu5) (pv 1) (pa_cons pe_bl pa_nil)) (fun _ _ => rfl)))))))))
abbrev s_l_asked : Stmt := topS 26
theorem sc_l_asked : FnScope ["one", "other", "box", "found", "caught", "e"] ["one", "other", "box"] (defScope s_l_asked) := ⟨rfl, rfl, rfl, by decide +kernel, rfl, by decide +kernel, by decide +kernel⟩
def t_l_asked (K : PySem.W.Frag) (sp_l_word : Sp) (sp_put_after : Sp) (a_RunError : Addr) : TS :=
  (tSeq (tAsg (tC .non) (gName 3))
    (tSeq (tAsg (tC .non) (gName 4))
    (tSeq (tTryKeep K (.ref a_RunError) 5 4 (fun W => (tAsg (tCallS sp_put_after (WE W) (tCons (tVar 0) (tCons (tVar 1) (tCons (tVar 2) tNil)))) (gName 3))) (fun _ _ _ _ => False))
    (tSeq (tIfS (tTest (tOp dIsN (tVar 4) (tC .non))) (tRet (tOp (rIx K) (tLst (tCons (tVar 3) (tCons (tC (.str "odd")) tNil))) (tCB dInt (tCons (tCB (rIsD K) (tCons (tVar 3) (tCons (tC (.ty "str")) tNil))) tNil)))) tNext)
    (tRet (tCall sp_l_word [] E0 (tCons (tVar 4) tNil)))))))
theorem wk_l_asked {P : Program} {w : World} {K : PySem.W.Frag} {mg : Str → Option Value} {base : Heap} {k : Nat} {sp_l_word : Sp} {sp_put_after : Sp} {a_RunError : Addr}
    (c_l_word : Cal P w K mg base CX0 k "_law_word" ["caught"] sp_l_word)
    (c_put_after : Cal P w K mg base (L2.CX P w) k "put_after" ["one", "other", "box"] sp_put_after) (m_int : mg "int" = none) (m_isinstance : mg "isinstance" = none) (m_str : mg "str" = none) (g_RunError : mg "RunError" = some (.ref a_RunError))
    (f : Addr) (cdv : Value) (A : Around) (outer : List Env) (s : Shared) (H : Hp) (E : XK) (hr : Room k (A.deeper (envOfC "_law_asked" (defScope s_l_asked) s.heap.objs.size f cdv))) :
    PSs (cxOf CX0 P w K mg base ["one", "other", "box", "found", "caught", "e"] "_law_asked" (defScope s_l_asked) f cdv A outer s H E).nox (defBody s_l_asked) (t_l_asked K sp_l_word sp_put_after a_RunError) := by
  have hu : (cxOf CX0 P w K mg base ["one", "other", "box", "found", "caught", "e"] "_law_asked" (defScope s_l_asked) f cdv A outer s H E).nox.A.units + 64 < cLine := hr.units
  have hu5 : (cxOf CX0 P w K mg base ["one", "other", "box", "found", "caught", "e"] "_law_asked" (defScope s_l_asked) f cdv A outer s H E).nox.A.units + 65 < cLine := room65 hr
  have hu1 : (cxOf CX0 P w K mg base ["one", "other", "box", "found", "caught", "e"] "_law_asked" (defScope s_l_asked) f cdv A outer s H E).nox.A.units + 1 < cLine := room1 hr
  unfold t_l_asked
  exact (pss_cons (ps_set (i := 3) sc_l_asked.nd rfl (by first | exact Or.inl rfl | exact Or.inr rfl) pe_non)
    (pss_cons (ps_set (i := 4) sc_l_asked.nd rfl (by first | exact Or.inl rfl | exact Or.inr rfl) pe_non)
    (pss_cons (ps_try_kept (i := 5) (tb := fun W => (tAsg (tCallS sp_put_after (WE W) (tCons (tVar 0) (tCons (tVar 1) (tCons (tVar 2) tNil)))) (gName 3))) (Wout := fun _ _ _ _ => False) rfl rfl rfl sc_l_asked.nd rfl rfl ⟨rfl, by decide, Or.inl g_RunError⟩ takes0 (fun W pn xe tk _ => (pss_one (ps_set (i := 3) sc_l_asked.nd rfl (by first | exact Or.inl rfl | exact Or.inr rfl) (pe_cx c_put_after hr (by rfl) tk (pa_cons (pv 0) (pa_cons (pv 1) (pa_cons (pv 2) pa_nil))))))) (fun a pn => (pss_one (ps_set (i := 4) sc_l_asked.nd rfl (by first | exact Or.inl rfl | exact Or.inr rfl) (pv 5)))))
    (pss_cons (ps_if (pt_cmpR op_isN (pv 4) pe_non (nomark _)) (pss_one (ps_ret (pe_ix ix_seq (pe_lst (pa_cons (pv 3) (pa_cons pe_str pa_nil))) (pe_callTy o_int (by rfl) m_int (by decide +kernel) (pa_cons (pe_callB call_isD (by rfl) m_isinstance (by decide +kernel) (pa_cons (pv 3) (pa_cons (pe_bltn (by rfl) m_str (by decide +kernel) rfl) pa_nil))) pa_nil)) (fun _ _ => rfl)))) pss_nil)
    (pss_one (ps_ret (pe_c c_l_word hr (by rfl) (pa_cons (pv 4) pa_nil))))))))
abbrev s_l_long : Stmt := topS 27
theorem sc_l_long : FnScope ["deck", "m", "boxes", "many", "rows", "k", "thing"] ["deck", "m", "boxes", "many"] (defScope s_l_long) := ⟨rfl, rfl, rfl, by decide +kernel, rfl, by decide +kernel, by decide +kernel⟩
def t_l_long (K : PySem.W.Frag) (sp_l_next : Sp) (sp_l_thing : Sp) : TS :=
  (tSeq (tAsg (tLst tNil) (gName 4))
    (tSeq (tFor (iRng1 (tCons (tVar 3) tNil)) (gName 5) (tSeq (tAsg (tCall sp_l_thing [] E0 (tCons (tVar 0) (tCons (tVar 1) (tCons (tVar 2) (tCons (tC (.int 1)) tNil))))) (gName 6))
    (tDrop (tBM K "list" rAppend (tVar 4) (tCons (tOp (rIx K) (tLst (tCons (tTup (tCons (tC (.str "set")) (tCons (tOp (rIx K) (tVar 2) (tC (.int 0))) (tCons (tVar 6) tNil)))) (tCons (tTup (tCons (tC (.str "need")) (tCons (tVar 6) tNil))) (tCons (tTup (tCons (tC (.str "give")) (tCons (tVar 6) tNil))) tNil)))) (tOp dMod (tCall sp_l_next [] E0 (tCons (tVar 0) tNil)) (tC (.int 3)))) tNil)))))
    (tRet (tTup (tCons (tVar 1) (tCons (tCB (dList K) (tCons (tVar 2) tNil)) (tCons (tVar 4) tNil)))))))
theorem wk_l_long {P : Program} {w : World} {K : PySem.W.Frag} {mg : Str → Option Value} {base : Heap} {k : Nat} {sp_l_next : Sp} {sp_l_thing : Sp}
    (c_l_next : Cal P w K mg base CX0 k "_law_next" ["deck"] sp_l_next)
    (c_l_thing : Cal P w K mg base CX0 k "_law_thing" ["deck", "m", "boxes", "deep"] sp_l_thing) (m_list : mg "list" = none) (m_range : mg "range" = none)
    (f : Addr) (cdv : Value) (A : Around) (outer : List Env) (s : Shared) (H : Hp) (E : XK) (hr : Room k (A.deeper (envOfC "_law_long" (defScope s_l_long) s.heap.objs.size f cdv))) :
    PSs (cxOf CX0 P w K mg base ["deck", "m", "boxes", "many", "rows", "k", "thing"] "_law_long" (defScope s_l_long) f cdv A outer s H E).nox (defBody s_l_long) (t_l_long K sp_l_next sp_l_thing) := by
  have hu : (cxOf CX0 P w K mg base ["deck", "m", "boxes", "many", "rows", "k", "thing"] "_law_long" (defScope s_l_long) f cdv A outer s H E).nox.A.units + 64 < cLine := hr.units
  have hu5 : (cxOf CX0 P w K mg base ["deck", "m", "boxes", "many", "rows", "k", "thing"] "_law_long" (defScope s_l_long) f cdv A outer s H E).nox.A.units + 65 < cLine := room65 hr
  have hu1 : (cxOf CX0 P w K mg base ["deck", "m", "boxes", "many", "rows", "k", "thing"] "_law_long" (defScope s_l_long) f cdv A outer s H E).nox.A.units + 1 < cLine := room1 hr
  unfold t_l_long
  exact (pss_cons (ps_set (i := 4) sc_l_long.nd rfl (by first | exact Or.inl rfl | exact Or.inr rfl) (pe_lst pa_nil))
    (pss_cons (ps_for PassesOwn.never rfl (pi_range1 (by rfl) m_range (pa_cons (pv 3) pa_nil)) (pg_name (i := 5) sc_l_long.nd rfl (by first | exact Or.inl rfl | exact Or.inr rfl)) (pss_cons (ps_set (i := 6) sc_l_long.nd rfl (by first | exact Or.inl rfl | exact Or.inr rfl) (pe_c c_l_thing hr (by rfl) (pa_cons (pv 0) (pa_cons (pv 1) (pa_cons (pv 2) (pa_cons pe_int pa_nil))))))
    (pss_one (ps_expr (pe_bm PySem.F.plainAttrs_list PySem.F.slot_list_append PySem.F.type_list_append mt_append (pv 4) (pa_cons (pe_ix ix_seq (pe_lst (pa_cons (pe_tup (pa_cons pe_str (pa_cons (pe_ix ix_seq (pv 2) pe_int (fun _ _ => rfl)) (pa_cons (pv 6) pa_nil)))) (pa_cons (pe_tup (pa_cons pe_str (pa_cons (pv 6) pa_nil))) (pa_cons (pe_tup (pa_cons pe_str (pa_cons (pv 6) pa_nil))) pa_nil)))) (pe_op o_mod (pe_c c_l_next hr (by rfl) (pa_cons (pv 0) pa_nil)) pe_int) (fun _ _ => rfl)) pa_nil))))))
    (pss_one (ps_ret (pe_tup (pa_cons (pv 1) (pa_cons (pe_callTy o_list (by rfl) m_list (by decide +kernel) (pa_cons (pv 2) pa_nil)) (pa_cons (pv 4) pa_nil))))))))
abbrev s_l_no_boxes : Stmt := topS 28
theorem sc_l_no_boxes : FnScope ["boxes", "name", "some", "box"] ["boxes"] (defScope s_l_no_boxes) := ⟨rfl, rfl, rfl, by decide +kernel, rfl, by decide +kernel, by decide +kernel⟩
def t_l_no_boxes (K : PySem.W.Frag) (w : World) : TS :=
  (tSeq (tAsg (tOp (rIx K) (tVar 0) (tC (.int 0))) (gName 1))
    (tSeq (tAsg (tLst (tCons (tC (.str "")) (tCons (tC (.str "none")) (tCons (tC .non) (tCons (tC (.int 0)) (tCons (tC (.int 1)) (tCons (tVar 0) (tCons (tTup (tCons (tC (.str "box")) (tCons (tVar 1) tNil))) (tCons (tC (.bl true)) (tCons tDNewK (tCons (tOp (dAdd K) (tVar 1) (tC (.str "q"))) (tCons (tUn dNeg (tC (.int 1))) (tCons (tSl rSlS (tVar 1) tNoPart (tPart (tUn dNeg (tC (.int 1))))) (tCons (tSl rSlS (tVar 1) (tPart (tC (.int 1))) tNoPart) (tCons (tOp (dAdd K) (tC (.str " ")) (tVar 1)) tNil))))))))))))))) (gName 2))
    (tSeq (tAsg (tOp (dAdd K) (tVar 2) (tLst (tCons (tBM K "str" (rJoin K) (tC (.str " ")) (tCons (tVar 0) tNil)) (tCons (tBM K "str" (rJoin K) (tC (.str "")) (tCons (tVar 0) tNil)) (tCons (tLst (tCons (tVar 1) tNil)) (tCons (tTup (tCons (tVar 1) tNil)) (tCons (tM0 Pu.rUpper (tVar 1)) (tCons (tOp (dAdd K) (tVar 1) (tC (.str " "))) tNil)))))))) (gName 2))
    (tRet (tLc (iList K (tVar 2)) (gName 3) (tTest (tOp (Pu.rInE K w true) (tVar 3) (tVar 0))) (tVar 3) [3])))))
theorem wk_l_no_boxes {P : Program} {w : World} {K : PySem.W.Frag} {mg : Str → Option Value} {base : Heap} {k : Nat}
    (f : Addr) (cdv : Value) (A : Around) (outer : List Env) (s : Shared) (H : Hp) (E : XK) (hr : Room k (A.deeper (envOfC "_law_no_boxes" (defScope s_l_no_boxes) s.heap.objs.size f cdv))) :
    PSs (cxOf CX0 P w K mg base ["boxes", "name", "some", "box"] "_law_no_boxes" (defScope s_l_no_boxes) f cdv A outer s H E).nox (defBody s_l_no_boxes) (t_l_no_boxes K w) := by
  have hu : (cxOf CX0 P w K mg base ["boxes", "name", "some", "box"] "_law_no_boxes" (defScope s_l_no_boxes) f cdv A outer s H E).nox.A.units + 64 < cLine := hr.units
  have hu5 : (cxOf CX0 P w K mg base ["boxes", "name", "some", "box"] "_law_no_boxes" (defScope s_l_no_boxes) f cdv A outer s H E).nox.A.units + 65 < cLine := room65 hr
  have hu1 : (cxOf CX0 P w K mg base ["boxes", "name", "some", "box"] "_law_no_boxes" (defScope s_l_no_boxes) f cdv A outer s H E).nox.A.units + 1 < cLine := room1 hr
  unfold t_l_no_boxes
  exact (pss_cons (ps_set (i := 1) sc_l_no_boxes.nd rfl (by first | exact Or.inl rfl | exact Or.inr rfl) (pe_ix ix_seq (pv 0) pe_int (fun _ _ => rfl)))
    (pss_cons (ps_set (i := 2) sc_l_no_boxes.nd rfl (by first | exact Or.inl rfl | exact Or.inr rfl) (pe_lst (pa_cons pe_str (pa_cons pe_str (pa_cons pe_non (pa_cons pe_int (pa_cons pe_int (pa_cons (pv 0) (pa_cons (pe_tup (pa_cons pe_str (pa_cons (pv 1) pa_nil))) (pa_cons pe_bl (pa_cons pe_dnewK (pa_cons (pe_op o_add (pv 1) pe_str) (pa_cons (pe_un o_neg pe_int) (pa_cons (pe_slice sl_str (pv 1) po_none (po_some (pe_un o_neg pe_int))) (pa_cons (pe_slice sl_str (pv 1) (po_some pe_int) po_none) (pa_cons (pe_op o_add pe_str (pv 1)) pa_nil))))))))))))))))
    (pss_cons (ps_set (i := 2) sc_l_no_boxes.nd rfl (by first | exact Or.inl rfl | exact Or.inr rfl) (pe_op o_add (pv 2) (pe_lst (pa_cons (pe_bm PySem.F.plainAttrs_str PySem.F.slot_str_join PySem.F.type_str_join mt_join pe_str (pa_cons (pv 0) pa_nil)) (pa_cons (pe_bm PySem.F.plainAttrs_str PySem.F.slot_str_join PySem.F.type_str_join mt_join pe_str (pa_cons (pv 0) pa_nil)) (pa_cons (pe_lst (pa_cons (pv 1) pa_nil)) (pa_cons (pe_tup (pa_cons (pv 1) pa_nil)) (pa_cons (pe_upper (pv 1)) (pa_cons (pe_op o_add (pv 1) pe_str) pa_nil)))))))))
    (pss_one (ps_ret (pe_lc (own := [("box", 3)]) (g := (gName 3)) (tt := (tTest (tOp (Pu.rInE K w true) (tVar 3) (tVar 0)))) rfl sc_l_no_boxes.nd (pi_list (pv 2)) (blkOk_by (N := ["boxes", "name", "some", "box"]) (sc := defScope s_l_no_boxes) (by decide +kernel)) (fun _ _ _ _ _ => (pg_name (i := 3) sc_l_no_boxes.nd rfl (by first | exact Or.inl rfl | exact Or.inr rfl))) (fun _ _ _ _ _ => (pts_one (pt_cmpR (Pu.op_notInE hu5) (pv 3) (pv 0) (by rfl)))) (fun _ _ _ _ _ => (pv 3))))))))
abbrev s_l_others : Stmt := topS 29
theorem sc_l_others : FnScope ["deck", "program", "m", "boxes", "rows", "found", "one"] ["deck", "program"] (defScope s_l_others) := ⟨rfl, rfl, rfl, by decide +kernel, rfl, by decide +kernel, by decide +kernel⟩
def t_l_others (K : PySem.W.Frag) (sp_l_next : Sp) : TS :=
  (tSeq (tAsg (tVar 1) (gTup K 3 (gCons (gName 2) (gCons (gName 3) (gCons (gName 4) gNil)))))
    (tSeq (tAsg (tLst (tCons (tTup (tCons (tOp (dAdd K) (tC (.int 2)) (tOp dMod (tOp (dAdd K) (tOp dSub (tVar 2) (tC (.int 1))) (tOp dMod (tCall sp_l_next [] E0 (tCons (tVar 0) tNil)) (tC (.int 14)))) (tC (.int 15)))) (tCons (tCB (dList K) (tCons (tVar 3) tNil)) (tCons (tLst tNil) tNil)))) (tCons (tTup (tCons (tVar 2) (tCons (tOp (dAdd K) (tVar 3) (tLst (tCons (tC (.str "q")) tNil))) (tCons (tLst tNil) tNil)))) tNil))) (gName 5))
    (tSeq (tAsg (tOp (dAdd K) (tVar 5) (tLst (tCons (tTup (tCons (tVar 2) (tCons (tOp (dAdd K) (tSl (rSlL K) (tVar 3) (tPart (tC (.int 1))) tNoPart) (tLst (tCons (tC (.str "q")) tNil))) (tCons (tLst tNil) tNil)))) (tCons (tTup (tCons (tC (.int 16)) (tCons (tCB (dList K) (tCons (tVar 3) tNil)) (tCons (tVar 4) tNil)))) (tCons (tTup (tCons (tVar 2) (tCons (tLst (tCons (tSl rSlS (tBM K "str" (rJoin K) (tC (.str "")) (tCons (tVar 3) tNil)) tNoPart (tPart (tC (.int 8)))) tNil)) (tCons (tLst tNil) tNil)))) tNil))))) (gName 5))
    (tSeq (tIfS (tTest (tOp dGt (tCB (dLen K) (tCons (tVar 3) tNil)) (tC (.int 1)))) (tAsg (tOp (dAdd K) (tVar 5) (tLst (tCons (tTup (tCons (tVar 2) (tCons (tRevL K (tVar 3)) (tCons (tLst tNil) tNil)))) (tCons (tTup (tCons (tVar 2) (tCons (tSl (rSlL K) (tVar 3) tNoPart (tPart (tUn dNeg (tC (.int 1))))) (tCons (tLst tNil) tNil)))) tNil)))) (gName 5)) tNext)
    (tRet (tLc (iList K (tVar 5)) (gName 6) (tOr (tTest (tOp (dNe K) (tSl (rSlL K) (tOp (rIx K) (tVar 6) (tC (.int 1))) tNoPart (tPart (tC (.int 5)))) (tVar 3))) (tTest (tOp (dNe K) (tOp (rIx K) (tVar 6) (tC (.int 0))) (tVar 2)))) (tTup (tCons (tOp (rIx K) (tVar 6) (tC (.int 0))) (tCons (tSl (rSlL K) (tOp (rIx K) (tVar 6) (tC (.int 1))) tNoPart (tPart (tC (.int 5)))) (tCons (tOp (rIx K) (tVar 6) (tC (.int 2))) tNil)))) [6]))))))
theorem wk_l_others {P : Program} {w : World} {K : PySem.W.Frag} {mg : Str → Option Value} {base : Heap} {k : Nat} {sp_l_next : Sp}
    (c_l_next : Cal P w K mg base CX0 k "_law_next" ["deck"] sp_l_next) (m_len : mg "len" = none) (m_list : mg "list" = none)
    (f : Addr) (cdv : Value) (A : Around) (outer : List Env) (s : Shared) (H : Hp) (E : XK) (hr : Room k (A.deeper (envOfC "_law_others" (defScope s_l_others) s.heap.objs.size f cdv))) :
    PSs (cxOf CX0 P w K mg base ["deck", "program", "m", "boxes", "rows", "found", "one"] "_law_others" (defScope s_l_others) f cdv A outer s H E).nox (defBody s_l_others) (t_l_others K sp_l_next) := by
  have hu : (cxOf CX0 P w K mg base ["deck", "program", "m", "boxes", "rows", "found", "one"] "_law_others" (defScope s_l_others) f cdv A outer s H E).nox.A.units + 64 < cLine := hr.units
  have hu5 : (cxOf CX0 P w K mg base ["deck", "program", "m", "boxes", "rows", "found", "one"] "_law_others" (defScope s_l_others) f cdv A outer s H E).nox.A.units + 65 < cLine := room65 hr
  have hu1 : (cxOf CX0 P w K mg base ["deck", "program", "m", "boxes", "rows", "found", "one"] "_law_others" (defScope s_l_others) f cdv A outer s H E).nox.A.units + 1 < cLine := room1 hr
  unfold t_l_others
  exact (pss_cons (ps_asg (pv 1) (pg_tup rfl (pgs_cons (pg_name (i := 2) sc_l_others.nd rfl (by first | exact Or.inl rfl | exact Or.inr rfl)) (pgs_cons (pg_name (i := 3) sc_l_others.nd rfl (by first | exact Or.inl rfl | exact Or.inr rfl)) (pgs_cons (pg_name (i := 4) sc_l_others.nd rfl (by first | exact Or.inl rfl | exact Or.inr rfl)) pgs_nil)))))
    (pss_cons (ps_set (i := 5) sc_l_others.nd rfl (by first | exact Or.inl rfl | exact Or.inr rfl) (pe_lst (pa_cons (pe_tup (pa_cons (pe_op o_add pe_int (pe_op o_mod (pe_op o_add (pe_op o_sub (pv 2) pe_int) (pe_op o_mod (pe_c c_l_next hr (by rfl) (pa_cons (pv 0) pa_nil)) pe_int)) pe_int)) (pa_cons (pe_callTy o_list (by rfl) m_list (by decide +kernel) (pa_cons (pv 3) pa_nil)) (pa_cons (pe_lst pa_nil) pa_nil)))) (pa_cons (pe_tup (pa_cons (pv 2) (pa_cons (pe_op o_add (pv 3) (pe_lst (pa_cons pe_str pa_nil))) (pa_cons (pe_lst pa_nil) pa_nil)))) pa_nil))))
    (pss_cons (ps_set (i := 5) sc_l_others.nd rfl (by first | exact Or.inl rfl | exact Or.inr rfl) (pe_op o_add (pv 5) (pe_lst (pa_cons (pe_tup (pa_cons (pv 2) (pa_cons (pe_op o_add (pe_slice sl_list (pv 3) (po_some pe_int) po_none) (pe_lst (pa_cons pe_str pa_nil))) (pa_cons (pe_lst pa_nil) pa_nil)))) (pa_cons (pe_tup (pa_cons pe_int (pa_cons (pe_callTy o_list (by rfl) m_list (by decide +kernel) (pa_cons (pv 3) pa_nil)) (pa_cons (pv 4) pa_nil)))) (pa_cons (pe_tup (pa_cons (pv 2) (pa_cons (pe_lst (pa_cons (pe_slice sl_str (pe_bm PySem.F.plainAttrs_str PySem.F.slot_str_join PySem.F.type_str_join mt_join pe_str (pa_cons (pv 3) pa_nil)) po_none (po_some pe_int)) pa_nil)) (pa_cons (pe_lst pa_nil) pa_nil)))) pa_nil))))))
    (pss_cons (ps_if (pt_cmpR o_gt (pe_callB o_len (by rfl) m_len (by decide +kernel) (pa_cons (pv 3) pa_nil)) pe_int (nomark _)) (pss_one (ps_set (i := 5) sc_l_others.nd rfl (by first | exact Or.inl rfl | exact Or.inr rfl) (pe_op o_add (pv 5) (pe_lst (pa_cons (pe_tup (pa_cons (pv 2) (pa_cons (pe_revL (pv 3)) (pa_cons (pe_lst pa_nil) pa_nil)))) (pa_cons (pe_tup (pa_cons (pv 2) (pa_cons (pe_slice sl_list (pv 3) po_none (po_some (pe_un o_neg pe_int))) (pa_cons (pe_lst pa_nil) pa_nil)))) pa_nil)))))) pss_nil)
    (pss_one (ps_ret (pe_lc (own := [("one", 6)]) (g := (gName 6)) (tt := (tOr (tTest (tOp (dNe K) (tSl (rSlL K) (tOp (rIx K) (tVar 6) (tC (.int 1))) tNoPart (tPart (tC (.int 5)))) (tVar 3))) (tTest (tOp (dNe K) (tOp (rIx K) (tVar 6) (tC (.int 0))) (tVar 2))))) rfl sc_l_others.nd (pi_list (pv 5)) (blkOk_by (N := ["deck", "program", "m", "boxes", "rows", "found", "one"]) (sc := defScope s_l_others) (by decide +kernel)) (fun _ _ _ _ _ => (pg_name (i := 6) sc_l_others.nd rfl (by first | exact Or.inl rfl | exact Or.inr rfl))) (fun _ _ _ _ _ => (pts_one (PW.pt (pw_or (pt_cmpR (o_ne hu) (pe_slice sl_list (pe_ix ix_seq (pv 6) pe_int (fun _ _ => rfl)) po_none (po_some pe_int)) (pv 3) (nomark _)) (pw_or1 (pt_cmpR (o_ne hu) (pe_ix ix_seq (pv 6) pe_int (fun _ _ => rfl)) (pv 2) (nomark _))))))) (fun _ _ _ _ _ => (pe_tup (pa_cons (pe_ix ix_seq (pv 6) pe_int (fun _ _ => rfl)) (pa_cons (pe_slice sl_list (pe_ix ix_seq (pv 6) pe_int (fun _ _ => rfl)) po_none (po_some pe_int)) (pa_cons (pe_ix ix_seq (pv 6) pe_int (fun _ _ => rfl)) pa_nil))))))))))))
abbrev s_law : Stmt := topS 30
theorem sc_law : FnScope ["script", "k", "deck", "m", "boxes", "one", "gives", "row", "room", "others", "j", "kept", "other", "box", "found"] ["script"] (defScope s_law) := ⟨rfl, rfl, rfl, by decide +kernel, rfl, by decide +kernel, by decide +kernel⟩
def t_law (K : PySem.W.Frag) (w : World) (sp_l_asked : Sp) (sp_l_next : Sp) (sp_l_no_boxes : Sp) (sp_l_others : Sp) (sp_l_long : Sp) (sp_l_boxes : Sp) (sp_l_deck : Sp) (sp_l_cell_at : Sp) : TS :=
  (tSeq (tFor (iRng1 (tCons (tCB (dMax K) (tCons (tC (.int 1)) (tCons (tCB (dMin K) (tCons (tCB (dLen K) (tCons (tVar 0) tNil)) (tCons (tC (.int 3)) tNil))) tNil))) tNil)) (gName 1) (tSeq (tAsg (tCall sp_l_deck [] E0 (tCons (tCall sp_l_cell_at [] E0 (tCons (tVar 0) (tCons (tVar 1) tNil))) (tCons (tC (.int 260)) tNil))) (gName 2))
    (tSeq (tAsg (tCall sp_l_boxes [] E0 (tCons (tVar 2) tNil)) (gTup K 2 (gCons (gName 3) (gCons (gName 4) gNil))))
    (tSeq (tAsg (tCall sp_l_long [] E0 (tCons (tVar 2) (tCons (tVar 3) (tCons (tVar 4) (tCons (tOp dMod (tCall sp_l_next [] E0 (tCons (tVar 2) tNil)) (tC (.int 27))) tNil))))) (gName 5))
    (tSeq (tAsg (tLc (iList K (tOp (rIx K) (tVar 5) (tC (.int 2)))) (gName 7) (tTest (tOp (dEq K) (tOp (rIx K) (tVar 7) (tC (.int 0))) (tC (.str "give")))) (tVar 7) [7]) (gName 6))
    (tSeq (tAsg (tOp dSub (tOp dSub (tOp dSub (tC (.int 30)) (tCB (dLen K) (tCons (tOp (rIx K) (tVar 5) (tC (.int 2))) tNil))) (tCB (dLen K) (tCons (tVar 6) tNil))) (tC (.int 1))) (gName 8))
    (tSeq (tAsg (tLc (iTup K (tTup (tCons (tUn dNeg (tC (.int 1))) (tCons (tC (.int 0)) (tCons (tC (.int 1)) (tCons (tC (.int 2)) tNil)))))) (gName 10) tYes (tCall sp_l_long [] E0 (tCons (tVar 2) (tCons (tVar 3) (tCons (tVar 4) (tCons (tCB (dMax K) (tCons (tC (.int 0)) (tCons (tCB (dMin K) (tCons (tC (.int 26)) (tCons (tOp (dAdd K) (tVar 8) (tVar 10)) tNil))) tNil))) tNil))))) [10]) (gName 9))
    (tSeq (tDrop (tBM K "list" rAppend (tVar 9) (tCons (tCall sp_l_long [] E0 (tCons (tVar 2) (tCons (tVar 3) (tCons (tVar 4) (tCons (tOp dMod (tCall sp_l_next [] E0 (tCons (tVar 2) tNil)) (tC (.int 27))) tNil))))) tNil)))
    (tSeq (tAsg (Pr.tRepr ⟨K, w⟩ (tLst (tCons (tVar 5) (tCons (tVar 9) tNil)))) (gName 11))
    (tSeq (tFor (iList K (tCall sp_l_others [] E0 (tCons (tVar 2) (tCons (tVar 5) tNil)))) (gName 12) (tFor (iTup K (tTup (tCons (tOp (rIx K) (tVar 4) (tC (.int 0))) (tCons (tC (.str "none")) (tCons (tC .non) (tCons (tVar 4) tNil)))))) (gName 13) (tIfS (tOr (tTest (tOp (dNe K) (tCall sp_l_asked [] E0 (tCons (tVar 5) (tCons (tVar 12) (tCons (tVar 13) tNil)))) (tC (.str "NoFit")))) (tTest (tOp (dNe K) (tCall sp_l_asked [] E0 (tCons (tVar 12) (tCons (tVar 5) (tCons (tVar 13) tNil)))) (tC (.str "NoFit"))))) (tRet (tC (.bl false))) tNext)))
    (tSeq (tFor (iList K (tVar 9)) (gName 12) (tSeq (tIfS (tTest (tOp (dNe K) (tLc (iList K (tCall sp_l_no_boxes [] E0 (tCons (tVar 4) tNil))) (gName 13) (tTest (tOp (dNe K) (tCall sp_l_asked [] E0 (tCons (tVar 5) (tCons (tVar 12) (tCons (tVar 13) tNil)))) (tC (.str "NoName")))) (tVar 13) [13]) (tLst tNil))) (tRet (tC (.bl false))) tNext)
    (tSeq (tAsg (tCall sp_l_asked [] E0 (tCons (tVar 5) (tCons (tVar 12) (tCons (tOp (rIx K) (tVar 4) (tOp dMod (tCall sp_l_next [] E0 (tCons (tVar 2) tNil)) (tCB (dLen K) (tCons (tVar 4) tNil)))) tNil)))) (gName 14))
    (tIfS (tOr (tTest (tOp (dNe K) (tOp (dEq K) (tVar 14) (tC (.str "TooMany"))) (tOp dGt (tCB (dLen K) (tCons (tOp (rIx K) (tVar 12) (tC (.int 2))) tNil)) (tVar 8)))) (tTest (tOp (dIn K) (tVar 14) (tTup (tCons (tC (.str "NoName")) (tCons (tC (.str "NoFit")) (tCons (tC (.str "odd")) tNil))))))) (tRet (tC (.bl false))) tNext))))
    (tIfS (tTest (tOp dNeS (Pr.tRepr ⟨K, w⟩ (tLst (tCons (tVar 5) (tCons (tVar 9) tNil)))) (tVar 11))) (tRet (tC (.bl false))) tNext))))))))))))
    (tRet (tC (.bl true))))
theorem wk_law {P : Program} {w : World} {K : PySem.W.Frag} {mg : Str → Option Value} {base : Heap} {k : Nat} {sp_l_asked : Sp} {sp_l_next : Sp} {sp_l_no_boxes : Sp} {sp_l_others : Sp} {sp_l_long : Sp} {sp_l_boxes : Sp} {sp_l_deck : Sp} {sp_l_cell_at : Sp}
    (c_l_asked : Cal P w K mg base CX0 k "_law_asked" ["one", "other", "box"] sp_l_asked)
    (c_l_next : Cal P w K mg base CX0 k "_law_next" ["deck"] sp_l_next)
    (c_l_no_boxes : Cal P w K mg base CX0 k "_law_no_boxes" ["boxes"] sp_l_no_boxes)
    (c_l_others : Cal P w K mg base CX0 k "_law_others" ["deck", "program"] sp_l_others)
    (c_l_long : Cal P w K mg base CX0 k "_law_long" ["deck", "m", "boxes", "many"] sp_l_long)
    (c_l_boxes : Cal P w K mg base CX0 k "_law_boxes" ["deck"] sp_l_boxes)
    (c_l_deck : Cal P w K mg base CX0 k "_law_deck" ["cell", "many"] sp_l_deck)
    (c_l_cell_at : Cal P w K mg base CX0 k "_law_cell_at" ["script", "k"] sp_l_cell_at) (m_range : mg "range" = none) (m_max : mg "max" = none) (m_min : mg "min" = none) (m_len : mg "len" = none) (m_repr : mg "repr" = none)
    (f : Addr) (cdv : Value) (A : Around) (outer : List Env) (s : Shared) (H : Hp) (E : XK) (hG0 : A.guards = some []) (hr : Room k (A.deeper (envOfC "law" (defScope s_law) s.heap.objs.size f cdv))) :
    PSs (cxOf CX0 P w K mg base ["script", "k", "deck", "m", "boxes", "one", "gives", "row", "room", "others", "j", "kept", "other", "box", "found"] "law" (defScope s_law) f cdv A outer s H E).nox (defBody s_law) (t_law K w sp_l_asked sp_l_next sp_l_no_boxes sp_l_others sp_l_long sp_l_boxes sp_l_deck sp_l_cell_at) := by
  have hG : (cxOf CX0 P w K mg base ["script", "k", "deck", "m", "boxes", "one", "gives", "row", "room", "others", "j", "kept", "other", "box", "found"] "law" (defScope s_law) f cdv A outer s H E).nox.A.guards = some [] := hG0
  have hu : (cxOf CX0 P w K mg base ["script", "k", "deck", "m", "boxes", "one", "gives", "row", "room", "others", "j", "kept", "other", "box", "found"] "law" (defScope s_law) f cdv A outer s H E).nox.A.units + 64 < cLine := hr.units
  have hu5 : (cxOf CX0 P w K mg base ["script", "k", "deck", "m", "boxes", "one", "gives", "row", "room", "others", "j", "kept", "other", "box", "found"] "law" (defScope s_law) f cdv A outer s H E).nox.A.units + 65 < cLine := room65 hr
  have hu1 : (cxOf CX0 P w K mg base ["script", "k", "deck", "m", "boxes", "one", "gives", "row", "room", "others", "j", "kept", "other", "box", "found"] "law" (defScope s_law) f cdv A outer s H E).nox.A.units + 1 < cLine := room1 hr
  unfold t_law
  exact (pss_cons (ps_for PassesOwn.never rfl (pi_range1 (by rfl) m_range (pa_cons (pe_callB (o_max rfl) (by rfl) m_max (by decide +kernel) (pa_cons pe_int (pa_cons (pe_callB (o_min rfl) (by rfl) m_min (by decide +kernel) (pa_cons (pe_callB o_len (by rfl) m_len (by decide +kernel) (pa_cons (pv 0) pa_nil)) (pa_cons pe_int pa_nil))) pa_nil))) pa_nil)) (pg_name (i := 1) sc_law.nd rfl (by first | exact Or.inl rfl | exact Or.inr rfl)) (pss_cons (ps_set (i := 2) sc_law.nd rfl (by first | exact Or.inl rfl | exact Or.inr rfl) (pe_c c_l_deck hr (by rfl) (pa_cons (pe_c c_l_cell_at hr (by rfl) (pa_cons (pv 0) (pa_cons (pv 1) pa_nil))) (pa_cons pe_int pa_nil))))
    (pss_cons (ps_asg (pe_c c_l_boxes hr (by rfl) (pa_cons (pv 2) pa_nil)) (pg_tup rfl (pgs_cons (pg_name (i := 3) sc_law.nd rfl (by first | exact Or.inl rfl | exact Or.inr rfl)) (pgs_cons (pg_name (i := 4) sc_law.nd rfl (by first | exact Or.inl rfl | exact Or.inr rfl)) pgs_nil))))
    (pss_cons (ps_set (i := 5) sc_law.nd rfl (by first | exact Or.inl rfl | exact Or.inr rfl) (pe_c c_l_long hr (by rfl) (pa_cons (pv 2) (pa_cons (pv 3) (pa_cons (pv 4) (pa_cons (pe_op o_mod (pe_c c_l_next hr (by rfl) (pa_cons (pv 2) pa_nil)) pe_int) pa_nil))))))
    (pss_cons (ps_setLc (i := 6) (own := [("row", 7)]) (g := (gName 7)) (tt := (tTest (tOp (dEq K) (tOp (rIx K) (tVar 7) (tC (.int 0))) (tC (.str "give"))))) rfl sc_law.nd rfl rfl (sw_true rfl rfl rfl (by decide +kernel)) (pi_list (pe_ix ix_seq (pv 5) pe_int (fun _ _ => rfl))) (blkOk_by (N := ["script", "k", "deck", "m", "boxes", "one", "gives", "row", "room", "others", "j", "kept", "other", "box", "found"]) (sc := defScope s_law) (by decide +kernel)) (fun _ _ _ _ _ => (pg_name (i := 7) sc_law.nd rfl (by first | exact Or.inl rfl | exact Or.inr rfl))) (fun _ _ _ _ _ => (pts_one (pt_cmpR (o_eq hu) (pe_ix ix_seq (pv 7) pe_int (fun _ _ => rfl)) pe_str (nomark _)))) (fun _ _ _ _ _ => (pv 7)))
    (pss_cons (ps_set (i := 8) sc_law.nd rfl (by first | exact Or.inl rfl | exact Or.inr rfl) (pe_op o_sub (pe_op o_sub (pe_op o_sub pe_int (pe_callB o_len (by rfl) m_len (by decide +kernel) (pa_cons (pe_ix ix_seq (pv 5) pe_int (fun _ _ => rfl)) pa_nil))) (pe_callB o_len (by rfl) m_len (by decide +kernel) (pa_cons (pv 6) pa_nil))) pe_int))
    (pss_cons (ps_setLc (i := 9) (own := [("j", 10)]) (g := (gName 10)) (tt := tYes) rfl sc_law.nd rfl rfl (sw_true rfl rfl rfl (by decide +kernel)) (pi_tup (pe_tup (pa_cons (pe_un o_neg pe_int) (pa_cons pe_int (pa_cons pe_int (pa_cons pe_int pa_nil)))))) (blkOk_by (N := ["script", "k", "deck", "m", "boxes", "one", "gives", "row", "room", "others", "j", "kept", "other", "box", "found"]) (sc := defScope s_law) (by decide +kernel)) (fun _ _ _ _ _ => (pg_name (i := 10) sc_law.nd rfl (by first | exact Or.inl rfl | exact Or.inr rfl))) (fun _ _ _ _ _ => pts_nil) (fun _ _ _ _ _ => (pe_c c_l_long hr (by rfl) (pa_cons (pv 2) (pa_cons (pv 3) (pa_cons (pv 4) (pa_cons (pe_callB (o_max rfl) (by rfl) m_max (by decide +kernel) (pa_cons pe_int (pa_cons (pe_callB (o_min rfl) (by rfl) m_min (by decide +kernel) (pa_cons pe_int (pa_cons (pe_op o_add (pv 8) (pv 10)) pa_nil))) pa_nil))) pa_nil)))))))
    (pss_cons (ps_expr (pe_bm PySem.F.plainAttrs_list PySem.F.slot_list_append PySem.F.type_list_append mt_append (pv 9) (pa_cons (pe_c c_l_long hr (by rfl) (pa_cons (pv 2) (pa_cons (pv 3) (pa_cons (pv 4) (pa_cons (pe_op o_mod (pe_c c_l_next hr (by rfl) (pa_cons (pv 2) pa_nil)) pe_int) pa_nil))))) pa_nil)))
    (pss_cons (ps_set (i := 11) sc_law.nd rfl (by first | exact Or.inl rfl | exact Or.inr rfl) (Pr.pe_repr (K := ⟨K, w⟩) rfl hr hG (by rfl) m_repr (pe_lst (pa_cons (pv 5) (pa_cons (pv 9) pa_nil)))))
    (pss_cons (ps_for PassesOwn.never rfl (pi_list (pe_c c_l_others hr (by rfl) (pa_cons (pv 2) (pa_cons (pv 5) pa_nil)))) (pg_name (i := 12) sc_law.nd rfl (by first | exact Or.inl rfl | exact Or.inr rfl)) (pss_one (ps_for PassesOwn.never rfl (pi_tup (pe_tup (pa_cons (pe_ix ix_seq (pv 4) pe_int (fun _ _ => rfl)) (pa_cons pe_str (pa_cons pe_non (pa_cons (pv 4) pa_nil)))))) (pg_name (i := 13) sc_law.nd rfl (by first | exact Or.inl rfl | exact Or.inr rfl)) (pss_one (ps_if (PW.pt (pw_or (pt_cmpR (o_ne hu) (pe_c c_l_asked hr (by rfl) (pa_cons (pv 5) (pa_cons (pv 12) (pa_cons (pv 13) pa_nil)))) pe_str (nomark _)) (pw_or1 (pt_cmpR (o_ne hu) (pe_c c_l_asked hr (by rfl) (pa_cons (pv 12) (pa_cons (pv 5) (pa_cons (pv 13) pa_nil)))) pe_str (nomark _))))) (pss_one (ps_ret pe_bl)) pss_nil)))))
    (pss_cons (ps_for PassesOwn.never rfl (pi_list (pv 9)) (pg_name (i := 12) sc_law.nd rfl (by first | exact Or.inl rfl | exact Or.inr rfl)) (pss_cons (ps_if (pt_cmpR (o_ne hu) (pe_lc (own := [("box", 13)]) (g := (gName 13)) (tt := (tTest (tOp (dNe K) (tCall sp_l_asked [] E0 (tCons (tVar 5) (tCons (tVar 12) (tCons (tVar 13) tNil)))) (tC (.str "NoName"))))) rfl sc_law.nd (pi_list (pe_c c_l_no_boxes hr (by rfl) (pa_cons (pv 4) pa_nil))) (blkOk_by (N := ["script", "k", "deck", "m", "boxes", "one", "gives", "row", "room", "others", "j", "kept", "other", "box", "found"]) (sc := defScope s_law) (by decide +kernel)) (fun _ _ _ _ _ => (pg_name (i := 13) sc_law.nd rfl (by first | exact Or.inl rfl | exact Or.inr rfl))) (fun _ _ _ _ _ => (pts_one (pt_cmpR (o_ne hu) (pe_c c_l_asked hr (by rfl) (pa_cons (pv 5) (pa_cons (pv 12) (pa_cons (pv 13) pa_nil)))) pe_str (nomark _)))) (fun _ _ _ _ _ => (pv 13))) (pe_lst pa_nil) (nomark _)) (pss_one (ps_ret pe_bl)) pss_nil)
    (pss_cons (ps_set (i := 14) sc_law.nd rfl (by first | exact Or.inl rfl | exact Or.inr rfl) (pe_c c_l_asked hr (by rfl) (pa_cons (pv 5) (pa_cons (pv 12) (pa_cons (pe_ix ix_seq (pv 4) (pe_op o_mod (pe_c c_l_next hr (by rfl) (pa_cons (pv 2) pa_nil)) (pe_callB o_len (by rfl) m_len (by decide +kernel) (pa_cons (pv 4) pa_nil))) (fun _ _ => rfl)) pa_nil)))))
    (pss_one (ps_if (PW.pt (pw_or (pt_cmpR (o_ne hu) (pe_cmpR (o_eq hu) (pv 14) pe_str (nomark _)) (pe_cmpR o_gt (pe_callB o_len (by rfl) m_len (by decide +kernel) (pa_cons (pe_ix ix_seq (pv 12) pe_int (fun _ _ => rfl)) pa_nil)) (pv 8) (nomark _)) (nomark _)) (pw_or1 (pt_cmpR (o_in hu5) (pv 14) (pe_tup (pa_cons pe_str (pa_cons pe_str (pa_cons pe_str pa_nil)))) (by rfl))))) (pss_one (ps_ret pe_bl)) pss_nil)))))
    (pss_one (ps_if (pt_cmpR o_neS (Pr.pe_repr (K := ⟨K, w⟩) rfl hr hG (by rfl) m_repr (pe_lst (pa_cons (pv 5) (pa_cons (pv 9) pa_nil)))) (pv 11) (nomark _)) (pss_one (ps_ret pe_bl)) pss_nil)))))))))))))
    (pss_one (ps_ret pe_bl)))
end Sy
end
section
set_option Elab.async false
set_option linter.all false
set_option maxRecDepth 100000
set_option pp.maxSteps 600
open PySem L2 Pk
local macro_rules | `(tactic| walk_at "sh") => `(tactic| first | exact sh_int | exact sh_bool | exact sh_non | exact sh_nil | exact sh_str (by decide +kernel) | assumption)
local macro_rules | `(tactic| walk_at "v1") => `(tactic| first
  | (with_reducible refine wd_int ?_) | (with_reducible refine wd_str ?_) | (with_reducible refine wd_bl ?_) | (with_reducible refine wd_non ?_)
  | ((with_reducible apply wd_var); exact rfl) | ((with_reducible apply wd_varN); exact rfl)
  | ((with_reducible apply wd_ixm); exact rfl)
  | ((with_reducible apply wd_lenM); exact rfl) | ((with_reducible apply wd_lenScript); exact rfl) | ((with_reducible apply wd_ixScript); exact rfl)
  | (with_reducible refine wd_op ?_) | (with_reducible refine wd_un ?_)
  | (with_reducible refine rd_add ?_) | (with_reducible refine rd_sub ?_) | (with_reducible refine rd_lt ?_) | (with_reducible refine rd_le ?_) | (with_reducible refine rd_gt ?_) | (with_reducible refine rd_ge ?_) | (with_reducible refine ru_neg ?_)
  | ((with_reducible refine rd_eq ?ev_h ?ev_k ?_); (case ev_h => walk_at "sh"); (case ev_k => walk_at "sh")) | ((with_reducible refine rd_ne ?ev_h ?ev_k ?_); (case ev_h => walk_at "sh"); (case ev_k => walk_at "sh"))
  | ((with_reducible refine rd_mod ?ev_h ?_); case ev_h => first | decide | assumption | omega) | ((with_reducible refine rd_div ?ev_h ?ev_k ?_); (case ev_h => first | decide | assumption | omega); (case ev_k => first | decide | assumption | omega))
  | ((with_reducible refine rd_pow ?ev_h ?_); case ev_h => exact ⟨by decide, by decide, by decide⟩)
  | ((with_reducible refine rd_mul ?ev_h ?_); case ev_h => first | exact .inr ⟨by decide, by decide⟩ | exact .inl ⟨by decide, by decide⟩ | exact .inl ⟨by omega, by omega⟩ | exact .inr ⟨by omega, by omega⟩)
  | (with_reducible refine rc_lenL ?_) | (with_reducible refine rc_lenT ?_) | (with_reducible refine rc_max2 ?_) | (with_reducible refine rc_min2 ?_) | (with_reducible refine rc_intB ?_) | (with_reducible refine rc_intI ?_) | (with_reducible refine rc_listL ?_) | (with_reducible refine rc_listT ?_) | (with_reducible refine rc_tupleL ?_)
  | ((with_reducible apply rd_ixT); exact rfl)
  | ((with_reducible apply rd_ixL); exact rfl)
  | ((with_reducible refine wd_isi ?ev_h ?_); case ev_h => decide) | ((with_reducible refine wd_isi2 ?ev_h ?ev_k ?_); (case ev_h => decide); (case ev_k => decide))
  | (with_reducible refine wd_tup2 ?_) | (with_reducible refine wd_tup1 ?_) | (with_reducible refine wd_tup3 ?_) | (with_reducible refine wd_tup0 ?_)
  | (with_reducible refine wd_lst0 ?_) | (with_reducible refine wd_lst1 ?_) | (with_reducible refine wd_lst2 ?_) | (with_reducible refine wd_lst3 ?_) | (with_reducible refine wd_lst4 ?_) | (with_reducible refine wd_lst5 ?_) | (with_reducible refine wd_lst6 ?_)
  | ((with_reducible apply wd_callO0); exact rfl) | ((with_reducible apply wd_callO1); exact rfl) | ((with_reducible apply wd_callO2); exact rfl) | ((with_reducible apply wd_callO3); exact rfl)
  | (with_reducible refine wd_call1 ?_) | (with_reducible refine wd_call2 ?_) | (with_reducible refine wd_call3 ?_) | (with_reducible refine wd_call4 ?_) | (with_reducible refine wd_call0 ?_)
  | (with_reducible refine wd_cb1 ?_) | (with_reducible refine wd_cb2 ?_)
  | (with_reducible refine wd_rev ?_) | (with_reducible refine wd_lrg1 ?_) | (with_reducible refine wd_sl ?_) | (with_reducible refine wo_no ?_) | (with_reducible refine wo_some ?_)
  | (with_reducible refine wd_andV ?_) | (with_reducible refine wd_orV ?_) | (with_reducible refine wd_notV ?_) | (with_reducible refine wd_if ?_) | (with_reducible refine wd_chain ?_)
  | (with_reducible refine wt_test ?_) | (with_reducible refine wt_B ?_) | (with_reducible refine wt_not ?_) | (with_reducible refine wt_and ?_) | (with_reducible refine wt_or ?_) | (with_reducible refine wt_yes ?_)
  | (with_reducible refine gj_name ?_) | (with_reducible refine gj_tup rfl ?_) | (with_reducible refine gjs_cons ?_) | (with_reducible refine gjs_nil ?_))
local macro_rules | `(tactic| walk_at "v") => `(tactic| repeat walk_at "v1")
local macro_rules | `(tactic| walk_at "x") => `(tactic| refine ⟨_, rfl, ?_⟩)
local macro_rules | `(tactic| walk_at "vx") => `(tactic| repeat (first | walk_at "v1" | (with_reducible refine ⟨_, rfl, ?_⟩)))
namespace Dk
open PySem PySem.Spec PyProof.Rows L2 Pk Sy
section
variable {K : Kw} {m : Bool} {v : V} {Q : PyData → Prop}
end
section
variable {P : Program} {K : Kw} {mg : Str → Option Value} {base : Heap} {k : Nat}
theorem mod_ix {n : Int} {len : Nat} (h : 1 ≤ len) : ∃ j : Nat, j < len ∧ n % (len : Int) = (j : Int) := by
  have h0 := Int.emod_nonneg n (show (len : Int) ≠ 0 by omega)
  have h1 := Int.emod_lt_of_pos n (show (0 : Int) < len by omega)
  exact ⟨(n % (len : Int)).toNat, by omega, by omega⟩
end
end Dk
end
section
set_option Elab.async false
set_option linter.all false
set_option maxRecDepth 100000
set_option pp.maxSteps 600
open PySem L2 Pk
local macro_rules | `(tactic| walk_at "sh") => `(tactic| first | exact sh_int | exact sh_bool | exact sh_non | exact sh_nil | exact sh_str (by decide +kernel) | assumption)
local macro_rules | `(tactic| walk_at "v1") => `(tactic| first
  | (with_reducible refine wd_int ?_) | (with_reducible refine wd_str ?_) | (with_reducible refine wd_bl ?_) | (with_reducible refine wd_non ?_)
  | ((with_reducible apply wd_var); exact rfl) | ((with_reducible apply wd_varN); exact rfl)
  | ((with_reducible apply wd_ixm); exact rfl)
  | ((with_reducible apply wd_lenM); exact rfl) | ((with_reducible apply wd_lenScript); exact rfl) | ((with_reducible apply wd_ixScript); exact rfl)
  | (with_reducible refine wd_op ?_) | (with_reducible refine wd_un ?_)
  | (with_reducible refine rd_add ?_) | (with_reducible refine rd_sub ?_) | (with_reducible refine rd_lt ?_) | (with_reducible refine rd_le ?_) | (with_reducible refine rd_gt ?_) | (with_reducible refine rd_ge ?_) | (with_reducible refine ru_neg ?_)
  | ((with_reducible refine rd_eq ?ev_h ?ev_k ?_); (case ev_h => walk_at "sh"); (case ev_k => walk_at "sh")) | ((with_reducible refine rd_ne ?ev_h ?ev_k ?_); (case ev_h => walk_at "sh"); (case ev_k => walk_at "sh"))
  | ((with_reducible refine rd_mod ?ev_h ?_); case ev_h => first | decide | assumption | omega) | ((with_reducible refine rd_div ?ev_h ?ev_k ?_); (case ev_h => first | decide | assumption | omega); (case ev_k => first | decide | assumption | omega))
  | ((with_reducible refine rd_pow ?ev_h ?_); case ev_h => exact ⟨by decide, by decide, by decide⟩)
  | ((with_reducible refine rd_mul ?ev_h ?_); case ev_h => first | exact .inr ⟨by decide, by decide⟩ | exact .inl ⟨by decide, by decide⟩ | exact .inl ⟨by omega, by omega⟩ | exact .inr ⟨by omega, by omega⟩)
  | (with_reducible refine rc_lenL ?_) | (with_reducible refine rc_lenT ?_) | (with_reducible refine rc_max2 ?_) | (with_reducible refine rc_min2 ?_) | (with_reducible refine rc_intB ?_) | (with_reducible refine rc_intI ?_) | (with_reducible refine rc_listL ?_) | (with_reducible refine rc_listT ?_) | (with_reducible refine rc_tupleL ?_)
  | ((with_reducible apply rd_ixT); exact rfl)
  | ((with_reducible apply rd_ixL); exact rfl)
  | ((with_reducible refine wd_isi ?ev_h ?_); case ev_h => decide) | ((with_reducible refine wd_isi2 ?ev_h ?ev_k ?_); (case ev_h => decide); (case ev_k => decide))
  | (with_reducible refine wd_tup2 ?_) | (with_reducible refine wd_tup1 ?_) | (with_reducible refine wd_tup3 ?_) | (with_reducible refine wd_tup0 ?_)
  | (with_reducible refine wd_lst0 ?_) | (with_reducible refine wd_lst1 ?_) | (with_reducible refine wd_lst2 ?_) | (with_reducible refine wd_lst3 ?_) | (with_reducible refine wd_lst4 ?_) | (with_reducible refine wd_lst5 ?_) | (with_reducible refine wd_lst6 ?_)
  | ((with_reducible apply wd_callO0); exact rfl) | ((with_reducible apply wd_callO1); exact rfl) | ((with_reducible apply wd_callO2); exact rfl) | ((with_reducible apply wd_callO3); exact rfl)
  | (with_reducible refine wd_call1 ?_) | (with_reducible refine wd_call2 ?_) | (with_reducible refine wd_call3 ?_) | (with_reducible refine wd_call4 ?_) | (with_reducible refine wd_call0 ?_)
  | (with_reducible refine wd_cb1 ?_) | (with_reducible refine wd_cb2 ?_)
  | (with_reducible refine wd_rev ?_) | (with_reducible refine wd_lrg1 ?_) | (with_reducible refine wd_sl ?_) | (with_reducible refine wo_no ?_) | (with_reducible refine wo_some ?_)
  | (with_reducible refine wd_andV ?_) | (with_reducible refine wd_orV ?_) | (with_reducible refine wd_notV ?_) | (with_reducible refine wd_if ?_) | (with_reducible refine wd_chain ?_)
  | (with_reducible refine wt_test ?_) | (with_reducible refine wt_B ?_) | (with_reducible refine wt_not ?_) | (with_reducible refine wt_and ?_) | (with_reducible refine wt_or ?_) | (with_reducible refine wt_yes ?_)
  | (with_reducible refine gj_name ?_) | (with_reducible refine gj_tup rfl ?_) | (with_reducible refine gjs_cons ?_) | (with_reducible refine gjs_nil ?_))
local macro_rules | `(tactic| walk_at "v") => `(tactic| repeat walk_at "v1")
local macro_rules | `(tactic| walk_at "x") => `(tactic| refine ⟨_, rfl, ?_⟩)
local macro_rules | `(tactic| walk_at "vx") => `(tactic| repeat (first | walk_at "v1" | (with_reducible refine ⟨_, rfl, ?_⟩)))
namespace Dk
open PySem PySem.Spec PyProof.Rows L2 Pk Sy
structure MB (m : Nat) (bs : List Str) : Prop where
  m2 : 2 ≤ m
  m16 : m ≤ 16
  bs : BsOk bs
section
variable {K : Kw} {m : Bool} {v : V} {Q : PyData → Prop} {Γ : List Sl}
/-- a box of the boxes, at a drawn place -/
theorem rd_box {bs : List Str} {r : Nat} (h : r < bs.length) (q : ∀ x ∈ bs, Q (.str x)) : RD K m Γ (rIx K) (bsD bs) (.int r) Q := rd_selN r rfl (d := .str bs[r]) (by simp [h]) (q _ (List.getElem_mem h))
end
theorem list_of {α : Type} {f : α → PyData} {Pr : α → Prop} : ∀ {acc : List PyData}, (∀ y ∈ acc, ∃ t, Pr t ∧ y = f t) → ∃ ts : List α, acc = ts.map f ∧ ∀ t ∈ ts, Pr t
  | [], _ => ⟨[], rfl, fun _ z => by cases z⟩
  | y :: acc, h => by
    obtain ⟨t, ht, e⟩ := h y List.mem_cons_self
    obtain ⟨ts, e2, h2⟩ := list_of (acc := acc) fun z hz => h z (List.mem_cons_of_mem _ hz)
    refine ⟨t :: ts, by rw [List.map_cons, e, e2], fun x hx => ?_⟩
    rcases List.mem_cons.mp hx with z | z
    · rw [z]; exact ht
    · exact h2 x z
section
variable {P : Program} {K : Kw} {mg : Str → Option Value} {base : Heap} {k : Nat}
end
end Dk
end
section
set_option Elab.async false
set_option linter.all false
set_option maxRecDepth 100000
set_option pp.maxSteps 600
open PySem L2 Pk
local macro_rules | `(tactic| walk_at "sh") => `(tactic| first | exact sh_int | exact sh_bool | exact sh_non | exact sh_nil | exact sh_str (by decide +kernel) | assumption)
local macro_rules | `(tactic| walk_at "v1") => `(tactic| first
  | (with_reducible refine wd_int ?_) | (with_reducible refine wd_str ?_) | (with_reducible refine wd_bl ?_) | (with_reducible refine wd_non ?_)
  | ((with_reducible apply wd_var); exact rfl) | ((with_reducible apply wd_varN); exact rfl)
  | ((with_reducible apply wd_ixm); exact rfl)
  | ((with_reducible apply wd_lenM); exact rfl) | ((with_reducible apply wd_lenScript); exact rfl) | ((with_reducible apply wd_ixScript); exact rfl)
  | (with_reducible refine wd_op ?_) | (with_reducible refine wd_un ?_)
  | (with_reducible refine rd_add ?_) | (with_reducible refine rd_sub ?_) | (with_reducible refine rd_lt ?_) | (with_reducible refine rd_le ?_) | (with_reducible refine rd_gt ?_) | (with_reducible refine rd_ge ?_) | (with_reducible refine ru_neg ?_)
  | ((with_reducible refine rd_eq ?ev_h ?ev_k ?_); (case ev_h => walk_at "sh"); (case ev_k => walk_at "sh")) | ((with_reducible refine rd_ne ?ev_h ?ev_k ?_); (case ev_h => walk_at "sh"); (case ev_k => walk_at "sh"))
  | ((with_reducible refine rd_mod ?ev_h ?_); case ev_h => first | decide | assumption | omega) | ((with_reducible refine rd_div ?ev_h ?ev_k ?_); (case ev_h => first | decide | assumption | omega); (case ev_k => first | decide | assumption | omega))
  | ((with_reducible refine rd_pow ?ev_h ?_); case ev_h => exact ⟨by decide, by decide, by decide⟩)
  | ((with_reducible refine rd_mul ?ev_h ?_); case ev_h => first | exact .inr ⟨by decide, by decide⟩ | exact .inl ⟨by decide, by decide⟩ | exact .inl ⟨by omega, by omega⟩ | exact .inr ⟨by omega, by omega⟩)
  | (with_reducible refine rc_lenL ?_) | (with_reducible refine rc_lenT ?_) | (with_reducible refine rc_max2 ?_) | (with_reducible refine rc_min2 ?_) | (with_reducible refine rc_intB ?_) | (with_reducible refine rc_intI ?_) | (with_reducible refine rc_listL ?_) | (with_reducible refine rc_listT ?_) | (with_reducible refine rc_tupleL ?_)
  | ((with_reducible apply rd_ixT); exact rfl)
  | ((with_reducible apply rd_ixL); exact rfl)
  | ((with_reducible refine wd_isi ?ev_h ?_); case ev_h => decide) | ((with_reducible refine wd_isi2 ?ev_h ?ev_k ?_); (case ev_h => decide); (case ev_k => decide))
  | (with_reducible refine wd_tup2 ?_) | (with_reducible refine wd_tup1 ?_) | (with_reducible refine wd_tup3 ?_) | (with_reducible refine wd_tup0 ?_)
  | (with_reducible refine wd_lst0 ?_) | (with_reducible refine wd_lst1 ?_) | (with_reducible refine wd_lst2 ?_) | (with_reducible refine wd_lst3 ?_) | (with_reducible refine wd_lst4 ?_) | (with_reducible refine wd_lst5 ?_) | (with_reducible refine wd_lst6 ?_)
  | ((with_reducible apply wd_callO0); exact rfl) | ((with_reducible apply wd_callO1); exact rfl) | ((with_reducible apply wd_callO2); exact rfl) | ((with_reducible apply wd_callO3); exact rfl)
  | (with_reducible refine wd_call1 ?_) | (with_reducible refine wd_call2 ?_) | (with_reducible refine wd_call3 ?_) | (with_reducible refine wd_call4 ?_) | (with_reducible refine wd_call0 ?_)
  | (with_reducible refine wd_cb1 ?_) | (with_reducible refine wd_cb2 ?_)
  | (with_reducible refine wd_rev ?_) | (with_reducible refine wd_lrg1 ?_) | (with_reducible refine wd_sl ?_) | (with_reducible refine wo_no ?_) | (with_reducible refine wo_some ?_)
  | (with_reducible refine wd_andV ?_) | (with_reducible refine wd_orV ?_) | (with_reducible refine wd_notV ?_) | (with_reducible refine wd_if ?_) | (with_reducible refine wd_chain ?_)
  | (with_reducible refine wt_test ?_) | (with_reducible refine wt_B ?_) | (with_reducible refine wt_not ?_) | (with_reducible refine wt_and ?_) | (with_reducible refine wt_or ?_) | (with_reducible refine wt_yes ?_)
  | (with_reducible refine gj_name ?_) | (with_reducible refine gj_tup rfl ?_) | (with_reducible refine gjs_cons ?_) | (with_reducible refine gjs_nil ?_))
local macro_rules | `(tactic| walk_at "v") => `(tactic| repeat walk_at "v1")
local macro_rules | `(tactic| walk_at "x") => `(tactic| refine ⟨_, rfl, ?_⟩)
local macro_rules | `(tactic| walk_at "vx") => `(tactic| repeat (first | walk_at "v1" | (with_reducible refine ⟨_, rfl, ?_⟩)))
namespace Dk
open PySem PySem.Spec PyProof.Rows L2 Pk Sy
section
variable {P : Program} {K : Kw} {mg : Str → Option Value} {base : Heap} {k : Nat}
end
end Dk
end
section
set_option Elab.async false
set_option linter.all false
set_option maxRecDepth 100000
set_option pp.maxSteps 600
open PySem L2 Pk
local macro_rules | `(tactic| walk_at "sh") => `(tactic| first | exact sh_int | exact sh_bool | exact sh_non | exact sh_nil | exact sh_str (by decide +kernel) | assumption)
local macro_rules | `(tactic| walk_at "v1") => `(tactic| first
  | (with_reducible refine wd_int ?_) | (with_reducible refine wd_str ?_) | (with_reducible refine wd_bl ?_) | (with_reducible refine wd_non ?_)
  | ((with_reducible apply wd_var); exact rfl) | ((with_reducible apply wd_varN); exact rfl)
  | ((with_reducible apply wd_ixm); exact rfl)
  | ((with_reducible apply wd_lenM); exact rfl) | ((with_reducible apply wd_lenScript); exact rfl) | ((with_reducible apply wd_ixScript); exact rfl)
  | (with_reducible refine wd_op ?_) | (with_reducible refine wd_un ?_)
  | (with_reducible refine rd_add ?_) | (with_reducible refine rd_sub ?_) | (with_reducible refine rd_lt ?_) | (with_reducible refine rd_le ?_) | (with_reducible refine rd_gt ?_) | (with_reducible refine rd_ge ?_) | (with_reducible refine ru_neg ?_)
  | ((with_reducible refine rd_eq ?ev_h ?ev_k ?_); (case ev_h => walk_at "sh"); (case ev_k => walk_at "sh")) | ((with_reducible refine rd_ne ?ev_h ?ev_k ?_); (case ev_h => walk_at "sh"); (case ev_k => walk_at "sh"))
  | ((with_reducible refine rd_mod ?ev_h ?_); case ev_h => first | decide | assumption | omega) | ((with_reducible refine rd_div ?ev_h ?ev_k ?_); (case ev_h => first | decide | assumption | omega); (case ev_k => first | decide | assumption | omega))
  | ((with_reducible refine rd_pow ?ev_h ?_); case ev_h => exact ⟨by decide, by decide, by decide⟩)
  | ((with_reducible refine rd_mul ?ev_h ?_); case ev_h => first | exact .inr ⟨by decide, by decide⟩ | exact .inl ⟨by decide, by decide⟩ | exact .inl ⟨by omega, by omega⟩ | exact .inr ⟨by omega, by omega⟩)
  | (with_reducible refine rc_lenL ?_) | (with_reducible refine rc_lenT ?_) | (with_reducible refine rc_max2 ?_) | (with_reducible refine rc_min2 ?_) | (with_reducible refine rc_intB ?_) | (with_reducible refine rc_intI ?_) | (with_reducible refine rc_listL ?_) | (with_reducible refine rc_listT ?_) | (with_reducible refine rc_tupleL ?_)
  | ((with_reducible apply rd_ixT); exact rfl)
  | ((with_reducible apply rd_ixL); exact rfl)
  | ((with_reducible refine wd_isi ?ev_h ?_); case ev_h => decide) | ((with_reducible refine wd_isi2 ?ev_h ?ev_k ?_); (case ev_h => decide); (case ev_k => decide))
  | (with_reducible refine wd_tup2 ?_) | (with_reducible refine wd_tup1 ?_) | (with_reducible refine wd_tup3 ?_) | (with_reducible refine wd_tup0 ?_)
  | (with_reducible refine wd_lst0 ?_) | (with_reducible refine wd_lst1 ?_) | (with_reducible refine wd_lst2 ?_) | (with_reducible refine wd_lst3 ?_) | (with_reducible refine wd_lst4 ?_) | (with_reducible refine wd_lst5 ?_) | (with_reducible refine wd_lst6 ?_)
  | ((with_reducible apply wd_callO0); exact rfl) | ((with_reducible apply wd_callO1); exact rfl) | ((with_reducible apply wd_callO2); exact rfl) | ((with_reducible apply wd_callO3); exact rfl)
  | (with_reducible refine wd_call1 ?_) | (with_reducible refine wd_call2 ?_) | (with_reducible refine wd_call3 ?_) | (with_reducible refine wd_call4 ?_) | (with_reducible refine wd_call0 ?_)
  | (with_reducible refine wd_cb1 ?_) | (with_reducible refine wd_cb2 ?_)
  | (with_reducible refine wd_rev ?_) | (with_reducible refine wd_lrg1 ?_) | (with_reducible refine wd_sl ?_) | (with_reducible refine wo_no ?_) | (with_reducible refine wo_some ?_)
  | (with_reducible refine wd_andV ?_) | (with_reducible refine wd_orV ?_) | (with_reducible refine wd_notV ?_) | (with_reducible refine wd_if ?_) | (with_reducible refine wd_chain ?_)
  | (with_reducible refine wt_test ?_) | (with_reducible refine wt_B ?_) | (with_reducible refine wt_not ?_) | (with_reducible refine wt_and ?_) | (with_reducible refine wt_or ?_) | (with_reducible refine wt_yes ?_)
  | (with_reducible refine gj_name ?_) | (with_reducible refine gj_tup rfl ?_) | (with_reducible refine gjs_cons ?_) | (with_reducible refine gjs_nil ?_))
local macro_rules | `(tactic| walk_at "v") => `(tactic| repeat walk_at "v1")
local macro_rules | `(tactic| walk_at "x") => `(tactic| refine ⟨_, rfl, ?_⟩)
local macro_rules | `(tactic| walk_at "vx") => `(tactic| repeat (first | walk_at "v1" | (with_reducible refine ⟨_, rfl, ?_⟩)))
namespace Dk
open PySem PySem.Spec PyProof.Rows L2 Pk Sy Pz
theorem Pg.Ok.mb {p : Pg} (h : p.Ok) : MB p.m p.bs := ⟨h.m2, h.m16, h.bs⟩
section
variable {K : Kw} {m : Bool} {Γ : List Sl} {Q : PyData → Prop}
end
section
variable {P : Program} {K : Kw} {mg : Str → Option Value} {base : Heap} {k : Nat}
end
end Dk
end
section
set_option Elab.async false
set_option linter.all false
set_option maxRecDepth 100000
set_option pp.maxSteps 600
open PySem L2 Pk
local macro_rules | `(tactic| walk_at "sh") => `(tactic| first | exact sh_int | exact sh_bool | exact sh_non | exact sh_nil | exact sh_str (by decide +kernel) | assumption)
local macro_rules | `(tactic| walk_at "v1") => `(tactic| first
  | (with_reducible refine wd_int ?_) | (with_reducible refine wd_str ?_) | (with_reducible refine wd_bl ?_) | (with_reducible refine wd_non ?_)
  | ((with_reducible apply wd_var); exact rfl) | ((with_reducible apply wd_varN); exact rfl)
  | ((with_reducible apply wd_ixm); exact rfl)
  | ((with_reducible apply wd_lenM); exact rfl) | ((with_reducible apply wd_lenScript); exact rfl) | ((with_reducible apply wd_ixScript); exact rfl)
  | (with_reducible refine wd_op ?_) | (with_reducible refine wd_un ?_)
  | (with_reducible refine rd_add ?_) | (with_reducible refine rd_sub ?_) | (with_reducible refine rd_lt ?_) | (with_reducible refine rd_le ?_) | (with_reducible refine rd_gt ?_) | (with_reducible refine rd_ge ?_) | (with_reducible refine ru_neg ?_)
  | ((with_reducible refine rd_eq ?ev_h ?ev_k ?_); (case ev_h => walk_at "sh"); (case ev_k => walk_at "sh")) | ((with_reducible refine rd_ne ?ev_h ?ev_k ?_); (case ev_h => walk_at "sh"); (case ev_k => walk_at "sh"))
  | ((with_reducible refine rd_mod ?ev_h ?_); case ev_h => first | decide | assumption | omega) | ((with_reducible refine rd_div ?ev_h ?ev_k ?_); (case ev_h => first | decide | assumption | omega); (case ev_k => first | decide | assumption | omega))
  | ((with_reducible refine rd_pow ?ev_h ?_); case ev_h => exact ⟨by decide, by decide, by decide⟩)
  | ((with_reducible refine rd_mul ?ev_h ?_); case ev_h => first | exact .inr ⟨by decide, by decide⟩ | exact .inl ⟨by decide, by decide⟩ | exact .inl ⟨by omega, by omega⟩ | exact .inr ⟨by omega, by omega⟩)
  | (with_reducible refine rc_lenL ?_) | (with_reducible refine rc_lenT ?_) | (with_reducible refine rc_max2 ?_) | (with_reducible refine rc_min2 ?_) | (with_reducible refine rc_intB ?_) | (with_reducible refine rc_intI ?_) | (with_reducible refine rc_listL ?_) | (with_reducible refine rc_listT ?_) | (with_reducible refine rc_tupleL ?_)
  | ((with_reducible apply rd_ixT); exact rfl)
  | ((with_reducible apply rd_ixL); exact rfl)
  | ((with_reducible refine wd_isi ?ev_h ?_); case ev_h => decide) | ((with_reducible refine wd_isi2 ?ev_h ?ev_k ?_); (case ev_h => decide); (case ev_k => decide))
  | (with_reducible refine wd_tup2 ?_) | (with_reducible refine wd_tup1 ?_) | (with_reducible refine wd_tup3 ?_) | (with_reducible refine wd_tup0 ?_)
  | (with_reducible refine wd_lst0 ?_) | (with_reducible refine wd_lst1 ?_) | (with_reducible refine wd_lst2 ?_) | (with_reducible refine wd_lst3 ?_) | (with_reducible refine wd_lst4 ?_) | (with_reducible refine wd_lst5 ?_) | (with_reducible refine wd_lst6 ?_)
  | ((with_reducible apply wd_callO0); exact rfl) | ((with_reducible apply wd_callO1); exact rfl) | ((with_reducible apply wd_callO2); exact rfl) | ((with_reducible apply wd_callO3); exact rfl)
  | (with_reducible refine wd_call1 ?_) | (with_reducible refine wd_call2 ?_) | (with_reducible refine wd_call3 ?_) | (with_reducible refine wd_call4 ?_) | (with_reducible refine wd_call0 ?_)
  | (with_reducible refine wd_cb1 ?_) | (with_reducible refine wd_cb2 ?_)
  | (with_reducible refine wd_rev ?_) | (with_reducible refine wd_lrg1 ?_) | (with_reducible refine wd_sl ?_) | (with_reducible refine wo_no ?_) | (with_reducible refine wo_some ?_)
  | (with_reducible refine wd_andV ?_) | (with_reducible refine wd_orV ?_) | (with_reducible refine wd_notV ?_) | (with_reducible refine wd_if ?_) | (with_reducible refine wd_chain ?_)
  | (with_reducible refine wt_test ?_) | (with_reducible refine wt_B ?_) | (with_reducible refine wt_not ?_) | (with_reducible refine wt_and ?_) | (with_reducible refine wt_or ?_) | (with_reducible refine wt_yes ?_)
  | (with_reducible refine gj_name ?_) | (with_reducible refine gj_tup rfl ?_) | (with_reducible refine gjs_cons ?_) | (with_reducible refine gjs_nil ?_))
local macro_rules | `(tactic| walk_at "v") => `(tactic| repeat walk_at "v1")
local macro_rules | `(tactic| walk_at "x") => `(tactic| refine ⟨_, rfl, ?_⟩)
local macro_rules | `(tactic| walk_at "vx") => `(tactic| repeat (first | walk_at "v1" | (with_reducible refine ⟨_, rfl, ?_⟩)))
namespace Dk
open PySem PySem.Spec PyProof.Rows L2 Pk Sy Pz
section
variable {P : Program} {K : Kw} {mg : Str → Option Value} {base : Heap} {k : Nat}
end
end Dk
end
section
set_option Elab.async false
set_option linter.all false
set_option maxRecDepth 100000
namespace Dk
open PySem PySem.Spec PyProof.Rows L2 Pk
def addC (k : Nat) (r : List Nat × Wy) : List Nat × Wy := (k :: r.1, r.2)
/-- the runs of many ways, the first one's choice k -/
def fan (f : Wy → List (List Nat × Wy)) : Nat → List Wy → List (List Nat × Wy)
  | _, [] => []
  | k, w :: ws => (f w).map (addC k) ++ fan f (k + 1) ws
def runs (p : Pg) : Nat → Wy → List (List Nat × Wy)
  | 0, w => [([], w)]
  | n + 1, .place row st => if isPickAt p row = true then fan (runs p n) 0 (ways p row st) else (ways p row st).flatMap (runs p n)
  | _ + 1, e => [([], e)]
def size (p : Pg) : Nat → Wy → Nat
  | 0, _ => 1
  | n + 1, .place row st => 1 + ((ways p row st).map (size p n)).sum
  | _ + 1, _ => 1
/-- what waits: choices so far, the way, fuel -/
structure Wt where
  cs : List Nat
  w : Wy
  n : Nat
def Wt.d (t : Wt) : PyData := .tuple [natsD t.cs, t.w.d]
def preC (cs : List Nat) (r : List Nat × Wy) : List Nat × Wy := (cs ++ r.1, r.2)
def Wt.all (p : Pg) (t : Wt) : List (List Nat × Wy) := (runs p t.n t.w).map (preC t.cs)
/-- what waits is fit: fuel enough, ways of the program, low in the pile -/
structure WtOk (p : Pg) (i : Nat) (t : Wt) : Prop where
  fuel : 30 ≤ t.n + t.w.rowN
  ok : WyOk p t.w
  low : i ≤ 4 * t.w.rowN
  len : t.cs.length ≤ t.w.rowN
end Dk
end
section
set_option Elab.async false
set_option linter.all false
set_option maxRecDepth 100000
namespace Dk
open PySem PySem.Spec PyProof.Rows L2 Pk
def sizeL : List Rw → Nat
  | [] => 1
  | .pick _ ts :: rs => ts.length * sizeL rs
  | _ :: rs => sizeL rs
/-- rows that go on to the next -/
inductive Ne : Rw → Prop
  | set (x : Str) (t : Th) : Ne (.set x t)
  | pick (x : Str) (ts : List Th) : Ne (.pick x ts)
  | need (n : Nat) (h : n ≠ 0) : Ne (.need (.num n))
  | skip (k : Nat) : Ne (.skip (.num 0) k)
end Dk
end
section
set_option Elab.async false
set_option linter.all false
set_option maxRecDepth 100000
namespace Dk
theorem nd_lt : ∀ (N : Nat) (l : List Nat), l.Nodup → (∀ x ∈ l, x < N) → l.length ≤ N
  | 0, l, _, h => by
    cases l with
    | nil => exact Nat.le_refl _
    | cons a l => exact absurd (h a List.mem_cons_self) (Nat.not_lt_zero _)
  | N + 1, l, nd, h => by
    have h1 := nd_lt N (l.erase N) (nd.erase _) fun x hx => by
      have := h x (List.mem_of_mem_erase hx)
      have hne : x ≠ N := fun e => by
        rw [e] at hx
        exact (List.Nodup.mem_erase_iff nd).mp hx |>.1 rfl
      omega
    have h2 : l.length ≤ (l.erase N).length + 1 := by
      rw [List.length_erase]
      split <;> omega
    omega
def wt (p : Pg) (r : Nat) : Nat := sizeL (p.rows.drop r)
end Dk
end
section
set_option Elab.async false
set_option linter.all false
set_option maxRecDepth 100000
namespace Dk
open PySem PySem.Spec PyProof.Rows L2 Pk
theorem dval_pos {p : NestedKey × PyData} {r : NDs} {k : NestedKey} (e : p.1 = k) : dval (p :: r) k = some p.2 := by simp [dval, List.find?_cons, e]
theorem dval_neg {p : NestedKey × PyData} {r : NDs} {k : NestedKey} (e : ¬ p.1 = k) : dval (p :: r) k = dval r k := by simp [dval, List.find?_cons, e]
theorem dval_map (k : NestedKey) (d : PyData) (k' : NestedKey) : ∀ ds : NDs, dval (ds.map fun x => if x.1 = k then (x.1, d) else x) k' = if k' = k then (dval ds k).map (fun _ => d) else dval ds k'
  | [] => by simp [dval]
  | (a, v) :: ds => by
    rw [List.map_cons]
    by_cases h : a = k
    · subst h
      rw [if_pos rfl]
      by_cases e : k' = a
      · subst e
        rw [dval_pos rfl, if_pos rfl, dval_pos rfl]; rfl
      · rw [dval_neg (Ne.symm e), if_neg e, dval_neg (Ne.symm e), dval_map a d k' ds, if_neg e]
    · rw [if_neg h, dval_neg (r := ds) h]
      by_cases e : a = k'
      · subst e
        rw [dval_pos rfl, if_neg h, dval_pos rfl]
      · rw [dval_neg e, dval_map k d k' ds, dval_neg e]
theorem dval_app {k k' : NestedKey} {d : PyData} : ∀ ds : NDs, dval ds k = none → dval (ds ++ [(k, d)]) k' = if k' = k then some d else dval ds k'
  | [], _ => by
    by_cases e : k' = k
    · rw [if_pos e, e]; exact dval_pos rfl
    · rw [if_neg e]; exact dval_neg (Ne.symm e)
  | (a, v) :: ds, h => by
    by_cases ha : a = k
    · rw [dval_pos ha] at h; cases h
    · rw [dval_neg ha] at h
      rw [List.cons_append]
      by_cases e : a = k'
      · subst e
        rw [dval_pos rfl, dval_pos rfl, if_neg ha]
      · rw [dval_neg e, dval_neg e, dval_app ds h]
theorem dval_put (ds : NDs) (k : NestedKey) (d : PyData) (k' : NestedKey) : dval (dput ds k d) k' = if k' = k then some d else dval ds k' := by
  unfold dput
  cases h : dval ds k with
  | none =>
    rw [if_neg (by simp)]
    exact dval_app ds h
  | some v =>
    rw [if_pos (show (some v).isSome = true from rfl), dval_map, h]
    rfl
def stKs (st : List Nat) : List NestedKey := st.map fun (n : Nat) => .num n
abbrev stK (st : List Nat) : NestedKey := .tup (stKs st)
theorem stK_inj {a b : List Nat} (h : stK a = stK b) : a = b := by
  have h' : stKs a = stKs b := by injection h
  unfold stKs at h'
  exact (List.map_inj_right (fun x y e => by injection e with e; omega)).mp h'
def wyKs : Wy → List NestedKey
  | .place r s => [.num r, stK s]
  | .gives n => [.text "gives", .num n]
  | .nothing => [.text "nothing"]
abbrev wyK (w : Wy) : NestedKey := .tup (wyKs w)
theorem wyK_inj {a b : Wy} (h : wyK a = wyK b) : a = b := by
  have h' : wyKs a = wyKs b := by injection h
  cases a with
  | place r s =>
    cases b with
    | place r' s' =>
      simp only [wyKs, List.cons.injEq, NestedKey.num.injEq, and_true] at h'
      have e1 : r = r' := by omega
      rw [e1, stK_inj h'.2]
    | gives n => simp [wyKs] at h'
    | nothing => simp [wyKs] at h'
  | gives n =>
    cases b with
    | place r' s' => simp [wyKs] at h'
    | gives n' =>
      simp only [wyKs, List.cons.injEq, NestedKey.num.injEq, and_true, true_and] at h'
      have : n = n' := by omega
      rw [this]
    | nothing => simp [wyKs] at h'
  | nothing =>
    cases b with
    | place r' s' => simp [wyKs] at h'
    | gives n' => simp [wyKs] at h'
    | nothing => rfl
abbrev Cn := List (Wy × Nat)
def cval (l : Cn) (w : Wy) : Option Nat := (l.find? fun x => decide (x.1 = w)).map (·.2)
def cput (l : Cn) (w : Wy) (n : Nat) : Cn := if (cval l w).isSome then l.map (fun x => if x.1 = w then (x.1, n) else x) else l ++ [(w, n)]
def cadd (l : Cn) (x : Wy × Nat) : Cn := cput l x.1 ((cval l x.1).getD 0 + x.2)
def cD (l : Cn) : NDs := l.map fun x => (wyK x.1, .int x.2)
def cnt (p : Pg) : Nat → Wy → Cn
  | 0, _ => []
  | n + 1, .place r s => (lways p r s).foldl (fun acc w => (cnt p n w).foldl cadd acc) []
  | _ + 1, e => [(e, 1)]
/-- the ends' counts from a place -/
def cn (p : Pg) (w : Wy) : Cn := cnt p 32 w
def LwOk (p : Pg) : Wy → Prop
  | .place r s => r ≤ p.rows.length ∧ StOk p.m p.bs s
  | .gives n => n < p.m
  | .nothing => True
/-- the ends are ends, each once -/
structure CnOk (p : Pg) (l : Cn) : Prop where
  nd : (l.map (·.1)).Nodup
  e : ∀ x ∈ l, x.1.isPl = false ∧ LwOk p x.1
theorem CnOk.keys {p : Pg} {l : Cn} (h : CnOk p l) : ∀ w ∈ l.map (·.1), w.isPl = false ∧ LwOk p w := fun w hw => by
  obtain ⟨x, hx, rfl⟩ := List.mem_map.mp hw
  exact h.e x hx
def wcode (m : Nat) : Wy → Nat
  | .gives n => n
  | _ => m
theorem CnOk.len {p : Pg} {l : Cn} (h : CnOk p l) : l.length ≤ p.m + 1 := by
  have h1 : ((l.map (·.1)).map (wcode p.m)).Nodup := by
    refine List.pairwise_map.mpr (h.nd.imp_of_mem fun {a b} ha hb hne e => hne ?_)
    have oa := h.keys a ha
    have ob := h.keys b hb
    cases a with
    | place r s => cases oa.1
    | gives n =>
      cases b with
      | place r s => cases ob.1
      | gives n' => have e' : n = n' := e; rw [e']
      | nothing => have e' : n = p.m := e; have : n < p.m := oa.2; omega
    | nothing =>
      cases b with
      | place r s => cases ob.1
      | gives n' => have e' : p.m = n' := e; have : n' < p.m := ob.2; omega
      | nothing => rfl
  have h2 := nd_lt (p.m + 1) _ h1 fun x hx => by
    obtain ⟨w, hw, rfl⟩ := List.mem_map.mp hx
    have ow := h.keys w hw
    cases w with
    | place r s => cases ow.1
    | gives n => have : n < p.m := ow.2; show n < p.m + 1; omega
    | nothing => show p.m < p.m + 1; omega
  simpa using h2
end Dk
end
section
set_option Elab.async false
set_option linter.all false
set_option maxRecDepth 100000
namespace Dk
open PySem PySem.Spec PyProof.Rows L2 Pk
/-- what is told of places from a row on -/
def Cts (p : Pg) (nss : Sts) (n top : Nat) (ds : NDs) : Prop := ∀ r, n ≤ r → r < top → ∀ s ∈ gt nss r, dval ds (wyK (.place r s)) = some (dictN (cD (cn p (.place r s))))
theorem Cts.put {p : Pg} {nss : Sts} {n top : Nat} {ds : NDs} (h : Cts p nss n top ds) (r : Nat) (s : List Nat) : Cts p nss n top (dput ds (wyK (.place r s)) (dictN (cD (cn p (.place r s))))) := fun r' h1 h2 s' hs => by
  rw [dval_put]
  by_cases e : wyK (.place r' s') = wyK (.place r s)
  · rw [if_pos e]
    have e' := wyK_inj e
    rw [e']
  · rw [if_neg e]
    exact h r' h1 h2 s' hs
instance : Inhabited Wy := ⟨.nothing⟩
def gv : Wy → Option Nat
  | .gives n => some n
  | _ => none
/-- the answers of some ends -/
def gvs (l : Cn) : List Nat := (l.map (·.1)).filterMap gv
/-- rising, each of the answers once -/
def Rising (l : Cn) (ns : List Nat) : Prop := ns.Perm (gvs l) ∧ ns.Pairwise (· ≤ ·)
theorem Rising.eq {l : Cn} {a b : List Nat} (ha : Rising l a) (hb : Rising l b) : a = b :=
  List.Perm.eq_of_pairwise (fun x y _ _ h1 h2 => Nat.le_antisymm h1 h2) ha.2 hb.2 (ha.1.trans hb.1.symm)
end Dk
end
section
set_option Elab.async false
set_option linter.all false
set_option maxRecDepth 100000
set_option pp.maxSteps 600
open PySem L2 Pk
local macro_rules | `(tactic| walk_at "sh") => `(tactic| first | exact sh_int | exact sh_bool | exact sh_non | exact sh_nil | exact sh_str (by decide +kernel) | assumption)
local macro_rules | `(tactic| walk_at "v1") => `(tactic| first
  | (with_reducible refine wd_int ?_) | (with_reducible refine wd_str ?_) | (with_reducible refine wd_bl ?_) | (with_reducible refine wd_non ?_)
  | ((with_reducible apply wd_var); exact rfl) | ((with_reducible apply wd_varN); exact rfl)
  | ((with_reducible apply wd_ixm); exact rfl)
  | ((with_reducible apply wd_lenM); exact rfl) | ((with_reducible apply wd_lenScript); exact rfl) | ((with_reducible apply wd_ixScript); exact rfl)
  | (with_reducible refine wd_op ?_) | (with_reducible refine wd_un ?_)
  | (with_reducible refine rd_add ?_) | (with_reducible refine rd_sub ?_) | (with_reducible refine rd_lt ?_) | (with_reducible refine rd_le ?_) | (with_reducible refine rd_gt ?_) | (with_reducible refine rd_ge ?_) | (with_reducible refine ru_neg ?_)
  | ((with_reducible refine rd_eq ?ev_h ?ev_k ?_); (case ev_h => walk_at "sh"); (case ev_k => walk_at "sh")) | ((with_reducible refine rd_ne ?ev_h ?ev_k ?_); (case ev_h => walk_at "sh"); (case ev_k => walk_at "sh"))
  | ((with_reducible refine rd_mod ?ev_h ?_); case ev_h => first | decide | assumption | omega) | ((with_reducible refine rd_div ?ev_h ?ev_k ?_); (case ev_h => first | decide | assumption | omega); (case ev_k => first | decide | assumption | omega))
  | ((with_reducible refine rd_pow ?ev_h ?_); case ev_h => exact ⟨by decide, by decide, by decide⟩)
  | ((with_reducible refine rd_mul ?ev_h ?_); case ev_h => first | exact .inr ⟨by decide, by decide⟩ | exact .inl ⟨by decide, by decide⟩ | exact .inl ⟨by omega, by omega⟩ | exact .inr ⟨by omega, by omega⟩)
  | (with_reducible refine rc_lenL ?_) | (with_reducible refine rc_lenT ?_) | (with_reducible refine rc_max2 ?_) | (with_reducible refine rc_min2 ?_) | (with_reducible refine rc_intB ?_) | (with_reducible refine rc_intI ?_) | (with_reducible refine rc_listL ?_) | (with_reducible refine rc_listT ?_) | (with_reducible refine rc_tupleL ?_)
  | ((with_reducible apply rd_ixT); exact rfl)
  | ((with_reducible apply rd_ixL); exact rfl)
  | ((with_reducible refine wd_isi ?ev_h ?_); case ev_h => decide) | ((with_reducible refine wd_isi2 ?ev_h ?ev_k ?_); (case ev_h => decide); (case ev_k => decide))
  | (with_reducible refine wd_tup2 ?_) | (with_reducible refine wd_tup1 ?_) | (with_reducible refine wd_tup3 ?_) | (with_reducible refine wd_tup0 ?_)
  | (with_reducible refine wd_lst0 ?_) | (with_reducible refine wd_lst1 ?_) | (with_reducible refine wd_lst2 ?_) | (with_reducible refine wd_lst3 ?_) | (with_reducible refine wd_lst4 ?_) | (with_reducible refine wd_lst5 ?_) | (with_reducible refine wd_lst6 ?_)
  | ((with_reducible apply wd_callO0); exact rfl) | ((with_reducible apply wd_callO1); exact rfl) | ((with_reducible apply wd_callO2); exact rfl) | ((with_reducible apply wd_callO3); exact rfl)
  | (with_reducible refine wd_call1 ?_) | (with_reducible refine wd_call2 ?_) | (with_reducible refine wd_call3 ?_) | (with_reducible refine wd_call4 ?_) | (with_reducible refine wd_call0 ?_)
  | (with_reducible refine wd_cb1 ?_) | (with_reducible refine wd_cb2 ?_)
  | (with_reducible refine wd_rev ?_) | (with_reducible refine wd_lrg1 ?_) | (with_reducible refine wd_sl ?_) | (with_reducible refine wo_no ?_) | (with_reducible refine wo_some ?_)
  | (with_reducible refine wd_andV ?_) | (with_reducible refine wd_orV ?_) | (with_reducible refine wd_notV ?_) | (with_reducible refine wd_if ?_) | (with_reducible refine wd_chain ?_)
  | (with_reducible refine wt_test ?_) | (with_reducible refine wt_B ?_) | (with_reducible refine wt_not ?_) | (with_reducible refine wt_and ?_) | (with_reducible refine wt_or ?_) | (with_reducible refine wt_yes ?_)
  | (with_reducible refine gj_name ?_) | (with_reducible refine gj_tup rfl ?_) | (with_reducible refine gjs_cons ?_) | (with_reducible refine gjs_nil ?_))
local macro_rules | `(tactic| walk_at "v") => `(tactic| repeat walk_at "v1")
local macro_rules | `(tactic| walk_at "x") => `(tactic| refine ⟨_, rfl, ?_⟩)
local macro_rules | `(tactic| walk_at "vx") => `(tactic| repeat (first | walk_at "v1" | (with_reducible refine ⟨_, rfl, ?_⟩)))
namespace Dk
open PySem PySem.Spec PyProof.Rows L2 Pk Sy
theorem rd_gbox {K : Kw} {m : Bool} {Γ : List Sl} {Q : PyData → Prop} {bs : List Str} {n : Int} (h : 1 ≤ bs.length) (q : ∀ x ∈ bs, Q (.str x)) : RD K m Γ (rIx K) (bsD bs) (.int (n % (bs.length : Int))) Q := by
  obtain ⟨j, hj, e⟩ := mod_ix (n := n) h
  rw [e]
  exact rd_box hj q
section
variable {P : Program} {K : Kw} {mg : Str → Option Value} {base : Heap} {k : Nat}
end
end Dk
end
section
set_option Elab.async false
set_option linter.all false
set_option maxRecDepth 100000
set_option pp.maxSteps 600
open PySem L2 Pk
local macro_rules | `(tactic| walk_at "sh") => `(tactic| first | exact sh_int | exact sh_bool | exact sh_non | exact sh_nil | exact sh_str (by decide +kernel) | assumption)
local macro_rules | `(tactic| walk_at "v1") => `(tactic| first
  | (with_reducible refine wd_int ?_) | (with_reducible refine wd_str ?_) | (with_reducible refine wd_bl ?_) | (with_reducible refine wd_non ?_)
  | ((with_reducible apply wd_var); exact rfl) | ((with_reducible apply wd_varN); exact rfl)
  | ((with_reducible apply wd_ixm); exact rfl)
  | ((with_reducible apply wd_lenM); exact rfl) | ((with_reducible apply wd_lenScript); exact rfl) | ((with_reducible apply wd_ixScript); exact rfl)
  | (with_reducible refine wd_op ?_) | (with_reducible refine wd_un ?_)
  | (with_reducible refine rd_add ?_) | (with_reducible refine rd_sub ?_) | (with_reducible refine rd_lt ?_) | (with_reducible refine rd_le ?_) | (with_reducible refine rd_gt ?_) | (with_reducible refine rd_ge ?_) | (with_reducible refine ru_neg ?_)
  | ((with_reducible refine rd_eq ?ev_h ?ev_k ?_); (case ev_h => walk_at "sh"); (case ev_k => walk_at "sh")) | ((with_reducible refine rd_ne ?ev_h ?ev_k ?_); (case ev_h => walk_at "sh"); (case ev_k => walk_at "sh"))
  | ((with_reducible refine rd_mod ?ev_h ?_); case ev_h => first | decide | assumption | omega) | ((with_reducible refine rd_div ?ev_h ?ev_k ?_); (case ev_h => first | decide | assumption | omega); (case ev_k => first | decide | assumption | omega))
  | ((with_reducible refine rd_pow ?ev_h ?_); case ev_h => exact ⟨by decide, by decide, by decide⟩)
  | ((with_reducible refine rd_mul ?ev_h ?_); case ev_h => first | exact .inr ⟨by decide, by decide⟩ | exact .inl ⟨by decide, by decide⟩ | exact .inl ⟨by omega, by omega⟩ | exact .inr ⟨by omega, by omega⟩)
  | (with_reducible refine rc_lenL ?_) | (with_reducible refine rc_lenT ?_) | (with_reducible refine rc_max2 ?_) | (with_reducible refine rc_min2 ?_) | (with_reducible refine rc_intB ?_) | (with_reducible refine rc_intI ?_) | (with_reducible refine rc_listL ?_) | (with_reducible refine rc_listT ?_) | (with_reducible refine rc_tupleL ?_)
  | ((with_reducible apply rd_ixT); exact rfl)
  | ((with_reducible apply rd_ixL); exact rfl)
  | ((with_reducible refine wd_isi ?ev_h ?_); case ev_h => decide) | ((with_reducible refine wd_isi2 ?ev_h ?ev_k ?_); (case ev_h => decide); (case ev_k => decide))
  | (with_reducible refine wd_tup2 ?_) | (with_reducible refine wd_tup1 ?_) | (with_reducible refine wd_tup3 ?_) | (with_reducible refine wd_tup0 ?_)
  | (with_reducible refine wd_lst0 ?_) | (with_reducible refine wd_lst1 ?_) | (with_reducible refine wd_lst2 ?_) | (with_reducible refine wd_lst3 ?_) | (with_reducible refine wd_lst4 ?_) | (with_reducible refine wd_lst5 ?_) | (with_reducible refine wd_lst6 ?_)
  | ((with_reducible apply wd_callO0); exact rfl) | ((with_reducible apply wd_callO1); exact rfl) | ((with_reducible apply wd_callO2); exact rfl) | ((with_reducible apply wd_callO3); exact rfl)
  | (with_reducible refine wd_call1 ?_) | (with_reducible refine wd_call2 ?_) | (with_reducible refine wd_call3 ?_) | (with_reducible refine wd_call4 ?_) | (with_reducible refine wd_call0 ?_)
  | (with_reducible refine wd_cb1 ?_) | (with_reducible refine wd_cb2 ?_)
  | (with_reducible refine wd_rev ?_) | (with_reducible refine wd_lrg1 ?_) | (with_reducible refine wd_sl ?_) | (with_reducible refine wo_no ?_) | (with_reducible refine wo_some ?_)
  | (with_reducible refine wd_andV ?_) | (with_reducible refine wd_orV ?_) | (with_reducible refine wd_notV ?_) | (with_reducible refine wd_if ?_) | (with_reducible refine wd_chain ?_)
  | (with_reducible refine wt_test ?_) | (with_reducible refine wt_B ?_) | (with_reducible refine wt_not ?_) | (with_reducible refine wt_and ?_) | (with_reducible refine wt_or ?_) | (with_reducible refine wt_yes ?_)
  | (with_reducible refine gj_name ?_) | (with_reducible refine gj_tup rfl ?_) | (with_reducible refine gjs_cons ?_) | (with_reducible refine gjs_nil ?_))
local macro_rules | `(tactic| walk_at "v") => `(tactic| repeat walk_at "v1")
local macro_rules | `(tactic| walk_at "x") => `(tactic| refine ⟨_, rfl, ?_⟩)
local macro_rules | `(tactic| walk_at "vx") => `(tactic| repeat (first | walk_at "v1" | (with_reducible refine ⟨_, rfl, ?_⟩)))
namespace Dk
open PySem PySem.Spec PyProof.Rows L2 Pk Sy
def DeP (ns : List Int) : Prop := ∀ n ∈ ns, 0 ≤ n ∧ n < 2147483648
abbrev DeckL (K : Kw) : Own := OwnL K DeP
def T_cellat (K : Kw) : List Sl → (Sl → Prop) → Prop := fun Γ Q => ∃ v ns k, Γ = [.ex v (ScriptO K ns), .dat false (.int k)] ∧ 0 ≤ k ∧ ∀ c, Q (.dat true (.int c))
def T_stir (K : Kw) : List Sl → (Sl → Prop) → Prop := fun Γ Q => ∃ c k, Γ = [.dat false (.int c), .dat false (.int k)] ∧ 0 ≤ k ∧ k < 1000 ∧ ∀ r, 0 ≤ r → r < 2147483648 → Q (.dat true (.int r))
def T_edeck (K : Kw) : List Sl → (Sl → Prop) → Prop := fun Γ Q => ∃ c, ∃ many : Nat, Γ = [.dat false (.int c), .dat false (.int many)] ∧ many ≤ 1000 ∧ ∀ l ns, DeP ns → Q (.ml false l (ns.map PyData.int))
def T_next (K : Kw) : List Sl → (Sl → Prop) → Prop := fun Γ Q => ∃ v, Γ = [.ex v (DeckL K)] ∧ ∀ r, 0 ≤ r → r < 2147483648 → Q (.dat true (.int r))
def T_ething (n : Nat) (K : Kw) : List Sl → (Sl → Prop) → Prop := fun Γ Q => ∃ v, ∃ m : Nat, ∃ bs, ∃ deep : Nat, Γ = [.ex v (DeckL K), .dat false (.int m), .dat false (bsD bs), .dat false (.int deep)] ∧ MB m bs ∧ 1 ≤ deep ∧ deep ≤ n ∧ ∀ t : Th, t.Ok m bs deep → Q (.dat true t.d)
def T_eboxes (K : Kw) : List Sl → (Sl → Prop) → Prop := fun Γ Q => ∃ v, Γ = [.ex v (DeckL K)] ∧ ∀ m bs, MB m bs → Q (.dat false (.tuple [.int m, bsD bs]))
section
variable {K : Kw} {mm : Bool} {v : V} {Q : PyData → Prop}
theorem use_next (q : ∀ r, 0 ≤ r → Q (.int r)) : T_next K [.ex v (DeckL K)] (asD mm Q) := ⟨v, rfl, fun r h _ => asD_new (q r h)⟩
theorem use_ething {N m deep : Nat} {bs : List Str} (h : MB m bs) (h1 : 1 ≤ deep) (hn : deep ≤ N) (q : ∀ t : Th, t.Ok m bs deep → Q t.d) : T_ething N K [.ex v (DeckL K), .dat false (.int m), .dat false (bsD bs), .dat false (.int deep)] (asD mm Q) := ⟨v, m, bs, deep, rfl, h, h1, hn, fun t ht => asD_new (q t ht)⟩
end
theorem intsL_sh (ns : List Int) : SeqAt.shaped (.list (ns.map PyData.int)) = true := sh_of (n := 1) (fun x hx => by
  obtain ⟨n, _, rfl⟩ := List.mem_map.mp hx
  exact True.intro) (by decide)
theorem eqv_nilE (ys : List PyData) : PyData.eqv (.list ys) (.list []) = ys.isEmpty := by cases ys <;> rfl
theorem Th.ok_num' {m n deep : Nat} {bs : List Str} (h : n < m) (hd : 1 ≤ deep) : (Th.num n).Ok m bs deep := by
  obtain ⟨j, rfl⟩ := Nat.exists_eq_add_of_le hd
  rw [Nat.add_comm]
  exact h
theorem Th.ok_box' {m deep : Nat} {bs : List Str} {x : Str} (h : x ∈ bs) (hd : 1 ≤ deep) : (Th.box x).Ok m bs deep := by
  obtain ⟨j, rfl⟩ := Nat.exists_eq_add_of_le hd
  rw [Nat.add_comm]
  exact h
section
variable {P : Program} {K : Kw} {mg : Str → Option Value} {base : Heap} {k : Nat}
theorem ok_cellat (D : Def K mg "_law_cell_at" s_l_cell_at ["script", "k"]) (m_len : mg "len" = none) : Cal P K.w K mg base CX0 (k + 1) "_law_cell_at" ["script", "k"] (spG K (T_cellat K)) := by
  refine cal_g D sc_l_cell_at (fun Γ Qr ⟨v, ns, k, e, _⟩ => by subst e; exact ⟨rfl, noMl_ex (noMl_dat noMl_nil)⟩) fun f cdv A outer s H E hr => ⟨_, wk_l_cell_at m_len f cdv A outer s H E hr, ?_⟩
  rintro Γ Qr ⟨v, ns, k, rfl, h0, q⟩
  show SJ K [.ex v (ScriptO K ns), .dat false (.int k)] (t_l_cell_at K) _
  unfold t_l_cell_at
  refine sj_seq (sj_if ?_)
  walk_at "v"
  walk_at "x"
  refine iteD (fun hlt => ?_) (fun hge => ?_)
  · refine sj_retD true (wd_lf ?_)
    walk_at "v"
    have hk : k.toNat < ns.length := by omega
    refine ⟨k, ns[k.toNat], rfl, atI_of (n := k.toNat) (by omega) (by simp [hk]), rfl, keep_ex (keep_dat keep_nil), q _⟩
  · refine sj_next ?_
    exact sj_retD true (wd_int ⟨keep_ex (keep_dat keep_nil), q _⟩)
theorem ok_stir (D : Def K mg "_law_stir" s_l_stir ["cell", "k"]) : Cal P K.w K mg base CX0 (k + 1) "_law_stir" ["cell", "k"] (spG K (T_stir K)) := by
  refine cal_g D sc_l_stir (fun Γ Qr ⟨c, k, e, _⟩ => by subst e; exact ⟨rfl, noMl_dat (noMl_dat noMl_nil)⟩) fun f cdv A outer s H E hr => ⟨_, wk_l_stir f cdv A outer s H E hr, ?_⟩
  rintro Γ Qr ⟨c, k, rfl, h0, h1, q⟩
  show SJ K [.dat false (.int c), .dat false (.int k), .no] (t_l_stir K) _
  unfold t_l_stir
  refine sj_seq (sj_set false ?_)
  walk_at "v"
  generalize hy : (c % 2147483629 + 9973 * k + 5) * 48271 % 2147483647 = y
  have hy0 : 0 ≤ y := by omega
  have hy1 : y < 2147483647 := by omega
  refine sj_seq (sj_set false (wd_op (wd_op (wd_var (d := .int y) rfl (wd_var (d := .int y) rfl (rd_mul (.inl ⟨by omega, by omega⟩) (wd_int (rd_mod (by decide) ?_))))))))
  generalize hz : y * y % 2147483587 = z
  refine sj_retD true (wd_lf ?_)
  walk_at "v"
  refine ⟨rfl, keep_dat (keep_dat keep_nil), q _ ?_ ?_⟩ <;> omega
theorem ok_edeck (D : Def K mg "_law_deck" s_l_deck ["cell", "many"]) (c_stir : Cal P K.w K mg base CX0 k "_law_stir" ["cell", "k"] (spG K (T_stir K))) (m_range : mg "range" = none) : Cal P K.w K mg base CX0 (k + 1) "_law_deck" ["cell", "many"] (spG K (T_edeck K)) := by
  refine cal_g D sc_l_deck (fun Γ Qr ⟨c, many, e, _⟩ => by subst e; exact ⟨rfl, noMl_dat (noMl_dat noMl_nil)⟩) fun f cdv A outer s H E hr => ⟨_, wk_l_deck c_stir m_range f cdv A outer s H E hr, ?_⟩
  rintro Γ Qr ⟨c, many, rfl, hm, q⟩
  show SJ K [.dat false (.int c), .dat false (.int many), .no, .no, .no, .no] (t_l_deck K _) _
  unfold t_l_deck
  refine sj_seq (sj_setX (wx_lst0 false fun l => ?_))
  refine sj_seq (sj_set false (wd_var rfl ?_))
  show SJ K [.dat false (.int c), .dat false (.int many), .ml false l (([] : List Int).map PyData.int), .dat false (.int c), .no, .no] _ _
  refine sj_cut (fun Γ' => ∃ (ns : List Int) (s3 s4 s5 : Sl), DeP ns ∧ Γ' = [.dat false (.int c), .dat false (.int many), .ml false l (ns.map PyData.int), s3, s4, s5]) ?_ ?_
  · refine sj_for false (wi_rng (wd_var rfl ⟨_, rfl, ⟨by omega, by omega⟩, fun i Γ' => ∃ (ns : List Int) (g : Int) (s4 s5 : Sl), ns.length = i ∧ DeP ns ∧ Γ' = [.dat false (.int c), .dat false (.int many), .ml false l (ns.map PyData.int), .dat false (.int g), s4, s5], ⟨[], c, .no, .no, rfl, (fun _ h => (by cases h)), rfl⟩, ?_, fun Γ' ⟨ns, g, s4, s5, _, h, e⟩ => ⟨ns, _, _, _, h, e⟩⟩))
    rintro i d Γ' hd ⟨ns, g, s4, s5, hl, hns, rfl⟩
    obtain ⟨hi, rfl⟩ := rangeD_of hd
    have hi' : i < many := by omega
    refine gj_name (sj_seq (sj_set false (wd_call2 (wd_var rfl (wd_var rfl ⟨c, _, rfl, by omega, by omega, fun r hr hr2 => asD_new ?_⟩)))))
    refine sj_cut (fun Γ' => ∃ r : Int, (0 ≤ r ∧ r < 2147483648) ∧ Γ' = [.dat false (.int c), .dat false (.int many), .ml false l (ns.map PyData.int), .dat false (.int g), .dat false (.int (0 + (i : Int))), .dat false (.int r)]) (sj_if ?_) ?_
    · walk_at "v"
      refine ⟨_, rfl, iteD (fun _ => sj_set false ?_) (fun _ => sj_next ⟨r, ⟨hr, hr2⟩, rfl⟩)⟩
      walk_at "v"
      exact ⟨_, ⟨Int.emod_nonneg _ (by decide), Int.lt_trans (Int.emod_lt_of_pos _ (by decide)) (by decide)⟩, rfl⟩
    rintro _ ⟨r, hr, rfl⟩
    refine sj_seq (sj_set false ?_)
    walk_at "v"
    refine sj_app (i := 2) (l := l) (ds := ns.map PyData.int) rfl (by rw [List.length_map]; omega) (wd_var (d := .int r) rfl ?_)
    refine ⟨ns ++ [r], g / 720720, _, _, by simp [hl], fun x hx => ?_, by simp; exact ⟨rfl, rfl⟩⟩
    rcases List.mem_append.mp hx with h | h
    · exact hns x h
    · rw [List.mem_singleton.mp h]; exact hr
  rintro _ ⟨ns, s3, s4, s5, hns, rfl⟩
  refine sj_frz 2 (l := l) (m := false) (ds := ns.map PyData.int) rfl ?_
  refine sj_ret (wx_rev false (wd_var rfl ⟨_, rfl, fun lr => ⟨keep_dat (keep_dat keep_nil), ?_⟩⟩))
  rw [← List.map_reverse]
  exact q lr ns.reverse fun n hn => hns n (List.mem_reverse.mp hn)
theorem ok_next (D : Def K mg "_law_next" s_l_next ["deck"]) : Cal P K.w K mg base CX0 (k + 1) "_law_next" ["deck"] (spG K (T_next K)) := by
  refine cal_g D sc_l_next (fun Γ Qr ⟨v, e, _⟩ => by subst e; exact ⟨rfl, noMl_ex noMl_nil⟩) fun f cdv A outer s H E hr => ⟨_, wk_l_next f cdv A outer s H E hr, ?_⟩
  rintro Γ Qr ⟨v, rfl, q⟩
  show SJ K [.ex v (DeckL K)] (t_l_next K) _
  unfold t_l_next
  refine sj_open 0 (v := v) (PL := DeP) rfl fun l ns ev hp => ?_
  subst ev
  show SJ K [.ml false l (ns.map PyData.int)] _ _
  refine sj_seq (sj_if (wt_thaw ?_))
  show WT K [.dat false (.list (ns.map PyData.int))] _ _
  refine wt_test (wd_op (wd_var rfl (wd_lst0 (rd_eq (intsL_sh ns) sh_nil ⟨_, rfl, ?_⟩))))
  rw [eqv_nilE]
  rcases List.eq_nil_or_concat ns with e | ⟨ns0, n, e⟩
  · subst e
    refine iteT' rfl ?_
    show SJ K [.ml false l (([] : List Int).map PyData.int)] _ _
    refine sj_close 0 (l := l) (m := false) (ns := []) DeP rfl hp ?_
    exact sj_retD true (wd_int ⟨keep_ex keep_nil, q 0 (Int.le_refl _) (by decide)⟩)
  · subst e
    rw [List.concat_eq_append] at hp ⊢
    refine iteF' (by simp) (sj_next ?_)
    exact sj_retPop (i := 0) (l := l) (ns := ns0) (n := n) DeP rfl (fun x hx => hp x (List.mem_append.mpr (.inl hx))) ⟨keep_ex keep_nil, q n (hp n (by simp)).1 (hp n (by simp)).2⟩
theorem ok_ething (D : Def K mg "_law_thing" s_l_thing ["deck", "m", "boxes", "deep"]) (c_next : Cal P K.w K mg base CX0 k "_law_next" ["deck"] (spG K (T_next K))) (m_len : mg "len" = none) : ∀ n, Cal P K.w K mg base CX0 (k + n) "_law_thing" ["deck", "m", "boxes", "deep"] (spG K (T_ething n K))
  | 0 => by
    refine (cal_no D).imp fun vs H Q E h => ?_
    obtain ⟨_, _, _, _, _, _, _, _, _, ⟨v, m, bs, deep, _, _, h1, h0, _⟩, _⟩ := h
    omega
  | n + 1 => by
    have ih := ok_ething D c_next m_len n
    refine cal_g D sc_l_thing (fun Γ Qr ⟨v, m, bs, deep, e, _⟩ => by subst e; exact ⟨rfl, noMl_ex (noMl_dat (noMl_dat (noMl_dat noMl_nil)))⟩) fun f cdv A outer s H E hr => ⟨_, wk_l_thing ih (c_next.mono (by omega)) m_len f cdv A outer s H E hr, ?_⟩
    rintro Γ Qr ⟨v, m, bs, deep, rfl, hmb, hd1, hdn, q⟩
    have hl0 := hmb.bs.len0
    have hm2 := hmb.m2
    have hm16 := hmb.m16
    have kp : ∀ {Γ'}, Keep [.ex v (DeckL K), .dat false (.int m), .dat false (bsD bs), .dat false (.int deep)] (.ex v (DeckL K) :: .dat false (.int m) :: .dat false (bsD bs) :: .dat false (.int deep) :: Γ') := fun {Γ'} => keep_ex (keep_dat (keep_dat (keep_dat keep_nil)))
    show SJ K [.ex v (DeckL K), .dat false (.int m), .dat false (bsD bs), .dat false (.int deep), .no, .no] (t_l_thing K _ _) _
    unfold t_l_thing
    refine sj_seq (sj_set false (wd_op (wd_callO0 (i := 0) (v := v) rfl (use_next fun r0 hr0 => wd_int (rd_mod (by decide) ?_)))))
    have w0 := Int.emod_nonneg r0 (b := 8) (by decide)
    have w8 := Int.emod_lt_of_pos r0 (b := 8) (by decide)
    generalize r0 % 8 = w at w0 w8
    refine sj_cut (fun Γ' => 2 ≤ deep ∧ 2 ≤ w ∧ Γ' = [.ex v (DeckL K), .dat false (.int m), .dat false (bsD bs), .dat false (.int deep), .dat false (.int w), .no]) (sj_if ?_) ?_
    · have leaf : SJ K [.ex v (DeckL K), .dat false (.int m), .dat false (bsD bs), .dat false (.int deep), .dat false (.int w), .no] (tSeq (tIfS (tTest (tOp (dEq K) (tOp dMod (tCall (spG K (T_next K)) [] E0 (tCons (tVar 0) tNil)) (tC (.int 2))) (tC (.int 0)))) (tRet (tTup (tCons (tC (.str "number")) (tCons (tOp dMod (tCall (spG K (T_next K)) [] E0 (tCons (tVar 0) tNil)) (tVar 1)) tNil)))) tNext) (tRet (tTup (tCons (tC (.str "box")) (tCons (tOp (rIx K) (tVar 2) (tOp dMod (tCall (spG K (T_next K)) [] E0 (tCons (tVar 0) tNil)) (tCB (dLen K) (tCons (tVar 2) tNil)))) tNil))))) { retP [.ex v (DeckL K), .dat false (.int m), .dat false (bsD bs), .dat false (.int deep)] Qr with nx := fun Γ' => 2 ≤ deep ∧ 2 ≤ w ∧ Γ' = [.ex v (DeckL K), .dat false (.int m), .dat false (bsD bs), .dat false (.int deep), .dat false (.int w), .no] } := by
        refine sj_seq (sj_if (wt_test (wd_op (wd_op (wd_callO0 (i := 0) (v := v) rfl (use_next fun r1 _ => wd_int (rd_mod (by decide) (wd_int (rd_eq sh_int sh_int ⟨_, rfl, ?_⟩)))))))))
        rw [eqv_int]
        refine iteD (fun _ => ?_) (fun _ => sj_next ?_)
        · refine sj_retD true (wd_lf (wd_tup2 (wd_str (wd_op (wd_callO0 (i := 0) (v := v) rfl (use_next fun r2 _ => wd_var rfl (rd_mod (by omega) ?_)))))))
          obtain ⟨n0, hn0, e0⟩ := mod_ix (n := r2) (len := m) (by omega)
          rw [e0]
          exact ⟨rfl, kp, q (.num n0) (Th.ok_num' hn0 hd1)⟩
        · refine sj_retD true (wd_lf (wd_tup2 (wd_str (wd_op (wd_var rfl (wd_op (wd_callO0 (i := 0) (v := v) rfl (use_next fun r2 _ => wd_cb1 (wd_var rfl (rc_lenL ?_))))))))))
          rw [List.length_map]
          refine rd_mod (by omega) (rd_gbox hl0 fun y hy => ?_)
          exact ⟨rfl, kp, q (.box y) (Th.ok_box' hy hd1)⟩
      refine wt_or (wt_test (wd_op (wd_var rfl (wd_int (rd_lt ⟨_, rfl, iteD (fun _ => iteT' rfl leaf) (fun h1 => ?_)⟩)))))
      refine wt_test (wd_op (wd_var rfl (wd_int (rd_lt ⟨_, rfl, iteD (fun _ => leaf) (fun h2 => sj_next ⟨by omega, by omega, rfl⟩)⟩))))
    rintro _ ⟨hd2, hw2, rfl⟩
    refine sj_seq (sj_set false (wd_op (wd_lst6 (wd_str (wd_str (wd_str (wd_str (wd_str (wd_str (wd_op (wd_var rfl (wd_int (rd_sub ?_)))))))))))))
    refine rd_sel (by omega) (by simp; omega) fun d hd => ?_
    have hkk : ∃ o : Op, d = .str o.w := by
      simp at hd
      rcases hd with z | z | z | z | z | z
      · exact ⟨.plus, z⟩
      · exact ⟨.times, z⟩
      · exact ⟨.less, z⟩
      · exact ⟨.same, z⟩
      · exact ⟨.plus, z⟩
      · exact ⟨.times, z⟩
    obtain ⟨o, rfl⟩ := hkk
    have hdd : ((deep : Int) - 1) = ((deep - 1 : Nat) : Int) := by omega
    refine sj_retD true (wd_lf (wd_tup3 (wd_var rfl (wd_callO3 (i := 0) (v := v) rfl (wd_var rfl (wd_var rfl (wd_op (wd_var rfl (wd_int (rd_sub ?_))))))))))
    rw [hdd]
    refine use_ething hmb (by omega) (by omega) fun t1 ht1 => ?_
    refine wd_callO3 (i := 0) (v := v) rfl (wd_var rfl (wd_var rfl (wd_op (wd_var rfl (wd_int (rd_sub ?_))))))
    rw [hdd]
    refine use_ething hmb (by omega) (by omega) fun t2 ht2 => ?_
    have okk : (Th.op o t1 t2).Ok m bs deep := by
      obtain ⟨j, rfl⟩ := Nat.exists_eq_add_of_le hd1
      have e : 1 + j - 1 = j := by omega
      rw [e] at ht1 ht2
      rw [Nat.add_comm]
      exact ⟨ht1, ht2⟩
    exact ⟨Th.lf (.op o t1 t2), kp, q _ okk⟩
end
end Dk
end
section
set_option Elab.async false
set_option linter.all false
set_option maxRecDepth 100000
namespace Dk
open PySem PySem.Spec PyProof.Rows L2 Pk
def total (l : Cn) : Nat := (l.map (·.2)).sum
def cget (l : Cn) (e : Wy) : Nat := (cval l e).getD 0
/-- how many runs behind a way, all, or to one end -/
def nbl (o : Option Wy) (l : Cn) : Nat := match o with
  | none => total l
  | some e => cget l e
def nb (p : Pg) (o : Option Wy) (w : Wy) : Nat := nbl o (cn p w)
end Dk
end
section
set_option Elab.async false
set_option linter.all false
set_option maxRecDepth 100000
namespace Dk
open PySem PySem.Spec PyProof.Rows L2 Pk
end Dk
end
section
set_option Elab.async false
set_option linter.all false
set_option maxRecDepth 100000
namespace Dk
open PySem PySem.Spec PyProof.Rows L2 Pk
def Apart (a b : List Nat) : Prop := ∃ (pre : List Nat) (x y : Nat) (u v : List Nat), a = pre ++ x :: u ∧ b = pre ++ y :: v ∧ x < y
theorem Apart.cons {a b : List Nat} (h : Apart a b) (k : Nat) : Apart (k :: a) (k :: b) := by
  obtain ⟨pre, x, y, u, v, rfl, rfl, h⟩ := h
  exact ⟨k :: pre, x, y, u, v, rfl, rfl, h⟩
end Dk
end
section
set_option Elab.async false
set_option linter.all false
set_option maxRecDepth 100000
namespace Dk
open PySem PySem.Spec PyProof.Rows L2 Pk
def shiftR (at_ k : Nat) : Rw → Rw
  | .skip t j => if k < at_ ∧ at_ ≤ k + j then .skip t (j + 1) else .skip t j
  | r => r
structure Ins (p q : Pg) (at_ : Nat) (r : Rw) : Prop where
  m : q.m = p.m
  bs : q.bs = p.bs
  len : q.rows.length = p.rows.length + 1
  le : at_ ≤ p.rows.length
  lo : ∀ j r0, j < at_ → p.rows[j]? = some r0 → q.rows[j]? = some (shiftR at_ j r0)
  mid : q.rows[at_]? = some r
  hi : ∀ j, at_ ≤ j → q.rows[j + 1]? = p.rows[j]?
/-- with a row ahead -/
def hd1 (p : Pg) (r : Rw) : Pg := ⟨p.m, p.bs, r :: p.rows⟩
def Rw.Nr (m : Nat) (bs : List Str) : Rw → Prop
  | .skip t k => t.Ok m bs 4 ∧ 1 ≤ k ∧ k ≤ 31
  | r => r.Ok m bs
structure Pg.Nr (p : Pg) : Prop where
  mb : 2 ≤ p.m ∧ p.m ≤ 16 ∧ BsOk p.bs
  r31 : p.rows.length ≤ 31
  rows : ∀ r ∈ p.rows, r.Nr p.m p.bs
end Dk
end
section
set_option Elab.async false
set_option linter.all false
set_option maxRecDepth 100000
namespace Dk
open PySem PySem.Spec PyProof.Rows L2 Pk
def Wy.need (p : Pg) : Wy → Nat
  | .place row _ => p.rows.length - row
  | _ => 0
end Dk
end
section
set_option Elab.async false
set_option linter.all false
set_option maxRecDepth 100000
namespace Dk
open PySem PySem.Spec PyProof.Rows L2 Pk
def tl (o : Option Wy) (rs : List (List Nat × Wy)) : Nat := match o with
  | none => rs.length
  | some e => (rs.filter fun r => decide (r.2 = e)).length
def Pos (l : Cn) : Prop := ∀ x ∈ l, 1 ≤ x.2
end Dk
end
section
set_option Elab.async false
set_option linter.all false
set_option maxRecDepth 100000
namespace Dk
open PySem PySem.Spec PyProof.Rows L2 Pk
end Dk
end
section
set_option Elab.async false
set_option linter.all false
set_option maxRecDepth 100000
namespace Dk
open PySem
abbrev Rs := List (List Nat × Wy)
section
variable {m : Nat} {bs : List Str} {κ κ' : List Nat → Nat → Rs}
end
def wd2 : Rw → Nat
  | .give _ => 2 | _ => 1
def spL : List Rw → Nat
  | [] => 0
  | r :: rs => wd2 r + spL rs
def skB (b : Str) (t : Th) (n : Nat) : Rw := if n = 0 then .set b (.box b) else .skip t n
def aft (b x : Str) (qs : List Rw) : List Rw → List Rw
  | [] => .need (.num 0) :: qs
  | .give t :: rs => .set x t :: .skip (.num 1) (spL rs + 1) :: aft b x qs rs
  | .skip t k :: rs => skB b t (spL (rs.take k)) :: aft b x qs rs
  | .set y t :: rs => .set y t :: aft b x qs rs
  | .pick y ts :: rs => .pick y ts :: aft b x qs rs
  | .need t :: rs => .need t :: aft b x qs rs
theorem aft_len (b x : Str) (qs : List Rw) : ∀ rs : List Rw, (aft b x qs rs).length = spL rs + 1 + qs.length
  | [] => by simp [aft, spL]; omega
  | .give t :: rs => by simp only [aft, spL, wd2, List.length_cons, aft_len b x qs rs]; omega
  | .skip t k :: rs => by simp only [aft, spL, wd2, List.length_cons, aft_len b x qs rs]; omega
  | .set y t :: rs => by simp only [aft, spL, wd2, List.length_cons, aft_len b x qs rs]; omega
  | .pick y ts :: rs => by simp only [aft, spL, wd2, List.length_cons, aft_len b x qs rs]; omega
  | .need t :: rs => by simp only [aft, spL, wd2, List.length_cons, aft_len b x qs rs]; omega
def RwsOk (m : Nat) (bs : List Str) (rs : List Rw) : Prop := ∀ r ∈ rs, r.Ok m bs
theorem RwsOk.tail {m : Nat} {bs : List Str} {r : Rw} {rs : List Rw} (h : RwsOk m bs (r :: rs)) : RwsOk m bs rs := fun x hx => h x (List.mem_cons_of_mem _ hx)
theorem RwsOk.drop {m : Nat} {bs : List Str} {rs : List Rw} (h : RwsOk m bs rs) (k : Nat) : RwsOk m bs (rs.drop k) := fun x hx => h x (List.mem_of_mem_drop hx)
def after (p q : Pg) (x : Str) : Pg := ⟨p.m, p.bs, aft (p.bs.headD "") x q.rows p.rows⟩
theorem head_mem {bs : List Str} (h : 1 ≤ bs.length) : bs.headD "" ∈ bs := by
  cases bs with
  | nil => simp at h
  | cons b bs => exact List.mem_cons_self
theorem spL_take (rs : List Rw) (k : Nat) : spL (rs.take k) ≤ spL rs := by
  induction rs generalizing k with
  | nil => simp
  | cons r rs ih =>
    cases k with
    | zero => exact Nat.zero_le _
    | succ k => rw [List.take_succ_cons]; have := ih k; simp only [spL]; omega
theorem aft_ok {m : Nat} {bs : List Str} {b x : Str} (h2 : 2 ≤ m) (hb : b ∈ bs) (hx : x ∈ bs) {qs : List Rw} (hq : RwsOk m bs qs) : ∀ {rs : List Rw}, RwsOk m bs rs → spL rs ≤ 29 → RwsOk m bs (aft b x qs rs)
  | [], _, _ => fun r hr => by
    rcases List.mem_cons.mp hr with z | z
    · subst z; show 0 < m; omega
    · exact hq r z
  | .give t :: rs, h, hl => fun r hr => by
    have hl' : spL rs ≤ 27 := by have : spL (Rw.give t :: rs) = 2 + spL rs := rfl; omega
    rcases List.mem_cons.mp hr with z | z
    · subst z; exact ⟨hx, h _ List.mem_cons_self⟩
    · rcases List.mem_cons.mp z with z | z
      · subst z; exact ⟨show 1 < m by omega, by omega, by omega⟩
      · exact aft_ok h2 hb hx hq h.tail (by omega) r z
  | .skip t k :: rs, h, hl => fun r hr => by
    have hl' : spL rs ≤ 28 := by have : spL (Rw.skip t k :: rs) = 1 + spL rs := rfl; omega
    have ht := spL_take rs k
    rcases List.mem_cons.mp hr with z | z
    · subst z
      unfold skB
      split
      · exact ⟨hb, hb⟩
      · exact ⟨(h _ List.mem_cons_self).1, by omega, by omega⟩
    · exact aft_ok h2 hb hx hq h.tail (by omega) r z
  | .set y t :: rs, h, hl => fun r hr => by
    have hl' : spL rs ≤ 28 := by have : spL (Rw.set y t :: rs) = 1 + spL rs := rfl; omega
    rcases List.mem_cons.mp hr with z | z
    · subst z; exact h _ List.mem_cons_self
    · exact aft_ok h2 hb hx hq h.tail (by omega) r z
  | .pick y ts :: rs, h, hl => fun r hr => by
    have hl' : spL rs ≤ 28 := by have : spL (Rw.pick y ts :: rs) = 1 + spL rs := rfl; omega
    rcases List.mem_cons.mp hr with z | z
    · subst z; exact h _ List.mem_cons_self
    · exact aft_ok h2 hb hx hq h.tail (by omega) r z
  | .need t :: rs, h, hl => fun r hr => by
    have hl' : spL rs ≤ 28 := by have : spL (Rw.need t :: rs) = 1 + spL rs := rfl; omega
    rcases List.mem_cons.mp hr with z | z
    · subst z; exact h _ List.mem_cons_self
    · exact aft_ok h2 hb hx hq h.tail (by omega) r z
/-- two programs that go together, a box, and room -/
structure Fit (p q : Pg) (x : Str) : Prop where
  hp : p.Ok
  hq : q.Ok
  hm : q.m = p.m
  hb : q.bs = p.bs
  hx : x ∈ p.bs
  room : spL p.rows + 1 + q.rows.length ≤ 30
theorem Fit.ok {p q : Pg} {x : Str} (h : Fit p q x) : (after p q x).Ok :=
  ⟨h.hp.m2, h.hp.m16, h.hp.bs, by show (aft _ _ _ _).length ≤ 30; rw [aft_len]; exact h.room, aft_ok h.hp.m2 (head_mem h.hp.bs.len0) h.hx (by have := h.hq.rows; rw [h.hm, h.hb] at this; exact this) h.hp.rows (by have := h.room; omega)⟩
end Dk
end
section
set_option Elab.async false
set_option linter.all false
set_option maxRecDepth 100000
namespace Dk
open PySem PySem.Spec PyProof.Rows L2 Pk
/-- where each row comes to stand, the end too -/
def spots (rs : List Rw) : List Nat := (List.range (rs.length + 1)).map fun i => spL (rs.take i)
theorem spL_app (as bs : List Rw) : spL (as ++ bs) = spL as + spL bs := by
  induction as with
  | nil => simp [spL]
  | cons a as ih => simp only [List.cons_append, spL, ih]; omega
theorem spots_len (rs : List Rw) : (spots rs).length = rs.length + 1 := by simp [spots]
theorem spots_get {rs : List Rw} {i : Nat} (h : i ≤ rs.length) : (spots rs)[i]? = some (spL (rs.take i)) := by
  simp [spots, Nat.lt_succ_of_le h]
theorem spots_snoc (rs : List Rw) (r : Rw) : spots (rs ++ [r]) = spots rs ++ [spL rs + wd2 r] := by
  unfold spots
  have e : (rs ++ [r]).length + 1 = rs.length + 1 + 1 := by simp
  rw [e, List.range_succ, List.map_append]
  congr 1
  · apply List.map_congr_left
    intro i hi
    have : i ≤ rs.length := by have := List.mem_range.mp hi; omega
    rw [List.take_append_of_le_length this]
  · show [spL ((rs ++ [r]).take (rs.length + 1))] = _
    rw [List.take_of_length_le (by simp), spL_app]
    simp [spL]
theorem spots_last (rs : List Rw) : ∃ xs, spots rs = xs ++ [spL rs] := by
  refine ⟨(List.range rs.length).map fun i => spL (rs.take i), ?_⟩
  unfold spots
  rw [List.range_succ, List.map_append]
  simp
/-- the rows for one row -/
def anw (b x : Str) (rs : List Rw) (i : Nat) (r : Rw) : List Rw := match r with
  | .give t => [.set x t, .skip (.num 1) (spL rs - spL (rs.take i) - 1)]
  | .skip t k => [skB b t (spL (rs.take (min (i + 1 + k) rs.length)) - spL (rs.take i) - 1)]
  | r => [r]
def anwAt (b x : Str) (rs : List Rw) (i : Nat) : List Rw := match rs[i]? with
  | some r => anw b x rs i r
  | none => []
theorem anwAt_at {b x : Str} {rs : List Rw} {i : Nat} {r : Rw} (h : rs[i]? = some r) : anwAt b x rs i = anw b x rs i r := by unfold anwAt; rw [h]
theorem anw_len (b x : Str) (rs : List Rw) (i : Nat) (r : Rw) : (anw b x rs i r).length = wd2 r := by cases r <;> rfl
def anews (b x : Str) (rs : List Rw) (n : Nat) : List Rw := (List.range n).flatMap (anwAt b x rs)
theorem anews_succ (b x : Str) (rs : List Rw) (n : Nat) : anews b x rs (n + 1) = anews b x rs n ++ anwAt b x rs n := by
  unfold anews
  rw [List.range_succ, List.flatMap_append]
  simp
theorem anews_len (b x : Str) {rs : List Rw} : ∀ {n : Nat}, n ≤ rs.length → (anews b x rs n).length = spL (rs.take n)
  | 0, _ => rfl
  | n + 1, h => by
    have hn : n < rs.length := by omega
    rw [anews_succ, List.length_append, anews_len b x (by omega), anwAt_at (List.getElem?_eq_getElem hn), anw_len]
    rw [List.take_succ_eq_append_getElem hn, spL_app]
    simp [spL]
theorem anews_aft (b x : Str) (qs : List Rw) (rs : List Rw) : ∀ (k n : Nat), n + k = rs.length → anews b x rs n ++ aft b x qs (rs.drop n) = anews b x rs rs.length ++ (.need (.num 0) :: qs)
  | 0, n, h => by
    have : n = rs.length := by omega
    subst this
    rw [List.drop_length]
    rfl
  | k + 1, n, h => by
    have hn : n < rs.length := by omega
    rw [← anews_aft b x qs rs k (n + 1) (by omega), anews_succ, List.append_assoc]
    congr 1
    obtain ⟨r, er⟩ : ∃ r, rs[n] = r := ⟨_, rfl⟩
    have hd : rs.drop n = r :: rs.drop (n + 1) := by rw [List.drop_eq_getElem_cons hn, er]
    have hg : rs[n]? = some r := by rw [List.getElem?_eq_getElem hn, er]
    have hs : spL rs = spL (rs.take n) + (wd2 r + spL (rs.drop (n + 1))) := by
      have e := List.take_append_drop n rs
      have e2 : spL rs = spL (rs.take n) + spL (rs.drop n) := by rw [← spL_app, e]
      rw [e2, hd]
      rfl
    rw [hd, anwAt_at hg]
    cases r with
    | give t =>
      have : spL rs - spL (rs.take n) - 1 = spL (rs.drop (n + 1)) + 1 := by rw [hs]; simp only [wd2]; omega
      show Rw.set x t :: .skip (.num 1) (spL (rs.drop (n + 1)) + 1) :: _ = [Rw.set x t, .skip (.num 1) (spL rs - spL (rs.take n) - 1)] ++ _
      rw [this]
      rfl
    | skip t k' =>
      have e : spL (rs.take (min (n + 1 + k') rs.length)) - spL (rs.take n) - 1 = spL ((rs.drop (n + 1)).take k') := by
        have e1 : rs.take (min (n + 1 + k') rs.length) = rs.take n ++ (Rw.skip t k' :: (rs.drop (n + 1)).take k') := by
          have e2 : rs.take (min (n + 1 + k') rs.length) = rs.take (n + (1 + k')) := by
            rw [show n + 1 + k' = n + (1 + k') by omega]
            by_cases hle : n + (1 + k') ≤ rs.length
            · rw [Nat.min_eq_left hle]
            · rw [Nat.min_eq_right (by omega), List.take_of_length_le (Nat.le_refl _), List.take_of_length_le (by omega)]
          rw [e2, List.take_add, hd, Nat.add_comm 1 k', List.take_succ_cons]
        rw [e1, spL_app]
        simp only [spL, wd2]
        omega
      show skB b t (spL ((rs.drop (n + 1)).take k')) :: _ = [skB b t (spL (rs.take (min (n + 1 + k') rs.length)) - spL (rs.take n) - 1)] ++ _
      rw [e]
      rfl
    | set y t => rfl
    | pick y ts => rfl
    | need t => rfl
theorem after_rows (b x : Str) (qs : List Rw) (rs : List Rw) : anews b x rs rs.length ++ (.need (.num 0) :: qs) = aft b x qs rs := by
  rw [← anews_aft b x qs rs rs.length 0 (by omega)]
  rfl
end Dk
end
section
set_option Elab.async false
set_option linter.all false
set_option maxRecDepth 100000
set_option pp.maxSteps 600
open PySem L2 Pk
local macro_rules | `(tactic| walk_at "sh") => `(tactic| first | exact sh_int | exact sh_bool | exact sh_non | exact sh_nil | exact sh_str (by decide +kernel) | assumption)
local macro_rules | `(tactic| walk_at "v1") => `(tactic| first
  | (with_reducible refine wd_int ?_) | (with_reducible refine wd_str ?_) | (with_reducible refine wd_bl ?_) | (with_reducible refine wd_non ?_)
  | ((with_reducible apply wd_var); exact rfl) | ((with_reducible apply wd_varN); exact rfl)
  | ((with_reducible apply wd_ixm); exact rfl)
  | ((with_reducible apply wd_lenM); exact rfl) | ((with_reducible apply wd_lenScript); exact rfl) | ((with_reducible apply wd_ixScript); exact rfl)
  | (with_reducible refine wd_op ?_) | (with_reducible refine wd_un ?_)
  | (with_reducible refine rd_add ?_) | (with_reducible refine rd_sub ?_) | (with_reducible refine rd_lt ?_) | (with_reducible refine rd_le ?_) | (with_reducible refine rd_gt ?_) | (with_reducible refine rd_ge ?_) | (with_reducible refine ru_neg ?_)
  | ((with_reducible refine rd_eq ?ev_h ?ev_k ?_); (case ev_h => walk_at "sh"); (case ev_k => walk_at "sh")) | ((with_reducible refine rd_ne ?ev_h ?ev_k ?_); (case ev_h => walk_at "sh"); (case ev_k => walk_at "sh"))
  | ((with_reducible refine rd_mod ?ev_h ?_); case ev_h => first | decide | assumption | omega) | ((with_reducible refine rd_div ?ev_h ?ev_k ?_); (case ev_h => first | decide | assumption | omega); (case ev_k => first | decide | assumption | omega))
  | ((with_reducible refine rd_pow ?ev_h ?_); case ev_h => exact ⟨by decide, by decide, by decide⟩)
  | ((with_reducible refine rd_mul ?ev_h ?_); case ev_h => first | exact .inr ⟨by decide, by decide⟩ | exact .inl ⟨by decide, by decide⟩ | exact .inl ⟨by omega, by omega⟩ | exact .inr ⟨by omega, by omega⟩)
  | (with_reducible refine rc_lenL ?_) | (with_reducible refine rc_lenT ?_) | (with_reducible refine rc_max2 ?_) | (with_reducible refine rc_min2 ?_) | (with_reducible refine rc_intB ?_) | (with_reducible refine rc_intI ?_) | (with_reducible refine rc_listL ?_) | (with_reducible refine rc_listT ?_) | (with_reducible refine rc_tupleL ?_)
  | ((with_reducible apply rd_ixT); exact rfl)
  | ((with_reducible apply rd_ixL); exact rfl)
  | ((with_reducible refine wd_isi ?ev_h ?_); case ev_h => decide) | ((with_reducible refine wd_isi2 ?ev_h ?ev_k ?_); (case ev_h => decide); (case ev_k => decide))
  | (with_reducible refine wd_tup2 ?_) | (with_reducible refine wd_tup1 ?_) | (with_reducible refine wd_tup3 ?_) | (with_reducible refine wd_tup0 ?_)
  | (with_reducible refine wd_lst0 ?_) | (with_reducible refine wd_lst1 ?_) | (with_reducible refine wd_lst2 ?_) | (with_reducible refine wd_lst3 ?_) | (with_reducible refine wd_lst4 ?_) | (with_reducible refine wd_lst5 ?_) | (with_reducible refine wd_lst6 ?_)
  | ((with_reducible apply wd_callO0); exact rfl) | ((with_reducible apply wd_callO1); exact rfl) | ((with_reducible apply wd_callO2); exact rfl) | ((with_reducible apply wd_callO3); exact rfl)
  | (with_reducible refine wd_call1 ?_) | (with_reducible refine wd_call2 ?_) | (with_reducible refine wd_call3 ?_) | (with_reducible refine wd_call4 ?_) | (with_reducible refine wd_call0 ?_)
  | (with_reducible refine wd_cb1 ?_) | (with_reducible refine wd_cb2 ?_)
  | (with_reducible refine wd_rev ?_) | (with_reducible refine wd_lrg1 ?_) | (with_reducible refine wd_sl ?_) | (with_reducible refine wo_no ?_) | (with_reducible refine wo_some ?_)
  | (with_reducible refine wd_andV ?_) | (with_reducible refine wd_orV ?_) | (with_reducible refine wd_notV ?_) | (with_reducible refine wd_if ?_) | (with_reducible refine wd_chain ?_)
  | (with_reducible refine wt_test ?_) | (with_reducible refine wt_B ?_) | (with_reducible refine wt_not ?_) | (with_reducible refine wt_and ?_) | (with_reducible refine wt_or ?_) | (with_reducible refine wt_yes ?_)
  | (with_reducible refine gj_name ?_) | (with_reducible refine gj_tup rfl ?_) | (with_reducible refine gjs_cons ?_) | (with_reducible refine gjs_nil ?_))
local macro_rules | `(tactic| walk_at "v") => `(tactic| repeat walk_at "v1")
local macro_rules | `(tactic| walk_at "x") => `(tactic| refine ⟨_, rfl, ?_⟩)
local macro_rules | `(tactic| walk_at "vx") => `(tactic| repeat (first | walk_at "v1" | (with_reducible refine ⟨_, rfl, ?_⟩)))
namespace Dk
open PySem PySem.Spec PyProof.Rows L2 Pk Sy
section
variable {P : Program} {K : Kw} {mg : Str → Option Value} {base : Heap} {k : Nat}
def spare7 : List Str := ["a", "b", "ab", "zzzzzzzz", "give", "if", "x"]
theorem spare_nd : spare7.Nodup := by decide +kernel
theorem spare_nm : ∀ x ∈ spare7, NameOk x := by
  have h : ∀ x ∈ spare7, 1 ≤ x.length ∧ x.length ≤ 8 ∧ (x.cps.toList.all fun c => decide (97 ≤ c ∧ c ≤ 122)) = true := by decide +kernel
  intro x hx
  obtain ⟨h1, h2, h3⟩ := h x hx
  refine ⟨h1, h2, fun c hc => ?_⟩
  have h4 : decide (97 ≤ c ∧ c ≤ 122) = true := List.all_eq_true.mp h3 c hc
  have h5 : 97 ≤ c ∧ c ≤ 122 := of_decide_eq_true h4
  exact h5
theorem eraseIdx_mapE {α β : Type} (f : α → β) : ∀ (l : List α) (j : Nat), (l.map f).eraseIdx j = (l.eraseIdx j).map f
  | [], _ => rfl
  | _ :: _, 0 => rfl
  | a :: l, j + 1 => by show f a :: (l.map f).eraseIdx j = f a :: (l.eraseIdx j).map f; rw [eraseIdx_mapE f l j]
theorem eraseIdx_perm {α : Type} : ∀ {l : List α} {j : Nat} (h : j < l.length), (l[j] :: l.eraseIdx j).Perm l
  | a :: l, 0, _ => .refl _
  | a :: l, j + 1, h => by
    have h' : j < l.length := by simpa using h
    show (l[j] :: a :: l.eraseIdx j).Perm (a :: l)
    exact .trans (.swap a l[j] _) (.cons a (eraseIdx_perm h'))
theorem ok_eboxes (D : Def K mg "_law_boxes" s_l_boxes ["deck"]) (c_next : Cal P K.w K mg base CX0 k "_law_next" ["deck"] (spG K (T_next K))) (m_range : mg "range" = none) (m_len : mg "len" = none) : Cal P K.w K mg base CX0 (k + 1) "_law_boxes" ["deck"] (spG K (T_eboxes K)) := by
  refine cal_g D sc_l_boxes (fun Γ Qr ⟨v, e, _⟩ => by subst e; exact ⟨rfl, noMl_ex noMl_nil⟩) fun f cdv A outer s H E hr => ⟨_, wk_l_boxes c_next m_range m_len f cdv A outer s H E hr, ?_⟩
  rintro Γ Qr ⟨v, rfl, q⟩
  show SJ K [.ex v (DeckL K), .no, .no, .no] (t_l_boxes K _) _
  unfold t_l_boxes
  refine sj_seq (sj_setX (wx_lst false (wa_d (wd_str (wa_d (wd_str (wa_d (wd_str (wa_d (wd_str (wa_d (wd_str (wa_d (wd_str (wa_d (wd_str (wa_nil ⟨_, rfl, le_lit rfl, fun l => ?_⟩)))))))))))))))))
  show SJ K [.ex v (DeckL K), .ml false l (spare7.map PyData.str), .no, .no] _ _
  refine sj_seq (sj_setG (wxg_lc (mi := false) false (j := 1) (mj := false) (l := l) (ds0 := spare7.map PyData.str) rfl (fun i hi => by simp at hi; subst hi; rfl) gwn (wi_rng (wd_op (wd_lst5 (wd_int (wd_int (wd_int (wd_int (wd_int (wd_op (wd_callO0 (i := 0) (v := v) rfl (use_next fun r0 _ => wd_int (rd_mod (by decide) ?_))))))))))))))
  have b0 := Int.emod_nonneg r0 (b := 5) (by decide)
  have b5 := Int.emod_lt_of_pos r0 (b := 5) (by decide)
  refine rd_sel b0 (by simp; omega) fun d hd => ?_
  obtain ⟨n, hn1, hn5, rfl⟩ : ∃ n : Nat, 1 ≤ n ∧ n ≤ 5 ∧ d = .int n := by
    simp at hd
    rcases hd with z | z | z | z
    · exact ⟨1, by decide, by decide, z⟩
    · exact ⟨2, by decide, by decide, z⟩
    · exact ⟨3, by decide, by decide, z⟩
    · exact ⟨5, by decide, by decide, z⟩
  refine ⟨n, rfl, ⟨by omega, by omega⟩, fun i acc lv => ∃ a b : List Str, acc = a.map PyData.str ∧ lv = b.map PyData.str ∧ (a ++ b).Perm spare7 ∧ a.length = i, by rw [rangeD_len]; omega, ⟨[], spare7, rfl, rfl, .refl _, rfl⟩, ?_, ?_⟩
  · rintro i d acc lv hd _ ⟨a, b, rfl, rfl, hp, hal⟩
    obtain ⟨hi, rfl⟩ := rangeD_of hd
    have hab := hp.length_eq
    have h7 : spare7.length = 7 := rfl
    rw [List.length_append, h7] at hab
    have hb1 : 1 ≤ b.length := by omega
    refine gj_name (wdg_popAt (i := 1) (m := false) (l := l) (ds := b.map PyData.str) rfl (wd_op (wd_callO0 (i := 0) (v := v) rfl (use_next fun r1 _ => wd_lenM (i := 1) (m := false) (l := l) (ds := b.map PyData.str) rfl ?_))))
    rw [List.length_map]
    refine rd_mod (by omega) ?_
    obtain ⟨j, hj, ej⟩ := mod_ix (n := r1) (len := b.length) hb1
    refine ⟨j, .str b[j], by rw [ej], by omega, by simp [hj], (b.eraseIdx j).map PyData.str, ?_, a ++ [b[j]], b.eraseIdx j, by simp, rfl, ?_, by simp [hal]⟩
    · show [Sl.ex v (DeckL K), .ml false l ((b.map PyData.str).eraseIdx j), .no, .no] = _
      rw [eraseIdx_mapE]
      rfl
    · refine .trans ?_ hp
      rw [List.append_assoc]
      refine .append_left a ?_
      exact eraseIdx_perm hj
  rintro acc lv _ ⟨a, b, rfl, rfl, hp, hal⟩ la
  rw [rangeD_len] at hal
  show SJ K [.ex v (DeckL K), .ml false l (b.map PyData.str), .ml false la (a.map PyData.str), .no] _ _
  refine sj_frz 2 (l := la) (m := false) (ds := a.map PyData.str) rfl ?_
  show SJ K [.ex v (DeckL K), .ml false l (b.map PyData.str), .dat false (bsD a), .no] _ _
  refine sj_retD false (wd_tup2 (wd_lf (wd_op (wd_int (wd_op (wd_callO0 (i := 0) (v := v) rfl (use_next fun r2 _ => wd_int (rd_mod (by decide) (rd_add ⟨rfl, wd_var rfl ⟨keep_ex keep_nil, ?_⟩⟩)))))))))
  have c0 := Int.emod_nonneg r2 (b := 15) (by decide)
  have c5 := Int.emod_lt_of_pos r2 (b := 15) (by decide)
  obtain ⟨m, hm⟩ : ∃ m : Nat, 2 + r2 % 15 = (m : Int) := ⟨(2 + r2 % 15).toNat, by omega⟩
  rw [hm]
  refine q m a ⟨by omega, by omega, ⟨by omega, by omega, ?_, fun x hx => spare_nm x (hp.subset (List.mem_append.mpr (.inl hx)))⟩⟩
  exact ((List.nodup_append.mp (hp.nodup_iff.mpr spare_nd)).1)
end
end Dk
end
section
set_option Elab.async false
set_option linter.all false
set_option maxRecDepth 100000
set_option pp.maxSteps 600
open PySem L2 Pk
local macro_rules | `(tactic| walk_at "sh") => `(tactic| first | exact sh_int | exact sh_bool | exact sh_non | exact sh_nil | exact sh_str (by decide +kernel) | assumption)
local macro_rules | `(tactic| walk_at "v1") => `(tactic| first
  | (with_reducible refine wd_int ?_) | (with_reducible refine wd_str ?_) | (with_reducible refine wd_bl ?_) | (with_reducible refine wd_non ?_)
  | ((with_reducible apply wd_var); exact rfl) | ((with_reducible apply wd_varN); exact rfl)
  | ((with_reducible apply wd_ixm); exact rfl)
  | ((with_reducible apply wd_lenM); exact rfl) | ((with_reducible apply wd_lenScript); exact rfl) | ((with_reducible apply wd_ixScript); exact rfl)
  | (with_reducible refine wd_op ?_) | (with_reducible refine wd_un ?_)
  | (with_reducible refine rd_add ?_) | (with_reducible refine rd_sub ?_) | (with_reducible refine rd_lt ?_) | (with_reducible refine rd_le ?_) | (with_reducible refine rd_gt ?_) | (with_reducible refine rd_ge ?_) | (with_reducible refine ru_neg ?_)
  | ((with_reducible refine rd_eq ?ev_h ?ev_k ?_); (case ev_h => walk_at "sh"); (case ev_k => walk_at "sh")) | ((with_reducible refine rd_ne ?ev_h ?ev_k ?_); (case ev_h => walk_at "sh"); (case ev_k => walk_at "sh"))
  | ((with_reducible refine rd_mod ?ev_h ?_); case ev_h => first | decide | assumption | omega) | ((with_reducible refine rd_div ?ev_h ?ev_k ?_); (case ev_h => first | decide | assumption | omega); (case ev_k => first | decide | assumption | omega))
  | ((with_reducible refine rd_pow ?ev_h ?_); case ev_h => exact ⟨by decide, by decide, by decide⟩)
  | ((with_reducible refine rd_mul ?ev_h ?_); case ev_h => first | exact .inr ⟨by decide, by decide⟩ | exact .inl ⟨by decide, by decide⟩ | exact .inl ⟨by omega, by omega⟩ | exact .inr ⟨by omega, by omega⟩)
  | (with_reducible refine rc_lenL ?_) | (with_reducible refine rc_lenT ?_) | (with_reducible refine rc_max2 ?_) | (with_reducible refine rc_min2 ?_) | (with_reducible refine rc_intB ?_) | (with_reducible refine rc_intI ?_) | (with_reducible refine rc_listL ?_) | (with_reducible refine rc_listT ?_) | (with_reducible refine rc_tupleL ?_)
  | ((with_reducible apply rd_ixT); exact rfl)
  | ((with_reducible apply rd_ixL); exact rfl)
  | ((with_reducible refine wd_isi ?ev_h ?_); case ev_h => decide) | ((with_reducible refine wd_isi2 ?ev_h ?ev_k ?_); (case ev_h => decide); (case ev_k => decide))
  | (with_reducible refine wd_tup2 ?_) | (with_reducible refine wd_tup1 ?_) | (with_reducible refine wd_tup3 ?_) | (with_reducible refine wd_tup0 ?_)
  | (with_reducible refine wd_lst0 ?_) | (with_reducible refine wd_lst1 ?_) | (with_reducible refine wd_lst2 ?_) | (with_reducible refine wd_lst3 ?_) | (with_reducible refine wd_lst4 ?_) | (with_reducible refine wd_lst5 ?_) | (with_reducible refine wd_lst6 ?_)
  | ((with_reducible apply wd_callO0); exact rfl) | ((with_reducible apply wd_callO1); exact rfl) | ((with_reducible apply wd_callO2); exact rfl) | ((with_reducible apply wd_callO3); exact rfl)
  | (with_reducible refine wd_call1 ?_) | (with_reducible refine wd_call2 ?_) | (with_reducible refine wd_call3 ?_) | (with_reducible refine wd_call4 ?_) | (with_reducible refine wd_call0 ?_)
  | (with_reducible refine wd_cb1 ?_) | (with_reducible refine wd_cb2 ?_)
  | (with_reducible refine wd_rev ?_) | (with_reducible refine wd_lrg1 ?_) | (with_reducible refine wd_sl ?_) | (with_reducible refine wo_no ?_) | (with_reducible refine wo_some ?_)
  | (with_reducible refine wd_andV ?_) | (with_reducible refine wd_orV ?_) | (with_reducible refine wd_notV ?_) | (with_reducible refine wd_if ?_) | (with_reducible refine wd_chain ?_)
  | (with_reducible refine wt_test ?_) | (with_reducible refine wt_B ?_) | (with_reducible refine wt_not ?_) | (with_reducible refine wt_and ?_) | (with_reducible refine wt_or ?_) | (with_reducible refine wt_yes ?_)
  | (with_reducible refine gj_name ?_) | (with_reducible refine gj_tup rfl ?_) | (with_reducible refine gjs_cons ?_) | (with_reducible refine gjs_nil ?_))
local macro_rules | `(tactic| walk_at "v") => `(tactic| repeat walk_at "v1")
local macro_rules | `(tactic| walk_at "x") => `(tactic| refine ⟨_, rfl, ?_⟩)
local macro_rules | `(tactic| walk_at "vx") => `(tactic| repeat (first | walk_at "v1" | (with_reducible refine ⟨_, rfl, ?_⟩)))
namespace Dk
open PySem PySem.Spec PyProof.Rows L2 Pk Sy
def T_spots (K : Kw) : List Sl → (Sl → Prop) → Prop := fun Γ Q => ∃ rs : List Rw, Γ = [.dat false (.list (rs.map Rw.d))] ∧ rs.length ≤ 30 ∧ ∀ l, Q (.ml true l ((spots rs).map fun (n : Nat) => PyData.int n))
def T_skipby (K : Kw) : List Sl → (Sl → Prop) → Prop := fun Γ Q => ∃ (t : Th) (n : Nat) (bs : List Str), Γ = [.dat false t.d, .dat false (.int n), .dat false (bsD bs)] ∧ 1 ≤ bs.length ∧ Q (.dat true (skB (bs.headD "") t n).d)
def T_copied (K : Kw) : List Sl → (Sl → Prop) → Prop := fun Γ Q => ∃ r : Rw, Γ = [.dat false r.d] ∧ Q (.dat false r.d)
def T_anew (K : Kw) : List Sl → (Sl → Prop) → Prop := fun Γ Q => ∃ (rs : List Rw) (i : Nat) (x : Str) (bs : List Str), Γ = [.dat false (.list (rs.map Rw.d)), .dat false (.int i), .dat false (natsD (spots rs)), .dat false (.str x), .dat false (bsD bs)] ∧ i < rs.length ∧ 1 ≤ bs.length ∧ Q (.dat false (.list ((anwAt (bs.headD "") x rs i).map Rw.d)))
theorem rd_bs0 {K : Kw} {m : Bool} {Γ : List Sl} {Q : PyData → Prop} {bs : List Str} (h : 1 ≤ bs.length) (q : Q (.str (bs.headD ""))) : RD K m Γ (rIx K) (bsD bs) (.int 0) Q := by
  refine rd_selN 0 rfl (d := .str (bs.headD "")) ?_ q
  cases bs with
  | nil => exact absurd h (by simp)
  | cons b bs => rfl
section
variable {P : Program} {K : Kw} {mg : Str → Option Value} {base : Heap} {k : Nat}
theorem ok_spots (D : Def K mg "spots_behind" s_spots_behind ["rows"]) (m_int : mg "int" = none) : Cal P K.w K mg base CX0 (k + 1) "spots_behind" ["rows"] (spG K (T_spots K)) := by
  refine cal_g D sc_spots_behind (fun Γ Qr ⟨rs, e, _⟩ => by subst e; exact ⟨rfl, noMl_dat noMl_nil⟩) fun f cdv A outer s H E hr => ⟨_, wk_spots_behind m_int f cdv A outer s H E hr, ?_⟩
  rintro Γ Qr ⟨rs, rfl, hl, q⟩
  show SJ K [.dat false (.list (rs.map Rw.d)), .no, .no] (t_spots_behind K) _
  unfold t_spots_behind
  refine sj_seq (sj_setX (wx_lst1 true (wd_int fun l => ?_)))
  refine sj_cut (fun Γ' => ∃ s2, Γ' = [.dat false (.list (rs.map Rw.d)), .ml true l ((spots rs).map fun (n : Nat) => PyData.int n), s2]) ?_ ?_
  · refine sj_for false (wi_list (wd_var rfl ⟨_, rfl, fun i Γ' => ∃ s2, Γ' = [.dat false (.list (rs.map Rw.d)), .ml true l ((spots (rs.take i)).map fun (n : Nat) => PyData.int n), s2], ⟨.no, rfl⟩, ?_, ?_⟩))
    · rintro i d Γ' hd ⟨s2, rfl⟩
      rw [List.getElem?_map] at hd
      obtain ⟨r, hr0, rfl⟩ := Option.map_eq_some_iff.mp hd
      obtain ⟨hi, er⟩ := List.getElem?_eq_some_iff.mp hr0
      obtain ⟨xs, hxs⟩ := spots_last (rs.take i)
      have hsl : (spots (rs.take i)).length ≤ 31 := by rw [spots_len, List.length_take]; omega
      refine gj_name (sj_app (i := 1) (m := true) (l := l) (ds := (spots (rs.take i)).map fun (n : Nat) => PyData.int n) rfl (by rw [List.length_map]; omega) ?_)
      refine wd_op (wd_op (wd_ixm (i := 1) (m := true) (l := l) (ds := (spots (rs.take i)).map fun (n : Nat) => PyData.int n) rfl (wd_un (wd_int (ru_neg ⟨-1, .int (spL (rs.take i) : Nat), rfl, ?_, wd_int (rd_add ?_)⟩)))))
      · rw [hxs, List.map_append]
        exact atI_lastD
      refine wd_lf (wd_cb1 (wd_op (wd_op (wd_var (d := r.d) rfl (wd_int (rd_rk (wd_str (rd_w (b := .give) (rc_intB ?_)))))))))
      refine ⟨rfl, rd_add ⟨.dat false r.d, ?_⟩⟩
      have e : ((spL (rs.take i) : Nat) : Int) + 1 + (if decide (r.kd = .give) = true then 1 else 0) = ((spL (rs.take i) + wd2 r : Nat) : Int) := by
        cases r <;> simp [Rw.kd, wd2] <;> omega
      rw [e]
      have et : rs.take (i + 1) = rs.take i ++ [r] := by rw [List.take_succ_eq_append_getElem hi, er]
      rw [et, spots_snoc, List.map_append]
      rfl
    · rintro Γ' ⟨s2, rfl⟩
      rw [List.length_map, List.take_length]
      exact ⟨s2, rfl⟩
  rintro _ ⟨s2, rfl⟩
  exact sj_retM (i := 1) (m := true) (l := l) (ds := (spots rs).map fun (n : Nat) => PyData.int n) rfl ⟨keep_dat keep_nil, q l⟩
theorem ok_skipby (D : Def K mg "skip_by" s_skip_by ["thing", "many", "boxes"]) : Cal P K.w K mg base CX0 (k + 1) "skip_by" ["thing", "many", "boxes"] (spG K (T_skipby K)) := by
  refine cal_g D sc_skip_by (fun Γ Qr ⟨t, n, bs, e, _⟩ => by subst e; exact ⟨rfl, noMl_dat (noMl_dat (noMl_dat noMl_nil))⟩) fun f cdv A outer s H E hr => ⟨_, wk_skip_by f cdv A outer s H E hr, ?_⟩
  rintro Γ Qr ⟨t, n, bs, rfl, hl, q⟩
  show SJ K [.dat false t.d, .dat false (.int n), .dat false (bsD bs)] (t_skip_by K) _
  unfold t_skip_by
  refine sj_seq (sj_if (wt_test (wd_op (wd_var rfl (wd_int (rd_eq sh_int sh_int ⟨_, rfl, ?_⟩))))))
  rw [eqv_int]
  refine iteD (fun h => ?_) (fun h => sj_next ?_)
  · refine sj_retD true (wd_lf (wd_tup3 (wd_str (wd_op (wd_var rfl (wd_int (rd_bs0 hl (wd_tup2 (wd_str (wd_op (wd_var rfl (wd_int (rd_bs0 hl ?_)))))))))))))
    have e : skB (bs.headD "") t n = .set (bs.headD "") (.box (bs.headD "")) := by unfold skB; rw [if_pos (by omega)]
    rw [e] at q
    exact ⟨rfl, keep_dat (keep_dat (keep_dat keep_nil)), q⟩
  · refine sj_retD true (wd_lf (wd_tup3 (wd_str (wd_var rfl (wd_var rfl ?_)))))
    have e : skB (bs.headD "") t n = .skip t n := by unfold skB; rw [if_neg (by omega)]
    rw [e] at q
    refine ⟨?_, keep_dat (keep_dat (keep_dat keep_nil)), q⟩
    show Pk.lfA [.str "skip", t.d, .int n] = true
    simp [Pk.lfA, Th.lf, Pk.lf]
theorem ok_copied (D : Def K mg "copied_row" s_copied_row ["row"]) (m_list : mg "list" = none) : Cal P K.w K mg base CX0 (k + 1) "copied_row" ["row"] (spG K (T_copied K)) := by
  refine cal_g D sc_copied_row (fun Γ Qr ⟨r, e, _⟩ => by subst e; exact ⟨rfl, noMl_dat noMl_nil⟩) fun f cdv A outer s H E hr => ⟨_, wk_copied_row m_list f cdv A outer s H E hr, ?_⟩
  rintro Γ Qr ⟨r, rfl, q⟩
  show SJ K [.dat false r.d] (t_copied_row K) _
  unfold t_copied_row
  refine sj_seq (sj_if (wt_test (wd_op (wd_op (wd_var rfl (wd_int (rd_rk (wd_str (rd_w (b := .pick) ⟨_, rfl, ?_⟩)))))))))
  have no : SJ K [.dat false r.d] (tRet (tVar 0)) (retP [.dat false r.d] Qr) := sj_retD false (wd_var rfl ⟨keep_dat keep_nil, q⟩)
  cases r with
  | pick x ts => exact iteT' rfl (sj_retD false (wd_tup3 (wd_str (wd_op (wd_var rfl (wd_int (rd_ixT (d := .str x) rfl (wd_cb1 (wd_op (wd_var rfl (wd_int (rd_ixT (d := .list (ts.map Th.d)) rfl (rc_listL ⟨keep_dat keep_nil, q⟩)))))))))))))
  | set x t => exact iteF' rfl (sj_next no)
  | need t => exact iteF' rfl (sj_next no)
  | skip t n => exact iteF' rfl (sj_next no)
  | give t => exact iteF' rfl (sj_next no)
theorem ok_anew (D : Def K mg "row_anew" s_row_anew ["rows", "at", "spots", "box", "boxes"]) (c_copied : Cal P K.w K mg base CX0 k "copied_row" ["row"] (spG K (T_copied K))) (c_skip : Cal P K.w K mg base CX0 k "skip_by" ["thing", "many", "boxes"] (spG K (T_skipby K))) (m_min : mg "min" = none) (m_len : mg "len" = none) : Cal P K.w K mg base CX0 (k + 1) "row_anew" ["rows", "at", "spots", "box", "boxes"] (spG K (T_anew K)) := by
  refine cal_g D sc_row_anew (fun Γ Qr ⟨rs, i, x, bs, e, _⟩ => by subst e; exact ⟨rfl, noMl_dat (noMl_dat (noMl_dat (noMl_dat (noMl_dat noMl_nil))))⟩) fun f cdv A outer s H E hr => ⟨_, wk_row_anew c_copied c_skip m_min m_len f cdv A outer s H E hr, ?_⟩
  rintro Γ Qr ⟨rs, i, x, bs, rfl, hi, hl, q⟩
  obtain ⟨r, er⟩ : ∃ r, rs[i] = r := ⟨_, rfl⟩
  have hg : rs[i]? = some r := by rw [List.getElem?_eq_getElem hi, er]
  rw [anwAt_at hg] at q
  have hsi : ((spots rs).map fun (n : Nat) => PyData.int n)[i]? = some (.int (spL (rs.take i) : Nat)) := by rw [List.getElem?_map, spots_get (by omega)]; rfl
  obtain ⟨xs, hxs⟩ := spots_last rs
  have kp : ∀ {s5 s6 : Sl}, Keep [.dat false (.list (rs.map Rw.d)), .dat false (.int i), .dat false (natsD (spots rs)), .dat false (.str x), .dat false (bsD bs)] [.dat false (.list (rs.map Rw.d)), .dat false (.int i), .dat false (natsD (spots rs)), .dat false (.str x), .dat false (bsD bs), s5, s6] := fun {s5 s6} => keep_dat (keep_dat (keep_dat (keep_dat (keep_dat keep_nil))))
  have hrt : rs.take (i + 1) = rs.take i ++ [r] := by rw [List.take_succ_eq_append_getElem hi, er]
  have hs1 : ∀ n, i + 1 ≤ n → spL (rs.take i) + wd2 r ≤ spL (rs.take n) := fun n hn => by
    have e1 : spL (rs.take (i + 1)) = spL (rs.take i) + wd2 r := by rw [hrt, spL_app]; simp [spL]
    have e2 : rs.take n = rs.take (i + 1) ++ (rs.drop (i + 1)).take (n - (i + 1)) := by
      have : n = (i + 1) + (n - (i + 1)) := by omega
      rw [this, List.take_add]
      congr 2
      omega
    rw [e2, spL_app, e1]
    omega
  show SJ K [.dat false (.list (rs.map Rw.d)), .dat false (.int i), .dat false (natsD (spots rs)), .dat false (.str x), .dat false (bsD bs), .no, .no] (t_row_anew K _ _) _
  unfold t_row_anew
  refine sj_seq (sj_set false (wd_op (wd_var rfl (wd_var rfl (rd_selN i rfl (d := r.d) (by rw [List.getElem?_map, hg]; rfl) ?_)))))
  refine sj_seq (sj_set false (wd_op (wd_var rfl (wd_un (wd_int (ru_neg (rd_ixL (d := .int (spL rs : Nat)) ?_ ?_)))))))
  · rw [hxs, List.map_append]
    exact atI_lastD
  show SJ K [.dat false (.list (rs.map Rw.d)), .dat false (.int i), .dat false (natsD (spots rs)), .dat false (.str x), .dat false (bsD bs), .dat false r.d, .dat false (.int (spL rs : Nat))] _ _
  refine sj_seq (sj_if (wt_test (wd_op (wd_op (wd_var (d := r.d) rfl (wd_int (rd_rk (wd_str (rd_w (b := .give) ⟨_, rfl, ?_⟩)))))))))
  cases r with
  | give t =>
    refine iteT' rfl (sj_retD false (wd_lst2 (wd_tup3 (wd_str (wd_var rfl (wd_op (wd_var (d := (Rw.give t).d) rfl (wd_int (rd_ixT (d := t.d) rfl (wd_tup3 (wd_str (wd_tup2 (wd_str (wd_int (wd_op (wd_op (wd_var rfl (wd_op (wd_var rfl (wd_var rfl (rd_selN i rfl hsi (rd_sub (wd_int (rd_sub ?_))))))))))))))))))))))))
    have e : ((spL rs : Nat) : Int) - ((spL (rs.take i) : Nat) : Int) - 1 = ((spL rs - spL (rs.take i) - 1 : Nat) : Int) := by
      have := hs1 rs.length (by omega)
      rw [List.take_length] at this
      simp only [wd2] at this
      omega
    rw [e]
    exact ⟨kp, q⟩
  | skip t n =>
    refine iteF' rfl (sj_next (sj_seq (sj_if (wt_test (wd_op (wd_op (wd_var (d := (Rw.skip t n).d) rfl (wd_int (rd_rk (wd_str (rd_w (b := .skip) ⟨_, rfl, ?_⟩)))))))))))
    refine iteT' rfl (sj_retD false (wd_lst1 (wd_call3 (wd_op (wd_var (d := (Rw.skip t n).d) rfl (wd_int (rd_ixT (d := t.d) rfl (wd_op (wd_op (wd_op (wd_var rfl (wd_cb2 (wd_op (wd_op (wd_var rfl (wd_int (rd_add (wd_op (wd_var (d := (Rw.skip t n).d) rfl (wd_int (rd_ixT (d := .int n) rfl (rd_add (wd_cb1 (wd_var rfl (rc_lenL (rc_min2 ?_))))))))))))))))))))))))))
    rw [List.length_map]
    obtain ⟨mn, hmn⟩ : ∃ mn, min (i + 1 + n) rs.length = mn := ⟨_, rfl⟩
    have e0 : min ((i : Int) + 1 + (n : Int)) (rs.length : Int) = (mn : Int) := by omega
    rw [e0]
    refine rd_selN mn rfl (d := .int (spL (rs.take mn) : Nat)) (by rw [List.getElem?_map, spots_get (by omega)]; rfl) ?_
    refine wd_op (wd_var rfl (wd_var rfl (rd_selN i rfl hsi (rd_sub (wd_int (rd_sub (wd_var rfl ?_)))))))
    have e : ((spL (rs.take mn) : Nat) : Int) - ((spL (rs.take i) : Nat) : Int) - 1 = ((spL (rs.take mn) - spL (rs.take i) - 1 : Nat) : Int) := by
      have := hs1 mn (by omega)
      simp only [wd2] at this
      omega
    rw [e]
    refine ⟨t, _, bs, rfl, hl, asD_new ⟨kp, ?_⟩⟩
    rw [← hmn]
    exact q
  | set y t =>
    refine iteF' rfl (sj_next (sj_seq (sj_if (wt_test (wd_op (wd_op (wd_var (d := (Rw.set y t).d) rfl (wd_int (rd_rk (wd_str (rd_w (b := .skip) ⟨_, rfl, ?_⟩)))))))))))
    exact iteF' rfl (sj_next (sj_retD false (wd_lst1 (wd_call1 (wd_var (d := (Rw.set y t).d) rfl ⟨_, rfl, asD_dat ⟨kp, q⟩⟩)))))
  | pick y ts =>
    refine iteF' rfl (sj_next (sj_seq (sj_if (wt_test (wd_op (wd_op (wd_var (d := (Rw.pick y ts).d) rfl (wd_int (rd_rk (wd_str (rd_w (b := .skip) ⟨_, rfl, ?_⟩)))))))))))
    exact iteF' rfl (sj_next (sj_retD false (wd_lst1 (wd_call1 (wd_var (d := (Rw.pick y ts).d) rfl ⟨_, rfl, asD_dat ⟨kp, q⟩⟩)))))
  | need t =>
    refine iteF' rfl (sj_next (sj_seq (sj_if (wt_test (wd_op (wd_op (wd_var (d := (Rw.need t).d) rfl (wd_int (rd_rk (wd_str (rd_w (b := .skip) ⟨_, rfl, ?_⟩)))))))))))
    exact iteF' rfl (sj_next (sj_retD false (wd_lst1 (wd_call1 (wd_var (d := (Rw.need t).d) rfl ⟨_, rfl, asD_dat ⟨kp, q⟩⟩)))))
end
end Dk
end
section
set_option Elab.async false
set_option linter.all false
set_option maxRecDepth 100000
namespace Dk
open PySem PySem.Spec PyProof.Rows L2 Pk
structure KindN (K : Kw) (C R a0 a1 a2 a3 a4 a5 a6 a7 : Addr) (n : Nat) : Prop where
  c : ExcC K C
  exm : PySem.W.exmOne K (.ref C) (.ref R) = some true
  k0 : PySem.W.kitOne K (.ref C) (.ref a0) = some (decide (0 = n))
  k1 : PySem.W.kitOne K (.ref C) (.ref a1) = some (decide (1 = n))
  k2 : PySem.W.kitOne K (.ref C) (.ref a2) = some (decide (2 = n))
  k3 : PySem.W.kitOne K (.ref C) (.ref a3) = some (decide (3 = n))
  k4 : PySem.W.kitOne K (.ref C) (.ref a4) = some (decide (4 = n))
  k5 : PySem.W.kitOne K (.ref C) (.ref a5) = some (decide (5 = n))
  k6 : PySem.W.kitOne K (.ref C) (.ref a6) = some (decide (6 = n))
  k7 : PySem.W.kitOne K (.ref C) (.ref a7) = some (decide (7 = n))
  ve : PySem.W.kitOne K (.ref C) (.type "ValueError") = some true
def KL (K : Kw) (R a0 a1 a2 a3 a4 a5 a6 a7 : Addr) (L : List (Addr × Nat)) : Prop := ∀ C n, (C, n) ∈ L → KindN K C R a0 a1 a2 a3 a4 a5 a6 a7 n
theorem kl_nil {K : Kw} {R a0 a1 a2 a3 a4 a5 a6 a7 : Addr} : KL K R a0 a1 a2 a3 a4 a5 a6 a7 [] := fun _ _ h => nomatch h
theorem kl_cons {K : Kw} {C R a0 a1 a2 a3 a4 a5 a6 a7 : Addr} {n : Nat} {L : List (Addr × Nat)} (h : KindN K C R a0 a1 a2 a3 a4 a5 a6 a7 n) (t : KL K R a0 a1 a2 a3 a4 a5 a6 a7 L) : KL K R a0 a1 a2 a3 a4 a5 a6 a7 ((C, n) :: L) := fun D j hm => by
  rcases List.mem_cons.mp hm with z | z
  · cases z; exact h
  · exact t D j z
end Dk
end
section
set_option Elab.async false
set_option linter.all false
set_option maxRecDepth 100000
set_option pp.maxSteps 600
open PySem L2 Pk
local macro_rules | `(tactic| walk_at "sh") => `(tactic| first | exact sh_int | exact sh_bool | exact sh_non | exact sh_nil | exact sh_str (by decide +kernel) | assumption)
local macro_rules | `(tactic| walk_at "v1") => `(tactic| first
  | (with_reducible refine wd_int ?_) | (with_reducible refine wd_str ?_) | (with_reducible refine wd_bl ?_) | (with_reducible refine wd_non ?_)
  | ((with_reducible apply wd_var); exact rfl) | ((with_reducible apply wd_varN); exact rfl)
  | ((with_reducible apply wd_ixm); exact rfl)
  | ((with_reducible apply wd_lenM); exact rfl) | ((with_reducible apply wd_lenScript); exact rfl) | ((with_reducible apply wd_ixScript); exact rfl)
  | (with_reducible refine wd_op ?_) | (with_reducible refine wd_un ?_)
  | (with_reducible refine rd_add ?_) | (with_reducible refine rd_sub ?_) | (with_reducible refine rd_lt ?_) | (with_reducible refine rd_le ?_) | (with_reducible refine rd_gt ?_) | (with_reducible refine rd_ge ?_) | (with_reducible refine ru_neg ?_)
  | ((with_reducible refine rd_eq ?ev_h ?ev_k ?_); (case ev_h => walk_at "sh"); (case ev_k => walk_at "sh")) | ((with_reducible refine rd_ne ?ev_h ?ev_k ?_); (case ev_h => walk_at "sh"); (case ev_k => walk_at "sh"))
  | ((with_reducible refine rd_mod ?ev_h ?_); case ev_h => first | decide | assumption | omega) | ((with_reducible refine rd_div ?ev_h ?ev_k ?_); (case ev_h => first | decide | assumption | omega); (case ev_k => first | decide | assumption | omega))
  | ((with_reducible refine rd_pow ?ev_h ?_); case ev_h => exact ⟨by decide, by decide, by decide⟩)
  | ((with_reducible refine rd_mul ?ev_h ?_); case ev_h => first | exact .inr ⟨by decide, by decide⟩ | exact .inl ⟨by decide, by decide⟩ | exact .inl ⟨by omega, by omega⟩ | exact .inr ⟨by omega, by omega⟩)
  | (with_reducible refine rc_lenL ?_) | (with_reducible refine rc_lenT ?_) | (with_reducible refine rc_max2 ?_) | (with_reducible refine rc_min2 ?_) | (with_reducible refine rc_intB ?_) | (with_reducible refine rc_intI ?_) | (with_reducible refine rc_listL ?_) | (with_reducible refine rc_listT ?_) | (with_reducible refine rc_tupleL ?_)
  | ((with_reducible apply rd_ixT); exact rfl)
  | ((with_reducible apply rd_ixL); exact rfl)
  | ((with_reducible refine wd_isi ?ev_h ?_); case ev_h => decide) | ((with_reducible refine wd_isi2 ?ev_h ?ev_k ?_); (case ev_h => decide); (case ev_k => decide))
  | (with_reducible refine wd_tup2 ?_) | (with_reducible refine wd_tup1 ?_) | (with_reducible refine wd_tup3 ?_) | (with_reducible refine wd_tup0 ?_)
  | (with_reducible refine wd_lst0 ?_) | (with_reducible refine wd_lst1 ?_) | (with_reducible refine wd_lst2 ?_) | (with_reducible refine wd_lst3 ?_) | (with_reducible refine wd_lst4 ?_) | (with_reducible refine wd_lst5 ?_) | (with_reducible refine wd_lst6 ?_)
  | ((with_reducible apply wd_callO0); exact rfl) | ((with_reducible apply wd_callO1); exact rfl) | ((with_reducible apply wd_callO2); exact rfl) | ((with_reducible apply wd_callO3); exact rfl)
  | (with_reducible refine wd_call1 ?_) | (with_reducible refine wd_call2 ?_) | (with_reducible refine wd_call3 ?_) | (with_reducible refine wd_call4 ?_) | (with_reducible refine wd_call0 ?_)
  | (with_reducible refine wd_cb1 ?_) | (with_reducible refine wd_cb2 ?_)
  | (with_reducible refine wd_rev ?_) | (with_reducible refine wd_lrg1 ?_) | (with_reducible refine wd_sl ?_) | (with_reducible refine wo_no ?_) | (with_reducible refine wo_some ?_)
  | (with_reducible refine wd_andV ?_) | (with_reducible refine wd_orV ?_) | (with_reducible refine wd_notV ?_) | (with_reducible refine wd_if ?_) | (with_reducible refine wd_chain ?_)
  | (with_reducible refine wt_test ?_) | (with_reducible refine wt_B ?_) | (with_reducible refine wt_not ?_) | (with_reducible refine wt_and ?_) | (with_reducible refine wt_or ?_) | (with_reducible refine wt_yes ?_)
  | (with_reducible refine gj_name ?_) | (with_reducible refine gj_tup rfl ?_) | (with_reducible refine gjs_cons ?_) | (with_reducible refine gjs_nil ?_))
local macro_rules | `(tactic| walk_at "v") => `(tactic| repeat walk_at "v1")
local macro_rules | `(tactic| walk_at "x") => `(tactic| refine ⟨_, rfl, ?_⟩)
local macro_rules | `(tactic| walk_at "vx") => `(tactic| repeat (first | walk_at "v1" | (with_reducible refine ⟨_, rfl, ?_⟩)))
namespace Dk
open PySem PySem.Spec PyProof.Rows L2 Pk Sy
def wordN : Nat → Str
  | 0 => "NoStore"
  | 2 => "NoNumber"
  | 3 => "TooMany"
  | 4 => "NoFit"
  | 6 => "NoName"
  | 5 => "NoText"
  | 7 => "NoRow"
  | _ => "NoChoice"
def wbools (n : Nat) : List Bool := [decide (0 = n), decide (2 = n), decide (3 = n), decide (4 = n), decide (6 = n), decide (5 = n), decide (7 = n), decide (1 = n)]
def wwords : List Str := ["NoStore", "NoNumber", "TooMany", "NoFit", "NoName", "NoText", "NoRow", "NoChoice"]
theorem wb_count : ∀ n, n < 8 → (wbools n).count true = 1 := by decide
theorem wb_mem : ∀ n, n < 8 → true ∈ wbools n := by decide
theorem wb_word : ∀ n, n < 8 → wwords[(wbools n).idxOf true]? = some (wordN n) := fun n hn => by
  match n, hn with
  | 0, _ => rfl
  | 1, _ => rfl
  | 2, _ => rfl
  | 3, _ => rfl
  | 4, _ => rfl
  | 5, _ => rfl
  | 6, _ => rfl
  | 7, _ => rfl
theorem wbools_sh (bs : List Bool) : SeqAt.shaped (.list (bs.map PyData.bool)) = true := sh_of (n := 1) (fun x hx => by
  obtain ⟨b, _, rfl⟩ := List.mem_map.mp hx
  exact True.intro) (by decide)
theorem count_bools : ∀ bs : List Bool, (bs.map PyData.bool).countP (fun z => PyData.eqv z (.bool true)) = bs.count true
  | [] => rfl
  | b :: bs => by
    rw [List.map_cons, List.countP_cons, List.count_cons, count_bools bs, eqv_bool]
theorem idx_bools {bs : List Bool} (h : true ∈ bs) : (bs.map PyData.bool)[bs.idxOf true]? = some (.bool true) ∧ ∀ (m : Nat) (z' : PyData), m < bs.idxOf true → (bs.map PyData.bool)[m]? = some z' → PyData.eqv z' (.bool true) = false := by
  induction bs with
  | nil => cases h
  | cons b bs ih =>
    cases b with
    | true => exact ⟨rfl, fun m z' hm => absurd hm (by simp)⟩
    | false =>
      have h' : true ∈ bs := by
        rcases List.mem_cons.mp h with z | z
        · cases z
        · exact z
      obtain ⟨a, c⟩ := ih h'
      have e : (false :: bs).idxOf true = bs.idxOf true + 1 := by rw [List.idxOf_cons]; simp
      rw [e]
      refine ⟨by simpa using a, fun m z' hm hz => ?_⟩
      cases m with
      | zero =>
        simp at hz
        subst hz
        rfl
      | succ m => exact c m z' (by omega) (by simpa using hz)
def T_wordK (L : List (Addr × Nat)) (K : Kw) : List Sl → (Sl → Prop) → Prop := fun Γ Q => ∃ a C n, (C, n) ∈ L ∧ Γ = [.ex (.ref a) (ExcO K C)] ∧ n < 8 ∧ Q (.dat true (.str (wordN n)))
section
variable {P : Program} {K : Kw} {mg : Str → Option Value} {base : Heap} {k : Nat}
theorem ok_wordK {R a0 a1 a2 a3 a4 a5 a6 a7 : Addr} {L : List (Addr × Nat)} (D : Def K mg "_law_word" s_l_word ["caught"]) (FL : KL K R a0 a1 a2 a3 a4 a5 a6 a7 L) (m_isinstance : mg "isinstance" = none) (m_ValueError : mg "ValueError" = none) (g0 : mg "NoStore" = some (.ref a0)) (g1 : mg "NoChoice" = some (.ref a1)) (g2 : mg "NoNumber" = some (.ref a2)) (g3 : mg "TooMany" = some (.ref a3)) (g4 : mg "NoFit" = some (.ref a4)) (g5 : mg "NoText" = some (.ref a5)) (g6 : mg "NoName" = some (.ref a6)) (g7 : mg "NoRow" = some (.ref a7)) : Cal P K.w K mg base CX0 (k + 1) "_law_word" ["caught"] (spG K (T_wordK L K)) := by
  refine cal_g D sc_l_word (fun Γ Qr ⟨a, C, n, _, e, _⟩ => by subst e; exact ⟨rfl, noMl_ex noMl_nil⟩) fun f cdv A outer s H E hr => ⟨_, wk_l_word (m_isinstance := m_isinstance) (m_ValueError := m_ValueError) (g_NoStore := g0) (g_NoChoice := g1) (g_NoNumber := g2) (g_TooMany := g3) (g_NoFit := g4) (g_NoText := g5) (g_NoName := g6) (g_NoRow := g7) f cdv A outer s H E hr, ?_⟩
  rintro Γ Qr ⟨a, C, n, hm, rfl, hn, q⟩
  have F := FL C n hm
  show SJ K [.ex (.ref a) (ExcO K C), .no, .no] (t_l_word K _ _ _ _ _ _ _ _) _
  unfold t_l_word
  refine sj_seq (sj_set false (wd_lst3 (wd_isX rfl F.c (.own _) F.k0 (wd_isX rfl F.c (.own _) F.k2 (wd_isX rfl F.c (.own _) F.k3 ?_)))))
  refine sj_seq (sj_set false (wd_op (wd_var rfl (wd_lst3 (wd_isX rfl F.c (.own _) F.k4 (wd_isX rfl F.c (.own _) F.k6 (wd_isX rfl F.c (.own _) F.k5 (rd_cat (le_lit rfl) ?_))))))))
  refine sj_seq (sj_set false (wd_op (wd_var rfl (wd_lst2 (wd_isX rfl F.c (.own _) F.k7 (wd_isX rfl F.c (.own _) F.k1 (rd_cat (le_lit rfl) ?_)))))))
  show SJ K [.ex (.ref a) (ExcO K C), .dat false (.list ((wbools n).map PyData.bool)), .no] _ _
  refine sj_seq (sj_if (wt_or (wt_test (wd_op (wd_count (wd_var rfl ⟨_, rfl, wd_bl ⟨wbools_sh _, sh_bool, wd_int (rd_ne sh_int sh_int ⟨_, rfl, ?_⟩)⟩⟩))))))
  rw [count_bools, wb_count n hn, eqv_int]
  refine iteF' rfl (wt_not (wt_B (wd_isX rfl F.c (.ty "ValueError") F.ve ⟨_, rfl, iteF' rfl (sj_next ?_)⟩)))
  refine sj_seq (sj_set false (wd_lst (wa_d (wd_str (wa_d (wd_str (wa_d (wd_str (wa_d (wd_str (wa_d (wd_str (wa_d (wd_str (wa_d (wd_str (wa_d (wd_str (wa_nil ⟨wwords.map PyData.str, rfl, le_lit rfl, ?_⟩)))))))))))))))))))
  show SJ K [.ex (.ref a) (ExcO K C), .dat false (.list ((wbools n).map PyData.bool)), .dat false (.list (wwords.map PyData.str))] _ _
  obtain ⟨i1, i2⟩ := idx_bools (wb_mem n hn)
  refine sj_retD true (wd_lf (wd_op (wd_var rfl (wd_index (wd_var rfl ⟨_, rfl, wd_bl ⟨(wbools n).idxOf true, .bool true, wbools_sh _, sh_bool, i1, by rw [eqv_bool]; rfl, i2, ?_⟩⟩)))))
  exact rd_selN ((wbools n).idxOf true) rfl (d := .str (wordN n)) (by rw [List.getElem?_map, wb_word n hn]; rfl) ⟨rfl, keep_ex keep_nil, q⟩
end
end Dk
end
section
set_option Elab.async false
set_option linter.all false
set_option maxRecDepth 100000
set_option pp.maxSteps 600
open PySem L2 Pk
local macro_rules | `(tactic| walk_at "sh") => `(tactic| first | exact sh_int | exact sh_bool | exact sh_non | exact sh_nil | exact sh_str (by decide +kernel) | assumption)
local macro_rules | `(tactic| walk_at "v1") => `(tactic| first
  | (with_reducible refine wd_int ?_) | (with_reducible refine wd_str ?_) | (with_reducible refine wd_bl ?_) | (with_reducible refine wd_non ?_)
  | ((with_reducible apply wd_var); exact rfl) | ((with_reducible apply wd_varN); exact rfl)
  | ((with_reducible apply wd_ixm); exact rfl)
  | ((with_reducible apply wd_lenM); exact rfl) | ((with_reducible apply wd_lenScript); exact rfl) | ((with_reducible apply wd_ixScript); exact rfl)
  | (with_reducible refine wd_op ?_) | (with_reducible refine wd_un ?_)
  | (with_reducible refine rd_add ?_) | (with_reducible refine rd_sub ?_) | (with_reducible refine rd_lt ?_) | (with_reducible refine rd_le ?_) | (with_reducible refine rd_gt ?_) | (with_reducible refine rd_ge ?_) | (with_reducible refine ru_neg ?_)
  | ((with_reducible refine rd_eq ?ev_h ?ev_k ?_); (case ev_h => walk_at "sh"); (case ev_k => walk_at "sh")) | ((with_reducible refine rd_ne ?ev_h ?ev_k ?_); (case ev_h => walk_at "sh"); (case ev_k => walk_at "sh"))
  | ((with_reducible refine rd_mod ?ev_h ?_); case ev_h => first | decide | assumption | omega) | ((with_reducible refine rd_div ?ev_h ?ev_k ?_); (case ev_h => first | decide | assumption | omega); (case ev_k => first | decide | assumption | omega))
  | ((with_reducible refine rd_pow ?ev_h ?_); case ev_h => exact ⟨by decide, by decide, by decide⟩)
  | ((with_reducible refine rd_mul ?ev_h ?_); case ev_h => first | exact .inr ⟨by decide, by decide⟩ | exact .inl ⟨by decide, by decide⟩ | exact .inl ⟨by omega, by omega⟩ | exact .inr ⟨by omega, by omega⟩)
  | (with_reducible refine rc_lenL ?_) | (with_reducible refine rc_lenT ?_) | (with_reducible refine rc_max2 ?_) | (with_reducible refine rc_min2 ?_) | (with_reducible refine rc_intB ?_) | (with_reducible refine rc_intI ?_) | (with_reducible refine rc_listL ?_) | (with_reducible refine rc_listT ?_) | (with_reducible refine rc_tupleL ?_)
  | ((with_reducible apply rd_ixT); exact rfl)
  | ((with_reducible apply rd_ixL); exact rfl)
  | ((with_reducible refine wd_isi ?ev_h ?_); case ev_h => decide) | ((with_reducible refine wd_isi2 ?ev_h ?ev_k ?_); (case ev_h => decide); (case ev_k => decide))
  | (with_reducible refine wd_tup2 ?_) | (with_reducible refine wd_tup1 ?_) | (with_reducible refine wd_tup3 ?_) | (with_reducible refine wd_tup0 ?_)
  | (with_reducible refine wd_lst0 ?_) | (with_reducible refine wd_lst1 ?_) | (with_reducible refine wd_lst2 ?_) | (with_reducible refine wd_lst3 ?_) | (with_reducible refine wd_lst4 ?_) | (with_reducible refine wd_lst5 ?_) | (with_reducible refine wd_lst6 ?_)
  | ((with_reducible apply wd_callO0); exact rfl) | ((with_reducible apply wd_callO1); exact rfl) | ((with_reducible apply wd_callO2); exact rfl) | ((with_reducible apply wd_callO3); exact rfl)
  | (with_reducible refine wd_call1 ?_) | (with_reducible refine wd_call2 ?_) | (with_reducible refine wd_call3 ?_) | (with_reducible refine wd_call4 ?_) | (with_reducible refine wd_call0 ?_)
  | (with_reducible refine wd_cb1 ?_) | (with_reducible refine wd_cb2 ?_)
  | (with_reducible refine wd_rev ?_) | (with_reducible refine wd_lrg1 ?_) | (with_reducible refine wd_sl ?_) | (with_reducible refine wo_no ?_) | (with_reducible refine wo_some ?_)
  | (with_reducible refine wd_andV ?_) | (with_reducible refine wd_orV ?_) | (with_reducible refine wd_notV ?_) | (with_reducible refine wd_if ?_) | (with_reducible refine wd_chain ?_)
  | (with_reducible refine wt_test ?_) | (with_reducible refine wt_B ?_) | (with_reducible refine wt_not ?_) | (with_reducible refine wt_and ?_) | (with_reducible refine wt_or ?_) | (with_reducible refine wt_yes ?_)
  | (with_reducible refine gj_name ?_) | (with_reducible refine gj_tup rfl ?_) | (with_reducible refine gjs_cons ?_) | (with_reducible refine gjs_nil ?_))
local macro_rules | `(tactic| walk_at "v") => `(tactic| repeat walk_at "v1")
local macro_rules | `(tactic| walk_at "x") => `(tactic| refine ⟨_, rfl, ?_⟩)
local macro_rules | `(tactic| walk_at "vx") => `(tactic| repeat (first | walk_at "v1" | (with_reducible refine ⟨_, rfl, ?_⟩)))
namespace Dk
open PySem PySem.Spec PyProof.Rows L2 Pk Sy
def StrsOk (bs : List Str) : Prop := ∀ x ∈ bs, PyData.strOk x = true
theorem BsOk.strs {bs : List Str} (h : BsOk bs) : StrsOk bs := fun x hx => (h.nm x hx).strOk
theorem bs_shO {bs : List Str} (h : StrsOk bs) : SeqAt.shaped (bsD bs) = true := sh_of (n := 1) (fun x hx => by
  obtain ⟨y, hy, rfl⟩ := List.mem_map.mp hx
  exact dep_str (h y hy)) (by decide)
theorem bsO_nb (bs : List Str) : NB (bsD bs) := .lst fun z hz => by
  obtain ⟨t, _, rfl⟩ := List.mem_map.mp hz
  exact .str t
theorem bsO_eqv (bs cs : List Str) : PyData.eqv (bsD bs) (bsD cs) = decide (bs = cs) := by
  by_cases e : bs = cs
  · subst e
    rw [eqv_self (bsO_nb bs), decide_eq_true rfl]
  · rw [decide_eq_false e]
    exact eqv_no (bsO_nb bs) (bsO_nb cs) fun z => e ((List.map_inj_right (fun x y h => PyData.str.inj h)).mp (PyData.list.inj z))
def NoBx (bs : List Str) (x : PyData) : Prop := ((bs.map PyData.str).any fun z => Pu.eqe z x) = false
theorem nobx_str {bs : List Str} {y : Str} : ((bs.map PyData.str).any fun z => Pu.eqe z (.str y)) = decide (y ∈ bs) := by
  apply Bool.eq_iff_iff.mpr
  rw [List.any_eq_true, decide_eq_true_eq]
  constructor
  · rintro ⟨z, hz, e⟩
    obtain ⟨t, ht, rfl⟩ := List.mem_map.mp hz
    rw [Pu.eqe_str, decide_eq_true_eq] at e
    rwa [← e]
  · intro h
    exact ⟨.str y, List.mem_map.mpr ⟨y, h, rfl⟩, by rw [Pu.eqe_str]; exact decide_eq_true rfl⟩
/-- a thing like a program -/
abbrev prD (m : Nat) (bs : List Str) (r : PyData) : PyData := .tuple [.int m, bsD bs, r]
def T_alikeX (C : Addr) (K : Kw) : List Sl → (Sl → Prop) → XQ → Prop := fun Γ Qr Qe => ∃ (m1 m2 : Nat) (b1 b2 : List Str) (r1 r2 : PyData), Γ = [.dat false (prD m1 b1 r1), .dat false (prD m2 b2 r2)] ∧ StrsOk b1 ∧ StrsOk b2 ∧ ((m1 = m2 ∧ b1 = b2) → Qr (.dat true .none)) ∧ (¬ (m1 = m2 ∧ b1 = b2) → Qe (.ref C) none)
/-- what comes of a program put behind another -/
def AftR (m1 m2 : Nat) (b1 b2 : List Str) (r1 r2 x : PyData) (fit name many : Prop) (good : Pg → Prop) : Prop :=
  (¬ (m1 = m2 ∧ b1 = b2) ∧ fit) ∨ ∃ p q : Pg, p.Ok ∧ q.Ok ∧ q.m = p.m ∧ q.bs = p.bs ∧ m1 = p.m ∧ b1 = p.bs ∧ m2 = p.m ∧ b2 = p.bs ∧ r1 = .list (p.rows.map Rw.d) ∧ r2 = .list (q.rows.map Rw.d) ∧ Pr.rok x = true ∧
    ((NoBx p.bs x ∧ name) ∨ ∃ y, x = .str y ∧ y ∈ p.bs ∧ ((30 < spL p.rows + 1 + q.rows.length ∧ many) ∨ (spL p.rows + 1 + q.rows.length ≤ 30 ∧ good (after p q y))))
theorem AftR.imp {m1 m2 : Nat} {b1 b2 : List Str} {r1 r2 x : PyData} {f n m f' n' m' : Prop} {g g' : Pg → Prop} (h : AftR m1 m2 b1 b2 r1 r2 x f n m g) (hf : f → f') (hn : n → n') (hm : m → m') (hg : ∀ p, g p → g' p) : AftR m1 m2 b1 b2 r1 r2 x f' n' m' g' := by
  rcases h with ⟨h, q⟩ | ⟨p, q, a1, a2, a3, a4, a5, a6, a7, a8, a9, a10, a11, h⟩
  · exact .inl ⟨h, hf q⟩
  · refine .inr ⟨p, q, a1, a2, a3, a4, a5, a6, a7, a8, a9, a10, a11, ?_⟩
    rcases h with ⟨h, q⟩ | ⟨y, e, hy, ⟨h, q⟩ | ⟨h, q⟩⟩
    · exact .inl ⟨h, hn q⟩
    · exact .inr ⟨y, e, hy, .inl ⟨h, hm q⟩⟩
    · exact .inr ⟨y, e, hy, .inr ⟨h, hg _ q⟩⟩
def T_afterX (C4 C6 C3 : Addr) (K : Kw) : List Sl → (Sl → Prop) → XQ → Prop := fun Γ Qr Qe => ∃ (m1 m2 : Nat) (b1 b2 : List Str) (r1 r2 x : PyData), Γ = [.dat false (prD m1 b1 r1), .dat false (prD m2 b2 r2), .dat false x] ∧ StrsOk b1 ∧ StrsOk b2 ∧
  AftR m1 m2 b1 b2 r1 r2 x (Qe (.ref C4) none) (Qe (.ref C6) none) (Qe (.ref C3) none) (fun p => Qr (.dat false p.d))
def T_asked71 (K : Kw) : List Sl → (Sl → Prop) → Prop := fun Γ Q => ∃ (m1 m2 : Nat) (b1 b2 : List Str) (r1 r2 x : PyData), Γ = [.dat false (prD m1 b1 r1), .dat false (prD m2 b2 r2), .dat false x] ∧ StrsOk b1 ∧ StrsOk b2 ∧
  AftR m1 m2 b1 b2 r1 r2 x (Q (.dat true (.str (wordN 4)))) (Q (.dat true (.str (wordN 6)))) (Q (.dat true (.str (wordN 3)))) (fun p => Q (.dat false p.d))
section
variable {P : Program} {K : Kw} {mg : Str → Option Value} {base : Heap} {k : Nat}
theorem ok_alikeX {C : Addr} (D : Def K mg "need_alike" s_need_alike ["one", "other"]) (e_NoFit : ExcT K mg "NoFit" C) : Cal P K.w K mg base (L2.CX P K.w) (k + 1) "need_alike" ["one", "other"] (spX K (T_alikeX C K)) := by
  refine cal_x D sc_need_alike (fun Γ Qr Qe ⟨_, _, _, _, _, _, e, _⟩ => by subst e; exact ⟨rfl, noMl_dat (noMl_dat noMl_nil)⟩) fun f cdv A outer s H E hr => ⟨_, wk_need_alike e_NoFit f cdv A outer s H E hr, ?_⟩
  rintro Γ Qr Qe ⟨m1, m2, b1, b2, r1, r2, rfl, s1, s2, h1, h2⟩
  show SJt K [.dat false (prD m1 b1 r1), .dat false (prD m2 b2 r2)] (t_need_alike K _ _) _
  unfold t_need_alike
  refine SJ.t (sj_if (wt_or (wt_test (wd_op (wd_op (wd_var rfl (wd_int (rd_ixT (d := .int m1) rfl (wd_op (wd_var rfl (wd_int (rd_ixT (d := .int m2) rfl (rd_ne sh_int sh_int ⟨_, rfl, ?_⟩)))))))))))))
  rw [eqv_int]
  by_cases hm : m1 = m2
  · refine iteF' (by rw [hm, decide_eq_true rfl]; rfl) (wt_test (wd_op (wd_op (wd_var rfl (wd_int (rd_ixT (d := bsD b1) rfl (wd_op (wd_var rfl (wd_int (rd_ixT (d := bsD b2) rfl (rd_ne (bs_shO s1) (bs_shO s2) ⟨_, rfl, ?_⟩)))))))))))
    rw [bsO_eqv]
    by_cases hb : b1 = b2
    · exact iteF' (by rw [hb, decide_eq_true rfl]; rfl) (sj_next ⟨keep_dat (keep_dat keep_nil), h1 ⟨hm, hb⟩⟩)
    · exact iteT' (by rw [decide_eq_false hb]; rfl) (sj_raise ⟨keep_dat (keep_dat keep_nil), h2 fun z => hb z.2⟩)
  · exact iteT' (by rw [decide_eq_false (by omega)]; rfl) (sj_raise ⟨keep_dat (keep_dat keep_nil), h2 fun z => hm z.1⟩)
theorem ok_afterX {C4 C6 C3 : Addr} (D : Def K mg "put_after" s_put_after ["one", "other", "box"]) (c_copied : Cal P K.w K mg base CX0 k "copied_row" ["row"] (spG K (T_copied K))) (c_anew : Cal P K.w K mg base CX0 k "row_anew" ["rows", "at", "spots", "box", "boxes"] (spG K (T_anew K))) (c_spots : Cal P K.w K mg base CX0 k "spots_behind" ["rows"] (spG K (T_spots K))) (c_alike : Cal P K.w K mg base (L2.CX P K.w) k "need_alike" ["one", "other"] (spX K (T_alikeX C4 K))) (m_isinstance : mg "isinstance" = none) (m_str : mg "str" = none) (m_len : mg "len" = none) (m_range : mg "range" = none) (m_list : mg "list" = none) (g_MOST_ROWS : ∃ t, mg "MOST_ROWS" = some (.int 30 t)) (e_NoName : ExcT K mg "NoName" C6) (e_TooMany : ExcT K mg "TooMany" C3) : Cal P K.w K mg base (L2.CX P K.w) (k + 1) "put_after" ["one", "other", "box"] (spX K (T_afterX C4 C6 C3 K)) := by
  refine cal_x D sc_put_after (fun Γ Qr Qe ⟨_, _, _, _, _, _, _, e, _⟩ => by subst e; exact ⟨rfl, noMl_dat (noMl_dat (noMl_dat noMl_nil))⟩) fun f cdv A outer s H E hr => ⟨_, wk_put_after (c_copied_row := c_copied) (c_row_anew := c_anew) (c_spots_behind := c_spots) (c_need_alike := c_alike) (m_list := m_list) (m_range := m_range) (m_len := m_len) (m_isinstance := m_isinstance) (m_str := m_str) (g_MOST_ROWS := g_MOST_ROWS) (e_TooMany := e_TooMany) (e_NoName := e_NoName) f cdv A outer s H E hr, ?_⟩
  rintro Γ Qr Qe ⟨m1, m2, b1, b2, r1, r2, d, rfl, s1, s2, hx⟩
  refine SJ.t ?_
  rcases hx with ⟨hn, qe⟩ | ⟨p, q, hp, hq, hqm, hqb, rfl, rfl, rfl, rfl, rfl, rfl, hrk, hx⟩
  · show SJ K [.dat false (prD m1 b1 r1), .dat false (prD m2 b2 r2), .dat false d, .no, .no, .no, .no] (t_put_after K _ _ _ _ _ _ _ _) _
    unfold t_put_after
    exact sj_seq (sj_dropW (wxw_call2 (wd_var rfl (wd_var rfl ⟨m1, m2, b1, b2, r1, r2, rfl, s1, s2, fun z => absurd z hn, fun _ => ⟨keep_dat (keep_dat (keep_dat keep_nil)), qe⟩⟩))))
  have hqd : prD p.m p.bs (.list (q.rows.map Rw.d)) = q.d := by
    show PyData.tuple _ = PyData.tuple _
    rw [hqm, hqb]
  rw [hqd]
  have hp30 := hp.r30
  have hq30 := hq.r30
  have hl0 := hp.bs.len0
  have kp : ∀ {s : List Sl}, Keep [.dat false p.d, .dat false q.d, .dat false d] (.dat false p.d :: .dat false q.d :: .dat false d :: s) := fun {s} => keep_dat (keep_dat (keep_dat keep_nil))
  obtain ⟨xs, hxs⟩ := spots_last p.rows
  show SJ K [.dat false p.d, .dat false q.d, .dat false d, .no, .no, .no, .no] (t_put_after K _ _ _ _ _ _ _ _) _
  unfold t_put_after
  refine sj_seq (sj_dropW (wxw_call2 (wd_var rfl (wd_var rfl ⟨p.m, q.m, p.bs, q.bs, _, _, rfl, hp.bs.strs, hq.bs.strs, fun _ => ?_, fun z => absurd ⟨hqm.symm, hqb.symm⟩ z⟩))))
  show SJ K [.dat false p.d, .dat false q.d, .dat false d, .no, .no, .no, .no] _ _
  refine sj_seq (sj_if (wt_or (wt_not (wt_B (wd_isi (by decide) (wd_var rfl ⟨_, rfl, ?_⟩))))))
  rcases hx with ⟨hnb, qe⟩ | ⟨x, rfl, hxb, hx⟩
  · by_cases hs : isTy d "str" = true
    · rw [hs]
      refine iteF' rfl ?_
      refine wt_test (wd_op (wd_var rfl (wd_op (wd_var rfl (wd_int (rd_ixT (d := bsD p.bs) rfl (Pu.rd_inStrs hrk ⟨_, rfl, ?_⟩)))))))
      rw [show ((p.bs.map PyData.str).any fun z => Pu.eqe z d) = false from hnb]
      exact iteT' rfl (sj_raise ⟨kp, qe⟩)
    · exact iteT' (by simpa using hs) (sj_raise ⟨kp, qe⟩)
  refine iteF' rfl ?_
  refine wt_test (wd_op (wd_var rfl (wd_op (wd_var rfl (wd_int (rd_ixT (d := bsD p.bs) rfl (Pu.rd_inStrs rfl ⟨_, rfl, ?_⟩)))))))
  rw [nobx_str, decide_eq_true hxb]
  refine iteF' rfl (sj_next (sj_seq (sj_set false (wd_call1 (wd_op (wd_var rfl (wd_int (rd_ixT (d := .list (p.rows.map Rw.d)) rfl ⟨p.rows, rfl, hp30, fun l => asD_mln ?_⟩))))))))
  show SJ K [.dat false p.d, .dat false q.d, .dat false (.str x), .dat false (natsD (spots p.rows)), .no, .no, .no] _ _
  refine sj_seq (sj_if (wt_test (wd_op (wd_op (wd_op (wd_op (wd_var rfl (wd_un (wd_int (ru_neg (rd_ixL (d := .int (spL p.rows : Nat)) ?_ (wd_int (rd_add (wd_cb1 (wd_op (wd_var rfl (wd_int (rd_ixT (d := .list (q.rows.map Rw.d)) rfl (rc_lenL (rd_add (wd_int (rd_gt ⟨_, rfl, ?_⟩))))))))))))))))))))))
  · rw [hxs, List.map_append]
    exact atI_lastD
  rw [List.length_map]
  rcases hx with ⟨hbig, qe⟩ | ⟨hroom, qq⟩
  · rw [decide_eq_true (by omega)]
    exact iteT' rfl (sj_raise ⟨kp, qe⟩)
  rw [decide_eq_false (by omega)]
  refine iteF' rfl (sj_next (sj_seq (sj_setX (wx_lst0 false fun l => ?_))))
  refine sj_cut (fun Γ' => ∃ s5, Γ' = [.dat false p.d, .dat false q.d, .dat false (.str x), .dat false (natsD (spots p.rows)), .ml false l ((anews (p.bs.headD "") x p.rows p.rows.length).map Rw.d), s5, .no]) ?_ ?_
  · refine sj_for false (wi_rng (wd_cb1 (wd_op (wd_var rfl (wd_int (rd_ixT (d := .list (p.rows.map Rw.d)) rfl (rc_lenL ⟨_, rfl, by rw [List.length_map]; exact ⟨by omega, by omega⟩, ?_⟩)))))))
    rw [List.length_map]
    refine ⟨fun i Γ' => i ≤ p.rows.length ∧ ∃ s5, Γ' = [.dat false p.d, .dat false q.d, .dat false (.str x), .dat false (natsD (spots p.rows)), .ml false l ((anews (p.bs.headD "") x p.rows i).map Rw.d), s5, .no], ⟨by omega, .no, rfl⟩, ?_, ?_⟩
    · rintro i d Γ' hd ⟨_, s5, rfl⟩
      obtain ⟨hi, rfl⟩ := rangeD_of hd
      have hi' : i < p.rows.length := by omega
      refine gj_name (sj_ext (i := 4) (m := false) (l := l) (ds := (anews (p.bs.headD "") x p.rows i).map Rw.d) rfl ?_)
      refine wd_call (wa_d (wd_op (wd_var rfl (wd_int (rd_ixT (d := .list (p.rows.map Rw.d)) rfl (wa_d (wd_var rfl (wa_d (wd_var rfl (wa_d (wd_var rfl (wa_d (wd_op (wd_var rfl (wd_int (rd_ixT (d := bsD p.bs) rfl (wa_nil ⟨agsGood_d rfl, ?_⟩)))))))))))))))))
      have e0 : (0 : Int) + (i : Int) = (i : Int) := by omega
      rw [e0]
      refine ⟨p.rows, i, x, p.bs, rfl, hi', hl0, asD_dat ⟨_, rfl, ?_, by omega, .dat false (.int (i : Int)), ?_⟩⟩
      · have h1 := anews_len (p.bs.headD "") x (rs := p.rows) (n := i) (by omega)
        have h2 := anews_len (p.bs.headD "") x (rs := p.rows) (n := i + 1) (by omega)
        rw [anews_succ, List.length_append] at h2
        have h3 := spL_take p.rows (i + 1)
        rw [List.length_map, List.length_map]
        omega
      · show [Sl.dat false p.d, .dat false q.d, .dat false (.str x), .dat false (natsD (spots p.rows)), .ml false l ((anews (p.bs.headD "") x p.rows i).map Rw.d ++ (anwAt (p.bs.headD "") x p.rows i).map Rw.d), _, .no] = _
        rw [anews_succ, List.map_append]
    · rintro Γ' ⟨_, s5, rfl⟩
      have e : ((p.rows.length : Int)).toNat = p.rows.length := by omega
      rw [rangeD_len, e]
      exact ⟨s5, rfl⟩
  rintro _ ⟨s5, rfl⟩
  have hal := anews_len (p.bs.headD "") x (rs := p.rows) (n := p.rows.length) (by omega)
  rw [List.take_length] at hal
  refine sj_seq (sj_app (i := 4) (m := false) (l := l) (ds := (anews (p.bs.headD "") x p.rows p.rows.length).map Rw.d) rfl (by rw [List.length_map]; omega) (wd_tup2 (wd_str (wd_tup2 (wd_str (wd_int ?_))))))
  have eA : (anews (p.bs.headD "") x p.rows p.rows.length).map Rw.d ++ [(Rw.need (.num 0)).d] = (anews (p.bs.headD "") x p.rows p.rows.length ++ [Rw.need (.num 0)]).map Rw.d := by rw [List.map_append]; rfl
  show SJ K [.dat false p.d, .dat false q.d, .dat false (.str x), .dat false (natsD (spots p.rows)), .ml false l ((anews (p.bs.headD "") x p.rows p.rows.length).map Rw.d ++ [(Rw.need (.num 0)).d]), s5, .no] _ _
  rw [eA]
  refine sj_frz 4 (l := l) (m := false) (ds := (anews (p.bs.headD "") x p.rows p.rows.length ++ [Rw.need (.num 0)]).map Rw.d) rfl ?_
  show SJ K [.dat false p.d, .dat false q.d, .dat false (.str x), .dat false (natsD (spots p.rows)), .dat false (.list ((anews (p.bs.headD "") x p.rows p.rows.length ++ [Rw.need (.num 0)]).map Rw.d)), s5, .no] _ _
  refine sj_retD false (wd_tup3 (wd_op (wd_var rfl (wd_int (rd_ixT (d := .int p.m) rfl (wd_cb1 (wd_op (wd_var rfl (wd_int (rd_ixT (d := bsD p.bs) rfl (rc_listL (wd_op (wd_var rfl ?_)))))))))))))
  refine wd_lcMa (mi := false) (α := Rw) Rw.d Rw.d (wipeOk_no rfl wipeOk_nil) gwn (wi_list (wd_op (wd_var rfl (wd_int (rd_ixT (d := .list (q.rows.map Rw.d)) rfl ⟨_, rfl, q.rows, rfl, by omega, fun i r hr => gj_name ⟨rfl, wd_call1 (wd_var rfl ⟨r, rfl, asD_dat rfl⟩)⟩, rd_cat ?_ ?_⟩)))))
  · rw [List.length_map, List.length_map, List.length_append]
    simp only [List.length_cons, List.length_nil]
    omega
  · rw [← List.map_append, List.append_assoc]
    show Keep _ _ ∧ Qr (.dat false (.tuple [.int p.m, bsD p.bs, .list ((anews (p.bs.headD "") x p.rows p.rows.length ++ (Rw.need (.num 0) :: q.rows)).map Rw.d)]))
    rw [after_rows (p.bs.headD "") x q.rows p.rows]
    exact ⟨kp, qq⟩
theorem ok_asked71 {C4 C6 C3 R : Addr} {L : List (Addr × Nat)} (D : Def K mg "_law_asked" s_l_asked ["one", "other", "box"]) (m4 : (C4, 4) ∈ L) (m6 : (C6, 6) ∈ L) (m3 : (C3, 3) ∈ L) (x4 : PySem.W.exmOne K (.ref C4) (.ref R) = some true) (x6 : PySem.W.exmOne K (.ref C6) (.ref R) = some true) (x3 : PySem.W.exmOne K (.ref C3) (.ref R) = some true) (c_word : Cal P K.w K mg base CX0 k "_law_word" ["caught"] (spG K (T_wordK L K))) (c_after : Cal P K.w K mg base (L2.CX P K.w) k "put_after" ["one", "other", "box"] (spX K (T_afterX C4 C6 C3 K))) (m_int : mg "int" = none) (m_isinstance : mg "isinstance" = none) (m_str : mg "str" = none) (g_RunError : mg "RunError" = some (.ref R)) : Cal P K.w K mg base CX0 (k + 1) "_law_asked" ["one", "other", "box"] (spG K (T_asked71 K)) := by
  refine cal_g D sc_l_asked (fun Γ Qr ⟨_, _, _, _, _, _, _, e, _⟩ => by subst e; exact ⟨rfl, noMl_dat (noMl_dat (noMl_dat noMl_nil))⟩) fun f cdv A outer s H E hr => ⟨_, wk_l_asked (c_l_word := c_word) (c_put_after := c_after) (m_int := m_int) (m_isinstance := m_isinstance) (m_str := m_str) (g_RunError := g_RunError) f cdv A outer s H E hr, ?_⟩
  rintro Γ Qr ⟨m1, m2, b1, b2, r1, r2, x, rfl, s1, s2, hx⟩
  obtain ⟨d1, hd1⟩ : ∃ d1, d1 = prD m1 b1 r1 := ⟨_, rfl⟩
  obtain ⟨d2, hd2⟩ : ∃ d2, d2 = prD m2 b2 r2 := ⟨_, rfl⟩
  rw [← hd1, ← hd2]
  have kp : ∀ {Γ'}, Keep [.dat false d1, .dat false d2, .dat false x] (.dat false d1 :: .dat false d2 :: .dat false x :: Γ') := fun {Γ'} => keep_dat (keep_dat (keep_dat keep_nil))
  show SJ K [.dat false d1, .dat false d2, .dat false x, .no, .no, .no] (t_l_asked K _ _ _) _
  unfold t_l_asked
  refine sj_seq (sj_set false (wd_non (sj_seq (sj_set false (wd_non ?_)))))
  show SJ K [.dat false d1, .dat false d2, .dat false x, .dat false .none, .dat false .none, .no] _ _
  refine sj_cut (fun Γ' => (∃ a C n, (C, n) ∈ L ∧ n < 8 ∧ Qr (.dat true (.str (wordN n))) ∧ Γ' = [.dat false d1, .dat false d2, .dat false x, .dat false .none, .ex (.ref a) (ExcO K C), .no]) ∨ (∃ p : Pg, Qr (.dat false p.d) ∧ Γ' = [.dat false d1, .dat false d2, .dat false x, .dat false p.d, .dat false .none, .no])) ?_ ?_
  · refine sj_tryKeep (i := 5) (j := 4) (by decide) fun W => ?_
    refine sj_setW (wxw_call3 (wd_var rfl (wd_var rfl (wd_var rfl ⟨m1, m2, b1, b2, r1, r2, x, by rw [hd1, hd2], s1, s2, hx.imp (fun q => ?_) (fun q => ?_) (fun q => ?_) fun p q => .inr ⟨p, q, rfl⟩⟩))))
    · exact ⟨true, x4, fun _ => ⟨C4, rfl, rfl, by simp, rfl, fun a => .inl ⟨a, C4, 4, m4, by decide, q, rfl⟩⟩, fun z => nomatch z⟩
    · exact ⟨true, x6, fun _ => ⟨C6, rfl, rfl, by simp, rfl, fun a => .inl ⟨a, C6, 6, m6, by decide, q, rfl⟩⟩, fun z => nomatch z⟩
    · exact ⟨true, x3, fun _ => ⟨C3, rfl, rfl, by simp, rfl, fun a => .inl ⟨a, C3, 3, m3, by decide, q, rfl⟩⟩, fun z => nomatch z⟩
  · rintro _ (⟨a, C, n, hm, hn, q, rfl⟩ | ⟨p, q, rfl⟩)
    · refine sj_seq (sj_if (wt_test (wd_isNo (i := 4) (a := a) rfl ⟨_, rfl, iteF' rfl (sj_next ?_)⟩)))
      exact sj_retD true (wd_callO0 (i := 4) (v := .ref a) rfl ⟨a, C, n, hm, rfl, hn, asD_new ⟨kp, q⟩⟩)
    · refine sj_seq (sj_if (wt_test (wd_isN (wd_var rfl ⟨_, rfl, iteT' rfl ?_⟩))))
      exact sj_retD false (wd_op (wd_lst2 (wd_var rfl (wd_str (wd_cb1 (wd_isi (by decide) (wd_var rfl (rc_intB (rd_selN 0 rfl rfl ⟨kp, q⟩)))))))))
end
end Dk
end
section
set_option Elab.async false
set_option linter.all false
set_option maxRecDepth 100000
set_option pp.maxSteps 400
open PySem L2 Pk
local macro_rules | `(tactic| walk_at "sh") => `(tactic| first | exact sh_int | exact sh_bool | exact sh_non | exact sh_nil | exact sh_str (by decide +kernel) | assumption)
local macro_rules | `(tactic| walk_at "v1") => `(tactic| first
  | (with_reducible refine wd_int ?_) | (with_reducible refine wd_str ?_) | (with_reducible refine wd_bl ?_) | (with_reducible refine wd_non ?_)
  | ((with_reducible apply wd_var); exact rfl) | ((with_reducible apply wd_varN); exact rfl)
  | ((with_reducible apply wd_ixm); exact rfl)
  | ((with_reducible apply wd_lenM); exact rfl) | ((with_reducible apply wd_lenScript); exact rfl) | ((with_reducible apply wd_ixScript); exact rfl)
  | (with_reducible refine wd_op ?_) | (with_reducible refine wd_un ?_)
  | (with_reducible refine rd_add ?_) | (with_reducible refine rd_sub ?_) | (with_reducible refine rd_lt ?_) | (with_reducible refine rd_le ?_) | (with_reducible refine rd_gt ?_) | (with_reducible refine rd_ge ?_) | (with_reducible refine ru_neg ?_)
  | ((with_reducible refine rd_eq ?ev_h ?ev_k ?_); (case ev_h => walk_at "sh"); (case ev_k => walk_at "sh")) | ((with_reducible refine rd_ne ?ev_h ?ev_k ?_); (case ev_h => walk_at "sh"); (case ev_k => walk_at "sh"))
  | ((with_reducible refine rd_mod ?ev_h ?_); case ev_h => first | decide | assumption | omega) | ((with_reducible refine rd_div ?ev_h ?ev_k ?_); (case ev_h => first | decide | assumption | omega); (case ev_k => first | decide | assumption | omega))
  | ((with_reducible refine rd_pow ?ev_h ?_); case ev_h => exact ⟨by decide, by decide, by decide⟩)
  | ((with_reducible refine rd_mul ?ev_h ?_); case ev_h => first | exact .inr ⟨by decide, by decide⟩ | exact .inl ⟨by decide, by decide⟩ | exact .inl ⟨by omega, by omega⟩ | exact .inr ⟨by omega, by omega⟩)
  | (with_reducible refine rc_lenL ?_) | (with_reducible refine rc_lenT ?_) | (with_reducible refine rc_max2 ?_) | (with_reducible refine rc_min2 ?_) | (with_reducible refine rc_intB ?_) | (with_reducible refine rc_intI ?_) | (with_reducible refine rc_listL ?_) | (with_reducible refine rc_listT ?_) | (with_reducible refine rc_tupleL ?_)
  | ((with_reducible apply rd_ixT); exact rfl)
  | ((with_reducible apply rd_ixL); exact rfl)
  | ((with_reducible refine wd_isi ?ev_h ?_); case ev_h => decide) | ((with_reducible refine wd_isi2 ?ev_h ?ev_k ?_); (case ev_h => decide); (case ev_k => decide))
  | (with_reducible refine wd_tup2 ?_) | (with_reducible refine wd_tup1 ?_) | (with_reducible refine wd_tup3 ?_) | (with_reducible refine wd_tup0 ?_)
  | (with_reducible refine wd_lst0 ?_) | (with_reducible refine wd_lst1 ?_) | (with_reducible refine wd_lst2 ?_) | (with_reducible refine wd_lst3 ?_) | (with_reducible refine wd_lst4 ?_) | (with_reducible refine wd_lst5 ?_) | (with_reducible refine wd_lst6 ?_)
  | ((with_reducible apply wd_callO0); exact rfl) | ((with_reducible apply wd_callO1); exact rfl) | ((with_reducible apply wd_callO2); exact rfl) | ((with_reducible apply wd_callO3); exact rfl)
  | (with_reducible refine wd_call1 ?_) | (with_reducible refine wd_call2 ?_) | (with_reducible refine wd_call3 ?_) | (with_reducible refine wd_call4 ?_) | (with_reducible refine wd_call0 ?_)
  | (with_reducible refine wd_cb1 ?_) | (with_reducible refine wd_cb2 ?_)
  | (with_reducible refine wd_rev ?_) | (with_reducible refine wd_lrg1 ?_) | (with_reducible refine wd_sl ?_) | (with_reducible refine wo_no ?_) | (with_reducible refine wo_some ?_)
  | (with_reducible refine wd_andV ?_) | (with_reducible refine wd_orV ?_) | (with_reducible refine wd_notV ?_) | (with_reducible refine wd_if ?_) | (with_reducible refine wd_chain ?_)
  | (with_reducible refine wt_test ?_) | (with_reducible refine wt_B ?_) | (with_reducible refine wt_not ?_) | (with_reducible refine wt_and ?_) | (with_reducible refine wt_or ?_) | (with_reducible refine wt_yes ?_)
  | (with_reducible refine gj_name ?_) | (with_reducible refine gj_tup rfl ?_) | (with_reducible refine gjs_cons ?_) | (with_reducible refine gjs_nil ?_))
local macro_rules | `(tactic| walk_at "v") => `(tactic| repeat walk_at "v1")
local macro_rules | `(tactic| walk_at "x") => `(tactic| refine ⟨_, rfl, ?_⟩)
local macro_rules | `(tactic| walk_at "vx") => `(tactic| repeat (first | walk_at "v1" | (with_reducible refine ⟨_, rfl, ?_⟩)))
namespace Dk
open PySem PySem.Spec PyProof.Rows L2 Pk Sy
theorem row_small {m : Nat} {bs : List Str} (hm : m ≤ 16) (hb : ∀ x ∈ bs, NameOk x) {t : Th} (ht : t.Ok m bs 1) : (∀ x ∈ bs, Pr.SL 6 1500 (Rw.set x t).d) ∧ Pr.SL 6 1500 (Rw.need t).d ∧ Pr.SL 6 1500 (Rw.give t).d := by
  have th : Pr.SL 5 1100 t.d := (Pr.th_sl hm hb ht).mono (by omega) (by decide)
  have wd : ∀ {x : Str}, (x.cps.toList.all fun c => decide (c < 16 ^ 8)) = true → x.length ≤ 6 → Pr.SL 5 62 (.str x) := fun h hl => (Pr.SL.word h hl).mono (by omega) (Nat.le_refl _)
  refine ⟨fun x hx => ?_, ?_, ?_⟩
  · exact (Pr.SL.tup3 (wd (x := "set") (by decide +kernel) (by decide +kernel)) ((Pr.SL.name (hb x hx)).mono (by omega) (Nat.le_refl _)) th).mono (Nat.le_refl _) (by decide)
  · exact (Pr.SL.tup2 (wd (x := "need") (by decide +kernel) (by decide +kernel)) th).mono (Nat.le_refl _) (by decide)
  · exact (Pr.SL.tup2 (wd (x := "give") (by decide +kernel) (by decide +kernel)) th).mono (Nat.le_refl _) (by decide)
theorem prog_small {p : Pg} (h : p.Ok) (hr : ∀ r ∈ p.rows, Pr.SL 6 1500 r.d) : Pr.SL 8 100000 p.d := by
  have hm := h.m16
  have b : Pr.SL 7 500 (bsD p.bs) := by
    have := Pr.SL.lst (e := 0) (n := 82) (xs := p.bs.map PyData.str) fun y hy => by
      obtain ⟨x, hx, rfl⟩ := List.mem_map.mp hy
      exact Pr.SL.name (h.bs.nm x hx)
    refine this.mono (by omega) ?_
    rw [List.length_map]
    have := h.bs.len5
    have : p.bs.length * 84 ≤ 5 * 84 := Nat.mul_le_mul_right _ (by omega)
    omega
  have r : Pr.SL 7 90000 (.list (p.rows.map Rw.d)) := by
    have := Pr.SL.lst (e := 6) (n := 1500) (xs := p.rows.map Rw.d) fun y hy => by
      obtain ⟨x, hx, rfl⟩ := List.mem_map.mp hy
      exact hr x hx
    refine this.mono (by omega) ?_
    rw [List.length_map]
    have h30 := h.r30
    have : p.rows.length * 1502 ≤ 30 * 1502 := Nat.mul_le_mul_right _ (by omega)
    omega
  have a : Pr.SL 7 3 (.int (p.m : Int)) := (Pr.SL.nat (k := 2) (i := p.m) (by omega) (by decide) (by decide)).mono (by omega) (Nat.le_refl _)
  exact (Pr.SL.tup3 a b r).mono (Nat.le_refl 8) (by decide)
def T_long71 (K : Kw) : List Sl → (Sl → Prop) → Prop := fun Γ Q => ∃ v, ∃ m : Nat, ∃ bs, ∃ many : Nat, Γ = [.ex v (DeckL K), .dat false (.int m), .dat false (bsD bs), .dat false (.int many)] ∧ MB m bs ∧ many ≤ 30 ∧ ∀ p : Pg, p.Ok → p.m = m → p.bs = bs → p.rows.length = many → Pr.SL 8 100000 p.d → Q (.dat false p.d)
def T_nobx (K : Kw) : List Sl → (Sl → Prop) → Prop := fun Γ Q => ∃ bs, Γ = [.dat false (bsD bs)] ∧ BsOk bs ∧ ∀ l es, es.length ≤ 100000 → (∀ d ∈ es, Pr.rok d = true ∧ NoBx bs d) → Q (.ml false l es)
def T_others71 (K : Kw) : List Sl → (Sl → Prop) → Prop := fun Γ Q => ∃ v, ∃ p : Pg, Γ = [.ex v (DeckL K), .dat false p.d] ∧ p.Ok ∧ ∀ l es, es.length ≤ 100000 → (∀ d ∈ es, ∃ (m2 : Nat) (b2 : List Str) (r2 : PyData), d = prD m2 b2 r2 ∧ StrsOk b2 ∧ ¬ (m2 = p.m ∧ b2 = p.bs)) → Q (.ml false l es)
/-- things like programs -/
abbrev Lk := Nat × List Str × PyData
def Lk.d (x : Lk) : PyData := prD x.1 x.2.1 x.2.2
theorem strs_rok (bs : List Str) : Pr.rok (bsD bs) = true := by
  show Pr.rok (.list _) = true
  simp only [Pr.rok]
  exact Pu.rok_strs bs
theorem strs_cut {bs : List Str} {lo hi : Option Int} : Pk.cutD (bs.map PyData.str) lo hi = (Pk.cutD bs lo hi).map PyData.str := by
  unfold Pk.cutD
  rw [List.length_map, List.map_take, List.map_drop]
theorem cut_sub {α : Type} {bs : List α} {lo hi : Option Int} {x : α} (h : x ∈ Pk.cutD bs lo hi) : x ∈ bs := by
  unfold Pk.cutD at h
  exact List.mem_of_mem_drop (List.mem_of_mem_take h)
theorem StrsOk.cut {bs : List Str} (h : StrsOk bs) (lo hi : Option Int) : StrsOk (Pk.cutD bs lo hi) := fun x hx => h x (cut_sub hx)
theorem StrsOk.snoc {bs : List Str} (h : StrsOk bs) {x : Str} (hx : PyData.strOk x = true) : StrsOk (bs ++ [x]) := fun y hy => by
  rcases List.mem_append.mp hy with z | z
  · exact h y z
  · rw [List.mem_singleton.mp z]; exact hx
theorem sum_len {bs : List Str} (h : BsOk bs) : (bs.map (·.length)).sum ≤ 40 := by
  have : ∀ cs : List Str, (∀ x ∈ cs, x.length ≤ 8) → (cs.map (·.length)).sum ≤ cs.length * 8 := fun cs => by
    induction cs with
    | nil => intro _; simp
    | cons c cs ih =>
      intro hc
      have h1 := hc c List.mem_cons_self
      have h2 := ih fun x hx => hc x (List.mem_cons_of_mem _ hx)
      simp only [List.map_cons, List.sum_cons, List.length_cons]
      omega
  have h1 := this bs fun x hx => (h.nm x hx).2.1
  have h5 := h.len5
  omega
theorem join_len : ∀ (s : Str) (ps : List Str), (Str.join s ps).length ≤ (ps.map (·.length)).sum + ps.length * s.length
  | _, [] => by simp [Str.join]; decide
  | s, [x] => by simp [Str.join]
  | s, x :: y :: r => by
    have h := join_len s (y :: r)
    show (x ++ s ++ Str.join s (y :: r)).length ≤ _
    have e : ∀ a b : Str, (a ++ b).length = a.length + b.length := fun a b => by
      show (a.cps ++ b.cps).size = _
      rw [Array.size_append]
      rfl
    rw [e, e]
    simp only [List.map_cons, List.sum_cons, List.length_cons] at h ⊢
    have e2 : (r.length + 1 + 1) * s.length = (r.length + 1) * s.length + s.length := Nat.succ_mul _ _
    omega
theorem names_strOk {bs : List Str} (h : BsOk bs) {x : Str} (hx : ∀ c ∈ x.cps.toList, ∃ y ∈ bs, c ∈ y.cps.toList) : PyData.strOk x = true := Pu.strOk_of fun c hc => by
  obtain ⟨y, hy, hcy⟩ := hx c hc
  have := ((h.nm y hy).2.2 c hcy).2
  omega
section
variable {P : Program} {K : Kw} {mg : Str → Option Value} {base : Heap} {k : Nat}
theorem ok_long71 (D : Def K mg "_law_long" s_l_long ["deck", "m", "boxes", "many"]) (c_next : Cal P K.w K mg base CX0 k "_law_next" ["deck"] (spG K (T_next K))) (c_thing : Cal P K.w K mg base CX0 k "_law_thing" ["deck", "m", "boxes", "deep"] (spG K (T_ething 4 K))) (m_list : mg "list" = none) (m_range : mg "range" = none) : Cal P K.w K mg base CX0 (k + 1) "_law_long" ["deck", "m", "boxes", "many"] (spG K (T_long71 K)) := by
  refine cal_g D sc_l_long (fun Γ Qr ⟨v, m, bs, many, e, _⟩ => by subst e; exact ⟨rfl, noMl_ex (noMl_dat (noMl_dat (noMl_dat noMl_nil)))⟩) fun f cdv A outer s H E hr => ⟨_, wk_l_long (c_l_next := c_next) (c_l_thing := c_thing) (m_list := m_list) (m_range := m_range) f cdv A outer s H E hr, ?_⟩
  rintro Γ Qr ⟨v, m, bs, many, rfl, hmb, hmany, q⟩
  have hl0 := hmb.bs.len0
  have hm2 := hmb.m2
  have hm16 := hmb.m16
  show SJ K [.ex v (DeckL K), .dat false (.int m), .dat false (bsD bs), .dat false (.int many), .no, .no, .no] (t_l_long K _ _) _
  unfold t_l_long
  refine sj_seq (sj_setX (wx_lst0 false fun l => ?_))
  refine sj_cut (fun Γ' => ∃ (rows : List Rw) (s5 s6 : Sl), rows.length = many ∧ (∀ r ∈ rows, r.Ok m bs ∧ Pr.SL 6 1500 r.d) ∧ Γ' = [.ex v (DeckL K), .dat false (.int m), .dat false (bsD bs), .dat false (.int many), .ml false l (rows.map Rw.d), s5, s6]) ?_ ?_
  · refine sj_for false (wi_rng (wd_var rfl ⟨_, rfl, ⟨by omega, by omega⟩, fun i Γ' => ∃ (rows : List Rw) (s5 s6 : Sl), rows.length = i ∧ (∀ r ∈ rows, r.Ok m bs ∧ Pr.SL 6 1500 r.d) ∧ Γ' = [.ex v (DeckL K), .dat false (.int m), .dat false (bsD bs), .dat false (.int many), .ml false l (rows.map Rw.d), s5, s6], ⟨[], .no, .no, rfl, (fun _ h => (by cases h)), rfl⟩, ?_, ?_⟩))
    · rintro i d Γ' hd ⟨rows, s5, s6, hrl, hrok, rfl⟩
      obtain ⟨hi, rfl⟩ := rangeD_of hd
      have hi' : i < many := by omega
      refine gj_name (sj_seq (sj_set false (wd_callO3 (i := 0) (v := v) rfl (wd_var rfl (wd_var rfl (wd_int (use_ething (deep := 1) hmb (by decide) (by decide) fun t ht => ?_)))))))
      obtain ⟨w1, w2, w3⟩ := row_small hm16 hmb.bs.nm ht
      have ht4 := ht.mono (show 1 ≤ 4 by decide)
      refine sj_app (i := 4) (m := false) (l := l) (ds := rows.map Rw.d) rfl (by rw [List.length_map]; omega) (wd_op (wd_lst3 (wd_tup3 (wd_str (wd_op (wd_var rfl (wd_int (rd_bs0 hl0 (wd_var (d := t.d) rfl (wd_tup2 (wd_str (wd_var (d := t.d) rfl (wd_tup2 (wd_str (wd_var (d := t.d) rfl (wd_op (wd_callO0 (i := 0) (v := v) rfl (use_next fun r1 _ => wd_int (rd_mod (by decide) ?_)))))))))))))))))))
      refine rd_sel (Int.emod_nonneg r1 (by decide)) (by have := Int.emod_lt_of_pos r1 (b := 3) (by decide); simpa using this) fun d hd => ?_
      have hrow : ∃ r : Rw, r.Ok m bs ∧ Pr.SL 6 1500 r.d ∧ d = r.d := by
        simp only [List.mem_cons, List.not_mem_nil, or_false] at hd
        rcases hd with z | z | z
        · exact ⟨.set (bs.headD "") t, ⟨head_mem hl0, ht4⟩, w1 _ (head_mem hl0), z⟩
        · exact ⟨.need t, ht4, w2, z⟩
        · exact ⟨.give t, ht4, w3, z⟩
      obtain ⟨r, hr, hs, rfl⟩ := hrow
      refine ⟨rows ++ [r], _, _, by simp [hrl], fun z hz => ?_, by rw [List.map_append]; rfl⟩
      rcases List.mem_append.mp hz with h1 | h1
      · exact hrok z h1
      · rw [List.mem_singleton.mp h1]; exact ⟨hr, hs⟩
    · rintro Γ' ⟨rows, s5, s6, hrl, hrok, rfl⟩
      rw [rangeD_len] at hrl
      exact ⟨rows, s5, s6, by omega, hrok, rfl⟩
  rintro _ ⟨rows, s5, s6, hrl, hrok, rfl⟩
  have hp : (Pg.mk m bs rows).Ok := ⟨hm2, hm16, hmb.bs, by show rows.length ≤ 30; omega, fun r hr => (hrok r hr).1⟩
  refine sj_frz 4 (l := l) (m := false) (ds := rows.map Rw.d) rfl ?_
  exact sj_retD false (wd_tup3 (wd_var rfl (wd_cb1 (wd_var rfl (rc_listL (wd_var rfl ⟨keep_ex (keep_dat (keep_dat (keep_dat keep_nil))), q ⟨m, bs, rows⟩ hp rfl rfl hrl (prog_small hp fun r hr => (hrok r hr).2)⟩))))))
theorem ok_nobx (D : Def K mg "_law_no_boxes" s_l_no_boxes ["boxes"]) : Cal P K.w K mg base CX0 (k + 1) "_law_no_boxes" ["boxes"] (spG K (T_nobx K)) := by
  refine cal_g D sc_l_no_boxes (fun Γ Qr ⟨bs, e, _⟩ => by subst e; exact ⟨rfl, noMl_dat noMl_nil⟩) fun f cdv A outer s H E hr => ⟨_, wk_l_no_boxes f cdv A outer s H E hr, ?_⟩
  rintro Γ Qr ⟨bs, rfl, hb, q⟩
  have hl0 := hb.len0
  have hl5 := hb.len5
  have hsum := sum_len hb
  have hnm := hb.nm _ (head_mem hl0)
  have hl8 := hnm.2.1
  have e1 : ("q" : Str).length = 1 := rfl
  have e2 : (" " : Str).length = 1 := rfl
  have e3 : ("" : Str).length = 0 := rfl
  show SJ K [.dat false (bsD bs), .no, .no, .no] (t_l_no_boxes K _) _
  unfold t_l_no_boxes
  have hj1 : (bs.map (·.length)).sum + bs.length * (" " : Str).length ≤ 16777216 := by rw [e2]; omega
  have hj0 : (bs.map (·.length)).sum + bs.length * ("" : Str).length ≤ 16777216 := by rw [e3]; omega
  obtain ⟨nm, hnm'⟩ : ∃ nm, nm = bs.headD "" := ⟨_, rfl⟩
  refine sj_seq (sj_set false (wd_op (wd_var rfl (wd_int (rd_bs0 hl0 ?_)))))
  rw [← hnm'] at hl8 ⊢
  show SJ K [.dat false (bsD bs), .dat false (.str nm), .no, .no] _ _
  refine sj_seq <| sj_set false <| wd_lst <| wa_d <| wd_str <| wa_d <| wd_str <| wa_d <| wd_non <| wa_d <| wd_int <| wa_d <| wd_int <| wa_d <| wd_var rfl <| wa_d <| wd_tup2 <| wd_str <| wd_var rfl <| wa_d <| wd_bl <| wa_d <| wd_dict0 [] <| wa_d <| wd_op <| wd_var rfl <| wd_str <| rd_addS (by omega) <| wa_d <| wd_un <| wd_int <| ru_neg <| wa_d <| wd_slS <| wd_var rfl ⟨_, rfl, by omega, wo_no <| wo_some <| wd_un <| wd_int <| ru_neg ⟨_, rfl, wa_d <| wd_slS <| wd_var rfl ⟨_, rfl, by omega, wo_some <| wd_int ⟨_, rfl, wo_no <| wa_d <| wd_op <| wd_str <| wd_var rfl <| rd_addS (by omega) <| wa_nil ⟨_, rfl, le_lit rfl, ?_⟩⟩⟩⟩⟩
  show SJ K [.dat false (bsD bs), .dat false (.str nm), .dat false (.list [.str "", .str "none", .none, .int 0, .int 1, bsD bs, .tuple [.str "box", .str nm], .bool true, .dict [], .str (nm ++ "q"), .int (-1), .str (cutS nm none (some (-1))), .str (cutS nm (some 1) none), .str (" " ++ nm)]), .no] _ _
  refine sj_seq (sj_set false (wd_op (wd_var rfl (wd_lst6 (wd_join (wd_var rfl ⟨bs, rfl, hj1, wd_join (wd_var rfl ⟨bs, rfl, hj0, wd_lst1 (wd_var rfl (wd_tup1 (wd_var rfl (Pu.wd_upper (wd_var rfl ⟨_, rfl, by omega, wd_op (wd_var rfl (wd_str (rd_addS (by omega) (rd_cat (le_lit rfl) ?_))))⟩)))))⟩)⟩))))))
  generalize hfs : ([PyData.str "", .str "none", .none, .int 0, .int 1, bsD bs, .tuple [.str "box", .str nm], .bool true, .dict [], .str (nm ++ "q"), .int (-1), .str (cutS nm none (some (-1))), .str (cutS nm (some 1) none), .str (" " ++ nm)] ++ [PyData.str (Txt.join " " bs), .str (Txt.join "" bs), .list [.str nm], .tuple [.str nm], .str (Txt.upper nm), .str (nm ++ " ")]) = fs
  have hfl : fs.length ≤ 100000 := by rw [← hfs]; exact le_lit rfl
  have hfr : ∀ d ∈ fs, Pr.rok d = true := fun d hd => by
    rw [← hfs] at hd
    simp only [List.cons_append, List.nil_append, List.mem_cons, List.not_mem_nil, or_false] at hd
    rcases hd with rfl | rfl | rfl | rfl | rfl | rfl | rfl | rfl | rfl | rfl | rfl | rfl | rfl | rfl | rfl | rfl | rfl | rfl | rfl | rfl
    all_goals first | rfl | exact strs_rok bs
  show SJ K [.dat false (bsD bs), .dat false (.str nm), .dat false (.list fs), .no] _ _
  refine sj_ret (wx_lcPa (mi := false) (α := PyData) false id (fun d => ((bs.map PyData.str).any fun z => Pu.eqe z d) ^^ true) id (wipeOk_no rfl wipeOk_nil) gwn (wi_list (wd_var rfl ⟨_, rfl, fs, by simp, hfl, fun i x hx => gj_name ⟨rfl, wt_test (wd_op (wd_var rfl (wd_var rfl (Pu.rd_inStrs (hfr x (List.mem_of_getElem? hx)) ⟨_, rfl, rfl, fun _ => wd_var rfl rfl⟩))))⟩, fun l => ⟨keep_dat keep_nil, ?_⟩⟩)))
  rw [List.map_id]
  refine q l _ (Nat.le_trans (List.length_filter_le _ _) hfl) fun d hd => ?_
  obtain ⟨h1, h2⟩ := List.mem_filter.mp hd
  exact ⟨hfr d h1, by unfold NoBx; simpa using h2⟩
theorem ok_others71 (D : Def K mg "_law_others" s_l_others ["deck", "program"]) (c_next : Cal P K.w K mg base CX0 k "_law_next" ["deck"] (spG K (T_next K))) (m_len : mg "len" = none) (m_list : mg "list" = none) : Cal P K.w K mg base CX0 (k + 1) "_law_others" ["deck", "program"] (spG K (T_others71 K)) := by
  refine cal_g D sc_l_others (fun Γ Qr ⟨v, p, e, _⟩ => by subst e; exact ⟨rfl, noMl_ex (noMl_dat noMl_nil)⟩) fun f cdv A outer s H E hr => ⟨_, wk_l_others (c_l_next := c_next) (m_len := m_len) (m_list := m_list) f cdv A outer s H E hr, ?_⟩
  rintro Γ Qr ⟨v, p, rfl, hp, q⟩
  have hb := hp.bs
  have hl5 := hb.len5
  have hm2 := hp.m2
  have hm16 := hp.m16
  have hsum := sum_len hb
  have e3 : ("" : Str).length = 0 := rfl
  have hq : PyData.strOk ("q" : Str) = true := by decide +kernel
  obtain ⟨rs, hrs⟩ : ∃ rs, rs = p.rows.map Rw.d := ⟨_, rfl⟩
  have hj0 : (p.bs.map (·.length)).sum + p.bs.length * ("" : Str).length ≤ 16777216 := by rw [e3]; omega
  have hjl : (Txt.join "" p.bs).length ≤ 100000 := by
    rw [TL.join_eq]
    have := join_len "" p.bs
    rw [e3, Nat.mul_zero] at this
    omega
  have hjo : StrsOk [cutS (Txt.join "" p.bs) none (some 8)] := fun x hx => by
    rw [List.mem_singleton.mp hx]
    refine names_strOk hb fun c hc => ?_
    rcases Pu.join_mem (Pu.cut_mem hc) with z | z
    · cases z
    · exact z
  show SJ K [.ex v (DeckL K), .dat false p.d, .no, .no, .no, .no, .no] (t_l_others K _) _
  unfold t_l_others
  have epd : p.d = .tuple [.int p.m, bsD p.bs, .list rs] := by rw [hrs]; rfl
  refine sj_seq (sj_asg false (wd_var (d := p.d) rfl ?_))
  rw [epd]
  refine gj_tup (n := 3) rfl (gjs_cons (gj_name (gjs_cons (gj_name (gjs_cons (gj_name (gjs_nil ?_)))))))
  show SJ K [.ex v (DeckL K), .dat false (.tuple [.int p.m, bsD p.bs, .list rs]), .dat false (.int p.m), .dat false (bsD p.bs), .dat false (.list rs), .no, .no] _ _
  obtain ⟨pd, hpd⟩ : ∃ pd, pd = PyData.tuple [.int p.m, bsD p.bs, .list rs] := ⟨_, rfl⟩
  rw [← hpd]
  refine sj_seq (sj_set false (wd_lst2 (wd_tup3 (wd_op (wd_int (wd_op (wd_op (wd_op (wd_var rfl (wd_int (rd_sub (wd_op (wd_callO0 (i := 0) (v := v) rfl (use_next fun r hr => wd_int (rd_mod (by decide) (rd_add (wd_int (rd_mod (by decide) (rd_add ?_)))))))))))))))))))
  have hm' : ∃ n : Nat, (2 : Int) + ((p.m : Int) - 1 + r % 14) % 15 = (n : Int) := ⟨((2 : Int) + ((p.m : Int) - 1 + r % 14) % 15).toNat, by
    have := Int.emod_nonneg ((p.m : Int) - 1 + r % 14) (b := 15) (by decide)
    omega⟩
  obtain ⟨n, hn⟩ := hm'
  rw [hn]
  refine wd_cb1 (wd_var rfl (rc_listL (wd_lst0 (wd_tup3 (wd_var rfl (wd_op (wd_var rfl (wd_lst1 (wd_str (rd_cat (by simp; omega) (wd_lst0 ?_)))))))))))
  have ebq : ∀ bs : List Str, PyData.list (bs.map PyData.str ++ [.str "q"]) = bsD (bs ++ [("q" : Str)]) := fun bs => by
    show _ = PyData.list ((bs ++ [("q" : Str)]).map PyData.str)
    rw [List.map_append]
    rfl
  rw [ebq]
  show SJ K [.ex v (DeckL K), .dat false pd, .dat false (.int p.m), .dat false (bsD p.bs), .dat false (.list rs), .dat false (.list (([(n, p.bs, .list []), (p.m, p.bs ++ [("q" : Str)], .list [])] : List Lk).map Lk.d)), .no] _ _
  refine sj_seq (sj_set false (wd_op (wd_var rfl (wd_lst3 (wd_tup3 (wd_var rfl (wd_op (wd_sl (wd_var rfl ⟨_, rfl, wo_some (wd_int ⟨_, rfl, wo_no (wd_lst1 (wd_str ?_))⟩)⟩)))))))))
  rw [strs_cut]
  have hcl : ∀ lo hi, (Pk.cutD p.bs lo hi).length ≤ 5 := fun lo hi => by
    unfold Pk.cutD
    exact Nat.le_trans (List.length_take_le' _ _) (by rw [List.length_drop]; omega)
  have hc1 := hcl (some 1) none
  refine rd_cat (by rw [List.length_map]; simp; omega) (wd_lst0 (wd_tup3 (wd_int (wd_cb1 (wd_var rfl (rc_listL (wd_var rfl (wd_tup3 (wd_var rfl (wd_lst1 (wd_slS (wd_join (wd_var rfl ⟨p.bs, rfl, hj0, ⟨_, rfl, hjl, wo_no (wo_some (wd_int ⟨_, rfl, wd_lst0 (rd_cat (le_lit rfl) ?_)⟩))⟩⟩)))))))))))))
  rw [ebq]
  have e16 : (16 : Int) = ((16 : Nat) : Int) := rfl
  rw [e16]
  show SJ K [.ex v (DeckL K), .dat false pd, .dat false (.int p.m), .dat false (bsD p.bs), .dat false (.list rs), .dat false (.list (([(n, p.bs, .list []), (p.m, p.bs ++ [("q" : Str)], .list []), (p.m, Pk.cutD p.bs (some 1) none ++ [("q" : Str)], .list []), (16, p.bs, .list rs), (p.m, [cutS (Txt.join "" p.bs) none (some 8)], .list [])] : List Lk).map Lk.d)), .no] _ _
  refine sj_cut (fun Γ' => ∃ xs : List Lk, xs.length ≤ 10 ∧ (∀ x ∈ xs, StrsOk x.2.1) ∧ Γ' = [.ex v (DeckL K), .dat false pd, .dat false (.int p.m), .dat false (bsD p.bs), .dat false (.list rs), .dat false (.list (xs.map Lk.d)), .no]) ?_ ?_
  · have h5 : ∀ x ∈ ([(n, p.bs, .list []), (p.m, p.bs ++ [("q" : Str)], .list []), (p.m, Pk.cutD p.bs (some 1) none ++ [("q" : Str)], .list []), (16, p.bs, .list rs), (p.m, [cutS (Txt.join "" p.bs) none (some 8)], .list [])] : List Lk), StrsOk x.2.1 := fun x hx => by
      simp only [List.mem_cons, List.not_mem_nil, or_false] at hx
      rcases hx with rfl | rfl | rfl | rfl | rfl
      · exact hb.strs
      · exact hb.strs.snoc hq
      · exact (hb.strs.cut _ _).snoc hq
      · exact hb.strs
      · exact hjo
    refine sj_if (wt_test (wd_op (wd_cb1 (wd_var rfl (rc_lenL (wd_int (rd_gt ⟨_, rfl, iteD (fun _ => ?_) (fun _ => sj_next ⟨_, by simp, h5, rfl⟩)⟩)))))))
    refine sj_set false (wd_op (wd_var rfl (wd_lst2 (wd_tup3 (wd_var rfl (wd_rev (wd_var rfl ⟨_, rfl, wd_lst0 (wd_tup3 (wd_var rfl (wd_sl (wd_var rfl ⟨_, rfl, wo_no (wo_some (wd_un (wd_int (ru_neg ⟨_, rfl, wd_lst0 (rd_cat (le_lit rfl) ?_)⟩))))⟩))))⟩)))))))
    rw [strs_cut, ← List.map_reverse]
    refine ⟨[(n, p.bs, .list []), (p.m, p.bs ++ [("q" : Str)], .list []), (p.m, Pk.cutD p.bs (some 1) none ++ [("q" : Str)], .list []), (16, p.bs, .list rs), (p.m, [cutS (Txt.join "" p.bs) none (some 8)], .list [])] ++ [(p.m, p.bs.reverse, .list []), (p.m, Pk.cutD p.bs none (some (-1)), .list [])], by simp, fun x hx => ?_, rfl⟩
    rcases List.mem_append.mp hx with z | z
    · exact h5 x z
    · simp only [List.mem_cons, List.not_mem_nil, or_false] at z
      rcases z with rfl | rfl
      · exact fun y hy => hb.strs y (List.mem_reverse.mp hy)
      · exact hb.strs.cut _ _
  rintro _ ⟨xs, hxl, hxo, rfl⟩
  have cut5 : ∀ x : Lk, ∀ {Γ' : List Sl} {Q : PyData → Prop}, Γ'[6]? = some (.dat false (Lk.d x)) → Q (bsD (Pk.cutD x.2.1 none (some 5))) → WD K false Γ' (tSl (rSlL K) (tOp (rIx K) (tVar 6) (tC (.int 1))) tNoPart (tPart (tC (.int 5)))) Q := fun x {Γ' Q} h6 hQ => by
    refine wd_sl (wd_op (wd_var h6 (wd_int (rd_ixT (d := bsD x.2.1) rfl ⟨_, rfl, wo_no (wo_some (wd_int ⟨_, rfl, ?_⟩))⟩))))
    rw [strs_cut]
    exact hQ
  have it : ∀ x : Lk, ∀ {Γ' : List Sl} {Q : PyData → Prop} (j : Nat) (d : PyData), Γ'[6]? = some (.dat false (Lk.d x)) → ([PyData.int x.1, bsD x.2.1, x.2.2])[j]? = some d → Q d → WD K false Γ' (tOp (rIx K) (tVar 6) (tC (.int j))) Q := fun x {Γ' Q} j d h6 hj hQ =>
    wd_op (wd_var h6 (wd_int (rd_ixT (d := d) (atI_of rfl hj) hQ)))
  have eqD : ∀ a b : List Str, PyData.eqv (bsD a) (bsD b) = decide (a = b) := bsO_eqv
  refine sj_ret (wx_lcPa (mi := false) (α := Lk) false Lk.d (fun x => !decide (Pk.cutD x.2.1 none (some 5) = p.bs) || !decide (x.1 = p.m)) (fun x => prD x.1 (Pk.cutD x.2.1 none (some 5)) x.2.2) (wipeOk_no rfl wipeOk_nil) gwn (wi_list (wd_var rfl ⟨_, rfl, xs, rfl, by omega, fun i x hx => ?_, fun la => ⟨keep_ex (keep_dat keep_nil), ?_⟩⟩)))
  · have hxo' := hxo x (List.mem_of_getElem? hx)
    have fin : ∀ b : Bool, b = (!decide (Pk.cutD x.2.1 none (some 5) = p.bs) || !decide (x.1 = p.m)) → b = (!decide (Pk.cutD x.2.1 none (some 5) = p.bs) || !decide (x.1 = p.m)) ∧ (b = true → WD K false [.ex v (DeckL K), .dat false pd, .dat false (.int p.m), .dat false (bsD p.bs), .dat false (.list rs), .dat false (.list (xs.map Lk.d)), .dat false (Lk.d x)] (tTup (tCons (tOp (rIx K) (tVar 6) (tC (.int 0))) (tCons (tSl (rSlL K) (tOp (rIx K) (tVar 6) (tC (.int 1))) tNoPart (tPart (tC (.int 5)))) (tCons (tOp (rIx K) (tVar 6) (tC (.int 2))) tNil)))) fun y => y = prD x.1 (Pk.cutD x.2.1 none (some 5)) x.2.2) := fun b hb' => ⟨hb', fun _ => wd_tup3 (it x 0 _ rfl rfl (cut5 x rfl (it x 2 _ rfl rfl rfl)))⟩
    refine gj_name ⟨rfl, wt_or (wt_test (wd_op (cut5 x rfl (wd_var rfl (rd_ne (bs_shO (hxo'.cut _ _)) (bs_shO hb.strs) ⟨_, rfl, ?_⟩)))))⟩
    rw [eqD]
    by_cases h1 : Pk.cutD x.2.1 none (some 5) = p.bs
    · refine iteF' (by rw [h1, decide_eq_true rfl]; rfl) (wt_test (wd_op (it x 0 _ rfl rfl (wd_var rfl (rd_ne sh_int sh_int ⟨_, rfl, fin _ ?_⟩)))))
      rw [h1, decide_eq_true rfl, eqv_int]
      by_cases h2 : x.1 = p.m
      · rw [h2]; simp
      · rw [decide_eq_false h2, decide_eq_false (by omega)]; rfl
    · refine iteT' (by rw [decide_eq_false h1]; rfl) (fin _ ?_)
      rw [decide_eq_false h1]; rfl
  · refine q la _ ?_ fun d hd => ?_
    · rw [List.length_map]
      exact Nat.le_trans (List.length_filter_le _ _) (by omega)
    · obtain ⟨x, hx, rfl⟩ := List.mem_map.mp hd
      obtain ⟨h1, h2⟩ := List.mem_filter.mp hx
      refine ⟨x.1, _, x.2.2, rfl, (hxo x h1).cut _ _, fun z => ?_⟩
      rw [decide_eq_true z.1, decide_eq_true z.2] at h2
      exact Bool.false_ne_true h2
theorem after_ok71 {p q : Pg} {x : Str} (hp : p.Ok) (hq : q.Ok) (hm : q.m = p.m) (hb : q.bs = p.bs) (hx : x ∈ p.bs) (hr : spL p.rows + 1 + q.rows.length ≤ 30) : (after p q x).Ok := by
  exact (Fit.mk hp hq hm hb hx hr).ok
theorem spL_gives : ∀ rs : List Rw, spL rs = rs.length + (rs.filter fun r => decide (r.kd = .give)).length
  | [] => rfl
  | r :: rs => by
    have h := spL_gives rs
    have e : ((r :: rs).filter fun r => decide (r.kd = .give)).length = (rs.filter fun r => decide (r.kd = .give)).length + (wd2 r - 1) := by
      cases r with
      | give t => rfl
      | _ => rfl
    have w : 1 ≤ wd2 r := by cases r <;> simp [wd2]
    rw [e, spL, List.length_cons, h]
    omega
def Pr71 (m : Nat) (bs : List Str) (q : Pg) : Prop := q.Ok ∧ q.m = m ∧ q.bs = bs ∧ Pr.SL 8 100000 q.d
theorem sl_pgs {qs : List Pg} {n b : Nat} (hn : qs.length ≤ n) (h : ∀ q ∈ qs, Pr.SL 8 b q.d) : Pr.SL 9 (n * (b + 2) + 3) (.list (qs.map Pg.d)) := by
  have h0 := Pr.SL.lst (e := 8) (n := b) (xs := qs.map Pg.d) fun y hy => by
    obtain ⟨x, hx, rfl⟩ := List.mem_map.mp hy
    exact h x hx
  refine h0.mono (Nat.le_refl _) ?_
  rw [List.length_map]
  have : qs.length * (b + 2) ≤ n * (b + 2) := Nat.mul_le_mul_right _ hn
  omega
theorem wipeOk_any {Γ : List Sl} {i : Nat} {vs : List Nat} {s : Sl} (h : Γ[i]? = some s) (hs : s = .no ∨ ∃ m d, s = .dat m d) (r : wipeOk Γ vs) : wipeOk Γ (i :: vs) := by
  rcases hs with rfl | ⟨m, d, rfl⟩
  · exact wipeOk_no h r
  · exact wipeOk_dat h r
theorem ok_law {f0 : Addr} {fd0 : FuncData} (F0 : Fun K "law" "law" s_law f0 fd0) (c_asked : Cal P K.w K mg base CX0 k "_law_asked" ["one", "other", "box"] (spG K (T_asked71 K))) (c_next : Cal P K.w K mg base CX0 k "_law_next" ["deck"] (spG K (T_next K))) (c_nobx : Cal P K.w K mg base CX0 k "_law_no_boxes" ["boxes"] (spG K (T_nobx K))) (c_others : Cal P K.w K mg base CX0 k "_law_others" ["deck", "program"] (spG K (T_others71 K))) (c_long : Cal P K.w K mg base CX0 k "_law_long" ["deck", "m", "boxes", "many"] (spG K (T_long71 K))) (c_boxes : Cal P K.w K mg base CX0 k "_law_boxes" ["deck"] (spG K (T_eboxes K))) (c_deck : Cal P K.w K mg base CX0 k "_law_deck" ["cell", "many"] (spG K (T_edeck K))) (c_cell : Cal P K.w K mg base CX0 k "_law_cell_at" ["script", "k"] (spG K (T_cellat K))) (m_range : mg "range" = none) (m_max : mg "max" = none) (m_min : mg "min" = none) (m_len : mg "len" = none) (m_repr : mg "repr" = none) : Pr.FnOkG P K.w K mg base CX0 (k + 1) f0 fd0 ["script"] (spG K (T_law K)) := by
  refine Pr.fnOk_gG F0 sc_law (fun Γ Qr ⟨v, ns, e, _⟩ => by subst e; exact ⟨rfl, noMl_ex noMl_nil⟩) fun f cdv A outer s H E hG hr => ⟨_, wk_law (c_l_asked := c_asked) (c_l_next := c_next) (c_l_no_boxes := c_nobx) (c_l_others := c_others) (c_l_long := c_long) (c_l_boxes := c_boxes) (c_l_deck := c_deck) (c_l_cell_at := c_cell) (m_range := m_range) (m_max := m_max) (m_min := m_min) (m_len := m_len) (m_repr := m_repr) f cdv A outer s H E hG hr, ?_⟩
  rintro Γ Qr ⟨v, ns, rfl, hns, q⟩
  show SJ K [.ex v (ScriptO K ns), .no, .no, .no, .no, .no, .no, .no, .no, .no, .no, .no, .no, .no, .no] (t_law K _ _ _ _ _ _ _ _ _) _
  unfold t_law
  have sh4 : SeqAt.shaped (.str ("NoFit" : Str)) = true := sh_str (by decide +kernel)
  have sh6 : SeqAt.shaped (.str ("NoName" : Str)) = true := sh_str (by decide +kernel)
  have sh3 : SeqAt.shaped (.str ("TooMany" : Str)) = true := sh_str (by decide +kernel)
  have shT : SeqAt.shaped (.tuple [.str ("NoName" : Str), .str ("NoFit" : Str), .str ("odd" : Str)]) = true := sh_of (n := 1) (fun x hx => by
    simp only [List.mem_cons, List.not_mem_nil, or_false] at hx
    rcases hx with rfl | rfl | rfl
    · exact dep_str (by decide +kernel)
    · exact dep_str (by decide +kernel)
    · exact dep_str (by decide +kernel)) (by decide)
  refine sj_cut (fun Γ' => ∃ s1 s2 s3 s4 s5 s6 s8 s9 s11 s12 s13 s14, (s13 = .no ∨ ∃ m d, s13 = .dat m d) ∧ Γ' = [.ex v (ScriptO K ns), s1, s2, s3, s4, s5, s6, .no, s8, s9, .no, s11, s12, s13, s14]) ?_ ?_
  · refine sj_for false (wi_rng (wd_cb2 (wd_int (wd_cb2 (wd_lenScript (v := v) rfl (wd_int (rc_min2 (rc_max2 ?_))))))))
    have hk : max 1 (min (ns.length : Int) 3) = ((max 1 (min ns.length 3) : Nat) : Int) := by omega
    rw [hk]
    generalize hn : max 1 (min ns.length 3) = n
    refine ⟨_, rfl, ⟨by omega, by omega⟩, fun i Γ' => ∃ s1 s2 s3 s4 s5 s6 s8 s9 s11 s12 s13 s14, (s13 = .no ∨ ∃ m d, s13 = .dat m d) ∧ Γ' = [.ex v (ScriptO K ns), s1, s2, s3, s4, s5, s6, .no, s8, s9, .no, s11, s12, s13, s14], ⟨.no, .no, .no, .no, .no, .no, .no, .no, .no, .no, .no, .no, .inl rfl, rfl⟩, ?_, fun Γ' h => h⟩
    rintro i d Γ' hd ⟨s1, s2, s3, s4, s5, s6, s8, s9, s11, s12, s13, s14, hs13, rfl⟩
    obtain ⟨hi, rfl⟩ := rangeD_of hd
    refine gj_name (sj_seq (sj_setX (wx_call2 (wd_callO1 (i := 0) (v := v) rfl (wd_var rfl ⟨v, ns, _, rfl, by omega, fun c => asD_new (wd_int ⟨c, 260, rfl, by decide, fun l ds hds => ?_⟩)⟩)))))
    refine sj_close 2 (l := l) (m := false) (ns := ds) DeP rfl hds ?_
    obtain ⟨kk, hkk⟩ : ∃ kk : Int, kk = 0 + (i : Int) := ⟨_, rfl⟩
    rw [← hkk]
    refine sj_seq (sj_asg false (wd_callO0 (i := 2) (v := .ref l) rfl ⟨.ref l, rfl, fun m bs hmb => asD_dat ?_⟩))
    refine gj_tup (n := 2) (ds := [.int m, bsD bs]) rfl (gjs_cons (gj_name (gjs_cons (gj_name (gjs_nil ?_)))))
    have hb := hmb.bs
    have hl0 := hb.len0
    show SJ K [.ex v (ScriptO K ns), .dat false (.int kk), .ex (.ref l) (DeckL K), .dat false (.int m), .dat false (bsD bs), s5, s6, .no, s8, s9, .no, s11, s12, s13, s14] _ _
    refine sj_seq (sj_set false (wd_callO3 (i := 2) (v := .ref l) rfl (wd_var rfl (wd_var rfl (wd_op (wd_callO0 (i := 2) (v := .ref l) rfl (use_next fun r hr => wd_int (rd_mod (by decide) ?_))))))))
    obtain ⟨n1, hn1, hn26⟩ : ∃ n1 : Nat, r % 27 = (n1 : Int) ∧ n1 ≤ 26 := ⟨(r % 27).toNat, by have := Int.emod_nonneg r (b := 27) (by decide); omega, by have := Int.emod_lt_of_pos r (b := 27) (by decide); omega⟩
    rw [hn1]
    refine ⟨.ref l, m, bs, n1, rfl, hmb, by omega, fun p hp hpm hpb hpl hps => asD_dat ?_⟩
    subst hpm hpb
    show SJ K [.ex v (ScriptO K ns), .dat false (.int kk), .ex (.ref l) (DeckL K), .dat false (.int p.m), .dat false (bsD p.bs), .dat false p.d, s6, .no, s8, s9, .no, s11, s12, s13, s14] _ _
    have hp30 := hp.r30
    refine sj_seq <| sj_set false <| wd_lcPa (mi := false) (α := Rw) Rw.d (fun r => decide (r.kd = .give)) Rw.d (wipeOk_no rfl wipeOk_nil) gwn <| wi_list <| wd_op <| wd_var rfl <| wd_int <| rd_ixT (d := .list (p.rows.map Rw.d)) rfl ⟨_, rfl, p.rows, rfl, by omega, fun i r hr => gj_name ⟨rfl, wt_test <| wd_op <| wd_op <| wd_var (d := r.d) rfl <| wd_int <| rd_rk <| wd_str <| rd_w (b := .give) ⟨_, rfl, rfl, fun _ => wd_var rfl rfl⟩⟩, ?_⟩
    refine sj_seq <| sj_set false <| wd_op <| wd_op <| wd_op <| wd_int <| wd_cb1 <| wd_op <| wd_var rfl <| wd_int <| rd_ixT (d := .list (p.rows.map Rw.d)) rfl <| rc_lenL <| rd_sub <| wd_cb1 <| wd_var rfl <| rc_lenL <| rd_sub <| wd_int <| rd_sub ?_
    have hroom : (30 : Int) - ((p.rows.map Rw.d).length : Nat) - (((p.rows.filter fun r => decide (r.kd = .give)).map Rw.d).length : Nat) - 1 = 29 - (spL p.rows : Nat) := by
      rw [List.length_map, List.length_map, spL_gives]
      omega
    rw [hroom]
    obtain ⟨gv, hgv⟩ : ∃ gv, gv = PyData.list ((p.rows.filter fun r => decide (r.kd = .give)).map Rw.d) := ⟨_, rfl⟩
    rw [← hgv]
    show SJ K [.ex v (ScriptO K ns), .dat false (.int kk), .ex (.ref l) (DeckL K), .dat false (.int p.m), .dat false (bsD p.bs), .dat false p.d, .dat false gv, .no, .dat false (.int (29 - (spL p.rows : Nat))), s9, .no, s11, s12, s13, s14] _ _
    obtain ⟨room, hrm⟩ : ∃ room : Int, room = 29 - (spL p.rows : Nat) := ⟨_, rfl⟩
    rw [← hrm]
    have hlongR : ∀ {Γ' : List Sl} {ta : TE} {Q : PyData → Prop}, Γ'[2]? = some (.ex (.ref l) (DeckL K)) → Γ'[3]? = some (.dat false (.int p.m)) → Γ'[4]? = some (.dat false (bsD p.bs)) → WD K false Γ' ta (fun x => ∃ n : Nat, n ≤ 30 ∧ x = .int n) → (∀ q : Pg, Pr71 p.m p.bs q → Q q.d) → WD K false Γ' (tCall (spG K (T_long71 K)) [] E0 (tCons (tVar 2) (tCons (tVar 3) (tCons (tVar 4) (tCons ta tNil))))) Q := fun {Γ' ta Q} h2 h3 h4 ha hQ =>
      wd_callO3 (i := 2) (v := .ref l) h2 (wd_var h3 (wd_var h4 (ha.mono fun x ⟨n, hn, e⟩ => by
        subst e
        exact ⟨.ref l, p.m, p.bs, n, rfl, hmb, hn, fun q h1 h2 h3 _ h4 => asD_dat (hQ q ⟨h1, h2, h3, h4⟩)⟩)))
    refine sj_seq (sj_setX (wx_lcF (mi := false) false (fun _ _ y => ∃ q : Pg, Pr71 p.m p.bs q ∧ y = q.d) (wipeOk_no rfl wipeOk_nil) gwn (wi_tup <| wd_tup <| wa_d <| wd_un <| wd_int <| ru_neg <| wa_d <| wd_int <| wa_d <| wd_int <| wa_d <| wd_int <| wa_nil ⟨_, rfl, le_lit rfl, _, rfl, le_lit rfl, fun j d hj => ?_, fun acc hal hac lo => ?_⟩)))
    · obtain ⟨jj, rfl⟩ : ∃ jj : Int, d = .int jj := by
        have hm := List.mem_of_getElem? hj
        simp only [List.mem_cons, List.not_mem_nil, or_false] at hm
        rcases hm with rfl | rfl | rfl | rfl
        · exact ⟨_, rfl⟩
        · exact ⟨_, rfl⟩
        · exact ⟨_, rfl⟩
        · exact ⟨_, rfl⟩
      refine gj_name ⟨rfl, hlongR rfl rfl rfl (wd_cb2 <| wd_int <| wd_cb2 <| wd_int <| wd_op <| wd_var rfl <| wd_var rfl <| rd_add <| rc_min2 <| rc_max2 ⟨(max 0 (min 26 (room + jj))).toNat, by omega, by congr 1; omega⟩) fun q hq => ⟨q, hq, rfl⟩⟩
    have hall : ∀ y ∈ acc, ∃ q : Pg, Pr71 p.m p.bs q ∧ y = q.d := fun y hy => by
      obtain ⟨j, hj⟩ := List.getElem?_of_mem hy
      have hjl : j < acc.length := (List.getElem?_eq_some_iff.mp hj).1
      rw [hal] at hjl
      exact hac j _ y (List.getElem?_eq_getElem hjl) hj
    obtain ⟨qs, rfl, hqs⟩ := list_of hall
    have hql : qs.length = 4 := by rw [List.length_map] at hal; exact hal
    show SJ K [.ex v (ScriptO K ns), .dat false (.int kk), .ex (.ref l) (DeckL K), .dat false (.int p.m), .dat false (bsD p.bs), .dat false p.d, .dat false gv, .no, .dat false (.int room), .ml false lo (qs.map Pg.d), .no, s11, s12, s13, s14] _ _
    refine sj_seq (sj_app (i := 9) (m := false) (l := lo) (ds := qs.map Pg.d) rfl (by rw [List.length_map, hql]; decide) (hlongR rfl rfl rfl (wd_op (wd_callO0 (i := 2) (v := .ref l) rfl (use_next fun r2 hr2 => wd_int (rd_mod (by decide) ⟨(r2 % 27).toNat, ?_, ?_⟩)))) fun q5 hq5 => ?_))
    · have := Int.emod_lt_of_pos r2 (b := 27) (by decide)
      omega
    · have := Int.emod_nonneg r2 (b := 27) (by decide)
      congr 1
      omega
    have e5 : qs.map Pg.d ++ [q5.d] = (qs ++ [q5]).map Pg.d := by rw [List.map_append]; rfl
    have hqs5 : ∀ q ∈ qs ++ [q5], Pr71 p.m p.bs q := fun q hq => by
      rcases List.mem_append.mp hq with z | z
      · exact hqs q z
      · rw [List.mem_singleton.mp z]; exact hq5
    have hql5 : (qs ++ [q5]).length = 5 := by rw [List.length_append, hql]; rfl
    show SJ K [.ex v (ScriptO K ns), .dat false (.int kk), .ex (.ref l) (DeckL K), .dat false (.int p.m), .dat false (bsD p.bs), .dat false p.d, .dat false gv, .no, .dat false (.int room), .ml false lo (qs.map Pg.d ++ [q5.d]), .no, s11, s12, s13, s14] _ _
    rw [e5]
    generalize qs ++ [q5] = qq at hqs5 hql5
    refine sj_frz 9 (l := lo) (m := false) (ds := qq.map Pg.d) rfl ?_
    show SJ K [.ex v (ScriptO K ns), .dat false (.int kk), .ex (.ref l) (DeckL K), .dat false (.int p.m), .dat false (bsD p.bs), .dat false p.d, .dat false gv, .no, .dat false (.int room), .dat false (.list (qq.map Pg.d)), .no, s11, s12, s13, s14] _ _
    have SL2 : Pr.SL 10 2000000 (.list [p.d, .list (qq.map Pg.d)]) := by
      have h1 := sl_pgs (qs := qq) (n := 5) (by omega) fun q hq => (hqs5 q hq).2.2.2
      have h2 := Pr.SL.lst (e := 9) (n := 500013) (xs := [p.d, .list (qq.map Pg.d)]) fun y hy => by
        simp only [List.mem_cons, List.not_mem_nil, or_false] at hy
        rcases hy with rfl | rfl
        · exact hps.mono (by decide) (by decide)
        · exact h1.mono (Nat.le_refl _) (by decide)
      exact h2.mono (Nat.le_refl _) (by show 2 * (500013 + 2) + 3 ≤ 2000000; decide)
    obtain ⟨o1, o2, o3, o4⟩ := SL2.rep (by omega) (by omega)
    obtain ⟨kp2, hkp⟩ : ∃ kp2, kp2 = (PyData.list [p.d, .list (qq.map Pg.d)]).shown := ⟨_, rfl⟩
    refine sj_seq (sj_set false (wd_repr (wd_lst2 (wd_var rfl (wd_var rfl ⟨o1, o2, o3, o4, ?_⟩)))))
    rw [← hkp]
    show SJ K [.ex v (ScriptO K ns), .dat false (.int kk), .ex (.ref l) (DeckL K), .dat false (.int p.m), .dat false (bsD p.bs), .dat false p.d, .dat false gv, .no, .dat false (.int room), .dat false (.list (qq.map Pg.d)), .no, .dat false (.str kp2), s12, s13, s14] _ _
    -- programs that do not go together
    refine sj_cut (fun Γ' => ∃ s12 s13, (s13 = .no ∨ ∃ m d, s13 = .dat m d) ∧ Γ' = [.ex v (ScriptO K ns), .dat false (.int kk), .ex (.ref l) (DeckL K), .dat false (.int p.m), .dat false (bsD p.bs), .dat false p.d, .dat false gv, .no, .dat false (.int room), .dat false (.list (qq.map Pg.d)), .no, .dat false (.str kp2), s12, s13, s14]) ?_ ?_
    · refine sj_for false (wi_list (wd_callO1 (i := 2) (v := .ref l) rfl (wd_var rfl ⟨.ref l, p, rfl, hp, fun la es hel hes => asD_ml ⟨es, rfl, fun j Γ' => ∃ s12 s13, (s13 = .no ∨ ∃ m d, s13 = .dat m d) ∧ Γ' = [.ex v (ScriptO K ns), .dat false (.int kk), .ex (.ref l) (DeckL K), .dat false (.int p.m), .dat false (bsD p.bs), .dat false p.d, .dat false gv, .no, .dat false (.int room), .dat false (.list (qq.map Pg.d)), .no, .dat false (.str kp2), s12, s13, s14], ⟨_, _, hs13, rfl⟩, ?_, fun Γ' h => h⟩⟩)))
      rintro j d Γ' hd ⟨s12, s13, hs13, rfl⟩
      obtain ⟨m2, b2, r2, rfl, ho2, hne⟩ := hes d (List.mem_of_getElem? hd)
      refine gj_name ?_
      show SJ K [.ex v (ScriptO K ns), .dat false (.int kk), .ex (.ref l) (DeckL K), .dat false (.int p.m), .dat false (bsD p.bs), .dat false p.d, .dat false gv, .no, .dat false (.int room), .dat false (.list (qq.map Pg.d)), .no, .dat false (.str kp2), .dat false (prD m2 b2 r2), s13, s14] _ _
      refine sj_for false (wi_tup <| wd_tup <| wa_d <| wd_op <| wd_var rfl <| wd_int <| rd_bs0 hl0 <| wa_d <| wd_str <| wa_d <| wd_non <| wa_d <| wd_var rfl <| wa_nil ⟨_, rfl, le_lit rfl, _, rfl, fun j Γ' => ∃ s13, (s13 = .no ∨ ∃ m d, s13 = .dat m d) ∧ Γ' = [.ex v (ScriptO K ns), .dat false (.int kk), .ex (.ref l) (DeckL K), .dat false (.int p.m), .dat false (bsD p.bs), .dat false p.d, .dat false gv, .no, .dat false (.int room), .dat false (.list (qq.map Pg.d)), .no, .dat false (.str kp2), .dat false (prD m2 b2 r2), s13, s14], ⟨_, hs13, rfl⟩, ?_, fun Γ' ⟨s13, h, e⟩ => ⟨_, s13, h, e⟩⟩)
      rintro j2 bx Γ' hbx ⟨s13, hs13, rfl⟩
      refine gj_name ?_
      show SJ K [.ex v (ScriptO K ns), .dat false (.int kk), .ex (.ref l) (DeckL K), .dat false (.int p.m), .dat false (bsD p.bs), .dat false p.d, .dat false gv, .no, .dat false (.int room), .dat false (.list (qq.map Pg.d)), .no, .dat false (.str kp2), .dat false (prD m2 b2 r2), .dat false bx, s14] _ _
      refine sj_if (wt_or (wt_test (wd_op (wd_call3 (wd_var (d := p.d) rfl (wd_var rfl (wd_var rfl ⟨p.m, m2, p.bs, b2, .list (p.rows.map Rw.d), r2, bx, rfl, hb.strs, ho2, .inl ⟨fun z => hne ⟨z.1.symm, z.2.symm⟩, asD_new (wd_str (rd_neSelf sh4 (.str _) ⟨_, rfl, iteF' rfl ?_⟩))⟩⟩)))))))
      exact wt_test (wd_op (wd_call3 (wd_var rfl (wd_var (d := p.d) rfl (wd_var rfl ⟨m2, p.m, b2, p.bs, r2, .list (p.rows.map Rw.d), bx, rfl, ho2, hb.strs, .inl ⟨hne, asD_new (wd_str (rd_neSelf sh4 (.str _) ⟨_, rfl, iteF' rfl (sj_next ⟨_, .inr ⟨_, _, rfl⟩, rfl⟩)⟩))⟩⟩)))))
    rintro _ ⟨s12, s13, hs13, rfl⟩
    -- boxes that are none, and too many rows
    refine sj_cut (fun Γ' => ∃ s12 s14, Γ' = [.ex v (ScriptO K ns), .dat false (.int kk), .ex (.ref l) (DeckL K), .dat false (.int p.m), .dat false (bsD p.bs), .dat false p.d, .dat false gv, .no, .dat false (.int room), .dat false (.list (qq.map Pg.d)), .no, .dat false (.str kp2), s12, s13, s14]) ?_ ?_
    · refine sj_for false (wi_list (wd_var rfl ⟨_, rfl, fun j Γ' => ∃ s12 s14, Γ' = [.ex v (ScriptO K ns), .dat false (.int kk), .ex (.ref l) (DeckL K), .dat false (.int p.m), .dat false (bsD p.bs), .dat false p.d, .dat false gv, .no, .dat false (.int room), .dat false (.list (qq.map Pg.d)), .no, .dat false (.str kp2), s12, s13, s14], ⟨_, _, rfl⟩, ?_, fun Γ' h => h⟩))
      rintro j d Γ' hd ⟨s12, s14, rfl⟩
      obtain ⟨o, ho, rfl⟩ := List.mem_map.mp (List.mem_of_getElem? hd)
      obtain ⟨hok, hom, hob, _⟩ := hqs5 o ho
      have eod : o.d = prD p.m p.bs (.list (o.rows.map Rw.d)) := by
        show PyData.tuple _ = PyData.tuple _
        rw [hom, hob]
      refine gj_name ?_
      show SJ K [.ex v (ScriptO K ns), .dat false (.int kk), .ex (.ref l) (DeckL K), .dat false (.int p.m), .dat false (bsD p.bs), .dat false p.d, .dat false gv, .no, .dat false (.int room), .dat false (.list (qq.map Pg.d)), .no, .dat false (.str kp2), .dat false o.d, s13, s14] _ _
      refine sj_seq (sj_if (wt_test (wd_op (wd_lcPa (mi := false) (α := PyData) id (fun _ => false) id (wipeOk_any rfl hs13 wipeOk_nil) gwn (wi_list (wd_call1 (wd_var rfl ⟨p.bs, rfl, hb, fun la es hel hes => asD_ml ⟨es, rfl, es, by simp, hel, fun i x hx => gj_name ⟨rfl, ?_⟩, ?_⟩⟩)))))))
      · obtain ⟨h1, h2⟩ := hes x (List.mem_of_getElem? hx)
        exact wt_test (wd_op (wd_call3 (wd_var (d := p.d) rfl (wd_var (d := o.d) rfl (wd_var (d := x) rfl ⟨p.m, p.m, p.bs, p.bs, .list (p.rows.map Rw.d), .list (o.rows.map Rw.d), x, by rw [eod]; rfl, hb.strs, hb.strs, .inr ⟨p, o, hp, hok, hom, hob, rfl, rfl, rfl, rfl, rfl, rfl, h1, .inl ⟨h2, asD_new (wd_str (rd_neSelf sh6 (.str _) ⟨_, rfl, rfl, fun z => nomatch z⟩))⟩⟩⟩)))))
      have hfl : (es.filter fun _ => false) = [] := List.filter_eq_nil_iff.mpr fun _ _ => by simp
      rw [hfl]
      refine wd_lst0 (rd_ne sh_nil sh_nil ⟨_, rfl, iteF' rfl (sj_next ?_)⟩)
      refine sj_cut (fun Γ' => ∃ d, ((d = .str ("TooMany" : Str) ∧ 30 < spL p.rows + 1 + o.rows.length) ∨ (spL p.rows + 1 + o.rows.length ≤ 30 ∧ ∃ q : Pg, q.Ok ∧ d = q.d)) ∧ Γ' = [.ex v (ScriptO K ns), .dat false (.int kk), .ex (.ref l) (DeckL K), .dat false (.int p.m), .dat false (bsD p.bs), .dat false p.d, .dat false gv, .no, .dat false (.int room), .dat false (.list (qq.map Pg.d)), .no, .dat false (.str kp2), .dat false o.d, s13, .dat false d]) ?_ ?_
      · refine sj_set false <| wd_call3 <| wd_var (d := p.d) rfl <| wd_var (d := o.d) rfl <| wd_op <| wd_var rfl <| wd_op <| wd_callO0 (i := 2) (v := .ref l) rfl <| use_next fun r3 _ => wd_cb1 <| wd_var rfl <| rc_lenL ?_
        rw [List.length_map]
        refine rd_mod (by omega) (rd_gbox hl0 fun y hy => ?_)
        refine ⟨p.m, p.m, p.bs, p.bs, .list (p.rows.map Rw.d), .list (o.rows.map Rw.d), .str y, by rw [eod]; rfl, hb.strs, hb.strs, .inr ⟨p, o, hp, hok, hom, hob, rfl, rfl, rfl, rfl, rfl, rfl, rfl, .inr ⟨y, rfl, hy, ?_⟩⟩⟩
        by_cases hbig : 30 < spL p.rows + 1 + o.rows.length
        · exact .inl ⟨hbig, asD_new ⟨_, .inl ⟨rfl, hbig⟩, rfl⟩⟩
        · exact .inr ⟨by omega, asD_dat ⟨_, .inr ⟨by omega, _, after_ok71 hp hok hom hob hy (by omega), rfl⟩, rfl⟩⟩
      rintro _ ⟨d, hdd, rfl⟩
      have hgt : WD K false [.ex v (ScriptO K ns), .dat false (.int kk), .ex (.ref l) (DeckL K), .dat false (.int p.m), .dat false (bsD p.bs), .dat false p.d, .dat false gv, .no, .dat false (.int room), .dat false (.list (qq.map Pg.d)), .no, .dat false (.str kp2), .dat false o.d, s13, .dat false d] (tOp dGt (tCB (dLen K) (tCons (tOp (rIx K) (tVar 12) (tC (.int 2))) tNil)) (tVar 8)) fun z => z = .bool (decide (30 < spL p.rows + 1 + o.rows.length)) := by
        refine wd_op (wd_cb1 (wd_op (wd_var (d := o.d) rfl (wd_int (rd_ixT (d := .list (o.rows.map Rw.d)) rfl (rc_lenL (wd_var rfl (rd_gt ?_))))))))
        rw [List.length_map]
        congr 1
        apply decide_eq_decide.mpr
        omega
      rcases hdd with ⟨rfl, hbig⟩ | ⟨hsm, q, hq, rfl⟩
      · rw [decide_eq_true hbig] at hgt
        refine sj_if (wt_or (wt_test (wd_op (wd_op (wd_var rfl (wd_str (rd_eqSelf sh3 (.str _) (hgt.mono fun z ez => ?_))))))))
        subst ez
        refine rd_ne sh_bool sh_bool ⟨_, rfl, iteF' rfl ?_⟩
        exact wt_test (wd_op (wd_var rfl (wd_tup3 (wd_str (wd_str (wd_str (rd_inT sh3 shT ⟨_, rfl, iteF' (by decide +kernel) (sj_next ⟨_, _, rfl⟩)⟩)))))))
      · rw [decide_eq_false (by omega)] at hgt
        refine sj_if (wt_or (wt_test (wd_op (wd_op (wd_var rfl (wd_str (rd_eq (Pg.sh hq) sh3 (hgt.mono fun z ez => ?_))))))))
        subst ez
        refine rd_ne sh_bool sh_bool ⟨_, rfl, iteF' rfl ?_⟩
        exact wt_test (wd_op (wd_var rfl (wd_tup3 (wd_str (wd_str (wd_str (rd_inT (Pg.sh hq) shT ⟨_, rfl, iteF' rfl (sj_next ⟨_, _, rfl⟩)⟩)))))))
    rintro _ ⟨s12, s14, rfl⟩
    refine sj_if (wt_test (wd_op (wd_repr (wd_lst2 (wd_var rfl (wd_var rfl ⟨o1, o2, o3, o4, ?_⟩))))))
    rw [← hkp]
    exact wd_var rfl (rd_neS ⟨_, rfl, iteF' (by simp) (sj_next ⟨_, _, _, _, _, _, _, _, _, _, _, _, hs13, rfl⟩)⟩)
  rintro _ ⟨s1, s2, s3, s4, s5, s6, s8, s9, s11, s12, s13, s14, hs13, rfl⟩
  exact sj_retD true (wd_bl ⟨keep_ex keep_nil, q⟩)
end
end Dk
end
section
set_option Elab.async false
set_option linter.all false
set_option maxRecDepth 100000
namespace Ch
open PySem PySem.Spec PyProof.Rows L2 Pk Sy
structure Fx (K : PySem.W.Frag) (mg : Str → Option Value) : Prop where
  D_need_alike : Def K mg "need_alike" s_need_alike ["one", "other"]
  D_spots_behind : Def K mg "spots_behind" s_spots_behind ["rows"]
  D_skip_by : Def K mg "skip_by" s_skip_by ["thing", "many", "boxes"]
  D_row_anew : Def K mg "row_anew" s_row_anew ["rows", "at", "spots", "box", "boxes"]
  D_copied_row : Def K mg "copied_row" s_copied_row ["row"]
  D_put_after : Def K mg "put_after" s_put_after ["one", "other", "box"]
  D_l_cell_at : Def K mg "_law_cell_at" s_l_cell_at ["script", "k"]
  D_l_stir : Def K mg "_law_stir" s_l_stir ["cell", "k"]
  D_l_deck : Def K mg "_law_deck" s_l_deck ["cell", "many"]
  D_l_next : Def K mg "_law_next" s_l_next ["deck"]
  D_l_thing : Def K mg "_law_thing" s_l_thing ["deck", "m", "boxes", "deep"]
  D_l_boxes : Def K mg "_law_boxes" s_l_boxes ["deck"]
  D_l_word : Def K mg "_law_word" s_l_word ["caught"]
  D_l_asked : Def K mg "_law_asked" s_l_asked ["one", "other", "box"]
  D_l_long : Def K mg "_law_long" s_l_long ["deck", "m", "boxes", "many"]
  D_l_no_boxes : Def K mg "_law_no_boxes" s_l_no_boxes ["boxes"]
  D_l_others : Def K mg "_law_others" s_l_others ["deck", "program"]
  m_int : mg "int" = none
  m_min : mg "min" = none
  m_len : mg "len" = none
  m_list : mg "list" = none
  m_range : mg "range" = none
  m_isinstance : mg "isinstance" = none
  m_str : mg "str" = none
  m_ValueError : mg "ValueError" = none
  m_max : mg "max" = none
  m_repr : mg "repr" = none
  g_MOST_ROWS : ∃ t, mg "MOST_ROWS" = some (.int 30 t)
  g_RunError : mg "RunError" = some (.ref (He.ga K "RunError"))
  g_NoStore : mg "NoStore" = some (.ref (He.ga K "NoStore"))
  g_NoNumber : mg "NoNumber" = some (.ref (He.ga K "NoNumber"))
  g_TooMany : mg "TooMany" = some (.ref (He.ga K "TooMany"))
  g_NoFit : mg "NoFit" = some (.ref (He.ga K "NoFit"))
  g_NoText : mg "NoText" = some (.ref (He.ga K "NoText"))
  g_NoName : mg "NoName" = some (.ref (He.ga K "NoName"))
  g_NoRow : mg "NoRow" = some (.ref (He.ga K "NoRow"))
  g_NoChoice : mg "NoChoice" = some (.ref (He.ga K "NoChoice"))
  e_TooMany : ExcT K mg "TooMany" (He.ga K "TooMany")
  e_NoFit : ExcT K mg "NoFit" (He.ga K "NoFit")
  e_NoName : ExcT K mg "NoName" (He.ga K "NoName")
  kit_TooMany_RunError : PySem.W.kitOne K (.ref (He.ga K "TooMany")) (.ref (He.ga K "RunError")) = some true
  kit_TooMany_NoStore : PySem.W.kitOne K (.ref (He.ga K "TooMany")) (.ref (He.ga K "NoStore")) = some false
  kit_TooMany_NoNumber : PySem.W.kitOne K (.ref (He.ga K "TooMany")) (.ref (He.ga K "NoNumber")) = some false
  kit_TooMany_TooMany : PySem.W.kitOne K (.ref (He.ga K "TooMany")) (.ref (He.ga K "TooMany")) = some true
  kit_TooMany_NoFit : PySem.W.kitOne K (.ref (He.ga K "TooMany")) (.ref (He.ga K "NoFit")) = some false
  kit_TooMany_NoText : PySem.W.kitOne K (.ref (He.ga K "TooMany")) (.ref (He.ga K "NoText")) = some false
  kit_TooMany_NoName : PySem.W.kitOne K (.ref (He.ga K "TooMany")) (.ref (He.ga K "NoName")) = some false
  kit_TooMany_NoRow : PySem.W.kitOne K (.ref (He.ga K "TooMany")) (.ref (He.ga K "NoRow")) = some false
  kit_TooMany_NoChoice : PySem.W.kitOne K (.ref (He.ga K "TooMany")) (.ref (He.ga K "NoChoice")) = some false
  kit_NoFit_RunError : PySem.W.kitOne K (.ref (He.ga K "NoFit")) (.ref (He.ga K "RunError")) = some true
  kit_NoFit_NoStore : PySem.W.kitOne K (.ref (He.ga K "NoFit")) (.ref (He.ga K "NoStore")) = some false
  kit_NoFit_NoNumber : PySem.W.kitOne K (.ref (He.ga K "NoFit")) (.ref (He.ga K "NoNumber")) = some false
  kit_NoFit_TooMany : PySem.W.kitOne K (.ref (He.ga K "NoFit")) (.ref (He.ga K "TooMany")) = some false
  kit_NoFit_NoFit : PySem.W.kitOne K (.ref (He.ga K "NoFit")) (.ref (He.ga K "NoFit")) = some true
  kit_NoFit_NoText : PySem.W.kitOne K (.ref (He.ga K "NoFit")) (.ref (He.ga K "NoText")) = some false
  kit_NoFit_NoName : PySem.W.kitOne K (.ref (He.ga K "NoFit")) (.ref (He.ga K "NoName")) = some false
  kit_NoFit_NoRow : PySem.W.kitOne K (.ref (He.ga K "NoFit")) (.ref (He.ga K "NoRow")) = some false
  kit_NoFit_NoChoice : PySem.W.kitOne K (.ref (He.ga K "NoFit")) (.ref (He.ga K "NoChoice")) = some false
  kit_NoName_RunError : PySem.W.kitOne K (.ref (He.ga K "NoName")) (.ref (He.ga K "RunError")) = some true
  kit_NoName_NoStore : PySem.W.kitOne K (.ref (He.ga K "NoName")) (.ref (He.ga K "NoStore")) = some false
  kit_NoName_NoNumber : PySem.W.kitOne K (.ref (He.ga K "NoName")) (.ref (He.ga K "NoNumber")) = some false
  kit_NoName_TooMany : PySem.W.kitOne K (.ref (He.ga K "NoName")) (.ref (He.ga K "TooMany")) = some false
  kit_NoName_NoFit : PySem.W.kitOne K (.ref (He.ga K "NoName")) (.ref (He.ga K "NoFit")) = some false
  kit_NoName_NoText : PySem.W.kitOne K (.ref (He.ga K "NoName")) (.ref (He.ga K "NoText")) = some false
  kit_NoName_NoName : PySem.W.kitOne K (.ref (He.ga K "NoName")) (.ref (He.ga K "NoName")) = some true
  kit_NoName_NoRow : PySem.W.kitOne K (.ref (He.ga K "NoName")) (.ref (He.ga K "NoRow")) = some false
  kit_NoName_NoChoice : PySem.W.kitOne K (.ref (He.ga K "NoName")) (.ref (He.ga K "NoChoice")) = some false
  exm_TooMany_RunError : PySem.W.exmOne K (.ref (He.ga K "TooMany")) (.ref (He.ga K "RunError")) = some true
  exm_TooMany_NoStore : PySem.W.exmOne K (.ref (He.ga K "TooMany")) (.ref (He.ga K "NoStore")) = some false
  exm_TooMany_NoNumber : PySem.W.exmOne K (.ref (He.ga K "TooMany")) (.ref (He.ga K "NoNumber")) = some false
  exm_TooMany_TooMany : PySem.W.exmOne K (.ref (He.ga K "TooMany")) (.ref (He.ga K "TooMany")) = some true
  exm_TooMany_NoFit : PySem.W.exmOne K (.ref (He.ga K "TooMany")) (.ref (He.ga K "NoFit")) = some false
  exm_TooMany_NoText : PySem.W.exmOne K (.ref (He.ga K "TooMany")) (.ref (He.ga K "NoText")) = some false
  exm_TooMany_NoName : PySem.W.exmOne K (.ref (He.ga K "TooMany")) (.ref (He.ga K "NoName")) = some false
  exm_TooMany_NoRow : PySem.W.exmOne K (.ref (He.ga K "TooMany")) (.ref (He.ga K "NoRow")) = some false
  exm_TooMany_NoChoice : PySem.W.exmOne K (.ref (He.ga K "TooMany")) (.ref (He.ga K "NoChoice")) = some false
  exm_NoFit_RunError : PySem.W.exmOne K (.ref (He.ga K "NoFit")) (.ref (He.ga K "RunError")) = some true
  exm_NoFit_NoStore : PySem.W.exmOne K (.ref (He.ga K "NoFit")) (.ref (He.ga K "NoStore")) = some false
  exm_NoFit_NoNumber : PySem.W.exmOne K (.ref (He.ga K "NoFit")) (.ref (He.ga K "NoNumber")) = some false
  exm_NoFit_TooMany : PySem.W.exmOne K (.ref (He.ga K "NoFit")) (.ref (He.ga K "TooMany")) = some false
  exm_NoFit_NoFit : PySem.W.exmOne K (.ref (He.ga K "NoFit")) (.ref (He.ga K "NoFit")) = some true
  exm_NoFit_NoText : PySem.W.exmOne K (.ref (He.ga K "NoFit")) (.ref (He.ga K "NoText")) = some false
  exm_NoFit_NoName : PySem.W.exmOne K (.ref (He.ga K "NoFit")) (.ref (He.ga K "NoName")) = some false
  exm_NoFit_NoRow : PySem.W.exmOne K (.ref (He.ga K "NoFit")) (.ref (He.ga K "NoRow")) = some false
  exm_NoFit_NoChoice : PySem.W.exmOne K (.ref (He.ga K "NoFit")) (.ref (He.ga K "NoChoice")) = some false
  exm_NoName_RunError : PySem.W.exmOne K (.ref (He.ga K "NoName")) (.ref (He.ga K "RunError")) = some true
  exm_NoName_NoStore : PySem.W.exmOne K (.ref (He.ga K "NoName")) (.ref (He.ga K "NoStore")) = some false
  exm_NoName_NoNumber : PySem.W.exmOne K (.ref (He.ga K "NoName")) (.ref (He.ga K "NoNumber")) = some false
  exm_NoName_TooMany : PySem.W.exmOne K (.ref (He.ga K "NoName")) (.ref (He.ga K "TooMany")) = some false
  exm_NoName_NoFit : PySem.W.exmOne K (.ref (He.ga K "NoName")) (.ref (He.ga K "NoFit")) = some false
  exm_NoName_NoText : PySem.W.exmOne K (.ref (He.ga K "NoName")) (.ref (He.ga K "NoText")) = some false
  exm_NoName_NoName : PySem.W.exmOne K (.ref (He.ga K "NoName")) (.ref (He.ga K "NoName")) = some true
  exm_NoName_NoRow : PySem.W.exmOne K (.ref (He.ga K "NoName")) (.ref (He.ga K "NoRow")) = some false
  exm_NoName_NoChoice : PySem.W.exmOne K (.ref (He.ga K "NoName")) (.ref (He.ga K "NoChoice")) = some false
  kit_TooMany_ValueError : PySem.W.kitOne K (.ref (He.ga K "TooMany")) (.type "ValueError") = some true
  kit_NoFit_ValueError : PySem.W.kitOne K (.ref (He.ga K "NoFit")) (.type "ValueError") = some true
  kit_NoName_ValueError : PySem.W.kitOne K (.ref (He.ga K "NoName")) (.type "ValueError") = some true
end Ch
end
section
set_option Elab.async false
set_option linter.all false
set_option maxRecDepth 100000
namespace Ch
open PySem PySem.Spec PyProof.Rows L2 Pk Sy Dk
theorem chain {P : Program} {w : World} {K : PySem.W.Frag} {mg : Str → Option Value} {base : Heap} {f : Addr} {fd : FuncData} (F0 : Fun K "law" "law" s_law f fd) (x : Fx K mg) : Pr.FnOkG P w K mg base CX0 16 f fd ["script"] (spG ⟨K, w⟩ (T_law ⟨K, w⟩)) := by
  obtain ⟨KK, rfl, rfl⟩ : ∃ KK : Kw, KK.K = K ∧ KK.w = w := ⟨⟨K, w⟩, rfl, rfl⟩
  have kf_TooMany : KindN KK _ _ _ _ _ _ _ _ _ _ 3 := ⟨x.e_TooMany.c, x.exm_TooMany_RunError, x.kit_TooMany_NoStore, x.kit_TooMany_NoChoice, x.kit_TooMany_NoNumber, x.kit_TooMany_TooMany, x.kit_TooMany_NoFit, x.kit_TooMany_NoText, x.kit_TooMany_NoName, x.kit_TooMany_NoRow, x.kit_TooMany_ValueError⟩
  have kf_NoFit : KindN KK _ _ _ _ _ _ _ _ _ _ 4 := ⟨x.e_NoFit.c, x.exm_NoFit_RunError, x.kit_NoFit_NoStore, x.kit_NoFit_NoChoice, x.kit_NoFit_NoNumber, x.kit_NoFit_TooMany, x.kit_NoFit_NoFit, x.kit_NoFit_NoText, x.kit_NoFit_NoName, x.kit_NoFit_NoRow, x.kit_NoFit_ValueError⟩
  have kf_NoName : KindN KK _ _ _ _ _ _ _ _ _ _ 6 := ⟨x.e_NoName.c, x.exm_NoName_RunError, x.kit_NoName_NoStore, x.kit_NoName_NoChoice, x.kit_NoName_NoNumber, x.kit_NoName_TooMany, x.kit_NoName_NoFit, x.kit_NoName_NoText, x.kit_NoName_NoName, x.kit_NoName_NoRow, x.kit_NoName_ValueError⟩
  have h_l_cell_at := ok_cellat (P := P) (K := KK) (base := base) (k := 0) x.D_l_cell_at x.m_len
  have h_l_stir := ok_stir (P := P) (K := KK) (base := base) (k := 0) x.D_l_stir 
  have h_l_deck := ok_edeck (k := 1) x.D_l_deck h_l_stir x.m_range
  have h_l_next := ok_next (P := P) (K := KK) (base := base) (k := 0) x.D_l_next 
  have h_l_thing := ok_ething (k := 1) x.D_l_thing h_l_next x.m_len 4
  have h_l_boxes := ok_eboxes (k := 1) x.D_l_boxes h_l_next x.m_range x.m_len
  have h_spots_behind := ok_spots (P := P) (K := KK) (base := base) (k := 0) x.D_spots_behind x.m_int
  have h_skip_by := ok_skipby (P := P) (K := KK) (base := base) (k := 0) x.D_skip_by 
  have h_copied_row := ok_copied (P := P) (K := KK) (base := base) (k := 0) x.D_copied_row x.m_list
  have h_row_anew := ok_anew (k := 1) x.D_row_anew h_copied_row h_skip_by x.m_min x.m_len
  have h_need_alike := ok_alikeX (P := P) (K := KK) (base := base) (k := 0) x.D_need_alike x.e_NoFit
  have h_put_after := ok_afterX (k := 2) x.D_put_after (h_copied_row.mono (by decide)) h_row_anew (h_spots_behind.mono (by decide)) (h_need_alike.mono (by decide)) x.m_isinstance x.m_str x.m_len x.m_range x.m_list x.g_MOST_ROWS x.e_NoName x.e_TooMany
  have h_l_word := ok_wordK (P := P) (K := KK) (base := base) (k := 0) x.D_l_word (kl_cons kf_TooMany (kl_cons kf_NoFit (kl_cons kf_NoName kl_nil))) x.m_isinstance x.m_ValueError x.g_NoStore x.g_NoChoice x.g_NoNumber x.g_TooMany x.g_NoFit x.g_NoText x.g_NoName x.g_NoRow
  have h_l_asked := ok_asked71 (k := 3) x.D_l_asked (List.mem_cons_of_mem _ (List.mem_cons_self)) (List.mem_cons_of_mem _ (List.mem_cons_of_mem _ List.mem_cons_self)) List.mem_cons_self x.exm_NoFit_RunError x.exm_NoName_RunError x.exm_TooMany_RunError (h_l_word.mono (by decide)) h_put_after x.m_int x.m_isinstance x.m_str x.g_RunError
  have h_l_long := ok_long71 (k := 5) x.D_l_long (h_l_next.mono (by decide)) h_l_thing x.m_list x.m_range
  have h_l_no_boxes := ok_nobx (P := P) (K := KK) (base := base) (k := 0) x.D_l_no_boxes 
  have h_l_others := ok_others71 (k := 1) x.D_l_others h_l_next x.m_len x.m_list
  exact ok_law (k := 15) F0 (h_l_asked.mono (by decide)) (h_l_next.mono (by decide)) (h_l_no_boxes.mono (by decide)) (h_l_others.mono (by decide)) (h_l_long.mono (by decide)) (h_l_boxes.mono (by decide)) (h_l_deck.mono (by decide)) (h_l_cell_at.mono (by decide)) x.m_range x.m_max x.m_min x.m_len x.m_repr
end Ch
end
section
set_option Elab.async false
set_option linter.all false
set_option maxRecDepth 100000
set_option maxHeartbeats 0
namespace Hd
open PySem PySem.Spec PyProof.Rows L2 Pk Sy Ch
def d_need_alike : He.DefD := ⟨("need_alike", none), "need_alike", "need_alike", defArgs s_need_alike, defBody s_need_alike, defScope s_need_alike, [], []⟩
def d_spots_behind : He.DefD := ⟨("spots_behind", none), "spots_behind", "spots_behind", defArgs s_spots_behind, defBody s_spots_behind, defScope s_spots_behind, [], []⟩
def d_skip_by : He.DefD := ⟨("skip_by", none), "skip_by", "skip_by", defArgs s_skip_by, defBody s_skip_by, defScope s_skip_by, [], []⟩
def d_row_anew : He.DefD := ⟨("row_anew", none), "row_anew", "row_anew", defArgs s_row_anew, defBody s_row_anew, defScope s_row_anew, [], []⟩
def d_copied_row : He.DefD := ⟨("copied_row", none), "copied_row", "copied_row", defArgs s_copied_row, defBody s_copied_row, defScope s_copied_row, [], []⟩
def d_put_after : He.DefD := ⟨("put_after", none), "put_after", "put_after", defArgs s_put_after, defBody s_put_after, defScope s_put_after, [], []⟩
def d_l_cell_at : He.DefD := ⟨("_law_cell_at", none), "_law_cell_at", "_law_cell_at", defArgs s_l_cell_at, defBody s_l_cell_at, defScope s_l_cell_at, [], []⟩
def d_l_stir : He.DefD := ⟨("_law_stir", none), "_law_stir", "_law_stir", defArgs s_l_stir, defBody s_l_stir, defScope s_l_stir, [], []⟩
def d_l_deck : He.DefD := ⟨("_law_deck", none), "_law_deck", "_law_deck", defArgs s_l_deck, defBody s_l_deck, defScope s_l_deck, [], []⟩
def d_l_next : He.DefD := ⟨("_law_next", none), "_law_next", "_law_next", defArgs s_l_next, defBody s_l_next, defScope s_l_next, [], []⟩
def d_l_thing : He.DefD := ⟨("_law_thing", none), "_law_thing", "_law_thing", defArgs s_l_thing, defBody s_l_thing, defScope s_l_thing, [], []⟩
def d_l_boxes : He.DefD := ⟨("_law_boxes", none), "_law_boxes", "_law_boxes", defArgs s_l_boxes, defBody s_l_boxes, defScope s_l_boxes, [], []⟩
def d_l_word : He.DefD := ⟨("_law_word", none), "_law_word", "_law_word", defArgs s_l_word, defBody s_l_word, defScope s_l_word, [], []⟩
def d_l_asked : He.DefD := ⟨("_law_asked", none), "_law_asked", "_law_asked", defArgs s_l_asked, defBody s_l_asked, defScope s_l_asked, [], []⟩
def d_l_long : He.DefD := ⟨("_law_long", none), "_law_long", "_law_long", defArgs s_l_long, defBody s_l_long, defScope s_l_long, [], []⟩
def d_l_no_boxes : He.DefD := ⟨("_law_no_boxes", none), "_law_no_boxes", "_law_no_boxes", defArgs s_l_no_boxes, defBody s_l_no_boxes, defScope s_l_no_boxes, [], []⟩
def d_l_others : He.DefD := ⟨("_law_others", none), "_law_others", "_law_others", defArgs s_l_others, defBody s_l_others, defScope s_l_others, [], []⟩
def d_law : He.DefD := ⟨("law", none), "law", "law", defArgs s_law, defBody s_law, defScope s_law, [], []⟩
def fn : List He.DefD := [d_need_alike, d_spots_behind, d_skip_by, d_row_anew, d_copied_row, d_put_after, d_l_cell_at, d_l_stir, d_l_deck, d_l_next, d_l_thing, d_l_boxes, d_l_word, d_l_asked, d_l_long, d_l_no_boxes, d_l_others, d_law]
def fa : List He.Fa := [.glo "need_alike", .glo "spots_behind", .glo "skip_by", .glo "row_anew", .glo "copied_row", .glo "put_after", .glo "_law_cell_at", .glo "_law_stir", .glo "_law_deck", .glo "_law_next", .glo "_law_thing", .glo "_law_boxes", .glo "_law_word", .glo "_law_asked", .glo "_law_long", .glo "_law_no_boxes", .glo "_law_others", .glo "law", .free "int", .free "min", .free "len", .free "list", .free "range", .free "isinstance", .free "str", .free "ValueError", .free "max", .free "repr", .int "MOST_ROWS" 30, .glo "RunError", .glo "NoStore", .glo "NoNumber", .glo "TooMany", .glo "NoFit", .glo "NoText", .glo "NoName", .glo "NoRow", .glo "NoChoice"]
def exs (K : PySem.W.Frag) : List Bool := [excB K "TooMany",
  excB K "NoFit",
  excB K "NoName",
  decide (PySem.W.kitOne K (.ref (He.ga K "TooMany")) (.ref (He.ga K "RunError")) = some true),
  decide (PySem.W.kitOne K (.ref (He.ga K "TooMany")) (.ref (He.ga K "NoStore")) = some false),
  decide (PySem.W.kitOne K (.ref (He.ga K "TooMany")) (.ref (He.ga K "NoNumber")) = some false),
  decide (PySem.W.kitOne K (.ref (He.ga K "TooMany")) (.ref (He.ga K "TooMany")) = some true),
  decide (PySem.W.kitOne K (.ref (He.ga K "TooMany")) (.ref (He.ga K "NoFit")) = some false),
  decide (PySem.W.kitOne K (.ref (He.ga K "TooMany")) (.ref (He.ga K "NoText")) = some false),
  decide (PySem.W.kitOne K (.ref (He.ga K "TooMany")) (.ref (He.ga K "NoName")) = some false),
  decide (PySem.W.kitOne K (.ref (He.ga K "TooMany")) (.ref (He.ga K "NoRow")) = some false),
  decide (PySem.W.kitOne K (.ref (He.ga K "TooMany")) (.ref (He.ga K "NoChoice")) = some false),
  decide (PySem.W.kitOne K (.ref (He.ga K "NoFit")) (.ref (He.ga K "RunError")) = some true),
  decide (PySem.W.kitOne K (.ref (He.ga K "NoFit")) (.ref (He.ga K "NoStore")) = some false),
  decide (PySem.W.kitOne K (.ref (He.ga K "NoFit")) (.ref (He.ga K "NoNumber")) = some false),
  decide (PySem.W.kitOne K (.ref (He.ga K "NoFit")) (.ref (He.ga K "TooMany")) = some false),
  decide (PySem.W.kitOne K (.ref (He.ga K "NoFit")) (.ref (He.ga K "NoFit")) = some true),
  decide (PySem.W.kitOne K (.ref (He.ga K "NoFit")) (.ref (He.ga K "NoText")) = some false),
  decide (PySem.W.kitOne K (.ref (He.ga K "NoFit")) (.ref (He.ga K "NoName")) = some false),
  decide (PySem.W.kitOne K (.ref (He.ga K "NoFit")) (.ref (He.ga K "NoRow")) = some false),
  decide (PySem.W.kitOne K (.ref (He.ga K "NoFit")) (.ref (He.ga K "NoChoice")) = some false),
  decide (PySem.W.kitOne K (.ref (He.ga K "NoName")) (.ref (He.ga K "RunError")) = some true),
  decide (PySem.W.kitOne K (.ref (He.ga K "NoName")) (.ref (He.ga K "NoStore")) = some false),
  decide (PySem.W.kitOne K (.ref (He.ga K "NoName")) (.ref (He.ga K "NoNumber")) = some false),
  decide (PySem.W.kitOne K (.ref (He.ga K "NoName")) (.ref (He.ga K "TooMany")) = some false),
  decide (PySem.W.kitOne K (.ref (He.ga K "NoName")) (.ref (He.ga K "NoFit")) = some false),
  decide (PySem.W.kitOne K (.ref (He.ga K "NoName")) (.ref (He.ga K "NoText")) = some false),
  decide (PySem.W.kitOne K (.ref (He.ga K "NoName")) (.ref (He.ga K "NoName")) = some true),
  decide (PySem.W.kitOne K (.ref (He.ga K "NoName")) (.ref (He.ga K "NoRow")) = some false),
  decide (PySem.W.kitOne K (.ref (He.ga K "NoName")) (.ref (He.ga K "NoChoice")) = some false),
  decide (PySem.W.exmOne K (.ref (He.ga K "TooMany")) (.ref (He.ga K "RunError")) = some true),
  decide (PySem.W.exmOne K (.ref (He.ga K "TooMany")) (.ref (He.ga K "NoStore")) = some false),
  decide (PySem.W.exmOne K (.ref (He.ga K "TooMany")) (.ref (He.ga K "NoNumber")) = some false),
  decide (PySem.W.exmOne K (.ref (He.ga K "TooMany")) (.ref (He.ga K "TooMany")) = some true),
  decide (PySem.W.exmOne K (.ref (He.ga K "TooMany")) (.ref (He.ga K "NoFit")) = some false),
  decide (PySem.W.exmOne K (.ref (He.ga K "TooMany")) (.ref (He.ga K "NoText")) = some false),
  decide (PySem.W.exmOne K (.ref (He.ga K "TooMany")) (.ref (He.ga K "NoName")) = some false),
  decide (PySem.W.exmOne K (.ref (He.ga K "TooMany")) (.ref (He.ga K "NoRow")) = some false),
  decide (PySem.W.exmOne K (.ref (He.ga K "TooMany")) (.ref (He.ga K "NoChoice")) = some false),
  decide (PySem.W.exmOne K (.ref (He.ga K "NoFit")) (.ref (He.ga K "RunError")) = some true),
  decide (PySem.W.exmOne K (.ref (He.ga K "NoFit")) (.ref (He.ga K "NoStore")) = some false),
  decide (PySem.W.exmOne K (.ref (He.ga K "NoFit")) (.ref (He.ga K "NoNumber")) = some false),
  decide (PySem.W.exmOne K (.ref (He.ga K "NoFit")) (.ref (He.ga K "TooMany")) = some false),
  decide (PySem.W.exmOne K (.ref (He.ga K "NoFit")) (.ref (He.ga K "NoFit")) = some true),
  decide (PySem.W.exmOne K (.ref (He.ga K "NoFit")) (.ref (He.ga K "NoText")) = some false),
  decide (PySem.W.exmOne K (.ref (He.ga K "NoFit")) (.ref (He.ga K "NoName")) = some false),
  decide (PySem.W.exmOne K (.ref (He.ga K "NoFit")) (.ref (He.ga K "NoRow")) = some false),
  decide (PySem.W.exmOne K (.ref (He.ga K "NoFit")) (.ref (He.ga K "NoChoice")) = some false),
  decide (PySem.W.exmOne K (.ref (He.ga K "NoName")) (.ref (He.ga K "RunError")) = some true),
  decide (PySem.W.exmOne K (.ref (He.ga K "NoName")) (.ref (He.ga K "NoStore")) = some false),
  decide (PySem.W.exmOne K (.ref (He.ga K "NoName")) (.ref (He.ga K "NoNumber")) = some false),
  decide (PySem.W.exmOne K (.ref (He.ga K "NoName")) (.ref (He.ga K "TooMany")) = some false),
  decide (PySem.W.exmOne K (.ref (He.ga K "NoName")) (.ref (He.ga K "NoFit")) = some false),
  decide (PySem.W.exmOne K (.ref (He.ga K "NoName")) (.ref (He.ga K "NoText")) = some false),
  decide (PySem.W.exmOne K (.ref (He.ga K "NoName")) (.ref (He.ga K "NoName")) = some true),
  decide (PySem.W.exmOne K (.ref (He.ga K "NoName")) (.ref (He.ga K "NoRow")) = some false),
  decide (PySem.W.exmOne K (.ref (He.ga K "NoName")) (.ref (He.ga K "NoChoice")) = some false),
  decide (PySem.W.kitOne K (.ref (He.ga K "TooMany")) (.type "ValueError") = some true),
  decide (PySem.W.kitOne K (.ref (He.ga K "NoFit")) (.type "ValueError") = some true),
  decide (PySem.W.kitOne K (.ref (He.ga K "NoName")) (.type "ValueError") = some true)]
def ex (K : PySem.W.Frag) : Bool := (exs K).all id
theorem ex_at {K : PySem.W.Frag} (h : ex K = true) (i : Nat) {b : Bool} (hb : (exs K)[i]? = some b) : b = true := List.all_eq_true.mp h b (List.mem_of_getElem? hb)
abbrev R : PySem.W.OpenRow := PySem.W.OpenLaw.row PySem.Challenge.rw_pickruns_k71_not_put_behind
abbrev hk : PySem.W.Hook := hookB 6 fa fn ex
def ob (s : PySem.W.SharedT) : He.AlD × Bool := obsB 6 fa fn ex (HandSHeadRun.getT s)
theorem ob_eq (s : PySem.W.SharedT) : ob s = hk.obs s.abs := obsB_eq (HandSHeadRun.getT_eq s)
def loose : List PySem.Str := [("RunError" : PySem.Str), ("NoStore" : PySem.Str), ("NoNumber" : PySem.Str), ("TooMany" : PySem.Str), ("NoFit" : PySem.Str), ("NoText" : PySem.Str), ("NoName" : PySem.Str), ("NoRow" : PySem.Str), ("NoChoice" : PySem.Str), ("MOST_ROWS" : PySem.Str), ("need_alike" : PySem.Str), ("spots_behind" : PySem.Str), ("skip_by" : PySem.Str), ("row_anew" : PySem.Str), ("copied_row" : PySem.Str), ("put_after" : PySem.Str), ("_law_cell_at" : PySem.Str), ("_law_stir" : PySem.Str), ("_law_deck" : PySem.Str), ("_law_next" : PySem.Str), ("_law_thing" : PySem.Str), ("_law_boxes" : PySem.Str), ("_law_word" : PySem.Str), ("_law_asked" : PySem.Str), ("_law_long" : PySem.Str), ("_law_no_boxes" : PySem.Str), ("_law_others" : PySem.Str)]
theorem run (w : World) : HandSHeadRun.RunEq R (PySem.W.view R.prog [30]) hk ob 12000 loose w := by
  intro os
  kernel_rfl
section
variable {K : PySem.W.Frag} {h : Heap} {mg : Str → Option Value}
theorem D_need_alike (X : K.In h) (G : h.Ns mainGlobals mg) (c : He.SaysD fa fn K) : Def K mg "need_alike" s_need_alike ["one", "other"] := by
  obtain ⟨fd, F⟩ := c.def_ 0 (d := d_need_alike) rfl
  have F' : Fun K "need_alike" "need_alike" s_need_alike _ fd := He5.fun_of F
  exact ⟨_, fd, He.glo_ok X G (c.fact 0 (f := .glo "need_alike") rfl), F', F'.binds (ps := ["one", "other"]) fun _ _ _ _ _ _ us hl => match us, hl with | [_, _], _ => rfl⟩
theorem D_spots_behind (X : K.In h) (G : h.Ns mainGlobals mg) (c : He.SaysD fa fn K) : Def K mg "spots_behind" s_spots_behind ["rows"] := by
  obtain ⟨fd, F⟩ := c.def_ 1 (d := d_spots_behind) rfl
  have F' : Fun K "spots_behind" "spots_behind" s_spots_behind _ fd := He5.fun_of F
  exact ⟨_, fd, He.glo_ok X G (c.fact 1 (f := .glo "spots_behind") rfl), F', F'.binds (ps := ["rows"]) fun _ _ _ _ _ _ us hl => match us, hl with | [_], _ => rfl⟩
theorem D_skip_by (X : K.In h) (G : h.Ns mainGlobals mg) (c : He.SaysD fa fn K) : Def K mg "skip_by" s_skip_by ["thing", "many", "boxes"] := by
  obtain ⟨fd, F⟩ := c.def_ 2 (d := d_skip_by) rfl
  have F' : Fun K "skip_by" "skip_by" s_skip_by _ fd := He5.fun_of F
  exact ⟨_, fd, He.glo_ok X G (c.fact 2 (f := .glo "skip_by") rfl), F', F'.binds (ps := ["thing", "many", "boxes"]) fun _ _ _ _ _ _ us hl => match us, hl with | [_, _, _], _ => rfl⟩
theorem D_row_anew (X : K.In h) (G : h.Ns mainGlobals mg) (c : He.SaysD fa fn K) : Def K mg "row_anew" s_row_anew ["rows", "at", "spots", "box", "boxes"] := by
  obtain ⟨fd, F⟩ := c.def_ 3 (d := d_row_anew) rfl
  have F' : Fun K "row_anew" "row_anew" s_row_anew _ fd := He5.fun_of F
  exact ⟨_, fd, He.glo_ok X G (c.fact 3 (f := .glo "row_anew") rfl), F', F'.binds (ps := ["rows", "at", "spots", "box", "boxes"]) fun _ _ _ _ _ _ us hl => match us, hl with | [_, _, _, _, _], _ => rfl⟩
theorem D_copied_row (X : K.In h) (G : h.Ns mainGlobals mg) (c : He.SaysD fa fn K) : Def K mg "copied_row" s_copied_row ["row"] := by
  obtain ⟨fd, F⟩ := c.def_ 4 (d := d_copied_row) rfl
  have F' : Fun K "copied_row" "copied_row" s_copied_row _ fd := He5.fun_of F
  exact ⟨_, fd, He.glo_ok X G (c.fact 4 (f := .glo "copied_row") rfl), F', F'.binds (ps := ["row"]) fun _ _ _ _ _ _ us hl => match us, hl with | [_], _ => rfl⟩
theorem D_put_after (X : K.In h) (G : h.Ns mainGlobals mg) (c : He.SaysD fa fn K) : Def K mg "put_after" s_put_after ["one", "other", "box"] := by
  obtain ⟨fd, F⟩ := c.def_ 5 (d := d_put_after) rfl
  have F' : Fun K "put_after" "put_after" s_put_after _ fd := He5.fun_of F
  exact ⟨_, fd, He.glo_ok X G (c.fact 5 (f := .glo "put_after") rfl), F', F'.binds (ps := ["one", "other", "box"]) fun _ _ _ _ _ _ us hl => match us, hl with | [_, _, _], _ => rfl⟩
theorem D_l_cell_at (X : K.In h) (G : h.Ns mainGlobals mg) (c : He.SaysD fa fn K) : Def K mg "_law_cell_at" s_l_cell_at ["script", "k"] := by
  obtain ⟨fd, F⟩ := c.def_ 6 (d := d_l_cell_at) rfl
  have F' : Fun K "_law_cell_at" "_law_cell_at" s_l_cell_at _ fd := He5.fun_of F
  exact ⟨_, fd, He.glo_ok X G (c.fact 6 (f := .glo "_law_cell_at") rfl), F', F'.binds (ps := ["script", "k"]) fun _ _ _ _ _ _ us hl => match us, hl with | [_, _], _ => rfl⟩
theorem D_l_stir (X : K.In h) (G : h.Ns mainGlobals mg) (c : He.SaysD fa fn K) : Def K mg "_law_stir" s_l_stir ["cell", "k"] := by
  obtain ⟨fd, F⟩ := c.def_ 7 (d := d_l_stir) rfl
  have F' : Fun K "_law_stir" "_law_stir" s_l_stir _ fd := He5.fun_of F
  exact ⟨_, fd, He.glo_ok X G (c.fact 7 (f := .glo "_law_stir") rfl), F', F'.binds (ps := ["cell", "k"]) fun _ _ _ _ _ _ us hl => match us, hl with | [_, _], _ => rfl⟩
theorem D_l_deck (X : K.In h) (G : h.Ns mainGlobals mg) (c : He.SaysD fa fn K) : Def K mg "_law_deck" s_l_deck ["cell", "many"] := by
  obtain ⟨fd, F⟩ := c.def_ 8 (d := d_l_deck) rfl
  have F' : Fun K "_law_deck" "_law_deck" s_l_deck _ fd := He5.fun_of F
  exact ⟨_, fd, He.glo_ok X G (c.fact 8 (f := .glo "_law_deck") rfl), F', F'.binds (ps := ["cell", "many"]) fun _ _ _ _ _ _ us hl => match us, hl with | [_, _], _ => rfl⟩
theorem D_l_next (X : K.In h) (G : h.Ns mainGlobals mg) (c : He.SaysD fa fn K) : Def K mg "_law_next" s_l_next ["deck"] := by
  obtain ⟨fd, F⟩ := c.def_ 9 (d := d_l_next) rfl
  have F' : Fun K "_law_next" "_law_next" s_l_next _ fd := He5.fun_of F
  exact ⟨_, fd, He.glo_ok X G (c.fact 9 (f := .glo "_law_next") rfl), F', F'.binds (ps := ["deck"]) fun _ _ _ _ _ _ us hl => match us, hl with | [_], _ => rfl⟩
theorem D_l_thing (X : K.In h) (G : h.Ns mainGlobals mg) (c : He.SaysD fa fn K) : Def K mg "_law_thing" s_l_thing ["deck", "m", "boxes", "deep"] := by
  obtain ⟨fd, F⟩ := c.def_ 10 (d := d_l_thing) rfl
  have F' : Fun K "_law_thing" "_law_thing" s_l_thing _ fd := He5.fun_of F
  exact ⟨_, fd, He.glo_ok X G (c.fact 10 (f := .glo "_law_thing") rfl), F', F'.binds (ps := ["deck", "m", "boxes", "deep"]) fun _ _ _ _ _ _ us hl => match us, hl with | [_, _, _, _], _ => rfl⟩
theorem D_l_boxes (X : K.In h) (G : h.Ns mainGlobals mg) (c : He.SaysD fa fn K) : Def K mg "_law_boxes" s_l_boxes ["deck"] := by
  obtain ⟨fd, F⟩ := c.def_ 11 (d := d_l_boxes) rfl
  have F' : Fun K "_law_boxes" "_law_boxes" s_l_boxes _ fd := He5.fun_of F
  exact ⟨_, fd, He.glo_ok X G (c.fact 11 (f := .glo "_law_boxes") rfl), F', F'.binds (ps := ["deck"]) fun _ _ _ _ _ _ us hl => match us, hl with | [_], _ => rfl⟩
theorem D_l_word (X : K.In h) (G : h.Ns mainGlobals mg) (c : He.SaysD fa fn K) : Def K mg "_law_word" s_l_word ["caught"] := by
  obtain ⟨fd, F⟩ := c.def_ 12 (d := d_l_word) rfl
  have F' : Fun K "_law_word" "_law_word" s_l_word _ fd := He5.fun_of F
  exact ⟨_, fd, He.glo_ok X G (c.fact 12 (f := .glo "_law_word") rfl), F', F'.binds (ps := ["caught"]) fun _ _ _ _ _ _ us hl => match us, hl with | [_], _ => rfl⟩
theorem D_l_asked (X : K.In h) (G : h.Ns mainGlobals mg) (c : He.SaysD fa fn K) : Def K mg "_law_asked" s_l_asked ["one", "other", "box"] := by
  obtain ⟨fd, F⟩ := c.def_ 13 (d := d_l_asked) rfl
  have F' : Fun K "_law_asked" "_law_asked" s_l_asked _ fd := He5.fun_of F
  exact ⟨_, fd, He.glo_ok X G (c.fact 13 (f := .glo "_law_asked") rfl), F', F'.binds (ps := ["one", "other", "box"]) fun _ _ _ _ _ _ us hl => match us, hl with | [_, _, _], _ => rfl⟩
theorem D_l_long (X : K.In h) (G : h.Ns mainGlobals mg) (c : He.SaysD fa fn K) : Def K mg "_law_long" s_l_long ["deck", "m", "boxes", "many"] := by
  obtain ⟨fd, F⟩ := c.def_ 14 (d := d_l_long) rfl
  have F' : Fun K "_law_long" "_law_long" s_l_long _ fd := He5.fun_of F
  exact ⟨_, fd, He.glo_ok X G (c.fact 14 (f := .glo "_law_long") rfl), F', F'.binds (ps := ["deck", "m", "boxes", "many"]) fun _ _ _ _ _ _ us hl => match us, hl with | [_, _, _, _], _ => rfl⟩
theorem D_l_no_boxes (X : K.In h) (G : h.Ns mainGlobals mg) (c : He.SaysD fa fn K) : Def K mg "_law_no_boxes" s_l_no_boxes ["boxes"] := by
  obtain ⟨fd, F⟩ := c.def_ 15 (d := d_l_no_boxes) rfl
  have F' : Fun K "_law_no_boxes" "_law_no_boxes" s_l_no_boxes _ fd := He5.fun_of F
  exact ⟨_, fd, He.glo_ok X G (c.fact 15 (f := .glo "_law_no_boxes") rfl), F', F'.binds (ps := ["boxes"]) fun _ _ _ _ _ _ us hl => match us, hl with | [_], _ => rfl⟩
theorem D_l_others (X : K.In h) (G : h.Ns mainGlobals mg) (c : He.SaysD fa fn K) : Def K mg "_law_others" s_l_others ["deck", "program"] := by
  obtain ⟨fd, F⟩ := c.def_ 16 (d := d_l_others) rfl
  have F' : Fun K "_law_others" "_law_others" s_l_others _ fd := He5.fun_of F
  exact ⟨_, fd, He.glo_ok X G (c.fact 16 (f := .glo "_law_others") rfl), F', F'.binds (ps := ["deck", "program"]) fun _ _ _ _ _ _ us hl => match us, hl with | [_, _], _ => rfl⟩
theorem fx (X : K.In h) (G : h.Ns mainGlobals mg) (c : He.SaysD fa fn K) (cx : ex K = true) : Fx K mg := ⟨D_need_alike X G c,
  D_spots_behind X G c,
  D_skip_by X G c,
  D_row_anew X G c,
  D_copied_row X G c,
  D_put_after X G c,
  D_l_cell_at X G c,
  D_l_stir X G c,
  D_l_deck X G c,
  D_l_next X G c,
  D_l_thing X G c,
  D_l_boxes X G c,
  D_l_word X G c,
  D_l_asked X G c,
  D_l_long X G c,
  D_l_no_boxes X G c,
  D_l_others X G c,
  He.free_ok X G (c.fact 18 (f := .free "int") rfl),
  He.free_ok X G (c.fact 19 (f := .free "min") rfl),
  He.free_ok X G (c.fact 20 (f := .free "len") rfl),
  He.free_ok X G (c.fact 21 (f := .free "list") rfl),
  He.free_ok X G (c.fact 22 (f := .free "range") rfl),
  He.free_ok X G (c.fact 23 (f := .free "isinstance") rfl),
  He.free_ok X G (c.fact 24 (f := .free "str") rfl),
  He.free_ok X G (c.fact 25 (f := .free "ValueError") rfl),
  He.free_ok X G (c.fact 26 (f := .free "max") rfl),
  He.free_ok X G (c.fact 27 (f := .free "repr") rfl),
  He.int_ok X G (c.fact 28 (f := .int "MOST_ROWS" 30) rfl),
  He.glo_ok X G (c.fact 29 (f := .glo "RunError") rfl),
  He.glo_ok X G (c.fact 30 (f := .glo "NoStore") rfl),
  He.glo_ok X G (c.fact 31 (f := .glo "NoNumber") rfl),
  He.glo_ok X G (c.fact 32 (f := .glo "TooMany") rfl),
  He.glo_ok X G (c.fact 33 (f := .glo "NoFit") rfl),
  He.glo_ok X G (c.fact 34 (f := .glo "NoText") rfl),
  He.glo_ok X G (c.fact 35 (f := .glo "NoName") rfl),
  He.glo_ok X G (c.fact 36 (f := .glo "NoRow") rfl),
  He.glo_ok X G (c.fact 37 (f := .glo "NoChoice") rfl),
  excB_ok (ex_at cx 0 rfl) (He.glo_ok X G (c.fact 32 (f := .glo "TooMany") rfl)),
  excB_ok (ex_at cx 1 rfl) (He.glo_ok X G (c.fact 33 (f := .glo "NoFit") rfl)),
  excB_ok (ex_at cx 2 rfl) (He.glo_ok X G (c.fact 35 (f := .glo "NoName") rfl)),
  of_decide_eq_true (ex_at cx 3 rfl),
  of_decide_eq_true (ex_at cx 4 rfl),
  of_decide_eq_true (ex_at cx 5 rfl),
  of_decide_eq_true (ex_at cx 6 rfl),
  of_decide_eq_true (ex_at cx 7 rfl),
  of_decide_eq_true (ex_at cx 8 rfl),
  of_decide_eq_true (ex_at cx 9 rfl),
  of_decide_eq_true (ex_at cx 10 rfl),
  of_decide_eq_true (ex_at cx 11 rfl),
  of_decide_eq_true (ex_at cx 12 rfl),
  of_decide_eq_true (ex_at cx 13 rfl),
  of_decide_eq_true (ex_at cx 14 rfl),
  of_decide_eq_true (ex_at cx 15 rfl),
  of_decide_eq_true (ex_at cx 16 rfl),
  of_decide_eq_true (ex_at cx 17 rfl),
  of_decide_eq_true (ex_at cx 18 rfl),
  of_decide_eq_true (ex_at cx 19 rfl),
  of_decide_eq_true (ex_at cx 20 rfl),
  of_decide_eq_true (ex_at cx 21 rfl),
  of_decide_eq_true (ex_at cx 22 rfl),
  of_decide_eq_true (ex_at cx 23 rfl),
  of_decide_eq_true (ex_at cx 24 rfl),
  of_decide_eq_true (ex_at cx 25 rfl),
  of_decide_eq_true (ex_at cx 26 rfl),
  of_decide_eq_true (ex_at cx 27 rfl),
  of_decide_eq_true (ex_at cx 28 rfl),
  of_decide_eq_true (ex_at cx 29 rfl),
  of_decide_eq_true (ex_at cx 30 rfl),
  of_decide_eq_true (ex_at cx 31 rfl),
  of_decide_eq_true (ex_at cx 32 rfl),
  of_decide_eq_true (ex_at cx 33 rfl),
  of_decide_eq_true (ex_at cx 34 rfl),
  of_decide_eq_true (ex_at cx 35 rfl),
  of_decide_eq_true (ex_at cx 36 rfl),
  of_decide_eq_true (ex_at cx 37 rfl),
  of_decide_eq_true (ex_at cx 38 rfl),
  of_decide_eq_true (ex_at cx 39 rfl),
  of_decide_eq_true (ex_at cx 40 rfl),
  of_decide_eq_true (ex_at cx 41 rfl),
  of_decide_eq_true (ex_at cx 42 rfl),
  of_decide_eq_true (ex_at cx 43 rfl),
  of_decide_eq_true (ex_at cx 44 rfl),
  of_decide_eq_true (ex_at cx 45 rfl),
  of_decide_eq_true (ex_at cx 46 rfl),
  of_decide_eq_true (ex_at cx 47 rfl),
  of_decide_eq_true (ex_at cx 48 rfl),
  of_decide_eq_true (ex_at cx 49 rfl),
  of_decide_eq_true (ex_at cx 50 rfl),
  of_decide_eq_true (ex_at cx 51 rfl),
  of_decide_eq_true (ex_at cx 52 rfl),
  of_decide_eq_true (ex_at cx 53 rfl),
  of_decide_eq_true (ex_at cx 54 rfl),
  of_decide_eq_true (ex_at cx 55 rfl),
  of_decide_eq_true (ex_at cx 56 rfl),
  of_decide_eq_true (ex_at cx 57 rfl),
  of_decide_eq_true (ex_at cx 58 rfl),
  of_decide_eq_true (ex_at cx 59 rfl)⟩
theorem facts {P : Program} {w : World} {f : Addr} (X : K.In h) (G : h.Ns mainGlobals mg) (hfa : mg ("law" : Str) = some (.ref f)) (c : He.SaysD fa fn K) (cx : ex K = true) :
    ∃ fd : FuncData, (∀ (s : Shared) (v : Value), BindsTo s fd ⟨[v], []⟩ [("script", v)]) ∧ ∀ base : Heap, K.In base → base.Ns mainGlobals mg → Pr.FnOkG P w K mg base CX0 16 f fd ["script"] (spG ⟨K, w⟩ (T_law ⟨K, w⟩)) := by
  obtain ⟨fd, F⟩ := c.def_ 17 (d := d_law) rfl
  have e := hfa.symm.trans (He.glo_ok X G (c.fact 17 (f := .glo "law") rfl))
  cases e
  have b := FunD.bindsA (ps := ["script"]) F fun _ _ _ _ _ _ us hl => match us, hl with | [_], _ => rfl
  have F' : Fun K "law" "law" s_law _ fd := He5.fun_of F
  exact ⟨fd, fun s v => b s [v] rfl, fun base _ _ => chain F' (fx X G c cx)⟩
end
end Hd
open PySem PySem.W PySem.Calls PyProof.Rows
theorem PySem.Challenge.cw_pickruns_k71_not_put_behind_holds : PySem.Challenge.rw_pickruns_k71_not_put_behind.Holds := by
  w_on; o_law
  refine HandSHeadRun.head_any (r := OpenLaw.row PySem.Challenge.rw_pickruns_k71_not_put_behind) (q := view (OpenLaw.row PySem.Challenge.rw_pickruns_k71_not_put_behind).prog [30]) (H := Hd.hk) (ob := Hd.ob) (M := 12000) (loose := Hd.loose) (d := HandSHeadRun.topDef (OpenLaw.row PySem.Challenge.rw_pickruns_k71_not_put_behind).prog 30) (kwd := []) Hd.ob_eq
    (by kernel_rfl) (fun s => by kernel_rfl) Hd.run (by kernel_rfl) (by kernel_rfl) (by kernel_rfl) (by rfl) (by first | assumption | decide +kernel) (by decide +kernel) ⟨rfl, rfl, rfl, rfl, rfl, by decide +kernel⟩ ?hw ?hc
  case hw => w_witness2
  case hc =>
    refine Pr.walk_ofG (l := PySem.Challenge.rw_pickruns_k71_not_put_behind) (n := 63) (k := 16) (x := "script") (CX := L2.CX0) rfl (by decide) (by kernel_rfl) ⟨rfl, by decide, by decide⟩ ?F (fun _ _ _ _ z => z)
    intro w mg fa h Y G hmg0
    obtain ⟨K, KX, c, cx⟩ := Y
    have hmg : mg ("law" : PySem.Str) = some (.ref fa) := by
      have e : (HandSHeadRun.topDef (OpenLaw.row PySem.Challenge.rw_pickruns_k71_not_put_behind).prog 30).name = ("law" : PySem.Str) := by kernel_rfl
      rw [← e]
      exact hmg0
    obtain ⟨fd, hb, hF⟩ := Hd.facts (P := (PySem.Challenge.rw_pickruns_k71_not_put_behind).prog) (w := w) KX G hmg c cx
    exact ⟨K, fd, Pk.spG ⟨K, w⟩ (Pk.T_law ⟨K, w⟩), KX, hb, fun H a ns hl _ hS => Pk.law_start hl hS fun _ => rfl, hF⟩
end
