import PyProof.Rows.All
import PyProof.StrBlock2
import Wide.All
import Wide.FinOn
import OpenK.AllK
import HandS.ForMost
import HandS.ForExc
import HandS.IsInst
import HandS.Deep
import HandS.Conv
import HandS.Walk
import KE.KDictKeyed
import HandS.Style
import HandS.Zip
import HandS.TupAny
import HandS.Text
import HandS.WordsExc
import HandS.TryOnly
import HandS.ExcIs
import HandS.ExcValue
import HandS.HeadHook1
import HandS.HeadHook2
import KE.KDictZip
import HandS.Strs
import HandS.ExcInit
import HandS.ExcField
import KE.DataCmp
import KE.SortData
import KE.KEqDict
import KE.KDictWalk
import KE.KDictCopyH
import KE.KDictDisplayH
import HandS.MapSum
import HandS.TupMul
import KE.KDictItemsList
import HandS.ListItems
import KE.KDictPairs
import HandS.Rev
import HandS.TupLen
import HandS.More
import HandS.DictEq
import HandS.SetFor
import KE.GoesRev
import PySem.Challenge.RW_pickruns_k56_rows_taken_out
import KE.KStateDown
import Lean
import HandS.Head0
import HandS.Head1
import HandS.Head2
import HandS.HeadEnd
import HandS.HeadNt
section
set_option Elab.async false
set_option linter.all false
set_option maxRecDepth 100000
namespace Pk
open PySem PySem.Spec PyProof.Rows L2
/-- what the layer leans on: the pinned objects and the world (the hashes of texts) -/
structure Kw where
  K : PySem.W.Frag
  w : World
instance : CoeOut Kw PySem.W.Frag := ⟨Kw.K⟩

abbrev Le (F H : Hp) : Prop := ∀ a o, F a = some o → H a = some o
theorem Le.rfl' {F : Hp} : Le F F := fun _ _ h => h
theorem Le.tr {F G H : Hp} (a : Le F G) (b : Le G H) : Le F H := fun x o h => b x o (a x o h)
theorem Le.nn {F H : Hp} (e : Le F H) {a : Addr} (h : H a = none) : F a = none := by
  cases q : F a with
  | none => rfl
  | some o => rw [e a o q] at h; cases h
theorem Le.new {F H : Hp} (e : Le F H) {p : Addr} {o : HO} (h : F p = none) : Le F (upd H p o) := fun a u q => by
  rw [upd_ne (ne_of_none q h)]; exact e a u q
theorem Le.both {F H : Hp} (e : Le F H) {p : Addr} {o : HO} : Le (upd F p o) (upd H p o) := fun a u q => by
  by_cases hp : a = p
  · subst hp; rw [upd_same] at q ⊢; exact q
  · rw [upd_ne hp] at q ⊢; exact e a u q
theorem Le.up {F : Hp} {p : Addr} {o : HO} (h : F p = none) : Le F (upd F p o) := Le.new Le.rfl' h
theorem Le.lay {F H : Hp} (e : Le F H) {p : Addr} {o : HO} (h : H p = some o) : Le (upd F p o) H := fun a u q => by
  by_cases hp : a = p
  · subst hp; rw [upd_same] at q; rw [← q]; exact h
  · rw [upd_ne hp] at q; exact e a u q

theorem sqT_le {K : PySem.W.Frag} {F F' : Hp} {a : Addr} {xs : List V} (e : Le F F') (h : SqT K F a xs) : SqT K F' a xs := by
  rcases h with (h | ⟨o, h⟩) | h
  · exact .inl (.inl (e _ _ h))
  · exact .inl (.inr ⟨o, e _ _ h⟩)
  · exact .inr h
/-- flat dicts as data -/
def kD : Key → PyData
  | .inl i => .int i
  | .inr x => .str x
def vD : V → PyData
  | .int i => .int i
  | .str x => .str x
  | .bl b => .bool b
  | .non => .none
  | _ => .list []
def kvD (p : Key × V) : PyData × PyData := (kD p.1, vD p.2)
def flD : PyData → Bool
  | .none => true
  | .bool _ => true
  | .int _ => true
  | .str _ => true
  | _ => false
def isMk : List (PyData × PyData) → Bool
  | (.none, .none) :: _ => true
  | (.none, .bool true) :: _ => true
  | (.none, .bool false) :: _ => true
  | _ => false
def flatDs (ds : List (PyData × PyData)) : Bool := isMk ds || ds.all fun z => flD z.2
/-- the entries of a dict with tuple keys -/
abbrev NEs := List (NestedKey × Addr × V)
def nEntry (w : World) (x : NestedKey × Addr × Value) : DictEntry := ⟨x.1.hash w, .ref x.2.1, x.2.2⟩
/-- a dict whose keys are tuples, nested or not -/
def dN (w : World) (a : Addr) (ep : Nat) (kvs : NEs) : HO := .ext fun h => kvs.length ≤ sizeLine ∧ (a == sysModules) = false ∧ (∀ x ∈ kvs, x.1.depth ≤ 8) ∧ ∃ xs : List (NestedKey × Addr × Value),
  Paired (fun (p : NestedKey × Addr × V) (q : NestedKey × Addr × Value) => p.1 = q.1 ∧ p.2.1 = q.2.1 ∧ RelV p.2.2 q.2.2) kvs xs ∧
  ∃ o es, h.get? a = some o ∧ o.ExactDict ∧ o.data = .dict es ep ∧ es.toList = xs.map (nEntry w) ∧ (xs.map (·.1)).Nodup
abbrev NDs := List (NestedKey × PyData)
abbrev dictN (ds : NDs) : PyData := .dict ((.none, .none) :: ds.map fun x => (x.1.data, x.2))
/-- a dict whose keys are numbers and texts -/
def dF (w : World) (a : Addr) (ep : Nat) (kvs : List (Key × V)) : HO := .ext fun h => kvs.length ≤ sizeLine ∧ (a == sysModules) = false ∧ ∃ vs : List (Key × Value), KV kvs vs ∧ ∃ P : Program,
  ∃ o es, h.get? a = some o ∧ o.ExactDict ∧ o.data = .dict es ep ∧ KeysOf (mixKind P w) es ∧ Pairs (mixKind P w) es.toList vs ∧ (vs.map (·.1)).Nodup
/-- such a dict as data -/
abbrev FDs := List (Key × PyData)
abbrev dictF (fs : FDs) : PyData := .dict ((.none, .bool true) :: fs.map fun x => (kD x.1, x.2))
/-- a list whose address is told -/
abbrev listAt (a : Addr) (ds : List PyData) : PyData := .dict [(.none, .bool false), (.int a, .list ds)]
mutual
inductive Rp (K : Kw) (F : Hp) : V → PyData → Prop
  | non : Rp K F .non .none
  | bl (b : Bool) : Rp K F (.bl b) (.bool b)
  | int (i : Int) : Rp K F (.int i) (.int i)
  | str (x : Str) : Rp K F (.str x) (.str x)
  | lst {a : Addr} {xs : List V} {ds : List PyData} : F a = some (.lst xs) → RpA K F xs ds → Rp K F (.ref a) (.list ds)
  | tup {a : Addr} {xs : List V} {ds : List PyData} : SqT K F a xs → RpA K F xs ds → Rp K F (.ref a) (.tuple ds)
  /-- a dict: what is in it is told where that is flat -/
  | dct {a : Addr} {kvs : List (Key × V)} {ds : List (PyData × PyData)} : F a = some (.dK kvs) → (flatDs ds = true → kvs.map kvD = ds) → Rp K F (.ref a) (.dict ds)
  /-- a dict with tuple keys -/
  | dcn {a : Addr} {ep : Nat} {es : NEs} {ds : NDs} : F a = some (dN K.w a ep es) → RpD K F es ds → Rp K F (.ref a) (.dict ((.none, .none) :: ds.map fun x => (x.1.data, x.2)))
  /-- a dict with numbers and texts as keys -/
  | dcf {a : Addr} {ep : Nat} {kvs : List (Key × V)} {fs : FDs} : F a = some (dF K.w a ep kvs) → kvs.map (·.1) = fs.map (·.1) → RpA K F (kvs.map (·.2)) (fs.map (·.2)) → Rp K F (.ref a) (.dict ((.none, .bool true) :: fs.map fun x => (kD x.1, x.2)))
  /-- a list, its address told -/
  | lid {a : Addr} {xs : List V} {ds : List PyData} : F a = some (.lst xs) → RpA K F xs ds → Rp K F (.ref a) (.dict [(.none, .bool false), (.int a, .list ds)])
inductive RpA (K : Kw) (F : Hp) : List V → List PyData → Prop
  | nil : RpA K F [] []
  | cons {v : V} {vs : List V} {d : PyData} {ds : List PyData} : Rp K F v d → RpA K F vs ds → RpA K F (v :: vs) (d :: ds)
inductive RpD (K : Kw) (F : Hp) : NEs → NDs → Prop
  | nil : RpD K F [] []
  | cons {k : NestedKey} {b : Addr} {v : V} {d : PyData} {es : NEs} {ds : NDs} : Rp K F (.ref b) k.data → Rp K F v d → RpD K F es ds → RpD K F ((k, b, v) :: es) ((k, d) :: ds)
end
section
variable {K : Kw} {F F' H : Hp}
theorem Rp.le (e : Le F F') (d : PyData) {v : V} (h : Rp K F v d) : Rp K F' v d :=
  Rp.rec (motive_1 := fun v d _ => Rp K F' v d) (motive_2 := fun vs ds _ => RpA K F' vs ds) (motive_3 := fun es ds _ => RpD K F' es ds) .non .bl .int .str (fun h _ ih => .lst (e _ _ h) ih) (fun h _ ih => .tup (sqT_le e h) ih) (fun h t => .dct (e _ _ h) t) (fun h _ ih => .dcn (e _ _ h) ih) (fun h k _ ih => .dcf (e _ _ h) k ih) (fun h _ ih => .lid (e _ _ h) ih) .nil (fun _ _ a b => .cons a b) .nil (fun _ _ _ a b c => .cons a b c) h
theorem RpA.le (e : Le F F') (ds : List PyData) {vs : List V} (h : RpA K F vs ds) : RpA K F' vs ds :=
  RpA.rec (motive_1 := fun v d _ => Rp K F' v d) (motive_2 := fun vs ds _ => RpA K F' vs ds) (motive_3 := fun es ds _ => RpD K F' es ds) .non .bl .int .str (fun h _ ih => .lst (e _ _ h) ih) (fun h _ ih => .tup (sqT_le e h) ih) (fun h t => .dct (e _ _ h) t) (fun h _ ih => .dcn (e _ _ h) ih) (fun h k _ ih => .dcf (e _ _ h) k ih) (fun h _ ih => .lid (e _ _ h) ih) .nil (fun _ _ a b => .cons a b) .nil (fun _ _ _ a b c => .cons a b c) h
theorem RpD.mono {es : NEs} {ds : NDs} (h : RpD K F es ds) (e : Le F F') : RpD K F' es ds :=
  RpD.rec (motive_1 := fun v d _ => Rp K F' v d) (motive_2 := fun vs ds _ => RpA K F' vs ds) (motive_3 := fun es ds _ => RpD K F' es ds) .non .bl .int .str (fun h _ ih => .lst (e _ _ h) ih) (fun h _ ih => .tup (sqT_le e h) ih) (fun h t => .dct (e _ _ h) t) (fun h _ ih => .dcn (e _ _ h) ih) (fun h k _ ih => .dcf (e _ _ h) k ih) (fun h _ ih => .lid (e _ _ h) ih) .nil (fun _ _ a b => .cons a b) .nil (fun _ _ _ a b c => .cons a b c) h
theorem Rp.dict_inv {v : V} {ds : List (PyData × PyData)} (h : Rp K F v (.dict ds)) : (∃ a kvs, v = .ref a ∧ F a = some (.dK kvs) ∧ (flatDs ds = true → kvs.map kvD = ds)) ∨ (∃ a ep es ds', v = .ref a ∧ ds = (.none, .none) :: ds'.map (fun x => (x.1.data, x.2)) ∧ F a = some (dN K.w a ep es) ∧ RpD K F es ds') ∨ (∃ a ep kvs, ∃ fs : FDs, v = .ref a ∧ ds = (.none, .bool true) :: fs.map (fun x => (kD x.1, x.2)) ∧ F a = some (dF K.w a ep kvs) ∧ kvs.map (·.1) = fs.map (·.1) ∧ RpA K F (kvs.map (·.2)) (fs.map (·.2))) ∨ ∃ a xs es, v = .ref a ∧ ds = [(.none, .bool false), (.int a, .list es)] ∧ F a = some (.lst xs) ∧ RpA K F xs es := by
  cases h with
  | dct a t => exact .inl ⟨_, _, rfl, a, t⟩
  | dcn a r => exact .inr (.inl ⟨_, _, _, _, rfl, rfl, a, r⟩)
  | dcf a k r => exact .inr (.inr (.inl ⟨_, _, _, _, rfl, rfl, a, k, r⟩))
  | lid a r => exact .inr (.inr (.inr ⟨_, _, _, rfl, rfl, a, r⟩))
theorem Rp.mono {v : V} {d : PyData} (h : Rp K F v d) (e : Le F F') : Rp K F' v d := Rp.le e d h
theorem RpA.mono {vs : List V} {ds : List PyData} (h : RpA K F vs ds) (e : Le F F') : RpA K F' vs ds := RpA.le e ds h
mutual
theorem Rp.dp : ∀ (d : PyData) {v : V}, d.canLay0 = true → Rp K F v d → Dp K F v d
  | .none, _, _, h => by cases h; exact .non
  | .bool _, _, _, h => by cases h; exact .bl _
  | .int _, _, _, h => by cases h; exact .int _
  | .str _, _, _, h => by cases h; exact .str _
  | .list ds, _, c, h => by
    cases h with
    | lst a b => exact .lst (SqL.of a) (RpA.dp ds (by simpa [PyData.canLay0] using c) b)
  | .tuple ds, _, c, h => by
    cases h with
    | tup a b => exact .tup a (RpA.dp ds (by simpa [PyData.canLay0] using c) b)
  | .dict _, _, c, _ => by simp [PyData.canLay0] at c
theorem RpA.dp : ∀ (ds : List PyData) {vs : List V}, PyData.canLayAll0 ds = true → RpA K F vs ds → DpAll K F vs ds
  | [], _, _, h => by cases h; exact .nil
  | d :: ds, _, c, h => by
    have c' : d.canLay0 = true ∧ PyData.canLayAll0 ds = true := by simpa [PyData.canLayAll0] using c
    cases h with
    | cons a b => exact .cons (Rp.dp d c'.1 a) (RpA.dp ds c'.2 b)
end
theorem RpA.length : ∀ {vs : List V} {ds : List PyData}, RpA K F vs ds → vs.length = ds.length
  | [], [], _ => rfl
  | _ :: _, [], h => by cases h
  | [], _ :: _, h => by cases h
  | _ :: vs, _ :: ds, h => by
    cases h with
    | cons _ b => simp [RpA.length b]
theorem RpA.get : ∀ {vs : List V} {ds : List PyData} {i : Nat} {d : PyData}, RpA K F vs ds → ds[i]? = some d → ∃ v, vs[i]? = some v ∧ Rp K F v d
  | [], [], i, d, _, e => by simp at e
  | _ :: _, [], _, _, h, _ => by cases h
  | [], _ :: _, _, _, h, _ => by cases h
  | v :: vs, x :: ds, 0, d, h, e => by
    cases h with
    | cons a b => simp at e; subst e; exact ⟨v, rfl, a⟩
  | v :: vs, x :: ds, i + 1, d, h, e => by
    cases h with
    | cons a b =>
      obtain ⟨u, h1, h2⟩ := RpA.get (i := i) (d := d) b (by simpa using e)
      exact ⟨u, by simpa using h1, h2⟩
theorem RpA.getV : ∀ {vs : List V} {ds : List PyData} {i : Nat} {v : V}, RpA K F vs ds → vs[i]? = some v → ∃ d, ds[i]? = some d ∧ Rp K F v d
  | [], [], i, d, _, e => by simp at e
  | _ :: _, [], _, _, h, _ => by cases h
  | [], _ :: _, _, _, h, _ => by cases h
  | v :: vs, x :: ds, 0, d, h, e => by
    cases h with
    | cons a b => simp at e; subst e; exact ⟨x, rfl, a⟩
  | v :: vs, x :: ds, i + 1, d, h, e => by
    cases h with
    | cons a b =>
      obtain ⟨u, h1, h2⟩ := RpA.getV (i := i) (v := d) b (by simpa using e)
      exact ⟨u, by simpa using h1, h2⟩
theorem RpA.append : ∀ {vs us : List V} {ds es : List PyData}, RpA K F vs ds → RpA K F us es → RpA K F (vs ++ us) (ds ++ es)
  | [], _, [], _, _, h => h
  | _ :: _, _, [], _, h, _ => by cases h
  | [], _, _ :: _, _, h, _ => by cases h
  | _ :: _, _, _ :: _, _, h, k => by
    cases h with
    | cons a b => exact .cons a (RpA.append b k)
theorem RpA.take : ∀ {vs : List V} {ds : List PyData} (n : Nat), RpA K F vs ds → RpA K F (vs.take n) (ds.take n)
  | [], [], n, _ => by simp; exact .nil
  | _ :: _, [], _, h => by cases h
  | [], _ :: _, _, h => by cases h
  | _ :: _, _ :: _, 0, _ => .nil
  | _ :: _, _ :: _, n + 1, h => by
    cases h with
    | cons a b => exact .cons a (RpA.take n b)
theorem RpA.drop : ∀ {vs : List V} {ds : List PyData} (n : Nat), RpA K F vs ds → RpA K F (vs.drop n) (ds.drop n)
  | [], [], n, _ => by simp; exact .nil
  | _ :: _, [], _, h => by cases h
  | [], _ :: _, _, h => by cases h
  | _ :: _, _ :: _, 0, h => h
  | _ :: _, _ :: _, n + 1, h => by
    cases h with
    | cons a b => exact RpA.drop n b
theorem RpA.set : ∀ {vs : List V} {ds : List PyData} {v : V} {d : PyData} (n : Nat), RpA K F vs ds → Rp K F v d → RpA K F (vs.set n v) (ds.set n d)
  | [], [], _, _, n, _, _ => by simp; exact .nil
  | _ :: _, [], _, _, _, h, _ => by cases h
  | [], _ :: _, _, _, _, h, _ => by cases h
  | _ :: _, _ :: _, _, _, 0, h, k => by
    cases h with
    | cons a b => exact .cons k b
  | _ :: _, _ :: _, _, _, n + 1, h, k => by
    cases h with
    | cons a b => exact .cons a (RpA.set n b k)
theorem RpA.reverse : ∀ {vs : List V} {ds : List PyData}, RpA K F vs ds → RpA K F vs.reverse ds.reverse
  | [], [], _ => .nil
  | _ :: _, [], h => by cases h
  | [], _ :: _, h => by cases h
  | _ :: _, _ :: _, h => by
    cases h with
    | cons a b => simp only [List.reverse_cons]; exact (RpA.reverse b).append (.cons a .nil)
theorem RpA.one {v : V} {d : PyData} (h : Rp K F v d) : RpA K F [v] [d] := .cons h .nil
/-- a scalar stands in any heap -/
def flat : PyData → Bool
  | .none => true | .bool _ => true | .int _ => true | .str _ => true | _ => false
theorem Rp.flat {v : V} {d : PyData} (h : Rp K F v d) (f : flat d = true) : Rp K F' v d := by
  cases h with
  | non => exact .non
  | bl b => exact .bl b
  | int i => exact .int i
  | str x => exact .str x
  | lst _ _ => cases f
  | tup _ _ => cases f
  | dct _ _ => cases f
  | dcn _ _ => cases f
  | dcf _ _ _ => cases f
  | lid _ _ => cases f
end

mutual
def lf : PyData → Bool
  | .list _ => false
  | .dict _ => false
  | .tuple xs => lfA xs
  | _ => true
def lfA : List PyData → Bool
  | [] => true
  | x :: xs => lf x && lfA xs
end
def TupLe (K : PySem.W.Frag) (F F' : Hp) : Prop := (∀ a xs, SqT K F a xs → SqT K F' a xs) ∧ ∀ a fs, F a = some (.xd fs) → F' a = some (.xd fs)
theorem Le.tup {K : PySem.W.Frag} {F F' : Hp} (e : Le F F') : TupLe K F F' := ⟨fun _ _ h => sqT_le e h, fun a _ h => e a _ h⟩
section
variable {K : Kw} {F F' : Hp}
mutual
theorem Rp.lfree (e : TupLe K F F') : ∀ (d : PyData) {v : V}, lf d = true → Rp K F v d → Rp K F' v d
  | .none, _, _, h => by cases h; exact .non
  | .bool _, _, _, h => by cases h; exact .bl _
  | .int _, _, _, h => by cases h; exact .int _
  | .str _, _, _, h => by cases h; exact .str _
  | .list ds, _, z, h => by simp [lf] at z
  | .tuple ds, _, z, h => by
    cases h with
    | tup a b => exact .tup (e.1 _ _ a) (RpA.lfree e ds (by simpa [lf] using z) b)
  | .dict _, _, z, h => by simp [lf] at z
theorem RpA.lfree (e : TupLe K F F') : ∀ (ds : List PyData) {vs : List V}, lfA ds = true → RpA K F vs ds → RpA K F' vs ds
  | [], _, _, h => by cases h; exact .nil
  | d :: ds, _, z, h => by
    have z' : lf d = true ∧ lfA ds = true := by simpa [lfA] using z
    cases h with
    | cons a b => exact .cons (Rp.lfree e d z'.1 a) (RpA.lfree e ds z'.2 b)
end
end
open Classical in
/-- F without the lists of N -/
noncomputable def cutN (N : Addr → Prop) (F : Hp) : Hp := fun a => match F a with
  | some (.lst xs) => if N a then none else some (.lst xs)
  | o => o
theorem cutN_le (N : Addr → Prop) (F : Hp) : Le (cutN N F) F := fun a o h => by
  unfold cutN at h
  split at h
  · rename_i xs e
    split at h
    · cases h
    · rw [e]; exact h
  · exact h
theorem cutN_at {N : Addr → Prop} {F : Hp} {a : Addr} (h : ¬ N a) : cutN N F a = F a := by
  unfold cutN
  split
  · rename_i xs e
    rw [if_neg h, e]
  · rfl
theorem cutN_lst {N : Addr → Prop} {F : Hp} {a : Addr} {xs : List V} (h : cutN N F a = some (.lst xs)) : ¬ N a ∧ F a = some (.lst xs) := by
  refine ⟨fun n => ?_, cutN_le N F a _ h⟩
  have e := cutN_le N F a _ h
  unfold cutN at h
  rw [e] at h
  simp [n] at h
theorem cutN_mono {N N' : Addr → Prop} {F F' : Hp} (hN : ∀ a, N' a → N a) (e : Le F F') : Le (cutN N F) (cutN N' F') := fun a o h => by
  cases o with
  | lst xs =>
    obtain ⟨n, q⟩ := cutN_lst h
    rw [cutN_at fun z => n (hN a z)]
    exact e _ _ q
  | _ =>
    have q := e _ _ (cutN_le N F a _ h)
    unfold cutN
    rw [q]
theorem cutN_tup {K : PySem.W.Frag} {N : Addr → Prop} {F : Hp} : TupLe K F (cutN N F) := by
  refine ⟨fun a xs h => ?_, fun a fs h => by unfold cutN; rw [h]⟩
  rcases h with (h | ⟨o, h⟩) | h
  · refine .inl (.inl ?_)
    unfold cutN
    rw [h]
  · refine .inl (.inr ⟨o, ?_⟩)
    unfold cutN
    rw [h]
  · exact .inr h

/-- what a def's environment leans on: the heap at the entry, what of it is frozen, what of it may be changed -/
structure Bs where
  K : Kw
  F0 : Hp
  H0 : Hp
  S0 : Addr → Prop
  N : Addr → Prop
def Bs.own (X : Bs) (a : Addr) : Prop := X.H0 a = none ∨ X.S0 a
/-- the frozen part, all of it, or without the lists that stood before -/
noncomputable def Bs.ff (X : Bs) (F : Hp) : Bool → Hp
  | true => cutN X.N F
  | false => F
theorem Bs.ff_le (X : Bs) (F : Hp) (m : Bool) : Le (X.ff F m) F := by
  cases m with
  | true => exact cutN_le X.N F
  | false => exact Le.rfl'
theorem Bs.ff_mono {X : Bs} {F F' : Hp} (e : Le F F') (m : Bool) : Le (X.ff F m) (X.ff F' m) := by
  cases m with
  | true => exact cutN_mono (fun _ h => h) e
  | false => exact e
theorem Bs.ff_at {X : Bs} {F : Hp} {m : Bool} {a : Addr} (h : ¬ X.N a) : X.ff F m a = F a := by
  cases m with
  | true => exact cutN_at h
  | false => rfl
theorem Bs.ff_tup {X : Bs} {F : Hp} {m : Bool} {K : PySem.W.Frag} : TupLe K F (X.ff F m) := by
  cases m with
  | true => exact cutN_tup
  | false => exact ⟨fun _ _ h => h, fun _ _ h => h⟩
/-- another's new is new to me -/
theorem Bs.ff_to {X X' : Bs} {F : Hp} (hN : ∀ a, X'.N a → X.N a) (m : Bool) : Le (X.ff F m) (X'.ff F m) := by
  cases m with
  | true => exact cutN_mono hN Le.rfl'
  | false => exact Le.rfl'
open Classical in
/-- F with what stands in H at S -/
noncomputable def lay (S : Addr → Prop) (H F : Hp) : Hp := fun a => if S a then H a else F a
/-- what may be of one's own -/
def Mo : HO → Bool
  | .lst _ => true
  | .ext _ => true
  | _ => false
/-- a thing of one's own that may change, by what holds of it; vw: as which data it may be read -/
structure Own where
  K : Kw
  p : Hp → Hp → V → (Addr → Prop) → Prop
  vw : Option PyData
  keep : ∀ {F F' H H' : Hp} {v : V} {S : Addr → Prop}, p F H v S → Le F F' → (∀ a, S a → H' a = H a) → p F' H' v S
  /-- what is read as no data bears the loss of frozen lists -/
  keepT : vw = none → ∀ {F F' H H' : Hp} {v : V} {S : Addr → Prop}, p F H v S → TupLe K F F' → (∀ a, S a → H' a = H a) → p F' H' v S
  view : ∀ {F H : Hp} {v : V} {S : Addr → Prop} {d : PyData}, Le F H → p F H v S → vw = some d → Rp K (lay S H F) v d ∧ ∀ a, S a → ∃ o, H a = some o ∧ Mo o = true
inductive Sl where
  | no
  | dat (m : Bool) (d : PyData)
  | ml (m : Bool) (l : Addr) (ds : List PyData)
  | ex (v : V) (Φ : Own)
def SlOk (X : Bs) (F H : Hp) (ov : Option V) (S : Addr → Prop) : Sl → Prop
  | .no => ∀ a, ¬ S a
  | .dat m d => (∃ v, ov = some v ∧ Rp X.K (X.ff F m) v d) ∧ ∀ a, ¬ S a
  | .ml m l ds => ∃ xs, ov = some (.ref l) ∧ (∀ a, S a ↔ a = l) ∧ H l = some (.lst xs) ∧ RpA X.K (X.ff F m) xs ds ∧ (m = true → ¬ X.N l)
  | .ex v Φ => ov = some v ∧ Φ.K = X.K ∧ Φ.p F H v S
theorem SlOk.mono {X : Bs} {F F' H H' : Hp} {ov : Option V} {S : Addr → Prop} : ∀ {s : Sl}, SlOk X F H ov S s → Le F F' → (∀ a, S a → H' a = H a) → SlOk X F' H' ov S s
  | .no, h, _, _ => h
  | .dat m _, ⟨⟨v, e, r⟩, n⟩, le, _ => ⟨⟨v, e, r.mono (Bs.ff_mono le m)⟩, n⟩
  | .ml m l ds, ⟨xs, e, hS, hl, r, nl⟩, le, k => ⟨xs, e, hS, (k l ((hS l).mpr rfl)).trans hl, r.mono (Bs.ff_mono le m), nl⟩
  | .ex _ Φ, ⟨e, hk, q⟩, le, k => ⟨e, hk, Φ.keep q le k⟩
/-- the same over another base -/
theorem SlOk.to {X X' : Bs} {F H : Hp} {ov : Option V} {S : Addr → Prop} (hK : X.K = X'.K) (hN : ∀ a, X'.N a → X.N a) : ∀ {s : Sl}, SlOk X F H ov S s → SlOk X' F H ov S s
  | .no, h => h
  | .dat m _, ⟨⟨v, e, r⟩, n⟩ => ⟨⟨v, e, by rw [← hK]; exact r.mono (Bs.ff_to hN m)⟩, n⟩
  | .ml m l ds, ⟨xs, e, hS, hl, r, nl⟩ => ⟨xs, e, hS, hl, by rw [← hK]; exact r.mono (Bs.ff_to hN m), fun z n => nl z (hN l n)⟩
  | .ex _ Φ, ⟨e, hk, q⟩ => ⟨e, hk.trans hK, q⟩
structure En (X : Bs) (F H : Hp) (σ : L2.St) (Γ : List Sl) : Prop where
  le : Le F H
  len : σ.length = Γ.length
  sl : ∃ S : Nat → Addr → Prop, (∀ i s, Γ[i]? = some s → SlOk X F H (σ.getD i none) (S i) s) ∧ (∀ i j a, S i a → S j a → i = j) ∧ (∀ i a, S i a → F a = none ∧ H a ≠ none ∧ X.own a)
  fr : ∀ a o, X.H0 a = some o → ¬ X.S0 a → H a = some o ∧ F a = X.F0 a
  f0 : Le X.F0 F
  nn : ∀ a, X.N a → H a ≠ none
section
variable {X : Bs} {F F' H H' : Hp} {σ : L2.St} {Γ : List Sl}
theorem En.ownN (E : En X F H σ Γ) {p : Addr} (h : H p = none) : X.own p := by
  by_cases hs : X.S0 p
  · exact .inr hs
  · refine .inl ?_
    cases q : X.H0 p with
    | none => rfl
    | some o => rw [(E.fr p o q hs).1] at h; cases h
theorem En.dat (E : En X F H σ Γ) {i : Nat} {m : Bool} {d : PyData} (h : Γ[i]? = some (.dat m d)) : ∃ v, σ[i]? = some (some v) ∧ Rp X.K (X.ff F m) v d := by
  obtain ⟨S, hs, _⟩ := E.sl
  obtain ⟨⟨v, e, r⟩, _⟩ := hs i _ h
  refine ⟨v, ?_, r⟩
  have hi : i < σ.length := by rw [E.len]; exact (List.getElem?_eq_some_iff.mp h).1
  simp only [List.getD_eq_getElem?_getD, List.getElem?_eq_getElem hi, Option.getD_some] at e
  rw [List.getElem?_eq_getElem hi, e]
theorem En.at {i : Nat} {s : Sl} {v : V} (E : En X F H σ Γ) (h : Γ[i]? = some s) (e : σ.getD i none = some v) : σ[i]? = some (some v) := by
  have hi : i < σ.length := by rw [E.len]; exact (List.getElem?_eq_some_iff.mp h).1
  simp only [List.getD_eq_getElem?_getD, List.getElem?_eq_getElem hi, Option.getD_some] at e
  rw [List.getElem?_eq_getElem hi, e]
theorem En.ml (E : En X F H σ Γ) {i : Nat} {m : Bool} {l : Addr} {ds : List PyData} (h : Γ[i]? = some (.ml m l ds)) : ∃ xs, σ[i]? = some (some (.ref l)) ∧ H l = some (.lst xs) ∧ F l = none ∧ RpA X.K (X.ff F m) xs ds := by
  obtain ⟨S, hs, _, ho⟩ := E.sl
  obtain ⟨xs, e, hS, hl, r, _⟩ := hs i _ h
  exact ⟨xs, E.at h e, hl, (ho i l ((hS l).mpr rfl)).1, r⟩
theorem En.ex (E : En X F H σ Γ) {i : Nat} {v : V} {Φ : Own} (h : Γ[i]? = some (.ex v Φ)) : σ[i]? = some (some v) := by
  obtain ⟨S, hs, _⟩ := E.sl
  obtain ⟨e, _⟩ := hs i _ h
  exact E.at h e
/-- more is frozen, what stands apart may change -/
theorem En.grow (E : En X F H σ Γ) (lf : Le F F') (le : Le F' H') (hh : ∀ a o, H a = some o → H' a = some o) (hn : ∀ a o, H a = some o → F' a = F a) : En X F' H' σ Γ := by
  have hnn : ∀ a, X.N a → H' a ≠ none := fun a n => by
    cases q : H a with
    | none => exact absurd q (E.nn a n)
    | some o => rw [hh a o q]; simp
  obtain ⟨S, hs, hd, ho⟩ := E.sl
  refine ⟨le, E.len, ⟨S, fun i s e => (hs i s e).mono lf fun a sa => ?_, hd, fun i a sa => ?_⟩, fun a o e n => ?_, E.f0.tr lf, hnn⟩
  · obtain ⟨_, h1, _⟩ := ho i a sa
    cases q : H a with
    | none => exact absurd q h1
    | some o => exact hh a o q
  · obtain ⟨h0, h1, h2⟩ := ho i a sa
    cases q : H a with
    | none => exact absurd q h1
    | some o => exact ⟨(hn a o q).trans h0, by rw [hh a o q]; simp, h2⟩
  · obtain ⟨h1, h2⟩ := E.fr a o e n
    exact ⟨hh a o h1, (hn a o h1).trans h2⟩
/-- a new frozen object -/
theorem En.alloc (E : En X F H σ Γ) {p : Addr} {o : HO} (h : H p = none) : En X (upd F p o) (upd H p o) σ Γ :=
  E.grow (Le.up (E.le.nn h)) E.le.both (fun a u q => by rw [upd_ne (ne_of_none q h)]; exact q) (fun a u q => by rw [upd_ne (ne_of_none q h)])
/-- a new object that is not frozen, held by nobody -/
theorem En.free (E : En X F H σ Γ) {p : Addr} {o : HO} (h : H p = none) : En X F (upd H p o) σ Γ :=
  E.grow Le.rfl' (E.le.new (E.le.nn h)) (fun a u q => by rw [upd_ne (ne_of_none q h)]; exact q) (fun _ _ _ => rfl)
theorem getD_app {α : Type} {l : List α} {x d : α} {i : Nat} (h : i < l.length) : (l ++ [x]).getD i d = l.getD i d := by
  simp [List.getD_eq_getElem?_getD, List.getElem?_append_left h]
theorem getD_last {α : Type} {l : List α} {x d : α} : (l ++ [x]).getD l.length d = x := by
  simp [List.getD_eq_getElem?_getD]
/-- one more slot, of a new thing or of data -/
theorem En.pushG (E : En X F H σ Γ) {ov : Option V} {s : Sl} {T : Addr → Prop} (lf : Le F F') (le : Le F' H') (hh : ∀ a o, H a = some o → H' a = some o) (hn : ∀ a o, H a = some o → F' a = F a)
    (h : SlOk X F' H' ov T s) (hT : ∀ a, T a → H a = none ∧ F' a = none ∧ H' a ≠ none) : En X F' H' (σ ++ [ov]) (Γ ++ [s]) := by
  have hown : ∀ a, T a → X.own a := fun a ta => E.ownN (hT a ta).1
  have hdis : ∀ (S : Nat → Addr → Prop), (∀ i a, S i a → F a = none ∧ H a ≠ none ∧ X.own a) → ∀ i a, S i a → ¬ T a := fun S ho i a sa ta => (ho i a sa).2.1 (hT a ta).1
  have E' := E.grow lf le hh hn
  obtain ⟨S, hs, hdj, ho⟩ := E.sl
  have hkeep : ∀ i a, S i a → F' a = none ∧ H' a ≠ none ∧ X.own a := fun i a sa => by
    obtain ⟨h0, h1, h2⟩ := ho i a sa
    cases q : H a with
    | none => exact absurd q h1
    | some o => exact ⟨(hn a o q).trans h0, by rw [hh a o q]; simp, h2⟩
  have hs' : ∀ i s, Γ[i]? = some s → SlOk X F' H' (σ.getD i none) (S i) s := fun i s e => (hs i s e).mono lf fun a sa => by
    obtain ⟨_, h1, _⟩ := ho i a sa
    cases q : H a with
    | none => exact absurd q h1
    | some o => exact hh a o q
  refine ⟨E'.le, by simp [E.len], ⟨fun i a => (i < Γ.length ∧ S i a) ∨ (i = Γ.length ∧ T a), fun i u e => ?_, fun i j a h1 h2 => ?_, fun i a h1 => ?_⟩, E'.fr, E'.f0, E'.nn⟩
  · have hi : i < (Γ ++ [s]).length := (List.getElem?_eq_some_iff.mp e).1
    simp only [List.length_append, List.length_cons, List.length_nil] at hi
    by_cases hlt : i < Γ.length
    · rw [List.getElem?_append_left hlt] at e
      rw [getD_app (by rw [E.len]; exact hlt)]
      have eS : (fun a => (i < Γ.length ∧ S i a) ∨ (i = Γ.length ∧ T a)) = S i := by
        funext a
        apply propext
        constructor
        · rintro (⟨_, q⟩ | ⟨q, _⟩)
          · exact q
          · omega
        · intro q; exact .inl ⟨hlt, q⟩
      show SlOk X F' H' _ (fun a => (i < Γ.length ∧ S i a) ∨ (i = Γ.length ∧ T a)) u
      rw [eS]
      exact hs' i u e
    · have hie : i = Γ.length := by omega
      subst hie
      simp at e; subst e
      have eS : (fun a => (Γ.length < Γ.length ∧ S Γ.length a) ∨ (Γ.length = Γ.length ∧ T a)) = T := by
        funext a
        apply propext
        constructor
        · rintro (⟨q, _⟩ | ⟨_, q⟩)
          · omega
          · exact q
        · intro q; exact .inr ⟨rfl, q⟩
      show SlOk X F' H' _ (fun a => (Γ.length < Γ.length ∧ S Γ.length a) ∨ (Γ.length = Γ.length ∧ T a)) s
      rw [eS, ← E.len, getD_last]
      exact h
  · rcases h1 with ⟨a1, b1⟩ | ⟨a1, b1⟩ <;> rcases h2 with ⟨a2, b2⟩ | ⟨a2, b2⟩
    · exact hdj i j a b1 b2
    · exact absurd b2 (hdis S ho i a b1)
    · exact absurd b1 (hdis S ho j a b2)
    · omega
  · rcases h1 with ⟨a1, b1⟩ | ⟨a1, b1⟩
    · exact hkeep i a b1
    · exact ⟨(hT a b1).2.1, (hT a b1).2.2, hown a b1⟩
theorem En.noN (E : En X F H σ Γ) {p : Addr} (h : H p = none) : ¬ X.N p := fun n => E.nn p n h
theorem En.pushD (E : En X F H σ Γ) {v : V} {m : Bool} {d : PyData} (r : Rp X.K (X.ff F m) v d) : En X F H (σ ++ [some v]) (Γ ++ [.dat m d]) :=
  E.pushG (T := fun _ => False) Le.rfl' E.le (fun _ _ q => q) (fun _ _ _ => rfl) ⟨⟨v, rfl, r⟩, fun _ z => z⟩ (fun _ z => z.elim)
/-- a new list of one's own -/
theorem En.pushM (E : En X F H σ Γ) {p : Addr} {xs : List V} {m : Bool} {ds : List PyData} (h : H p = none) (r : RpA X.K (X.ff F m) xs ds) : En X F (upd H p (.lst xs)) (σ ++ [some (.ref p)]) (Γ ++ [.ml m p ds]) :=
  E.pushG (T := fun a => a = p) Le.rfl' (E.le.new (E.le.nn h)) (fun a u q => by rw [upd_ne (ne_of_none q h)]; exact q) (fun _ _ _ => rfl)
    ⟨xs, rfl, fun _ => Iff.rfl, upd_same, r, fun _ => E.noN h⟩ (fun a e => by subst e; exact ⟨h, E.le.nn h, by rw [upd_same]; simp⟩)
theorem En.drop {ov : Option V} {s : Sl} (E : En X F H (σ ++ [ov]) (Γ ++ [s])) : En X F H σ Γ := by
  have hl : σ.length = Γ.length := by
    have := E.len
    simp at this
    exact this
  obtain ⟨S, hs, hdj, ho⟩ := E.sl
  refine ⟨E.le, hl, ⟨S, fun i u e => ?_, hdj, ho⟩, E.fr, E.f0, E.nn⟩
  have hi : i < Γ.length := (List.getElem?_eq_some_iff.mp e).1
  have q := hs i u (by rw [List.getElem?_append_left hi]; exact e)
  rw [getD_app (by rw [hl]; exact hi)] at q
  exact q
/-- the value that came last is put into a slot -/
theorem En.put {ov : Option V} {s : Sl} (E : En X F H (σ ++ [ov]) (Γ ++ [s])) (i : Nat) : En X F H (σ.set i ov) (Γ.set i s) := by
  have hl : σ.length = Γ.length := by
    have := E.len
    simp at this
    exact this
  obtain ⟨S, hs, hdj, ho⟩ := E.sl
  by_cases hi : i < Γ.length
  · refine ⟨E.le, by simp [hl], ⟨fun j a => if j = i then S Γ.length a else if j = Γ.length then False else S j a, fun j u e => ?_, fun j k a h1 h2 => ?_, fun j a h1 => ?_⟩, E.fr, E.f0, E.nn⟩
    · by_cases hj : j = i
      · subst hj
        rw [List.getElem?_set_self hi] at e
        cases e
        have q := hs Γ.length s (by simp)
        rw [← hl, getD_last, hl] at q
        have : (σ.set j ov).getD j none = ov := by simp [List.getD_eq_getElem?_getD, hl, hi]
        rw [this]
        simpa using q
      · rw [List.getElem?_set_ne (Ne.symm hj)] at e
        have hj' : j < Γ.length := (List.getElem?_eq_some_iff.mp e).1
        have q := hs j u (by rw [List.getElem?_append_left hj']; exact e)
        rw [getD_app (by rw [hl]; exact hj')] at q
        have : (σ.set i ov).getD j none = σ.getD j none := by simp [List.getD_eq_getElem?_getD, List.getElem?_set_ne (Ne.symm hj)]
        rw [this]
        have hne : j ≠ Γ.length := by omega
        simpa [hj, hne] using q
    · by_cases a1 : j = i
      · by_cases a2 : k = i
        · omega
        · simp only [if_pos a1, if_neg a2] at h1 h2
          by_cases a3 : k = Γ.length
          · simp [a3] at h2
          · simp only [if_neg a3] at h2
            have := hdj _ _ _ h1 h2
            omega
      · simp only [if_neg a1] at h1
        by_cases a4 : j = Γ.length
        · simp [a4] at h1
        · simp only [if_neg a4] at h1
          by_cases a2 : k = i
          · simp only [if_pos a2] at h2
            have := hdj _ _ _ h1 h2
            omega
          · simp only [if_neg a2] at h2
            by_cases a3 : k = Γ.length
            · simp [a3] at h2
            · simp only [if_neg a3] at h2
              exact hdj _ _ _ h1 h2
    · by_cases a1 : j = i
      · simp only [if_pos a1] at h1; exact ho _ a h1
      · simp only [if_neg a1] at h1
        by_cases a4 : j = Γ.length
        · simp [a4] at h1
        · simp only [if_neg a4] at h1; exact ho _ a h1
  · have e1 : σ.set i ov = σ := List.set_eq_of_length_le (by omega)
    have e2 : Γ.set i s = Γ := List.set_eq_of_length_le (by omega)
    rw [e1, e2]
    exact E.drop
/-- a slot is told otherwise, over the same addresses (or fewer) -/
theorem En.retell (E : En X F H σ Γ) (lf : Le F F') (le : Le F' H) (hf : ∀ a o, X.H0 a = some o → ¬ X.S0 a → F' a = F a) {i : Nat} {s s' : Sl} (hi : Γ[i]? = some s)
    (h : ∀ S : Addr → Prop, (∀ a, S a → F a = none ∧ H a ≠ none) → SlOk X F H (σ.getD i none) S s → ∃ S' : Addr → Prop, SlOk X F' H (σ.getD i none) S' s' ∧ (∀ a, S' a → S a ∧ F' a = none) ∧ ∀ a, F' a ≠ F a → S a) : En X F' H σ (Γ.set i s') := by
  obtain ⟨S, hs, hdj, ho⟩ := E.sl
  have hil : i < Γ.length := (List.getElem?_eq_some_iff.mp hi).1
  obtain ⟨S', q, hsub, hch⟩ := h (S i) (fun a sa => ⟨(ho i a sa).1, (ho i a sa).2.1⟩) (hs i s hi)
  have hother : ∀ j a, j ≠ i → S j a → F' a = F a := fun j a hj sa => by
    by_cases e : F' a = F a
    · exact e
    · exact absurd (hdj j i a sa (hch a e)) hj
  refine ⟨le, by simp [E.len], ⟨fun j a => if j = i then S' a else S j a, fun j u e => ?_, fun j k a h1 h2 => ?_, fun j a h1 => ?_⟩, fun a o e n => ?_, E.f0.tr lf, E.nn⟩
  · by_cases hj : j = i
    · subst hj
      rw [List.getElem?_set_self hil] at e
      cases e
      simpa using q
    · rw [List.getElem?_set_ne (Ne.symm hj)] at e
      have := (hs j u e).mono lf (H' := H) fun _ _ => rfl
      simpa [hj] using this
  · by_cases a1 : j = i <;> by_cases a2 : k = i
    · omega
    · simp only [if_pos a1, if_neg a2] at h1 h2
      have := hdj _ _ _ (hsub a h1).1 h2
      omega
    · simp only [if_neg a1, if_pos a2] at h1 h2
      have := hdj _ _ _ h1 (hsub a h2).1
      omega
    · simp only [if_neg a1, if_neg a2] at h1 h2
      exact hdj _ _ _ h1 h2
  · by_cases a1 : j = i
    · simp only [if_pos a1] at h1
      obtain ⟨sa, fn⟩ := hsub a h1
      exact ⟨fn, (ho i a sa).2.1, (ho i a sa).2.2⟩
    · simp only [if_neg a1] at h1
      exact ⟨(hother j a a1 h1).trans (ho j a h1).1, (ho j a h1).2⟩
  · exact ⟨(E.fr a o e n).1, (hf a o e n).trans (E.fr a o e n).2⟩
/-- a list of one's own is frozen -/
theorem En.freeze (E : En X F H σ Γ) {i : Nat} {m : Bool} {l : Addr} {ds : List PyData} (hi : Γ[i]? = some (.ml m l ds)) : ∃ F', Le F F' ∧ En X F' H σ (Γ.set i (.dat m (.list ds))) := by
  obtain ⟨xs, e1, hl, fl, r⟩ := E.ml hi
  obtain ⟨S, hs, hdj, ho⟩ := id E.sl
  have own : X.own l ∧ (m = true → ¬ X.N l) := by
    obtain ⟨_, _, hS, _, _, nl⟩ := hs i _ hi
    exact ⟨(ho i l ((hS l).mpr rfl)).2.2, nl⟩
  obtain ⟨own, nl⟩ := own
  have fl' : ∀ {F : Hp}, F l = some (.lst xs) → X.ff F m l = some (.lst xs) := fun {F} h => by
    cases m with
    | false => exact h
    | true => rw [Bs.ff_at (nl rfl)]; exact h
  refine ⟨upd F l (.lst xs), Le.up fl, E.retell (Le.up fl) (E.le.lay hl) (fun a o e n => ?_) hi fun S hS q => ?_⟩
  · refine upd_ne fun z => ?_
    subst z
    rcases own with w | w
    · rw [w] at e; cases e
    · exact n w
  · obtain ⟨ys, e, hS', hl', r', _⟩ := q
    rw [hl] at hl'; cases hl'
    refine ⟨fun _ => False, ⟨⟨.ref l, e, .lst (fl' upd_same) (r.mono (Bs.ff_mono (Le.up fl) m))⟩, fun _ z => z⟩, fun _ z => z.elim, fun a ha => ?_⟩
    refine (hS' a).mpr ?_
    by_cases z : a = l
    · exact z
    · exact absurd (upd_ne z) ha
end
end Pk
end
section
set_option Elab.async false
set_option linter.all false
set_option maxRecDepth 100000
namespace Pk
open PySem PySem.Spec PyProof.Rows L2

/-- one slot stands aside while the others work -/
theorem En.frame {X : Bs} {F H : Hp} {σ : L2.St} {Γ : List Sl} {ov : Option V} {s : Sl} (E : En X F H (σ ++ [ov]) (Γ ++ [s])) :
    ∃ X' : Bs, X'.K = X.K ∧ X'.N = X.N ∧ En X' F H σ Γ ∧ ∀ F' H' σ' Γ', Γ'.length = Γ.length → Le F F' → En X' F' H' σ' Γ' → En X F' H' (σ' ++ [ov]) (Γ' ++ [s]) := by
  have hl : σ.length = Γ.length := by
    have := E.len
    simp at this
    exact this
  have own0 : ∀ p, H p = none → X.own p := fun p h => E.ownN h
  obtain ⟨S, hs, hdj, ho⟩ := id E.sl
  refine ⟨⟨X.K, F, H, fun a => ∃ i, i < Γ.length ∧ S i a, X.N⟩, rfl, rfl, ⟨E.le, hl, ⟨fun i a => i < Γ.length ∧ S i a, fun i u e => ?_, fun i j a h1 h2 => hdj i j a h1.2 h2.2, fun i a h1 => ⟨(ho i a h1.2).1, (ho i a h1.2).2.1, .inr ⟨i, h1⟩⟩⟩, fun a o e _ => ⟨e, rfl⟩, Le.rfl', E.nn⟩, fun F' H' σ' Γ' hlen lf E' => ?_⟩
  · have hi : i < Γ.length := (List.getElem?_eq_some_iff.mp e).1
    have q := hs i u (by rw [List.getElem?_append_left hi]; exact e)
    rw [getD_app (by rw [hl]; exact hi)] at q
    have eS : (fun a => i < Γ.length ∧ S i a) = S i := by
      funext a
      exact propext ⟨fun z => z.2, fun z => ⟨hi, z⟩⟩
    show SlOk _ F H _ (fun a => i < Γ.length ∧ S i a) u
    rw [eS]
    exact q.to rfl fun _ h => h
  · obtain ⟨S', hs', hdj', ho'⟩ := id E'.sl
    have notS : ∀ a, S Γ.length a → ¬ ∃ i, i < Γ.length ∧ S i a := fun a sa ⟨i, hi, si⟩ => by
      have := hdj i _ a si sa
      omega
    have keepS : ∀ a, S Γ.length a → H' a = H a ∧ F' a = F a := fun a sa => by
      obtain ⟨_, h1, _⟩ := ho _ a sa
      cases q : H a with
      | none => exact absurd q h1
      | some o => exact E'.fr a o q (notS a sa)
    have disS : ∀ i a, S' i a → ¬ S Γ.length a := fun i a h1 h2 => by
      rcases (ho' i a h1).2.2 with w | w
      · exact (ho _ a h2).2.1 w
      · exact notS a h2 w
    have hl' : σ'.length = Γ'.length := E'.len
    refine ⟨E'.le, by simp [hl'], ⟨fun i a => (i < Γ'.length ∧ S' i a) ∨ (i = Γ'.length ∧ S Γ.length a), fun i u e => ?_, fun i j a h1 h2 => ?_, fun i a h1 => ?_⟩, fun a o e n => ?_, E.f0.tr lf, E'.nn⟩
    · have hi : i < (Γ' ++ [s]).length := (List.getElem?_eq_some_iff.mp e).1
      simp only [List.length_append, List.length_cons, List.length_nil] at hi
      by_cases hlt : i < Γ'.length
      · rw [List.getElem?_append_left hlt] at e
        rw [getD_app (by rw [hl']; exact hlt)]
        have eS : (fun a => (i < Γ'.length ∧ S' i a) ∨ (i = Γ'.length ∧ S Γ.length a)) = S' i := by
          funext a
          apply propext
          constructor
          · rintro (⟨_, q⟩ | ⟨q, _⟩)
            · exact q
            · omega
          · intro q; exact .inl ⟨hlt, q⟩
        show SlOk X F' H' _ (fun a => (i < Γ'.length ∧ S' i a) ∨ (i = Γ'.length ∧ S Γ.length a)) u
        rw [eS]
        exact (hs' i u e).to rfl fun _ h => h
      · have hie : i = Γ'.length := by omega
        subst hie
        simp at e; subst e
        have eS : (fun a => (Γ'.length < Γ'.length ∧ S' Γ'.length a) ∨ (Γ'.length = Γ'.length ∧ S Γ.length a)) = S Γ.length := by
          funext a
          apply propext
          constructor
          · rintro (⟨q, _⟩ | ⟨_, q⟩)
            · omega
            · exact q
          · intro q; exact .inr ⟨rfl, q⟩
        show SlOk X F' H' _ (fun a => (Γ'.length < Γ'.length ∧ S' Γ'.length a) ∨ (Γ'.length = Γ'.length ∧ S Γ.length a)) s
        rw [eS, ← hl', getD_last]
        have q := hs Γ.length s (by simp)
        rw [← hl, getD_last, hl] at q
        exact q.mono lf fun a sa => (keepS a sa).1
    · rcases h1 with ⟨a1, b1⟩ | ⟨a1, b1⟩ <;> rcases h2 with ⟨a2, b2⟩ | ⟨a2, b2⟩
      · exact hdj' i j a b1 b2
      · exact absurd b2 (disS i a b1)
      · exact absurd b1 (disS j a b2)
      · omega
    · rcases h1 with ⟨a1, b1⟩ | ⟨a1, b1⟩
      · refine ⟨(ho' i a b1).1, (ho' i a b1).2.1, ?_⟩
        rcases (ho' i a b1).2.2 with w | ⟨j, _, w⟩
        · exact own0 a w
        · exact (ho j a w).2.2
      · obtain ⟨k1, k2⟩ := keepS a b1
        exact ⟨k2.trans (ho _ a b1).1, by rw [k1]; exact (ho _ a b1).2.1, (ho _ a b1).2.2⟩
    · obtain ⟨q1, q2⟩ := E.fr a o e n
      have nS : ¬ ∃ i, i < Γ.length ∧ S i a := fun ⟨i, _, si⟩ => by
        rcases (ho i a si).2.2 with w | w
        · rw [w] at e; cases e
        · exact n w
      obtain ⟨r1, r2⟩ := E'.fr a o q1 nS
      exact ⟨r1, r2.trans q2⟩
theorem En.rebase {X : Bs} {F H : Hp} {σ : L2.St} {Γ : List Sl} (E : En X F H σ Γ) :
    ∃ X' : Bs, X'.K = X.K ∧ X'.N = X.N ∧ X'.F0 = F ∧ X'.H0 = H ∧ En X' F H σ Γ ∧ ∀ F' H' σ' Γ', En X' F' H' σ' Γ' → En X F' H' σ' Γ' := by
  obtain ⟨S, hs, hdj, ho⟩ := id E.sl
  refine ⟨⟨X.K, F, H, fun a => ∃ i, S i a, X.N⟩, rfl, rfl, rfl, rfl, ⟨E.le, E.len, ⟨S, fun i s e => (hs i s e).to rfl fun _ h => h, hdj, fun i a h1 => ⟨(ho i a h1).1, (ho i a h1).2.1, .inr ⟨i, h1⟩⟩⟩, fun a o e _ => ⟨e, rfl⟩, Le.rfl', E.nn⟩, fun F' H' σ' Γ' E' => ?_⟩
  have lf : Le F F' := E'.f0
  obtain ⟨S', hs', hdj', ho'⟩ := id E'.sl
  refine ⟨E'.le, E'.len, ⟨S', fun i s e => (hs' i s e).to rfl fun _ h => h, hdj', fun i a h1 => ⟨(ho' i a h1).1, (ho' i a h1).2.1, ?_⟩⟩, fun a o e n => ?_, E.f0.tr lf, E'.nn⟩
  · rcases (ho' i a h1).2.2 with w | ⟨j, w⟩
    · exact E.ownN w
    · exact (ho j a w).2.2
  · obtain ⟨q1, q2⟩ := E.fr a o e n
    have nS : ¬ ∃ i, S i a := fun ⟨i, si⟩ => by
      rcases (ho i a si).2.2 with w | w
      · rw [w] at e; cases e
      · exact n w
    obtain ⟨r1, r2⟩ := E'.fr a o q1 nS
    exact ⟨r1, r2.trans q2⟩

/-- the reading t gives data, of which Q holds; m: its lists are new -/
def WD (K : Kw) (m : Bool) (Γ : List Sl) (t : TE) (Q : PyData → Prop) : Prop := ∀ X : Bs, X.K = K → ∀ F H σ, En X F H σ Γ → ∀ C : VK,
  (∀ v F' H' d, Le F F' → En X F' H' σ Γ → Rp K (X.ff F' m) v d → Q d → C v H') → t σ H C
/-- .. or a new thing of one's own -/
def WX (K : Kw) (Γ : List Sl) (t : TE) (Q : Sl → Prop) : Prop := ∀ X : Bs, X.K = K → ∀ F H σ, En X F H σ Γ → ∀ C : VK,
  (∀ v F' H' s, Le F F' → En X F' H' (σ ++ [some v]) (Γ ++ [s]) → Q s → C v H') → t σ H C
def WT (K : Kw) (Γ : List Sl) (t : TT) (Q : Bool → Prop) : Prop := ∀ X : Bs, X.K = K → ∀ F H σ, En X F H σ Γ → ∀ C : Bool → Hp → Prop,
  (∀ b F' H', Le F F' → En X F' H' σ Γ → Q b → C b H') → t σ H C
/-- an argument: data, or one's own in a slot -/
inductive Ag where
  | d (x : PyData)
  | o (i : Nat)
def Ag.ix : Ag → Option Nat
  | .d _ => none
  | .o i => some i
def Ag.sl (Γ : List Sl) : Ag → Sl
  | .d x => .dat false x
  | .o i => Γ.getD i .no
def AgOk (X : Bs) (m : Bool) (F : Hp) (σ : L2.St) : V → Ag → Prop
  | v, .d x => Rp X.K (X.ff F m) v x
  | v, .o i => σ[i]? = some (some v)
inductive AgsOk (X : Bs) (m : Bool) (F : Hp) (σ : L2.St) : List V → List Ag → Prop
  | nil : AgsOk X m F σ [] []
  | cons {v vs a as} : AgOk X m F σ v a → AgsOk X m F σ vs as → AgsOk X m F σ (v :: vs) (a :: as)
def WA (K : Kw) (m : Bool) (Γ : List Sl) (t : TA) (Q : List Ag → Prop) : Prop := ∀ X : Bs, X.K = K → ∀ F H σ, En X F H σ Γ → ∀ C : List V → Hp → Prop,
  (∀ vs F' H' as, Le F F' → En X F' H' σ Γ → AgsOk X m F' σ vs as → Q as → C vs H') → t σ H C
/-- operations on values -/
def RD (K : Kw) (m : Bool) (Γ : List Sl) (r : R2) (x y : PyData) (Q : PyData → Prop) : Prop := ∀ X : Bs, X.K = K → ∀ F H σ, En X F H σ Γ → ∀ v u, Rp K (X.ff F m) v x → Rp K (X.ff F m) u y → ∀ C : VK,
  (∀ z F' H' d, Le F F' → En X F' H' σ Γ → Rp K (X.ff F' m) z d → Q d → C z H') → r v u H C
def RX (K : Kw) (m : Bool) (Γ : List Sl) (r : R2) (x y : PyData) (Q : Sl → Prop) : Prop := ∀ X : Bs, X.K = K → ∀ F H σ, En X F H σ Γ → ∀ v u, Rp K (X.ff F m) v x → Rp K (X.ff F m) u y → ∀ C : VK,
  (∀ z F' H' s, Le F F' → En X F' H' (σ ++ [some z]) (Γ ++ [s]) → Q s → C z H') → r v u H C
def RU (K : Kw) (m : Bool) (Γ : List Sl) (r : V → Hp → VK → Prop) (x : PyData) (Q : PyData → Prop) : Prop := ∀ X : Bs, X.K = K → ∀ F H σ, En X F H σ Γ → ∀ v, Rp K (X.ff F m) v x → ∀ C : VK,
  (∀ z F' H' d, Le F F' → En X F' H' σ Γ → Rp K (X.ff F' m) z d → Q d → C z H') → r v H C
def RC (K : Kw) (m : Bool) (Γ : List Sl) (r : List V → Hp → VK → Prop) (xs : List PyData) (Q : PyData → Prop) : Prop := ∀ X : Bs, X.K = K → ∀ F H σ, En X F H σ Γ → ∀ vs, RpA K (X.ff F m) vs xs → ∀ C : VK,
  (∀ z F' H' d, Le F F' → En X F' H' σ Γ → Rp K (X.ff F' m) z d → Q d → C z H') → r vs H C
def RCX (K : Kw) (m : Bool) (Γ : List Sl) (r : List V → Hp → VK → Prop) (xs : List PyData) (Q : Sl → Prop) : Prop := ∀ X : Bs, X.K = K → ∀ F H σ, En X F H σ Γ → ∀ vs, RpA K (X.ff F m) vs xs → ∀ C : VK,
  (∀ z F' H' s, Le F F' → En X F' H' (σ ++ [some z]) (Γ ++ [s]) → Q s → C z H') → r vs H C

/-- a slot as data -/
def Sl.toD (m : Bool) : Sl → Option PyData
  | .dat m' d => if m = true ∧ m' = false then none else some d
  | .ml m' _ ds => if m = true ∧ m' = false then none else some (.list ds)
  | .ex _ Φ => if m = true then none else Φ.vw
  | .no => none
/-- what is new may be taken as any -/
theorem Bs.ff_any {X : Bs} {F : Hp} {m m' : Bool} (h : ¬ (m = true ∧ m' = false)) : Le (X.ff F m') (X.ff F m) := by
  cases m with
  | false => exact X.ff_le F m'
  | true =>
    cases m' with
    | true => exact Le.rfl'
    | false => exact absurd ⟨rfl, rfl⟩ h
section
variable {K : Kw} {m : Bool} {Γ : List Sl} {t ta tb : TE} {Q : PyData → Prop} {QX : Sl → Prop}
theorem lastFreeze {X : Bs} {F H : Hp} {σ : L2.St} {v : V} {s : Sl} {d : PyData} (hs : s.toD m = some d) (E : En X F H (σ ++ [some v]) (Γ ++ [s])) : ∃ F', Le F F' ∧ En X F' H σ Γ ∧ Rp X.K (X.ff F' m) v d := by
  have hl : σ.length = Γ.length := by
    have := E.len
    simp at this
    exact this
  cases s with
  | no => cases hs
  | ex u Φ =>
    cases m with
    | true => simp [Sl.toD] at hs
    | false =>
      have hv : Φ.vw = some d := by simpa [Sl.toD] using hs
      obtain ⟨S, h1, hdj, ho⟩ := id E.sl
      obtain ⟨e, hk, p⟩ := h1 Γ.length (.ex u Φ) (by simp)
      rw [← hl, getD_last] at e
      cases e
      obtain ⟨rv, hL⟩ := Φ.view E.le p hv
      have lf : Le F (lay (S Γ.length) H F) := fun a o q => by
        unfold lay
        rw [if_neg fun sa => by rw [(ho _ a sa).1] at q; cases q]
        exact q
      have ln : ∀ a, ¬ S Γ.length a → lay (S Γ.length) H F a = F a := fun a h => by unfold lay; rw [if_neg h]
      have Ed := E.drop
      refine ⟨lay (S Γ.length) H F, lf, ⟨fun a o q => ?_, hl, ⟨fun i a => i < Γ.length ∧ S i a, fun i w q => ?_, fun i j a q1 q2 => hdj i j a q1.2 q2.2, fun i a q => ⟨?_, (ho i a q.2).2⟩⟩, fun a o q n => ⟨(E.fr a o q n).1, ?_⟩, E.f0.tr lf, E.nn⟩, by rw [← hk]; exact rv⟩
      · unfold lay at q
        split at q
        · exact q
        · exact E.le a o q
      · have hi : i < Γ.length := (List.getElem?_eq_some_iff.mp q).1
        have z := h1 i w (by rw [List.getElem?_append_left hi]; exact q)
        rw [getD_app (by rw [hl]; exact hi)] at z
        have eS : (fun a => i < Γ.length ∧ S i a) = S i := by
          funext a
          exact propext ⟨fun z => z.2, fun z => ⟨hi, z⟩⟩
        show SlOk X _ H _ (fun a => i < Γ.length ∧ S i a) w
        rw [eS]
        exact z.mono lf fun _ _ => rfl
      · rw [ln a fun sa => by have := hdj _ _ a sa q.2; omega]
        exact (ho i a q.2).1
      · rw [ln a fun sa => ?_]
        · exact (E.fr a o q n).2
        · rcases (ho _ a sa).2.2 with z | z
          · rw [z] at q; cases q
          · exact n z
  | dat m' x =>
    simp only [Sl.toD] at hs
    split at hs
    · cases hs
    · rename_i hm
      cases hs
      obtain ⟨u, e, r⟩ := E.dat (i := Γ.length) (m := m') (d := d) (by simp)
      rw [← hl] at e
      simp at e
      subst e
      exact ⟨F, Le.rfl', E.drop, r.mono (Bs.ff_any hm)⟩
  | ml m' l ds =>
    simp only [Sl.toD] at hs
    split at hs
    · cases hs
    · rename_i hm
      cases hs
      obtain ⟨F', lf, E'⟩ := E.freeze (i := Γ.length) (m := m') (l := l) (ds := ds) (by simp)
      have e2 : (Γ ++ [Sl.ml m' l ds]).set Γ.length (.dat m' (.list ds)) = Γ ++ [.dat m' (.list ds)] := by simp
      rw [e2] at E'
      obtain ⟨u, e, r⟩ := E'.dat (i := Γ.length) (m := m') (d := .list ds) (by simp)
      rw [← hl] at e
      simp at e
      subst e
      exact ⟨F', lf, E'.drop, r.mono (Bs.ff_any hm)⟩
theorem toD_dat {d : PyData} : (Sl.dat m d).toD m = some d := by cases m <;> simp [Sl.toD]
theorem toD_ml {l : Addr} {ds : List PyData} : (Sl.ml m l ds).toD m = some (.list ds) := by cases m <;> simp [Sl.toD]
theorem WD.ofX (h : WX K Γ t fun s => ∃ d, s.toD m = some d ∧ Q d) : WD K m Γ t Q := fun X hK F H σ E C k =>
  h X hK F H σ E C fun v F' H' s lf E' ⟨d, hs, q⟩ => by
    obtain ⟨F2, l2, E2, r⟩ := lastFreeze hs E'
    subst hK
    exact k v F2 H' d (lf.tr l2) E2 r q
theorem WX.ofD (h : WD K m Γ t fun d => QX (.dat m d)) : WX K Γ t QX := fun X hK F H σ E C k =>
  h X hK F H σ E C fun v F' H' d lf E' r q => k v F' H' _ lf (E'.pushD (by rw [hK]; exact r)) q
theorem RD.ofX {r : R2} {x y : PyData} (h : RX K m Γ r x y fun s => ∃ d, s.toD m = some d ∧ Q d) : RD K m Γ r x y Q := fun X hK F H σ E v u rv ru C k =>
  h X hK F H σ E v u rv ru C fun z F' H' s lf E' ⟨d, hs, q⟩ => by
    obtain ⟨F2, l2, E2, r⟩ := lastFreeze hs E'
    subst hK
    exact k z F2 H' d (lf.tr l2) E2 r q
theorem RC.ofX {r : List V → Hp → VK → Prop} {xs : List PyData} (h : RCX K m Γ r xs fun s => ∃ d, s.toD m = some d ∧ Q d) : RC K m Γ r xs Q := fun X hK F H σ E vs rv C k =>
  h X hK F H σ E vs rv C fun z F' H' s lf E' ⟨d, hs, q⟩ => by
    obtain ⟨F2, l2, E2, r⟩ := lastFreeze hs E'
    subst hK
    exact k z F2 H' d (lf.tr l2) E2 r q
theorem WD.mono {Q' : PyData → Prop} (h : WD K m Γ t Q) (k : ∀ d, Q d → Q' d) : WD K m Γ t Q' := fun X hK F H σ E C c => h X hK F H σ E C fun v F' H' d lf E' r q => c v F' H' d lf E' r (k d q)
theorem WX.mono {Q' : Sl → Prop} (h : WX K Γ t QX) (k : ∀ s, QX s → Q' s) : WX K Γ t Q' := fun X hK F H σ E C c => h X hK F H σ E C fun v F' H' d lf E' q => c v F' H' d lf E' (k d q)
theorem WT.mono {tt : TT} {Q Q' : Bool → Prop} (h : WT K Γ tt Q) (k : ∀ b, Q b → Q' b) : WT K Γ tt Q' := fun X hK F H σ E C c => h X hK F H σ E C fun v F' H' lf E' q => c v F' H' lf E' (k v q)
/-- what holds no list is new -/
theorem wd_lf (h : WD K false Γ t fun d => lf d = true ∧ Q d) : WD K m Γ t Q := fun X hK F H σ E C k =>
  h X hK F H σ E C fun v F' H' d l E' r ⟨z, q⟩ => k v F' H' d l E' (Rp.lfree Bs.ff_tup d z r) q
/-- what is new is data -/
theorem wd_new (h : WD K true Γ t Q) : WD K false Γ t Q := fun X hK F H σ E C k =>
  h X hK F H σ E C fun v F' H' d l E' r q => k v F' H' d l E' (r.mono (X.ff_le F' true)) q

theorem wd_var {i : Nat} {d : PyData} (h : Γ[i]? = some (.dat m d)) (q : Q d) : WD K m Γ (tVar i) Q := fun X hK F H σ E C k => by
  obtain ⟨v, e, r⟩ := E.dat h
  subst hK
  exact ⟨v, e, k v F H d Le.rfl' E r q⟩
theorem wd_varN {i : Nat} {d : PyData} (h : Γ[i]? = some (.dat true d)) (q : Q d) : WD K m Γ (tVar i) Q := by
  cases m with
  | true => exact wd_var h q
  | false => exact wd_new (wd_var h q)
theorem wd_c {v : V} {d : PyData} (h : ∀ F, Rp K F v d) (q : Q d) : WD K m Γ (tC v) Q := fun X hK F H σ E C k => k v F H d Le.rfl' E (h _) q
theorem wd_int {i : Int} (q : Q (.int i)) : WD K m Γ (tC (.int i)) Q := wd_c (fun _ => .int i) q
theorem wd_bl {b : Bool} (q : Q (.bool b)) : WD K m Γ (tC (.bl b)) Q := wd_c (fun _ => .bl b) q
theorem wd_str {x : Str} (q : Q (.str x)) : WD K m Γ (tC (.str x)) Q := wd_c (fun _ => .str x) q
theorem wd_non (q : Q .none) : WD K m Γ (tC .non) Q := wd_c (fun _ => .non) q
theorem Bs.mo {X : Bs} {F F' : Hp} {v : V} {d : PyData} (r : Rp K (X.ff F m) v d) (l : Le F F') : Rp K (X.ff F' m) v d := r.mono (Bs.ff_mono l m)
theorem Bs.moA {X : Bs} {F F' : Hp} {v : List V} {d : List PyData} (r : RpA K (X.ff F m) v d) (l : Le F F') : RpA K (X.ff F' m) v d := r.mono (Bs.ff_mono l m)
theorem wd_op {r : R2} (h : WD K m Γ ta fun x => WD K m Γ tb fun y => RD K m Γ r x y Q) : WD K m Γ (tOp r ta tb) Q := fun X hK F H σ E C k =>
  h X hK F H σ E _ fun v F1 H1 x l1 E1 r1 h1 => h1 X hK F1 H1 σ E1 _ fun u F2 H2 y l2 E2 r2 h2 =>
    h2 X hK F2 H2 σ E2 v u (Bs.mo r1 l2) r2 C fun z F3 H3 d l3 E3 r3 q => k z F3 H3 d (l1.tr (l2.tr l3)) E3 r3 q
theorem wd_un {r : V → Hp → VK → Prop} (h : WD K m Γ ta fun x => RU K m Γ r x Q) : WD K m Γ (tUn r ta) Q := fun X hK F H σ E C k =>
  h X hK F H σ E _ fun v F1 H1 x l1 E1 r1 h1 => h1 X hK F1 H1 σ E1 v r1 C fun z F3 H3 d l3 E3 r3 q => k z F3 H3 d (l1.tr l3) E3 r3 q
theorem En.lef {X : Bs} {F H : Hp} {σ : L2.St} (E : En X F H σ Γ) (m : Bool) : Le (X.ff F m) H := (X.ff_le F m).tr E.le
/-- a plain value: no new object -/
theorem rd_plain {r : R2} {x y d : PyData} (h : ∀ (F H : Hp) v u (C : VK), Le F H → Rp K F v x → Rp K F u y → (∀ z, Rp K F z d → C z H) → r v u H C) (q : Q d) : RD K m Γ r x y Q := fun X hK F H σ E v u rv ru C k =>
  h (X.ff F m) H v u C (E.lef m) rv ru fun z rz => k z F H d Le.rfl' E rz q
theorem rc_plain {r : List V → Hp → VK → Prop} {xs : List PyData} {d : PyData} (h : ∀ (F H : Hp) vs (C : VK), Le F H → RpA K F vs xs → (∀ z, Rp K F z d → C z H) → r vs H C) (q : Q d) : RC K m Γ r xs Q := fun X hK F H σ E vs rv C k =>
  h (X.ff F m) H vs C (E.lef m) rv fun z rz => k z F H d Le.rfl' E rz q
theorem ru_plain {r : V → Hp → VK → Prop} {x d : PyData} (h : ∀ (F H : Hp) v (C : VK), Le F H → Rp K F v x → (∀ z, Rp K F z d → C z H) → r v H C) (q : Q d) : RU K m Γ r x Q := fun X hK F H σ E v rv C k =>
  h (X.ff F m) H v C (E.lef m) rv fun z rz => k z F H d Le.rfl' E rz q
/-- a new list -/
theorem rx_list {r : R2} {x y : PyData} {ds : List PyData} (h : ∀ (F H : Hp) v u (C : VK), Le F H → Rp K F v x → Rp K F u y → (∀ p xs, H p = none → RpA K F xs ds → C (.ref p) (upd H p (.lst xs))) → r v u H C) (q : ∀ l, QX (.ml m l ds)) : RX K m Γ r x y QX := fun X hK F H σ E v u rv ru C k =>
  h (X.ff F m) H v u C (E.lef m) rv ru fun p xs hp rx => k (.ref p) F _ _ Le.rfl' (E.pushM hp (by rw [hK]; exact rx)) (q p)
theorem rcx_list {r : List V → Hp → VK → Prop} {xs ds : List PyData} (h : ∀ (F H : Hp) vs (C : VK), Le F H → RpA K F vs xs → (∀ p ys, H p = none → RpA K F ys ds → C (.ref p) (upd H p (.lst ys))) → r vs H C) (q : ∀ l, QX (.ml m l ds)) : RCX K m Γ r xs QX := fun X hK F H σ E vs rv C k =>
  h (X.ff F m) H vs C (E.lef m) rv fun p xs hp rx => k (.ref p) F _ _ Le.rfl' (E.pushM hp (by rw [hK]; exact rx)) (q p)
/-- a new tuple -/
theorem En.newT {X : Bs} (hK : X.K = K) {F H : Hp} {σ : L2.St} (E : En X F H σ Γ) {p : Addr} {xs : List V} {ds : List PyData} (hp : H p = none) (rx : RpA K (X.ff F m) xs ds) : Le F (upd F p (.tup xs)) ∧ En X (upd F p (.tup xs)) (upd H p (.tup xs)) σ Γ ∧ Rp K (X.ff (upd F p (.tup xs)) m) (.ref p) (.tuple ds) :=
  ⟨Le.up (E.le.nn hp), E.alloc hp, .tup (Bs.ff_tup.1 _ _ (SqT.of upd_same)) (Bs.moA rx (Le.up (E.le.nn hp)))⟩
theorem rc_tuple {r : List V → Hp → VK → Prop} {xs ds : List PyData} (h : ∀ (F H : Hp) vs (C : VK), Le F H → RpA K F vs xs → (∀ p ys, H p = none → RpA K F ys ds → C (.ref p) (upd H p (.tup ys))) → r vs H C) (q : Q (.tuple ds)) : RC K m Γ r xs Q := fun X hK F H σ E vs rv C k =>
  h (X.ff F m) H vs C (E.lef m) rv fun p xs hp rx => let ⟨a, b, c⟩ := E.newT hK hp rx; k (.ref p) _ _ _ a b c q

variable {tt tu : TT} {QT : Bool → Prop}
theorem wt_test (h : WD K false Γ t fun d => ∃ b, d = .bool b ∧ QT b) : WT K Γ (tTest t) QT := fun X hK F H σ E C k =>
  h X hK F H σ E _ fun v F1 H1 x l1 E1 r1 ⟨b, e, q⟩ => by
    subst e
    cases r1
    exact ⟨b, rfl, k b F1 H1 l1 E1 q⟩
theorem wt_B (h : WD K false Γ t fun d => ∃ b, d = .bool b ∧ QT b) : WT K Γ (tB t) QT := fun X hK F H σ E C k =>
  h X hK F H σ E _ fun v F1 H1 x l1 E1 r1 ⟨b, e, q⟩ => by
    subst e
    cases r1
    exact ⟨b, rfl, k b F1 H1 l1 E1 q⟩
theorem wt_not (h : WT K Γ tt fun b => QT (!b)) : WT K Γ (tNot tt) QT := fun X hK F H σ E C k => h X hK F H σ E _ fun b F1 H1 l1 E1 q => k _ F1 H1 l1 E1 q
theorem wt_and (h : WT K Γ tt fun b => if b = true then WT K Γ tu QT else QT false) : WT K Γ (tAnd tt tu) QT := fun X hK F H σ E C k =>
  h X hK F H σ E _ fun b F1 H1 l1 E1 q => by
    cases b with
    | true => exact q X hK F1 H1 σ E1 C fun b F2 H2 l2 E2 q2 => k b F2 H2 (l1.tr l2) E2 q2
    | false => exact k false F1 H1 l1 E1 q
theorem wt_or (h : WT K Γ tt fun b => if b = true then QT true else WT K Γ tu QT) : WT K Γ (tOr tt tu) QT := fun X hK F H σ E C k =>
  h X hK F H σ E _ fun b F1 H1 l1 E1 q => by
    cases b with
    | false => exact q X hK F1 H1 σ E1 C fun b F2 H2 l2 E2 q2 => k b F2 H2 (l1.tr l2) E2 q2
    | true => exact k true F1 H1 l1 E1 q
theorem wt_yes (q : QT true) : WT K Γ tYes QT := fun X hK F H σ E C k => k true F H Le.rfl' E q
theorem wd_andV (h : WD K false Γ ta fun d => ∃ b, d = .bool b ∧ if b = true then WD K m Γ tb Q else Q (.bool false)) : WD K m Γ (tAndV ta tb) Q := fun X hK F H σ E C k =>
  h X hK F H σ E _ fun v F1 H1 x l1 E1 r1 ⟨b, e, q⟩ => by
    subst e
    cases r1
    refine ⟨b, rfl, ?_⟩
    cases b with
    | true => exact q X hK F1 H1 σ E1 C fun v F2 H2 d l2 E2 r q2 => k v F2 H2 d (l1.tr l2) E2 r q2
    | false => exact k _ F1 H1 _ l1 E1 (.bl false) q
theorem wd_orV (h : WD K false Γ ta fun d => ∃ b, d = .bool b ∧ if b = true then Q (.bool true) else WD K m Γ tb Q) : WD K m Γ (tOrV ta tb) Q := fun X hK F H σ E C k =>
  h X hK F H σ E _ fun v F1 H1 x l1 E1 r1 ⟨b, e, q⟩ => by
    subst e
    cases r1
    refine ⟨b, rfl, ?_⟩
    cases b with
    | false => exact q X hK F1 H1 σ E1 C fun v F2 H2 d l2 E2 r q2 => k v F2 H2 d (l1.tr l2) E2 r q2
    | true => exact k _ F1 H1 _ l1 E1 (.bl true) q
theorem wd_notV (h : WD K false Γ ta fun d => ∃ b, d = .bool b ∧ Q (.bool (!b))) : WD K m Γ (tNotV ta) Q := fun X hK F H σ E C k =>
  h X hK F H σ E _ fun v F1 H1 x l1 E1 r1 ⟨b, e, q⟩ => by
    subst e
    cases r1
    exact ⟨b, rfl, k _ F1 H1 _ l1 E1 (.bl _) q⟩
theorem wd_if (h : WT K Γ tt fun b => if b = true then WD K m Γ ta Q else WD K m Γ tb Q) : WD K m Γ (tIf tt ta tb) Q := fun X hK F H σ E C k =>
  h X hK F H σ E _ fun b F1 H1 l1 E1 q => by
    cases b with
    | true => exact q X hK F1 H1 σ E1 C fun v F2 H2 d l2 E2 r q2 => k v F2 H2 d (l1.tr l2) E2 r q2
    | false => exact q X hK F1 H1 σ E1 C fun v F2 H2 d l2 E2 r q2 => k v F2 H2 d (l1.tr l2) E2 r q2
theorem wd_chain {tc : TE} {r r' : R2} (h : WD K false Γ ta fun x => WD K false Γ tb fun y => RD K false Γ r x y fun z => ∃ b, z = .bool b ∧ if b = true then WD K false Γ tc fun w => RD K false Γ r' y w fun z => ∃ b, z = .bool b ∧ Q (.bool b) else Q (.bool false)) : WD K m Γ (tChain r r' ta tb tc) Q := fun X hK F H σ E C k =>
  h X hK F H σ E _ fun v F1 H1 x l1 E1 r1 h1 => h1 X hK F1 H1 σ E1 _ fun u F2 H2 y l2 E2 r2 h2 =>
    h2 X hK F2 H2 σ E2 v u (r1.mono l2) r2 _ fun z F3 H3 d l3 E3 r3 ⟨b, e, q⟩ => by
      subst e
      cases r3
      refine ⟨b, rfl, ?_⟩
      cases b with
      | true =>
        exact q X hK F3 H3 σ E3 _ fun w' F4 H4 d4 l4 E4 r4 q4 => q4 X hK F4 H4 σ E4 u w' (r2.mono (l3.tr l4)) r4 C fun z F5 H5 d5 l5 E5 r5 ⟨b, e, q5⟩ => by
          subst e
          cases r5
          exact k _ F5 H5 _ (l1.tr (l2.tr (l3.tr (l4.tr l5)))) E5 (.bl _) q5
      | false => exact k _ F3 H3 _ (l1.tr (l2.tr l3)) E3 (.bl false) q

theorem AgsOk.mono {X : Bs} {F F' : Hp} {σ : L2.St} (l : Le F F') : ∀ {vs : List V} {as : List Ag}, AgsOk X m F σ vs as → AgsOk X m F' σ vs as
  | _, _, .nil => .nil
  | _, _, .cons (a := .d x) h t => .cons (a := .d x) (Bs.mo h l) (AgsOk.mono l t)
  | _, _, .cons (a := .o i) h t => .cons (a := .o i) h (AgsOk.mono l t)
variable {tr : TA} {QA : List Ag → Prop}
theorem wa_nil (q : QA []) : WA K m Γ tNil QA := fun X hK F H σ E C k => k [] F H [] Le.rfl' E .nil q
theorem wa_d (h : WD K m Γ ta fun d => WA K m Γ tr fun as => QA (.d d :: as)) : WA K m Γ (tCons ta tr) QA := fun X hK F H σ E C k =>
  h X hK F H σ E _ fun v F1 H1 x l1 E1 r1 h1 => h1 X hK F1 H1 σ E1 _ fun vs F2 H2 as l2 E2 r2 q => k (v :: vs) F2 H2 _ (l1.tr l2) E2 (.cons (a := .d x) (by subst hK; exact Bs.mo r1 l2) r2) q
theorem wa_o {i : Nat} {v : V} {Φ : Own} (hi : Γ[i]? = some (.ex v Φ)) (h : WA K m Γ tr fun as => QA (.o i :: as)) : WA K m Γ (tCons (tVar i) tr) QA := fun X hK F H σ E C k =>
  ⟨v, E.ex hi, h X hK F H σ E _ fun vs F2 H2 as l2 E2 r2 q => k (v :: vs) F2 H2 _ l2 E2 (.cons (a := .o i) (E2.ex hi) r2) q⟩
/-- all arguments are data -/
def allD : List Ag → Option (List PyData)
  | [] => some []
  | .d x :: r => (allD r).map (x :: ·)
  | .o _ :: _ => none
theorem AgsOk.all {X : Bs} {F : Hp} {σ : L2.St} : ∀ {vs : List V} {as : List Ag} {ds : List PyData}, AgsOk X m F σ vs as → allD as = some ds → RpA X.K (X.ff F m) vs ds
  | _, _, ds, .nil, e => by cases e; exact .nil
  | _, _, ds, .cons (a := .d x) (as := as) h t, e => by
    cases q : allD as with
    | none => rw [allD, q] at e; cases e
    | some es => rw [allD, q] at e; cases e; exact .cons h (AgsOk.all t q)
  | _, _, ds, .cons (a := .o i) h t, e => by cases e
theorem WA.mono {QA' : List Ag → Prop} (h : WA K m Γ tr QA) (k : ∀ as, QA as → QA' as) : WA K m Γ tr QA' := fun X hK F H σ E C c => h X hK F H σ E C fun vs F' H' as l E' r q => c vs F' H' as l E' r (k as q)
theorem wd_tup (h : WA K m Γ tr fun as => ∃ ds, allD as = some ds ∧ ds.length ≤ 100000 ∧ Q (.tuple ds)) : WD K m Γ (tTup tr) Q := fun X hK F H σ E C k =>
  h X hK F H σ E _ fun vs F1 H1 as l1 E1 r1 ⟨ds, e, hz, q⟩ => by
    have rv := r1.all e
    refine ⟨Nat.le_trans (by rw [rv.length]; exact hz) (by decide), fun p hp => ?_⟩
    obtain ⟨a, b, c⟩ := E1.newT hK hp (by rw [← hK]; exact rv)
    exact k (.ref p) _ _ _ (l1.tr a) b c q
theorem wx_lst (m : Bool) (h : WA K m Γ tr fun as => ∃ ds, allD as = some ds ∧ ds.length ≤ 100000 ∧ ∀ l, QX (.ml m l ds)) : WX K Γ (tLst tr) QX := fun X hK F H σ E C k =>
  h X hK F H σ E _ fun vs F1 H1 as l1 E1 r1 ⟨ds, e, hz, q⟩ => by
    have rv := r1.all e
    refine ⟨Nat.le_trans (by rw [rv.length]; exact hz) (by decide), fun p hp => ?_⟩
    exact k (.ref p) _ _ _ l1 (E1.pushM hp rv) (q p)
theorem wd_lst (h : WA K m Γ tr fun as => ∃ ds, allD as = some ds ∧ ds.length ≤ 100000 ∧ Q (.list ds)) : WD K m Γ (tLst tr) Q :=
  .ofX (wx_lst m (h.mono fun as ⟨ds, e, hz, q⟩ => ⟨ds, e, hz, fun _ => ⟨_, toD_ml, q⟩⟩))
theorem wd_cb {r : List V → Hp → VK → Prop} (h : WA K m Γ tr fun as => ∃ ds, allD as = some ds ∧ RC K m Γ r ds Q) : WD K m Γ (tCB r tr) Q := fun X hK F H σ E C k =>
  h X hK F H σ E _ fun vs F1 H1 as l1 E1 r1 ⟨ds, e, q⟩ => q X hK F1 H1 σ E1 vs (by rw [← hK]; exact r1.all e) C fun z F2 H2 d l2 E2 r2 q2 => k z F2 H2 d (l1.tr l2) E2 r2 q2
theorem wx_cb {r : List V → Hp → VK → Prop} (m : Bool) (h : WA K m Γ tr fun as => ∃ ds, allD as = some ds ∧ RCX K m Γ r ds QX) : WX K Γ (tCB r tr) QX := fun X hK F H σ E C k =>
  h X hK F H σ E _ fun vs F1 H1 as l1 E1 r1 ⟨ds, e, q⟩ => q X hK F1 H1 σ E1 vs (by rw [← hK]; exact r1.all e) C fun z F2 H2 d l2 E2 q2 => k z F2 H2 d (l1.tr l2) E2 q2
end
end Pk
end
section
set_option Elab.async false
set_option linter.all false
set_option maxRecDepth 100000
namespace Pk
open PySem PySem.Spec PyProof.Rows L2

/-- a promise over data: T tells of the arguments what is wanted of the result -/
def spG (K : Kw) (T : List Sl → (Sl → Prop) → Prop) : Sp := fun vs H Q _ => ∃ (X : Bs) (F : Hp) (Γ : List Sl) (Qr : Sl → Prop), X.K = K ∧ X.F0 = F ∧ X.H0 = H ∧ (∀ a, X.N a ↔ H a ≠ none) ∧ En X F H (vs.map some) Γ ∧ T Γ Qr ∧
  ∀ F' H' v s, Le F F' → En X F' H' (vs.map some ++ [some v]) (Γ ++ [s]) → Qr s → Q v H'
/-- the arguments of one's own are unlike slots -/
def AgsGood (Γ : List Sl) (as : List Ag) : Prop := (as.filterMap Ag.ix).Nodup ∧ ∀ i ∈ as.filterMap Ag.ix, ∃ v Φ, Γ[i]? = some (.ex v Φ)
theorem ix_mem {as : List Ag} {k i : Nat} (h : as[k]? = some (.o i)) : i ∈ as.filterMap Ag.ix := List.mem_filterMap.mpr ⟨.o i, List.mem_of_getElem? h, rfl⟩
theorem ix_inj : ∀ {as : List Ag} {k k' i : Nat}, (as.filterMap Ag.ix).Nodup → as[k]? = some (.o i) → as[k']? = some (.o i) → k = k'
  | [], k, k', i, _, h, _ => by simp at h
  | a :: as, 0, 0, i, _, _, _ => rfl
  | a :: as, 0, k' + 1, i, nd, h, h' => by
    simp at h h'
    subst h
    simp [Ag.ix] at nd
    exact absurd h' (fun z => nd.1 _ (List.mem_of_getElem? z) rfl)
  | a :: as, k + 1, 0, i, nd, h, h' => by
    simp at h h'
    subst h'
    simp [Ag.ix] at nd
    exact absurd h (fun z => nd.1 _ (List.mem_of_getElem? z) rfl)
  | a :: as, k + 1, k' + 1, i, nd, h, h' => by
    simp at h h'
    have nd' : (as.filterMap Ag.ix).Nodup := by
      cases a with
      | d x => exact nd
      | o j => simp [Ag.ix] at nd; exact nd.2
    rw [ix_inj nd' h h']
theorem AgsOk.len {X : Bs} {m : Bool} {F : Hp} {σ : L2.St} : ∀ {vs : List V} {as : List Ag}, AgsOk X m F σ vs as → vs.length = as.length
  | _, _, .nil => rfl
  | _, _, .cons _ t => by simp [AgsOk.len t]
theorem AgsOk.at {X : Bs} {m : Bool} {F : Hp} {σ : L2.St} : ∀ {vs : List V} {as : List Ag} {k : Nat} {a : Ag}, AgsOk X m F σ vs as → as[k]? = some a → ∃ v, vs[k]? = some v ∧ AgOk X m F σ v a
  | _, _, _, _, .nil, e => by simp at e
  | _, _, 0, _, .cons h _, e => by simp at e; subst e; exact ⟨_, rfl, h⟩
  | _, _, k + 1, a, .cons _ t, e => by
    obtain ⟨v, h1, h2⟩ := AgsOk.at (k := k) (a := a) t (by simpa using e)
    exact ⟨v, by simpa using h1, h2⟩
theorem map_some_getD {vs : List V} {k : Nat} {v : V} (h : vs[k]? = some v) : (vs.map some).getD k none = some v := by
  simp [List.getD_eq_getElem?_getD, h]
/-- THE CALL over data: what the called sees, and how its end is ours -/
theorem call_sp {K : Kw} {Γ : List Sl} {X : Bs} (hK : X.K = K) {F H : Hp} {σ : L2.St} (E : En X F H σ Γ) {vs : List V} {as : List Ag} (ra : AgsOk X false F σ vs as) (hg : AgsGood Γ as) :
    ∃ X1 : Bs, X1.K = K ∧ X1.F0 = F ∧ X1.H0 = H ∧ (∀ a, X1.N a ↔ H a ≠ none) ∧ En X1 F H (vs.map some) (as.map (Ag.sl Γ)) ∧ ∀ F' H' v s, Le F F' → En X1 F' H' (vs.map some ++ [some v]) (as.map (Ag.sl Γ) ++ [s]) → En X F' H' (σ ++ [some v]) (Γ ++ [s]) := by
  subst hK
  obtain ⟨S, hs, hdj, ho⟩ := id E.sl
  obtain ⟨nd, hex⟩ := hg
  have exv : ∀ {k i : Nat}, as[k]? = some (.o i) → ∃ v Φ, Γ[i]? = some (.ex v Φ) ∧ vs[k]? = some v ∧ σ.getD i none = some v ∧ Φ.K = X.K ∧ Φ.p F H v (S i) := fun {k i} h => by
    obtain ⟨v, Φ, hΓ⟩ := hex i (ix_mem h)
    obtain ⟨e, hk, q⟩ := hs i _ hΓ
    obtain ⟨u, hu, hv⟩ := ra.at h
    have e2 : σ[i]? = some (some v) := E.ex hΓ
    have e3 : σ[i]? = some (some u) := hv
    rw [e2] at e3
    cases e3
    exact ⟨v, Φ, hΓ, hu, e, hk, q⟩
  refine ⟨⟨X.K, F, H, fun a => ∃ (k i : Nat), as[k]? = some (.o i) ∧ S i a, fun a => H a ≠ none⟩, rfl, rfl, rfl, fun _ => Iff.rfl, ⟨E.le, by simp [ra.len], ⟨fun k a => ∃ (i : Nat), as[k]? = some (.o i) ∧ S i a, fun k s e => ?_, fun k k' a h1 h2 => ?_, fun k a h1 => ?_⟩, fun a o e _ => ⟨e, rfl⟩, Le.rfl', fun _ h => h⟩, fun F' H' v s lf E' => ?_⟩
  · rw [List.getElem?_map] at e
    cases ha : as[k]? with
    | none => rw [ha] at e; cases e
    | some a =>
      rw [ha] at e
      cases e
      cases a with
      | d x =>
        obtain ⟨u, hu, hv⟩ := ra.at ha
        exact ⟨⟨u, map_some_getD hu, hv⟩, fun a ⟨i, z, _⟩ => by rw [ha] at z; cases z⟩
      | o i =>
        obtain ⟨u, Φ, hΓ, hu, _, hk, q⟩ := exv ha
        have e1 : Ag.sl Γ (.o i) = .ex u Φ := by simp [Ag.sl, List.getD_eq_getElem?_getD, hΓ]
        rw [e1]
        have eS : (fun a => ∃ (j : Nat), as[k]? = some (.o j) ∧ S j a) = S i := by
          funext a
          apply propext
          constructor
          · rintro ⟨j, e, z⟩
            rw [ha] at e
            cases e
            exact z
          · intro z; exact ⟨i, ha, z⟩
        show SlOk _ F H _ (fun a => ∃ (j : Nat), as[k]? = some (.o j) ∧ S j a) _
        rw [eS]
        exact ⟨map_some_getD hu, hk, q⟩
  · obtain ⟨i, e1, s1⟩ := h1
    obtain ⟨j, e2, s2⟩ := h2
    have := hdj i j a s1 s2
    subst this
    exact ix_inj nd e1 e2
  · obtain ⟨i, e1, s1⟩ := h1
    exact ⟨(ho i a s1).1, (ho i a s1).2.1, .inr ⟨k, i, e1, s1⟩⟩
  · -- behind the call
    obtain ⟨S', hs', hdj', ho'⟩ := id E'.sl
    have hlen : (vs.map some).length = (as.map (Ag.sl Γ)).length := by simp [ra.len]
    have notP : ∀ j a, S j a → (∀ (k : Nat), as[k]? ≠ some (.o j)) → ¬ ∃ (k i : Nat), as[k]? = some (.o i) ∧ S i a := fun j a sj hn ⟨k, i, e, si⟩ => by
      have := hdj i j a si sj
      subst this
      exact hn k e
    have keepP : ∀ j a, S j a → (∀ (k : Nat), as[k]? ≠ some (.o j)) → H' a = H a ∧ F' a = F a := fun j a sj hn => by
      obtain ⟨_, h1, _⟩ := ho j a sj
      cases z : H a with
      | none => exact absurd z h1
      | some o => exact E'.fr a o z (notP j a sj hn)
    have disP : ∀ k j a, S' k a → S j a → (∀ (k : Nat), as[k]? ≠ some (.o j)) → False := fun k j a h1 sj hn => by
      rcases (ho' k a h1).2.2 with w | w
      · exact (ho j a sj).2.1 w
      · exact notP j a sj hn w
    have ownX : ∀ k a, S' k a → X.own a := fun k a h1 => by
      rcases (ho' k a h1).2.2 with w | ⟨k', i, _, w⟩
      · exact E.ownN w
      · exact (ho i a w).2.2
    have kl : ∀ {k i : Nat}, as[k]? = some (.o i) → k < as.length := fun h => (List.getElem?_eq_some_iff.mp h).1
    refine ⟨E'.le, by simp [E.len], ⟨fun j a => (j < Γ.length ∧ ((∃ (k : Nat), as[k]? = some (.o j) ∧ S' k a) ∨ ((∀ (k : Nat), as[k]? ≠ some (.o j)) ∧ S j a))) ∨ (j = Γ.length ∧ S' as.length a), fun j u e => ?_, fun j j' a h1 h2 => ?_, fun j a h1 => ?_⟩, fun a o e n => ?_, E.f0.tr lf, fun a n => E'.nn a (E.nn a n)⟩
    · have hj : j < (Γ ++ [s]).length := (List.getElem?_eq_some_iff.mp e).1
      simp only [List.length_append, List.length_cons, List.length_nil] at hj
      by_cases hlt : j < Γ.length
      · rw [List.getElem?_append_left hlt] at e
        rw [getD_app (by rw [E.len]; exact hlt)]
        by_cases hp : ∃ (k : Nat), as[k]? = some (.o j)
        · obtain ⟨k, hk⟩ := hp
          obtain ⟨u0, Φ, hΓ, hu, e0, hkk, _⟩ := exv hk
          rw [hΓ] at e
          cases e
          have eS : (fun a => (j < Γ.length ∧ ((∃ (k : Nat), as[k]? = some (.o j) ∧ S' k a) ∨ ((∀ (k : Nat), as[k]? ≠ some (.o j)) ∧ S j a))) ∨ (j = Γ.length ∧ S' as.length a)) = S' k := by
            funext a
            apply propext
            constructor
            · rintro (⟨_, ⟨k', e', z⟩ | ⟨z, _⟩⟩ | ⟨z, _⟩)
              · rw [ix_inj nd hk e']; exact z
              · exact absurd hk (z k)
              · omega
            · intro z; exact .inl ⟨hlt, .inl ⟨k, hk, z⟩⟩
          show SlOk X F' H' _ (fun a => (j < Γ.length ∧ ((∃ (k : Nat), as[k]? = some (.o j) ∧ S' k a) ∨ ((∀ (k : Nat), as[k]? ≠ some (.o j)) ∧ S j a))) ∨ (j = Γ.length ∧ S' as.length a)) _
          rw [eS]
          have hk' : k < as.length := kl hk
          have q1 := hs' k (.ex u0 Φ) (by
            rw [List.getElem?_append_left (by simpa using hk'), List.getElem?_map, hk]
            simp [Ag.sl, List.getD_eq_getElem?_getD, hΓ])
          exact ⟨e0, hkk, q1.2.2⟩
        · have hn : ∀ (k : Nat), as[k]? ≠ some (.o j) := fun k z => hp ⟨k, z⟩
          have eS : (fun a => (j < Γ.length ∧ ((∃ (k : Nat), as[k]? = some (.o j) ∧ S' k a) ∨ ((∀ (k : Nat), as[k]? ≠ some (.o j)) ∧ S j a))) ∨ (j = Γ.length ∧ S' as.length a)) = S j := by
            funext a
            apply propext
            constructor
            · rintro (⟨_, ⟨k', e', z⟩ | ⟨_, z⟩⟩ | ⟨z, _⟩)
              · exact absurd e' (hn k')
              · exact z
              · omega
            · intro z; exact .inl ⟨hlt, .inr ⟨hn, z⟩⟩
          show SlOk X F' H' _ (fun a => (j < Γ.length ∧ ((∃ (k : Nat), as[k]? = some (.o j) ∧ S' k a) ∨ ((∀ (k : Nat), as[k]? ≠ some (.o j)) ∧ S j a))) ∨ (j = Γ.length ∧ S' as.length a)) _
          rw [eS]
          exact (hs j u e).mono lf fun a sa => (keepP j a sa hn).1
      · have hje : j = Γ.length := by omega
        subst hje
        simp at e
        subst e
        have eS : (fun a => (Γ.length < Γ.length ∧ ((∃ (k : Nat), as[k]? = some (.o Γ.length) ∧ S' k a) ∨ ((∀ (k : Nat), as[k]? ≠ some (.o Γ.length)) ∧ S Γ.length a))) ∨ (Γ.length = Γ.length ∧ S' as.length a)) = S' as.length := by
          funext a
          apply propext
          constructor
          · rintro (⟨z, _⟩ | ⟨_, z⟩)
            · omega
            · exact z
          · intro z; exact .inr ⟨rfl, z⟩
        show SlOk X F' H' _ (fun a => (Γ.length < Γ.length ∧ ((∃ (k : Nat), as[k]? = some (.o Γ.length) ∧ S' k a) ∨ ((∀ (k : Nat), as[k]? ≠ some (.o Γ.length)) ∧ S Γ.length a))) ∨ (Γ.length = Γ.length ∧ S' as.length a)) _
        rw [eS, ← E.len, getD_last]
        have q1 := hs' as.length s (by
          have : as.length = (as.map (Ag.sl Γ)).length := by simp
          rw [this]
          simp)
        have e4 : (vs.map some ++ [some v]).getD as.length none = some v := by
          have : as.length = (vs.map some).length := by simp [ra.len]
          rw [this, getD_last]
        rw [e4] at q1
        refine SlOk.to ?_ ?_ q1
        · rfl
        · exact fun a n => E.nn a n
    · rcases h1 with ⟨a1, ⟨k1, e1, z1⟩ | ⟨n1, z1⟩⟩ | ⟨a1, z1⟩ <;> rcases h2 with ⟨a2, ⟨k2, e2, z2⟩ | ⟨n2, z2⟩⟩ | ⟨a2, z2⟩
      · have := hdj' k1 k2 a z1 z2
        subst this
        rw [e1] at e2
        cases e2
        rfl
      · exact (disP k1 j' a z1 z2 n2).elim
      · have := hdj' k1 as.length a z1 z2
        have := kl e1
        omega
      · exact (disP k2 j a z2 z1 n1).elim
      · exact hdj j j' a z1 z2
      · exact (disP _ j a z2 z1 n1).elim
      · have := hdj' k2 as.length a z2 z1
        have := kl e2
        omega
      · exact (disP _ j' a z1 z2 n2).elim
      · omega
    · rcases h1 with ⟨a1, ⟨k1, e1, z1⟩ | ⟨n1, z1⟩⟩ | ⟨a1, z1⟩
      · exact ⟨(ho' k1 a z1).1, (ho' k1 a z1).2.1, ownX k1 a z1⟩
      · obtain ⟨q1, q2⟩ := keepP j a z1 n1
        exact ⟨q2.trans (ho j a z1).1, by rw [q1]; exact (ho j a z1).2.1, (ho j a z1).2.2⟩
      · exact ⟨(ho' _ a z1).1, (ho' _ a z1).2.1, ownX _ a z1⟩
    · obtain ⟨q1, q2⟩ := E.fr a o e n
      have nS : ¬ ∃ (k i : Nat), as[k]? = some (.o i) ∧ S i a := fun ⟨k, i, _, si⟩ => by
        rcases (ho i a si).2.2 with w | w
        · rw [w] at e; cases e
        · exact n w
      obtain ⟨r1, r2⟩ := E'.fr a o q1 nS
      exact ⟨r1, r2.trans q2⟩
theorem call_g {K : Kw} {Γ : List Sl} {T : List Sl → (Sl → Prop) → Prop} {X : Bs} (hK : X.K = K) {F H : Hp} {σ : L2.St} (E : En X F H σ Γ) {vs : List V} {as : List Ag} (ra : AgsOk X false F σ vs as) (hg : AgsGood Γ as) {Qr : Sl → Prop} (hT : T (as.map (Ag.sl Γ)) Qr) {C : VK} {EE : XK}
    (k : ∀ v F' H' s, Le F F' → En X F' H' (σ ++ [some v]) (Γ ++ [s]) → Qr s → C v H') : spG K T vs H C EE := by
  obtain ⟨X1, a, b, c, d, e, f⟩ := call_sp hK E ra hg
  exact ⟨X1, F, _, Qr, a, b, c, d, e, hT, fun F' H' v s lf E' q => k v F' H' s lf (f F' H' v s lf E') q⟩
section
variable {K : Kw} {Γ : List Sl} {T : List Sl → (Sl → Prop) → Prop} {EE : XK} {tr : TA}
theorem wx_call {QX : Sl → Prop} (h : WA K false Γ tr fun as => AgsGood Γ as ∧ T (as.map (Ag.sl Γ)) QX) : WX K Γ (tCall (spG K T) [] EE tr) QX := fun X hK F H σ E C k =>
  h X hK F H σ E _ fun vs F1 H1 as l1 E1 r1 ⟨hg, hT⟩ => by
    rw [List.append_nil]
    exact call_g hK E1 r1 hg hT fun v F' H' s lf E' q => k v F' H' s (l1.tr lf) E' q
/-- arguments that are data alone -/
theorem agsGood_d {as : List Ag} {ds : List PyData} (h : allD as = some ds) : AgsGood Γ as := by
  have e : as.filterMap Ag.ix = [] := by
    induction as generalizing ds with
    | nil => rfl
    | cons a as ih =>
      cases a with
      | o i => cases h
      | d x =>
        cases q : allD as with
        | none => rw [allD, q] at h; cases h
        | some es => simpa [Ag.ix] using ih q
  exact ⟨by rw [e]; exact List.nodup_nil, fun i hi => by rw [e] at hi; cases hi⟩
theorem agsGood_1 {i : Nat} {v : V} {Φ : Own} {as : List Ag} {ds : List PyData} (hi : Γ[i]? = some (.ex v Φ)) (h : allD as = some ds) : AgsGood Γ (.o i :: as) := by
  have e : as.filterMap Ag.ix = [] := by
    induction as generalizing ds with
    | nil => rfl
    | cons a as ih =>
      cases a with
      | o i => cases h
      | d x =>
        cases q : allD as with
        | none => rw [allD, q] at h; cases h
        | some es => simpa [Ag.ix] using ih q
  have e' : (Ag.o i :: as).filterMap Ag.ix = [i] := by simp [Ag.ix, e]
  refine ⟨by rw [e']; simp, fun j hj => ?_⟩
  rw [e'] at hj
  simp at hj
  subst hj
  exact ⟨v, Φ, hi⟩
end

/-- the fields of an exception; where they stand -/
abbrev Fs := List (Str × V)
def FsAt (F : Hp) : Option Fs → Option Addr → Prop
  | none, d => d = none
  | some fs, d => ∃ a, d = some a ∧ F a = some (.xd fs)
structure Po where
  nx : List Sl → Prop
  rt : Sl → List Sl → Prop
  bk : List Sl → Prop := fun _ => False
  ct : List Sl → Prop := fun _ => False
  /-- what an exception is let out to, and what is told of it -/
  W : Value → Option Addr → L2.St → Hp → Prop := fun _ _ _ _ => False
  ex : Value → Option Fs → List Sl → Prop := fun _ _ _ => False
structure Meets (X : Bs) (P : Po) (D : Ends) : Prop where
  nx : ∀ F H σ Γ, En X F H σ Γ → P.nx Γ → D.nx σ H
  rt : ∀ F H σ Γ v s, En X F H (σ ++ [some v]) (Γ ++ [s]) → P.rt s Γ → D.rt v H
  bk : ∀ F H σ Γ, En X F H σ Γ → P.bk Γ → D.bk σ H
  ct : ∀ F H σ Γ, En X F H σ Γ → P.ct Γ → D.ct σ H
  xc : ∀ F H σ Γ cls o d, En X F H σ Γ → FsAt F o d → P.ex cls o Γ → P.W cls d σ H
def SJ (K : Kw) (Γ : List Sl) (ts : TS) (P : Po) : Prop := ∀ X : Bs, X.K = K → ∀ F H σ, En X F H σ Γ → ∀ D : Ends, Meets X P D → ts D σ H

/-- the def's own base, not a loop's -/
def Bs.Top (X : Bs) : Prop := (∀ a, X.N a ↔ X.H0 a ≠ none) ∧ Le X.F0 X.H0
/-- .. at the def's own level -/
def SJt (K : Kw) (Γ : List Sl) (ts : TS) (P : Po) : Prop := ∀ X : Bs, X.K = K → X.Top → ∀ F H σ, En X F H σ Γ → ∀ D : Ends, Meets X P D → ts D σ H
theorem SJ.t {K : Kw} {Γ : List Sl} {ts : TS} {P : Po} (h : SJ K Γ ts P) : SJt K Γ ts P := fun X hK _ F H σ E D hD => h X hK F H σ E D hD
theorem sjt_seq {K : Kw} {Γ : List Sl} {t u : TS} {P : Po} (h : SJt K Γ t { P with nx := fun Γ' => SJt K Γ' u P }) : SJt K Γ (tSeq t u) P := fun X hK hT F H σ E D hD =>
  h X hK hT F H σ E _ ⟨fun F' H' σ' Γ' E' q => q X hK hT F' H' σ' E' D hD, hD.rt, hD.bk, hD.ct, hD.xc⟩
theorem sjt_cut {K : Kw} {Γ : List Sl} {t u : TS} {P : Po} (M : List Sl → Prop) (h : SJt K Γ t { P with nx := M }) (k : ∀ Γ', M Γ' → SJt K Γ' u P) : SJt K Γ (tSeq t u) P := fun X hK hT F H σ E D hD =>
  h X hK hT F H σ E _ ⟨fun F' H' σ' Γ' E' q => k Γ' q X hK hT F' H' σ' E' D hD, hD.rt, hD.bk, hD.ct, hD.xc⟩
/-- what the def keeps of the arguments of others -/
def Keep (Γ Γ' : List Sl) : Prop := ∀ (i : Nat) (v : V) (Φ : Own), Γ[i]? = some (.ex v Φ) → Γ'[i]? = some (.ex v Φ)
theorem keep_nil {Γ' : List Sl} : Keep [] Γ' := fun i v Φ h => by simp at h
theorem keep_ex {v : V} {Φ : Own} {Γ Γ' : List Sl} (h : Keep Γ Γ') : Keep (.ex v Φ :: Γ) (.ex v Φ :: Γ') := fun i u Ψ e => by
  cases i with
  | zero => simpa using e
  | succ i => simp at e ⊢; exact h i u Ψ e
theorem keep_dat {m : Bool} {d : PyData} {s : Sl} {Γ Γ' : List Sl} (h : Keep Γ Γ') : Keep (.dat m d :: Γ) (s :: Γ') := fun i u Ψ e => by
  cases i with
  | zero => simp at e
  | succ i => simp at e ⊢; exact h i u Ψ e
/-- no lists of one's own among arguments -/
def NoMl (Γ : List Sl) : Prop := ∀ (i : Nat) (m : Bool) (l : Addr) (ds : List PyData), Γ[i]? ≠ some (.ml m l ds)
theorem noMl_nil : NoMl [] := fun i m l ds h => by simp at h
theorem noMl_dat {m : Bool} {d : PyData} {Γ : List Sl} (h : NoMl Γ) : NoMl (.dat m d :: Γ) := fun i m l ds e => by
  cases i with
  | zero => simp at e
  | succ i => simp at e; exact h i m l ds e
theorem noMl_ex {v : V} {Φ : Own} {Γ : List Sl} (h : NoMl Γ) : NoMl (.ex v Φ :: Γ) := fun i m l ds e => by
  cases i with
  | zero => simp at e
  | succ i => simp at e; exact h i m l ds e
theorem En.pad {X : Bs} {F H : Hp} {σ : L2.St} {Γ : List Sl} (E : En X F H σ Γ) (n : Nat) : En X F H (σ ++ List.replicate n none) (Γ ++ List.replicate n .no) := by
  induction n with
  | zero => simpa using E
  | succ n ih =>
    rw [List.replicate_succ', List.replicate_succ', ← List.append_assoc, ← List.append_assoc]
    exact ih.pushG (T := fun _ => False) Le.rfl' E.le (fun _ _ q => q) (fun _ _ _ => rfl) (fun _ z => z) (fun _ z => z.elim)
/-- the arguments as they stand at the end -/
theorem En.back {X : Bs} {F H F' H' : Hp} {σ' : L2.St} {Γ Γ' : List Sl} {vs : List V} {ov : Option V} {s : Sl} (E0 : En X F H (vs.map some) Γ) (hF : X.F0 = F) (nm : NoMl Γ) (kp : Keep Γ Γ') (E : En X F' H' (σ' ++ [ov]) (Γ' ++ [s])) : En X F' H' (vs.map some ++ [ov]) (Γ ++ [s]) := by
  have lf : Le F F' := by rw [← hF]; exact E.f0
  have hl : σ'.length = Γ'.length := by
    have := E.len
    simp at this
    exact this
  obtain ⟨S0, hs0, _, _⟩ := id E0.sl
  obtain ⟨S, hs, hdj, ho⟩ := id E.sl
  refine ⟨E.le, by simp [← E0.len], ⟨fun i a => (i < Γ.length ∧ (∃ v Φ, Γ[i]? = some (.ex v Φ)) ∧ S i a) ∨ (i = Γ.length ∧ S Γ'.length a), fun i u e => ?_, fun i j a h1 h2 => ?_, fun i a h1 => ?_⟩, E.fr, E.f0, E.nn⟩
  · have hi : i < (Γ ++ [s]).length := (List.getElem?_eq_some_iff.mp e).1
    simp only [List.length_append, List.length_cons, List.length_nil] at hi
    by_cases hlt : i < Γ.length
    · rw [List.getElem?_append_left hlt] at e
      rw [getD_app (by rw [E0.len]; exact hlt)]
      cases u with
      | no =>
        intro a z
        rcases z with ⟨_, ⟨v, Φ, z⟩, _⟩ | ⟨z, _⟩
        · rw [e] at z; cases z
        · omega
      | dat m d =>
        obtain ⟨⟨v, ev, r⟩, _⟩ := hs0 i _ e
        refine ⟨⟨v, ev, Bs.mo r lf⟩, fun a z => ?_⟩
        rcases z with ⟨_, ⟨v, Φ, z⟩, _⟩ | ⟨z, _⟩
        · rw [e] at z; cases z
        · omega
      | ml m l ds => exact absurd e (nm i m l ds)
      | ex v Φ =>
        have e' := kp i v Φ e
        have hi' : i < Γ'.length := (List.getElem?_eq_some_iff.mp e').1
        have q := hs i _ (by rw [List.getElem?_append_left hi']; exact e')
        obtain ⟨ev, hk, _⟩ := hs0 i _ e
        have eS : (fun a => (i < Γ.length ∧ (∃ v Φ, Γ[i]? = some (.ex v Φ)) ∧ S i a) ∨ (i = Γ.length ∧ S Γ'.length a)) = S i := by
          funext a
          apply propext
          constructor
          · rintro (⟨_, _, z⟩ | ⟨z, _⟩)
            · exact z
            · omega
          · intro z; exact .inl ⟨hlt, ⟨v, Φ, e⟩, z⟩
        show SlOk X F' H' _ (fun a => (i < Γ.length ∧ (∃ v Φ, Γ[i]? = some (.ex v Φ)) ∧ S i a) ∨ (i = Γ.length ∧ S Γ'.length a)) _
        rw [eS]
        exact ⟨ev, hk, q.2.2⟩
    · have hie : i = Γ.length := by omega
      subst hie
      simp at e
      subst e
      have eS : (fun a => (Γ.length < Γ.length ∧ (∃ v Φ, Γ[Γ.length]? = some (.ex v Φ)) ∧ S Γ.length a) ∨ (Γ.length = Γ.length ∧ S Γ'.length a)) = S Γ'.length := by
        funext a
        apply propext
        constructor
        · rintro (⟨z, _⟩ | ⟨_, z⟩)
          · omega
          · exact z
        · intro z; exact .inr ⟨rfl, z⟩
      show SlOk X F' H' _ (fun a => (Γ.length < Γ.length ∧ (∃ v Φ, Γ[Γ.length]? = some (.ex v Φ)) ∧ S Γ.length a) ∨ (Γ.length = Γ.length ∧ S Γ'.length a)) _
      rw [eS, ← E0.len, getD_last]
      have q := hs Γ'.length s (by simp)
      rw [← hl, getD_last, hl] at q
      exact q
  · have le : ∀ {i : Nat}, (∃ v Φ, Γ[i]? = some (Sl.ex v Φ)) → i < Γ'.length := fun {i} ⟨v, Φ, z⟩ => (List.getElem?_eq_some_iff.mp (kp i v Φ z)).1
    rcases h1 with ⟨a1, b1, c1⟩ | ⟨a1, c1⟩ <;> rcases h2 with ⟨a2, b2, c2⟩ | ⟨a2, c2⟩
    · exact hdj i j a c1 c2
    · have := hdj _ _ a c1 c2
      have := le b1
      omega
    · have := hdj _ _ a c1 c2
      have := le b2
      omega
    · omega
  · rcases h1 with ⟨a1, b1, c1⟩ | ⟨a1, c1⟩
    · exact ho i a c1
    · exact ho _ a c1
/-- what is wanted of a def's body -/
def retP (Γ : List Sl) (Qr : Sl → Prop) : Po := { nx := fun Γ' => Keep Γ Γ' ∧ Qr (.dat true .none), rt := fun s Γ' => Keep Γ Γ' ∧ Qr s }
section
variable {P : Program} {K : Kw} {mg : Str → Option Value} {base : Heap}
/-- a body keeps its promise -/
theorem body_g {N : List Str} {T : List Sl → (Sl → Prop) → Prop} {vs : List V} {H : Hp} {Q : VK} {E : XK} {t : TS} (h : spG K T vs H Q E) (hn : ∀ Γ Qr, T Γ Qr → NoMl Γ) (hj : ∀ Γ Qr, T Γ Qr → SJt K (Γ ++ List.replicate (N.length - Γ.length) .no) t (retP Γ Qr)) : t { nx := fun _ H' => Q .non H', rt := Q } (L2.start N vs) H := by
  obtain ⟨X, F, Γ, Qr, hK, hF, hH, hNN, E0, hT, k⟩ := h
  have hl : vs.length = Γ.length := by simpa using E0.len
  have Ep := E0.pad (N.length - Γ.length)
  have es : L2.start N vs = vs.map some ++ List.replicate (N.length - Γ.length) none := by rw [L2.start, hl]
  rw [es]
  refine hj Γ Qr hT X hK ⟨fun a => by rw [hH]; exact hNN a, by rw [hF, hH]; exact E0.le⟩ F H _ Ep _ ⟨fun F' H' σ' Γ' E' ⟨kp, q⟩ => ?_, fun F' H' σ' Γ' v s E' ⟨kp, q⟩ => ?_, fun _ _ _ _ _ z => z, fun _ _ _ _ _ z => z, fun _ _ _ _ _ _ _ _ _ z => z⟩
  · exact k F' H' .non (.dat true .none) (by rw [← hF]; exact E'.f0) (E0.back hF (hn Γ Qr hT) kp (E'.pushD .non)) q
  · exact k F' H' v s (by rw [← hF]; exact E'.drop.f0) (E0.back hF (hn Γ Qr hT) kp E') q
theorem len_g {T : List Sl → (Sl → Prop) → Prop} {n : Nat} (hl : ∀ Γ Qr, T Γ Qr → Γ.length = n) : ∀ vs H Q E, spG K T vs H Q E → vs.length = n := fun vs H Q E h => by
  obtain ⟨X, F, Γ, Qr, hK, hF, hH, hNN, E0, hT, k⟩ := h
  have := E0.len
  rw [List.length_map] at this
  rw [this]
  exact hl Γ Qr hT
/-- a def that calls what it calls, as others call it -/
structure Cal (P : Program) (w : World) (K : PySem.W.Frag) (mg : Str → Option Value) (base : Heap) (CX : CXT) (k : Nat) (x : Str) (ps : List Str) (sp : Sp) : Prop where
  ex : ∃ f fd, mg x = some (.ref f) ∧ PySem.W.keepIn K (.ref f) = true ∧ Binds K fd ps [] ∧ FnOk P w K mg base CX k f fd ps sp
/-- where a def stands, and how it is called -/
structure Def (K : PySem.W.Frag) (mg : Str → Option Value) (x : Str) (st : Stmt) (ps : List Str) : Prop where
  ex : ∃ f fd, mg x = some (.ref f) ∧ Fun K x x st f fd ∧ Binds K fd ps []
theorem Cal.mono {CX : CXT} {j k : Nat} {x : Str} {ps : List Str} {sp : Sp} (c : Cal P K.w K mg base CX j x ps sp) (h : j ≤ k) : Cal P K.w K mg base CX k x ps sp :=
  let ⟨f, fd, a, b, d, e⟩ := c.ex
  ⟨f, fd, a, b, d, e.mono h⟩
theorem Cal.imp {CX : CXT} {k : Nat} {x : Str} {ps : List Str} {sp sp' : Sp} (c : Cal P K.w K mg base CX k x ps sp) (h : ∀ vs H Q E, sp' vs H Q E → sp vs H Q E) : Cal P K.w K mg base CX k x ps sp' :=
  let ⟨f, fd, a, b, d, e⟩ := c.ex
  ⟨f, fd, a, b, d, e.imp h⟩
/-- THE RULE for a def over data that raises nothing -/
theorem cal_g {x : Str} {st : Stmt} {N ps : List Str} {k : Nat} {T : List Sl → (Sl → Prop) → Prop} (D : Def K mg x st ps) (S : FnScope N ps (defScope st)) (hT : ∀ Γ Qr, T Γ Qr → Γ.length = ps.length ∧ NoMl Γ)
    (hb : ∀ (f : Addr) (cdv : Value) (A : Around) (outer : List Env) (s : Shared) (H : Hp) (E : XK), Room k (A.deeper (envOfC x (defScope st) s.heap.objs.size f cdv)) →
      ∃ t, PSs (cxOf CX0 P K.w K mg base N x (defScope st) f cdv A outer s H E).nox (defBody st) t ∧ ∀ Γ Qr, T Γ Qr → SJ K (Γ ++ List.replicate (N.length - Γ.length) .no) t (retP Γ Qr)) : Cal P K.w K mg base CX0 (k + 1) x ps (spG K T) := by
  obtain ⟨f, fd, a, F, b⟩ := D.ex
  refine ⟨f, fd, a, F.kp, b, F.ok S (len_g fun Γ Qr h => (hT Γ Qr h).1) fun cdv A outer s H vs Q E hr h => ?_⟩
  obtain ⟨t, ht, hj⟩ := hb f cdv A outer s H E hr
  exact ⟨t, ht, body_g h (fun Γ Qr z => (hT Γ Qr z).2) fun Γ Qr z => (hj Γ Qr z).t⟩
/-- .. whose body is told at its own level -/
theorem cal_t {x : Str} {st : Stmt} {N ps : List Str} {k : Nat} {T : List Sl → (Sl → Prop) → Prop} (D : Def K mg x st ps) (S : FnScope N ps (defScope st)) (hT : ∀ Γ Qr, T Γ Qr → Γ.length = ps.length ∧ NoMl Γ)
    (hb : ∀ (f : Addr) (cdv : Value) (A : Around) (outer : List Env) (s : Shared) (H : Hp) (E : XK), Room k (A.deeper (envOfC x (defScope st) s.heap.objs.size f cdv)) →
      ∃ t, PSs (cxOf CX0 P K.w K mg base N x (defScope st) f cdv A outer s H E).nox (defBody st) t ∧ ∀ Γ Qr, T Γ Qr → SJt K (Γ ++ List.replicate (N.length - Γ.length) .no) t (retP Γ Qr)) : Cal P K.w K mg base CX0 (k + 1) x ps (spG K T) := by
  obtain ⟨f, fd, a, F, b⟩ := D.ex
  refine ⟨f, fd, a, F.kp, b, F.ok S (len_g fun Γ Qr h => (hT Γ Qr h).1) fun cdv A outer s H vs Q E hr h => ?_⟩
  obtain ⟨t, ht, hj⟩ := hb f cdv A outer s H E hr
  exact ⟨t, ht, body_g h (fun Γ Qr z => (hT Γ Qr z).2) hj⟩
/-- a def of which nothing is asked -/
theorem cal_no {x : Str} {st : Stmt} {ps : List Str} {k : Nat} (D : Def K mg x st ps) : Cal P K.w K mg base CX0 k x ps (fun _ _ _ _ => False) := by
  obtain ⟨f, fd, a, F, b⟩ := D.ex
  exact ⟨f, fd, a, F.kp, b, ⟨fun _ _ _ _ h => h.elim, fun _ _ _ _ _ _ _ _ _ _ _ _ _ h => h.elim⟩⟩
end
section
variable {X : Cx} {k : Nat} {x : Str} {ps : List Str} {sp : Sp} {p pos : Pos} {e : Expr} {es : List Expr} {t : TA}
/-- f(e, ..) -/
theorem pe_c (c : Cal X.prog X.w X.K X.mg X.base CX0 k x ps sp) (hr : Room k X.A) (hg : Gl X x) (ha : PA X (e :: es) t) (hdb : (x == ("__debug__" : Str)) = false := by decide) (he : starEach (e :: es) X.env = (false, eval e X.env) :: starEach es X.env := by rfl) (hpl : ((backTo pos (starEach es X.env)).any fun x => x.fst) = false := by rfl) : PE X (.Call (.Name x p) (e :: es) [] pos) (tCall sp [] E0 t) := by
  obtain ⟨f, fd, a, b, d, F⟩ := c.ex
  exact pe_call F hr hg a b d .nil pass0 ha hdb he hpl
end
end Pk
end
section
set_option Elab.async false
set_option linter.all false
set_option maxRecDepth 100000
namespace Pk
open PySem PySem.Spec PyProof.Rows L2

section
variable {X : Bs} {F H : Hp} {σ : L2.St} {Γ : List Sl}
/-- a list of one's own changes -/
theorem En.mut (E : En X F H σ Γ) {i : Nat} {m : Bool} {l : Addr} {ds es : List PyData} {ys : List V} (hi : Γ[i]? = some (.ml m l ds)) (r : RpA X.K (X.ff F m) ys es) : En X F (upd H l (.lst ys)) σ (Γ.set i (.ml m l es)) := by
  obtain ⟨S, hs, hdj, ho⟩ := id E.sl
  have hil : i < Γ.length := (List.getElem?_eq_some_iff.mp hi).1
  obtain ⟨xs, e, hS, hl, _, nl⟩ := hs i _ hi
  have sl : S i l := (hS l).mpr rfl
  refine ⟨E.le.new (ho i l sl).1, by simp [E.len], ⟨S, fun j u q => ?_, hdj, fun j a sa => ⟨(ho j a sa).1, ?_, (ho j a sa).2.2⟩⟩, fun a o q n => ?_, E.f0, fun a n => ?_⟩
  · by_cases hj : j = i
    · subst hj
      rw [List.getElem?_set_self hil] at q
      cases q
      exact ⟨ys, e, hS, upd_same, r, nl⟩
    · rw [List.getElem?_set_ne (Ne.symm hj)] at q
      exact (hs j u q).mono Le.rfl' fun a sa => upd_ne fun z => hj (by subst z; exact hdj j i a sa sl)
  · by_cases z : a = l
    · subst z; rw [upd_same]; simp
    · rw [upd_ne z]; exact (ho j a sa).2.1
  · obtain ⟨q1, q2⟩ := E.fr a o q n
    refine ⟨?_, q2⟩
    rw [upd_ne]
    · exact q1
    · intro z
      subst z
      rcases (ho i a sl).2.2 with w | w
      · rw [w] at q; cases q
      · exact n w
  · by_cases z : a = l
    · subst z; rw [upd_same]; simp
    · rw [upd_ne z]; exact E.nn a n
def wipeG (Γ : List Sl) : List Nat → List Sl
  | [] => Γ
  | v :: vs => (wipeG Γ vs).set v .no
theorem wipeG_length (Γ : List Sl) : ∀ vs : List Nat, (wipeG Γ vs).length = Γ.length
  | [] => rfl
  | v :: vs => by simp [wipeG, wipeG_length Γ vs]
theorem wipeG_out {i : Nat} : ∀ {vs : List Nat}, i ∉ vs → (wipeG Γ vs)[i]? = Γ[i]?
  | [], _ => rfl
  | v :: vs, h => by
    rw [wipeG, List.getElem?_set_ne (by intro z; subst z; exact h List.mem_cons_self)]
    exact wipeG_out fun z => h (List.mem_cons_of_mem _ z)
theorem wipeG_in {i : Nat} (hl : i < Γ.length) : ∀ {vs : List Nat}, i ∈ vs → (wipeG Γ vs)[i]? = some .no
  | [], h => by cases h
  | v :: vs, h => by
    rw [wipeG]
    by_cases z : v = i
    · subst z
      rw [List.getElem?_set_self (by rw [wipeG_length]; exact hl)]
    · rw [List.getElem?_set_ne z]
      rcases List.mem_cons.mp h with w | w
      · exact absurd w.symm z
      · exact wipeG_in hl w
theorem En.set_no (E : En X F H σ Γ) (i : Nat) (ov : Option V) : En X F H (σ.set i ov) (Γ.set i .no) := by
  have h := E.pushG (ov := ov) (s := .no) (T := fun _ => False) Le.rfl' E.le (fun _ _ q => q) (fun _ _ _ => rfl) (fun _ z => z) (fun _ z => z.elim)
  exact h.put i
theorem En.wipe (E : En X F H σ Γ) : ∀ vs : List Nat, En X F H (L2.wipe σ vs) (wipeG Γ vs)
  | [] => E
  | v :: vs => (En.wipe E vs).set_no v none
/-- slots that a comprehension may use as its own -/
def wipeOk (Γ : List Sl) (vs : List Nat) : Prop := ∀ i ∈ vs, ∀ s, Γ[i]? = some s → s = .no ∨ ∃ m d, s = .dat m d
theorem wipeOk_nil : wipeOk Γ [] := fun _ h => by cases h
theorem wipeOk_no {i : Nat} {vs : List Nat} (h : Γ[i]? = some .no) (r : wipeOk Γ vs) : wipeOk Γ (i :: vs) := fun j hj s e => by
  rcases List.mem_cons.mp hj with z | z
  · subst z; rw [h] at e; cases e; exact .inl rfl
  · exact r j z s e
theorem En.unwipe {X0 : Bs} {F0 H0 : Hp} {ov : Option V} {s : Sl} {vs : List Nat} (E0 : En X0 F0 H0 σ Γ) (hK : X0.K = X.K) (hN : X0.N = X.N) (lf : Le F0 F) (hv : wipeOk Γ vs) (E : En X F H (L2.wipe σ vs ++ [ov]) (wipeG Γ vs ++ [s])) : En X F H (σ ++ [ov]) (Γ ++ [s]) := by
  obtain ⟨S0, hs0, _, _⟩ := id E0.sl
  obtain ⟨S, hs, hdj, ho⟩ := id E.sl
  have hl : σ.length = Γ.length := E0.len
  refine ⟨E.le, by simp [hl], ⟨S, fun i u e => ?_, hdj, ho⟩, E.fr, E.f0, E.nn⟩
  have hi : i < (Γ ++ [s]).length := (List.getElem?_eq_some_iff.mp e).1
  simp only [List.length_append, List.length_cons, List.length_nil] at hi
  by_cases hlt : i < Γ.length
  · rw [List.getElem?_append_left hlt] at e
    rw [getD_app (by rw [hl]; exact hlt)]
    by_cases hin : i ∈ vs
    · have q := hs i .no (by rw [List.getElem?_append_left (by rw [wipeG_length]; exact hlt)]; exact wipeG_in hlt hin)
      rcases hv i hin u e with z | ⟨m, d, z⟩
      · subst z; exact q
      · subst z
        obtain ⟨⟨v, ev, r⟩, _⟩ := hs0 i _ e
        refine ⟨⟨v, ev, ?_⟩, q⟩
        rw [← hK]
        exact (Bs.mo r lf).mono (Bs.ff_to (fun a h => by rw [hN]; exact h) m)
    · have q := hs i u (by rw [List.getElem?_append_left (by rw [wipeG_length]; exact hlt), wipeG_out hin]; exact e)
      rw [getD_app (by rw [wipe_length, hl]; exact hlt)] at q
      have : (L2.wipe σ vs).getD i none = σ.getD i none := by simp [List.getD_eq_getElem?_getD, wipe_out hin]
      rw [this] at q
      exact q
  · have hie : i = Γ.length := by omega
    subst hie
    simp at e
    subst e
    rw [← hl, getD_last, hl]
    have q := hs Γ.length s (by rw [← wipeG_length Γ vs]; simp)
    have : (L2.wipe σ vs ++ [ov]).getD Γ.length none = ov := by
      rw [← hl, ← wipe_length σ vs, getD_last]
    rw [this] at q
    exact q
end

def GJ (K : Kw) (m : Bool) (Γ : List Sl) (g : TG) (d : PyData) (N : List Sl → Prop) : Prop := ∀ X : Bs, X.K = K → ∀ F H σ, En X F H σ Γ → ∀ v, Rp K (X.ff F m) v d → ∀ C : L2.St → Hp → Prop,
  (∀ F' H' σ' Γ', Le F F' → En X F' H' σ' Γ' → N Γ' → C σ' H') → g v σ H C
def GJs (K : Kw) (m : Bool) (Γ : List Sl) (g : TGs) (ds : List PyData) (N : List Sl → Prop) : Prop := ∀ X : Bs, X.K = K → ∀ F H σ, En X F H σ Γ → ∀ vs, RpA K (X.ff F m) vs ds → ∀ C : L2.St → Hp → Prop,
  (∀ F' H' σ' Γ', Le F F' → En X F' H' σ' Γ' → N Γ' → C σ' H') → g vs σ H C
section
variable {K : Kw} {m : Bool} {Γ : List Sl} {N : List Sl → Prop}
theorem gj_name {i : Nat} {d : PyData} (q : N (Γ.set i (.dat m d))) : GJ K m Γ (gName i) d N := fun X hK F H σ E v r C k => by
  subst hK
  exact k F H _ _ Le.rfl' ((E.pushD r).put i) q
theorem gj_tup {n : Nat} {gs : TGs} {ds : List PyData} (hn : ds.length = n) (h : GJs K m Γ gs ds N) : GJ K m Γ (gTup K n gs) (.tuple ds) N := fun X hK F H σ E v r C k => by
  cases r with
  | tup a b => exact ⟨_, _, rfl, sqT_le (E.lef m) a, by rw [b.length]; exact hn, h X hK F H σ E _ b C k⟩
theorem gjs_nil (q : N Γ) : GJs K m Γ gNil [] N := fun X hK F H σ E vs r C k => by
  cases r
  exact ⟨rfl, k F H σ Γ Le.rfl' E q⟩
theorem gjs_cons {g : TG} {gs : TGs} {d : PyData} {ds : List PyData} (h : GJ K m Γ g d fun Γ' => GJs K m Γ' gs ds N) : GJs K m Γ (gCons g gs) (d :: ds) N := fun X hK F H σ E vs r C k => by
  cases r with
  | cons a b => exact ⟨_, _, rfl, h X hK F H σ E _ a _ fun F' H' σ' Γ' lf E' h' => h' X hK F' H' σ' E' _ (Bs.moA b lf) C fun F2 H2 σ2 Γ2 l2 E2 q => k F2 H2 σ2 Γ2 (lf.tr l2) E2 q⟩
end
/-- a target that stores into the comprehension's own slots alone -/
def Gw (g : TG) (vs : List Nat) : Prop := ∀ v σ H (C C' : L2.St → Hp → Prop) σ0, L2.wipe σ vs = L2.wipe σ0 vs → (∀ σ2 H2, L2.wipe σ2 vs = L2.wipe σ0 vs → C σ2 H2 → C' σ2 H2) → g v σ H C → g v σ H C'
theorem wipe_in {σ : L2.St} {i : Nat} (hl : i < σ.length) : ∀ {vs : List Nat}, i ∈ vs → (L2.wipe σ vs)[i]? = some none
  | [], h => by cases h
  | v :: vs, h => by
    rw [L2.wipe]
    by_cases z : v = i
    · subst z
      rw [List.getElem?_set_self (by rw [wipe_length]; exact hl)]
    · rw [List.getElem?_set_ne z]
      rcases List.mem_cons.mp h with w | w
      · exact absurd w.symm z
      · exact wipe_in hl w
theorem wipe_eq {σ σ' : L2.St} {vs : List Nat} (hl : σ.length = σ'.length) (h : ∀ i, i ∉ vs → σ[i]? = σ'[i]?) : L2.wipe σ vs = L2.wipe σ' vs := by
  apply List.ext_getElem?
  intro i
  by_cases hin : i ∈ vs
  · by_cases hlt : i < σ.length
    · rw [wipe_in hlt hin, wipe_in (by rw [← hl]; exact hlt) hin]
    · rw [List.getElem?_eq_none (by rw [wipe_length]; omega), List.getElem?_eq_none (by rw [wipe_length]; omega)]
  · rw [wipe_out hin, wipe_out hin]
    exact h i hin
theorem wipe_set {σ : L2.St} {i : Nat} {ov : Option V} {vs : List Nat} (h : i ∈ vs) : L2.wipe (σ.set i ov) vs = L2.wipe σ vs := wipe_eq (by simp) fun j hj => by
  rw [List.getElem?_set_ne]
  intro z
  subst z
  exact hj h
theorem wipe_wipe {σ : L2.St} {vs : List Nat} : L2.wipe (L2.wipe σ vs) vs = L2.wipe σ vs := wipe_eq (wipe_length σ vs) fun j hj => wipe_out hj
theorem gw_name {i : Nat} {vs : List Nat} (h : i ∈ vs) : Gw (gName i) vs := fun v σ H C C' σ0 e k q => k _ _ ((wipe_set h).trans e) q
section
variable {K : Kw} {m : Bool} {Γ : List Sl} {P : Po} {t u ts : TS} {te ta tb : TE}
theorem Meets.imp {X : Bs} {P P' : Po} {D : Ends} (h : Meets X P D) (nx : ∀ Γ, P'.nx Γ → P.nx Γ) (rt : ∀ s Γ, P'.rt s Γ → P.rt s Γ) (bk : ∀ Γ, P'.bk Γ → P.bk Γ) (ct : ∀ Γ, P'.ct Γ → P.ct Γ) (hW : P'.W = P.W) (ex : ∀ c d Γ, P'.ex c d Γ → P.ex c d Γ) : Meets X P' D :=
  ⟨fun F H σ Γ E q => h.nx F H σ Γ E (nx Γ q), fun F H σ Γ v s E q => h.rt F H σ Γ v s E (rt s Γ q), fun F H σ Γ E q => h.bk F H σ Γ E (bk Γ q), fun F H σ Γ E q => h.ct F H σ Γ E (ct Γ q), fun F H σ Γ c o d E a q => by rw [hW]; exact h.xc F H σ Γ c o d E a (ex c o Γ q)⟩
theorem SJ.mono {P' : Po} (h : SJ K Γ ts P') (nx : ∀ Γ, P'.nx Γ → P.nx Γ) (rt : ∀ s Γ, P'.rt s Γ → P.rt s Γ) (bk : ∀ Γ, P'.bk Γ → P.bk Γ) (ct : ∀ Γ, P'.ct Γ → P.ct Γ) (hW : P'.W = P.W) (ex : ∀ c d Γ, P'.ex c d Γ → P.ex c d Γ) : SJ K Γ ts P := fun X hK F H σ E D hD => h X hK F H σ E D (hD.imp nx rt bk ct hW ex)
theorem sj_next (q : P.nx Γ) : SJ K Γ tNext P := fun X hK F H σ E D hD => hD.nx F H σ Γ E q
theorem sj_seq (h : SJ K Γ t { P with nx := fun Γ' => SJ K Γ' u P }) : SJ K Γ (tSeq t u) P := fun X hK F H σ E D hD =>
  h X hK F H σ E _ ⟨fun F' H' σ' Γ' E' q => q X hK F' H' σ' E' D hD, hD.rt, hD.bk, hD.ct, hD.xc⟩
/-- with a word between -/
theorem sj_cut (M : List Sl → Prop) (h : SJ K Γ t { P with nx := M }) (k : ∀ Γ', M Γ' → SJ K Γ' u P) : SJ K Γ (tSeq t u) P := fun X hK F H σ E D hD =>
  h X hK F H σ E _ ⟨fun F' H' σ' Γ' E' q => k Γ' q X hK F' H' σ' E' D hD, hD.rt, hD.bk, hD.ct, hD.xc⟩
theorem sj_asg {g : TG} (m : Bool) (h : WD K m Γ te fun d => GJ K m Γ g d P.nx) : SJ K Γ (tAsg te g) P := fun X hK F H σ E D hD =>
  h X hK F H σ E _ fun v F1 H1 d l1 E1 r q => q X hK F1 H1 σ E1 v r _ fun F2 H2 σ2 Γ2 l2 E2 q2 => hD.nx F2 H2 σ2 Γ2 E2 q2
theorem sj_set {i : Nat} (m : Bool) (h : WD K m Γ te fun d => P.nx (Γ.set i (.dat m d))) : SJ K Γ (tAsg te (gName i)) P := sj_asg m (h.mono fun d q => gj_name q)
theorem sj_setX {i : Nat} (h : WX K Γ te fun s => P.nx (Γ.set i s)) : SJ K Γ (tAsg te (gName i)) P := fun X hK F H σ E D hD =>
  h X hK F H σ E _ fun v F1 H1 s l1 E1 q => hD.nx F1 H1 _ _ (E1.put i) q
theorem sj_ret (h : WX K Γ te fun s => P.rt s Γ) : SJ K Γ (tRet te) P := fun X hK F H σ E D hD =>
  h X hK F H σ E _ fun v F1 H1 s l1 E1 q => hD.rt F1 H1 _ _ v s E1 q
theorem sj_retD (m : Bool) (h : WD K m Γ te fun d => P.rt (.dat m d) Γ) : SJ K Γ (tRet te) P := sj_ret (.ofD h)
/-- a list of one's own is frozen -/
theorem sj_frz (i : Nat) {l : Addr} {ds : List PyData} (hi : Γ[i]? = some (.ml m l ds)) (h : SJ K (Γ.set i (.dat m (.list ds))) ts P) : SJ K Γ ts P := fun X hK F H σ E D hD => by
  obtain ⟨F', lf, E'⟩ := E.freeze hi
  exact h X hK F' H σ E' D hD
theorem En.take {X : Bs} {F H : Hp} {σ : L2.St} (E : En X F H σ Γ) {i : Nat} {l : Addr} {ds : List PyData} (hi : Γ[i]? = some (.ml m l ds)) : En X F H (σ ++ [some (.ref l)]) (Γ.set i .no ++ [.ml m l ds]) := by
  obtain ⟨S, hs, hdj, ho⟩ := id E.sl
  have hil : i < Γ.length := (List.getElem?_eq_some_iff.mp hi).1
  refine ⟨E.le, by simp [E.len], ⟨fun j a => (j < Γ.length ∧ j ≠ i ∧ S j a) ∨ (j = Γ.length ∧ S i a), fun j u e => ?_, fun j k a h1 h2 => ?_, fun j a h1 => ?_⟩, E.fr, E.f0, E.nn⟩
  · have hj : j < (Γ.set i .no ++ [Sl.ml m l ds]).length := (List.getElem?_eq_some_iff.mp e).1
    simp only [List.length_append, List.length_cons, List.length_nil, List.length_set] at hj
    by_cases hlt : j < Γ.length
    · rw [List.getElem?_append_left (by simpa using hlt)] at e
      rw [getD_app (by rw [E.len]; exact hlt)]
      by_cases z : j = i
      · subst z
        rw [List.getElem?_set_self hil] at e
        cases e
        intro a q
        rcases q with ⟨_, q, _⟩ | ⟨q, _⟩
        · exact q rfl
        · omega
      · rw [List.getElem?_set_ne (Ne.symm z)] at e
        have eS : (fun a => (j < Γ.length ∧ j ≠ i ∧ S j a) ∨ (j = Γ.length ∧ S i a)) = S j := by
          funext a
          apply propext
          constructor
          · rintro (⟨_, _, q⟩ | ⟨q, _⟩)
            · exact q
            · omega
          · intro q; exact .inl ⟨hlt, z, q⟩
        show SlOk X F H _ (fun a => (j < Γ.length ∧ j ≠ i ∧ S j a) ∨ (j = Γ.length ∧ S i a)) _
        rw [eS]
        exact hs j u e
    · have hje : j = Γ.length := by omega
      subst hje
      have e' : (Γ.set i .no ++ [Sl.ml m l ds])[Γ.length]? = some (.ml m l ds) := by
        have : Γ.length = (Γ.set i Sl.no).length := by simp
        rw [this]; simp
      rw [e'] at e
      cases e
      have eS : (fun a => (Γ.length < Γ.length ∧ Γ.length ≠ i ∧ S Γ.length a) ∨ (Γ.length = Γ.length ∧ S i a)) = S i := by
        funext a
        apply propext
        constructor
        · rintro (⟨q, _⟩ | ⟨_, q⟩)
          · omega
          · exact q
        · intro q; exact .inr ⟨rfl, q⟩
      show SlOk X F H _ (fun a => (Γ.length < Γ.length ∧ Γ.length ≠ i ∧ S Γ.length a) ∨ (Γ.length = Γ.length ∧ S i a)) _
      rw [eS, ← E.len, getD_last]
      obtain ⟨xs, e0, r⟩ := hs i _ hi
      exact ⟨xs, rfl, r⟩
  · rcases h1 with ⟨a1, b1, c1⟩ | ⟨a1, c1⟩ <;> rcases h2 with ⟨a2, b2, c2⟩ | ⟨a2, c2⟩
    · exact hdj j k a c1 c2
    · exact absurd (hdj _ _ a c1 c2) b1
    · exact absurd (hdj _ _ a c2 c1) b2
    · omega
  · rcases h1 with ⟨_, _, c1⟩ | ⟨_, c1⟩
    · exact ho j a c1
    · exact ho i a c1
/-- return of a list of one's own -/
theorem sj_retM {i : Nat} {l : Addr} {ds : List PyData} (hi : Γ[i]? = some (.ml m l ds)) (h : P.rt (.ml m l ds) (Γ.set i .no)) : SJ K Γ (tRet (tVar i)) P := fun X hK F H σ E D hD => by
  obtain ⟨xs, e, _⟩ := E.ml hi
  exact ⟨_, e, hD.rt F H σ _ (.ref l) _ (E.take hi) h⟩
theorem sj_if {c : TT} (h : WT K Γ c fun b => if b = true then SJ K Γ t P else SJ K Γ u P) : SJ K Γ (tIfS c t u) P := fun X hK F H σ E D hD =>
  h X hK F H σ E _ fun b F1 H1 l1 E1 q => by
    cases b with
    | true => exact q X hK F1 H1 σ E1 D hD
    | false => exact q X hK F1 H1 σ E1 D hD
theorem sz_lt {n : Nat} (h : n < 100000) : n < sizeLine := Nat.lt_of_lt_of_le h (by decide)
theorem sz_le {n : Nat} (h : n ≤ 100000) : n ≤ sizeLine := Nat.le_trans h (by decide)
/-- xs.append(e), of one's own -/
theorem sj_app {i : Nat} {l : Addr} {ds : List PyData} (hi : Γ[i]? = some (.ml m l ds)) (hz : ds.length < 100000) (h : WD K m Γ te fun d => P.nx (Γ.set i (.ml m l (ds ++ [d])))) : SJ K Γ (tDrop (tBM K "list" rAppend (tVar i) (tCons te tNil))) P := fun X hK F H σ E D hD => by
  subst hK
  obtain ⟨xs, e, hl, fl, r⟩ := E.ml hi
  refine ⟨.ref l, e, .inl ⟨rfl, _, SqL.of hl⟩, h X rfl F H σ E _ fun v F1 H1 d l1 E1 rv q => ?_⟩
  obtain ⟨xs1, e1, hl1, fl1, r1⟩ := E1.ml hi
  refine ⟨l, xs1, v, rfl, rfl, hl1, sz_lt (by rw [r1.length]; exact hz), hD.nx F1 _ σ _ (E1.mut hi (r1.append (RpA.one rv))) q⟩
/-- xs[k] = e, of one's own -/
theorem sj_setI {i : Nat} {l : Addr} {ds : List PyData} {ti : TE} (hi : Γ[i]? = some (.ml m l ds)) (h : WD K m Γ te fun d => WD K false Γ ti fun k => ∃ n j, k = .int n ∧ ixN ds.length n = some j ∧ P.nx (Γ.set i (.ml m l (ds.set j d)))) : SJ K Γ (tAsg te (gSub (tVar i) ti rSetL)) P := fun X hK F H σ E D hD => by
  subst hK
  refine h X rfl F H σ E _ fun v F1 H1 d l1 E1 rv q1 => ?_
  obtain ⟨xs1, e1, hl1, fl1, r1⟩ := E1.ml hi
  refine ⟨.ref l, e1, q1 X rfl F1 H1 σ E1 _ fun w' F2 H2 k l2 E2 rk ⟨n, j, ek, hj, q⟩ => ?_⟩
  subst ek
  cases rk
  obtain ⟨xs2, e2, hl2, fl2, r2⟩ := E2.ml hi
  exact ⟨l, xs2, n, j, rfl, rfl, hl2, by rw [r2.length]; exact hj, hD.nx F2 _ σ _ (E2.mut hi (r2.set j (Bs.mo rv l2))) q⟩
/-- while -/
theorem sj_while {c : TT} (I : Nat → List Sl → Prop) (m : Nat) (h0 : I m Γ) (hs : ∀ m Γ', I m Γ' → WT K Γ' c fun b => if b = true then SJ K Γ' t { P with nx := fun Γ2 => ∃ m', m' < m ∧ I m' Γ2, ct := fun Γ2 => ∃ m', m' < m ∧ I m' Γ2, bk := P.nx } else P.nx Γ') : SJ K Γ (tWhile c t) P := fun X hK F H σ E D hD => by
  refine ⟨fun m σ H => ∃ F Γ', En X F H σ Γ' ∧ I m Γ', ⟨m, F, Γ, E, h0⟩, fun m σ' H' ⟨F', Γ', E', hi⟩ => ?_⟩
  refine hs m Γ' hi X hK F' H' σ' E' _ fun b F1 H1 l1 E1 q => ?_
  cases b with
  | true =>
    rw [if_pos rfl]
    refine ⟨fun σ2 H2 => ∃ F2 Γ2, En X F2 H2 σ2 Γ2 ∧ ∃ m', m' < m ∧ I m' Γ2, fun σ2 H2 ⟨F2, Γ2, E2, m', hm, h2⟩ => ⟨m', hm, F2, Γ2, E2, h2⟩, ?_⟩
    exact q X hK F1 H1 σ' E1 _ ⟨fun F2 H2 σ2 Γ2 E2 z => ⟨F2, Γ2, E2, z⟩, hD.rt, hD.nx, fun F2 H2 σ2 Γ2 E2 z => ⟨F2, Γ2, E2, z⟩, hD.xc⟩
  | false =>
    rw [if_neg Bool.false_ne_true]
    exact hD.nx F1 H1 σ' Γ' E1 q
end

/-- the heap has grown by a new thing, or is as it was -/
structure Gr (F H F' H' : Hp) : Prop where
  lf : Le F F'
  le : Le F' H'
  hh : ∀ a o, H a = some o → H' a = some o
  hn : ∀ a o, H a = some o → F' a = F a
theorem Gr.same {F H : Hp} (h : Le F H) : Gr F H F H := ⟨Le.rfl', h, fun _ _ q => q, fun _ _ _ => rfl⟩
theorem Gr.new {F H : Hp} (h : Le F H) {p : Addr} {o : HO} (hp : H p = none) : Gr F H (upd F p o) (upd H p o) :=
  ⟨Le.up (h.nn hp), h.both, fun a u q => by rw [upd_ne (ne_of_none q hp)]; exact q, fun a u q => by rw [upd_ne (ne_of_none q hp)]⟩
theorem En.gr {X : Bs} {F H F' H' : Hp} {σ : L2.St} {Γ : List Sl} (E : En X F H σ Γ) (g : Gr F H F' H') : En X F' H' σ Γ := E.grow g.lf g.le g.hh g.hn
def WI (K : Kw) (m : Bool) (Γ : List Sl) (wi : TI) (Q : List PyData → Prop) : Prop := ∀ X : Bs, X.K = K → ∀ F H σ, En X F H σ Γ → ∀ C : It → Hp → Prop,
  (∀ J F' H' G Y ds, Le F F' → En X F' H' σ Γ → Walk J ds.length G Y → (∀ H2, Le F' H2 → G H2) → (∀ i F2 H2 x H3, Le F' F2 → Le F2 H2 → i < ds.length → Y i H2 x H3 → ∃ d F3, ds[i]? = some d ∧ Gr F2 H2 F3 H3 ∧ Rp K (X.ff F3 m) x d) → Q ds → C J H') → wi σ H C
section
variable {K : Kw} {m : Bool} {Γ : List Sl} {P : Po} {g : TG} {tb : TS} {wi : TI} {tl : TE} {QI : List PyData → Prop} {ta : TA}
theorem sj_for (m : Bool) (h : WI K m Γ wi fun ds => ∃ I : Nat → List Sl → Prop, I 0 Γ ∧ (∀ i d Γ', ds[i]? = some d → I i Γ' → GJ K m Γ' g d fun Γ2 => SJ K Γ2 tb { P with nx := I (i + 1), ct := I (i + 1), bk := P.nx }) ∧ ∀ Γ', I ds.length Γ' → P.nx Γ') : SJ K Γ (tFor wi g tb) P := fun X hK F H σ E D hD => by
  refine h X hK F H σ E _ fun J F1 H1 G Y ds lf E1 wk hG hY ⟨I, h0, hs, he⟩ => ?_
  obtain ⟨X1, k1, n1, f1, _, Er, back⟩ := E1.rebase
  have ffe : ∀ F, X1.ff F m = X.ff F m := fun F => by cases m <;> simp [Bs.ff, n1]
  have hK1 : X1.K = K := k1.trans hK
  refine for_it wk (fun i σ' H' => ∃ F' Γ', En X1 F' H' σ' Γ' ∧ I i Γ') ⟨F1, Γ, Er, h0⟩ (fun i σ' H' _ ⟨F', Γ', E', _⟩ => hG H' ?_) (fun i x σ' H' H3 hi ⟨F', Γ', E', hI⟩ hy => ?_) (fun σ' H' ⟨F', Γ', E', hI⟩ => hD.nx F' H' σ' Γ' (back _ _ _ _ E') (he Γ' hI))
  · exact Le.tr (by rw [← f1]; exact E'.f0) E'.le
  · obtain ⟨d, F3, hd, gr, r⟩ := hY i F' H' x H3 (by rw [← f1]; exact E'.f0) E'.le hi hy
    refine hs i d Γ' hd hI X1 hK1 F3 H3 σ' (E'.gr gr) x (by rw [ffe]; exact r) _ fun F4 H4 σ4 Γ4 l4 E4 sj => ?_
    exact sj X1 hK1 F4 H4 σ4 E4 _ ⟨fun F5 H5 σ5 Γ5 E5 q => ⟨F5, Γ5, E5, q⟩, fun F5 H5 σ5 Γ5 v s E5 q => hD.rt F5 H5 σ5 Γ5 v s (back _ _ _ _ E5) q, fun F5 H5 σ5 Γ5 E5 q => hD.nx F5 H5 σ5 Γ5 (back _ _ _ _ E5) q, fun F5 H5 σ5 Γ5 E5 q => ⟨F5, Γ5, E5, q⟩, fun F5 H5 σ5 Γ5 c o d E5 a q => hD.xc F5 H5 σ5 Γ5 c o d (back _ _ _ _ E5) a q⟩
theorem wi_list (h : WD K m Γ tl fun d => ∃ ds, d = .list ds ∧ QI ds) : WI K m Γ (iList K tl) QI := fun X hK F H σ E C k =>
  h X hK F H σ E _ fun v F1 H1 d l1 E1 r ⟨ds, e, q⟩ => by
    subst e
    cases r with
    | lst ha rs =>
      rename_i a xs
      have hn : xs.length = ds.length := rs.length
      refine ⟨a, rfl, ⟨xs, SqL.of (E1.lef m _ _ ha)⟩, k (Itl K a) F1 H1 (fun H => SqL K H a xs) (YAt xs) ds l1 E1 (by rw [← hn]; exact walk_list) (fun H2 l2 => SqL.of (l2 _ _ (X.ff_le F1 m _ _ ha))) (fun i F2 H2 x H3 l2 le hi hy => ?_) q⟩
      obtain ⟨rfl, hx⟩ := hy
      obtain ⟨d, hd, rd⟩ := rs.getV hx
      exact ⟨d, F2, hd, Gr.same le, Bs.mo rd l2⟩
/-- lo, lo + 1, .. -/
def rangeD (lo : Int) (n : Nat) : List PyData := (List.range n).map fun (i : Nat) => PyData.int (lo + i)
theorem rangeD_len {lo : Int} {n : Nat} : (rangeD lo n).length = n := by simp [rangeD]
theorem rangeD_get {lo : Int} {n i : Nat} (h : i < n) : (rangeD lo n)[i]? = some (.int (lo + i)) := by simp [rangeD, h]
theorem rangeD_of {lo : Int} {n i : Nat} {d : PyData} (h : (rangeD lo n)[i]? = some d) : i < n ∧ d = .int (lo + i) := by
  have hi : i < (rangeD lo n).length := (List.getElem?_eq_some_iff.mp h).1
  rw [rangeD_len] at hi
  rw [rangeD_get hi] at h
  exact ⟨hi, (Option.some.inj h).symm⟩
theorem walkR {X : Bs} {F' : Hp} {lo : Int} {n : Nat} : (∀ i F2 H2 x H3, Le F' F2 → Le F2 H2 → i < (rangeD lo n).length → YFn (fun i => V.int (lo + i)) i H2 x H3 → ∃ d F3, (rangeD lo n)[i]? = some d ∧ Gr F2 H2 F3 H3 ∧ Rp K (X.ff F3 m) x d) := fun i F2 H2 x H3 l2 le hi hy => by
  obtain ⟨rfl, rfl⟩ := hy
  rw [rangeD_len] at hi
  exact ⟨_, F2, rangeD_get hi, Gr.same le, .int _⟩
theorem wi_rng1 (h : WA K false Γ ta fun as => ∃ j : Int, as = [.d (.int j)] ∧ (-(2 ^ 62) ≤ j ∧ j < 2 ^ 62) ∧ QI (rangeD 0 j.toNat)) : WI K m Γ (iRng1 ta) QI := fun X hK F H σ E C k =>
  h X hK F H σ E _ fun vs F1 H1 as l1 E1 r ⟨j, e, hj, q⟩ => by
    subst e
    cases r with
    | cons a b =>
      cases b
      have a' : Rp X.K (X.ff F1 false) _ (.int j) := a
      cases a'
      exact ⟨j, rfl, hj.1, hj.2, k (Itr 0 j.toNat) F1 H1 (fun _ => True) _ (rangeD 0 j.toNat) l1 E1 (by rw [rangeD_len]; exact walk_range) (fun _ _ => trivial) walkR q⟩
/-- a list comprehension -/
theorem wx_lc {mi : Bool} (m : Bool) {tt : TT} {te : TE} {vs : List Nat} {QX : Sl → Prop} (hv : wipeOk Γ vs) (hgw : Gw g vs)
    (h : WI K mi Γ wi fun ds => ∃ I : Nat → List PyData → Prop, ds.length ≤ 100000 ∧ I 0 [] ∧ (∀ i d acc, ds[i]? = some d → acc.length ≤ i → I i acc → GJ K mi (wipeG Γ vs) g d fun Γ2 => wipeG Γ2 vs = wipeG Γ vs ∧ WT K Γ2 tt fun b => if b = true then WD K m Γ2 te fun y => I (i + 1) (acc ++ [y]) else I (i + 1) acc) ∧
      ∀ acc, acc.length ≤ ds.length → I ds.length acc → ∀ l, QX (.ml m l acc)) : WX K Γ (tLc wi g tt te vs) QX := fun X hK F H σ E C k => by
  refine h X hK F H σ E _ fun J F1 H1 G Y ds lf E1 wk hG hY ⟨I, hz, h0, hs, he⟩ Da hD => ?_
  obtain ⟨X1, k1, n1, f1, _, Er, back⟩ := E1.rebase
  have ffe : ∀ F, X1.ff F m = X.ff F m := fun F => by cases m <;> simp [Bs.ff, n1]
  have hK1 : X1.K = K := k1.trans hK
  have lef : ∀ {F' H' σ' Γ'}, En X1 F' H' σ' Γ' → Le F1 F' := fun E' => by rw [← f1]; exact E'.f0
  refine lc_it wk (fun i H' => ∃ F' acc, En X1 F' H' (L2.wipe σ vs ++ [some (.ref Da)]) (wipeG Γ vs ++ [.ml m Da acc]) ∧ acc.length ≤ i ∧ I i acc) ⟨F1, [], (Er.wipe vs).pushM hD .nil, Nat.le_refl _, h0⟩ (fun i H' _ ⟨F', acc, E', _⟩ => hG H' ((lef E').tr E'.le)) (fun i x H' H3 hi ⟨F', acc, E', hacc, hI⟩ hy => ?_) (fun H' ⟨F', acc, E', hacc, hI⟩ => ?_)
  · obtain ⟨d, F3, hd, gr, r⟩ := hY i F' H' x H3 (lef E') E'.le hi hy
    have E3 := E'.gr gr
    obtain ⟨X2, k2, n2, Ef, fb⟩ := E3.frame
    have ff2 : ∀ F m, X2.ff F m = X.ff F m := fun F m => by cases m <;> simp [Bs.ff, n2, n1]
    have hK2 : X2.K = K := k2.trans hK1
    refine hgw x _ H3 (fun σ2 H2 => L2.wipe σ2 vs = L2.wipe σ vs → _) _ σ wipe_wipe (fun σ2 H2 e2 q => ⟨e2, q e2⟩) ?_
    refine hs i d acc hd hacc hI X2 hK2 F3 H3 _ Ef x (by rw [ff2]; exact r) _ fun F4 H4 σ4 Γ4 l4 E4 ⟨eΓ, wt⟩ eσ => ?_
    have hlen : Γ4.length = (wipeG Γ vs).length := by rw [← eΓ, wipeG_length]
    have again : ∀ {F5 H5}, Le F4 F5 → En X2 F5 H5 σ4 Γ4 → En X1 F5 H5 (L2.wipe σ vs ++ [some (.ref Da)]) (wipeG Γ vs ++ [.ml m Da acc]) := fun {F5 H5} l5 E5 => by
      have := fb F5 H5 _ _ (by rw [wipeG_length, hlen]) (l4.tr l5) (E5.wipe vs)
      rw [eΓ, eσ] at this
      exact this
    refine wt X2 hK2 F4 H4 σ4 E4 _ fun b F5 H5 l5 E5 q5 => ?_
    cases b with
    | false => exact ⟨F5, acc, again l5 E5, Nat.le_succ_of_le hacc, q5⟩
    | true =>
      rw [if_pos rfl] at q5 ⊢
      refine q5 X2 hK2 F5 H5 σ4 E5 _ fun y F6 H6 dy l6 E6 ry q6 => ?_
      have E7 := again (l5.tr l6) E6
      obtain ⟨xs, _, hl, _, rx⟩ := E7.ml (i := (wipeG Γ vs).length) (m := m) (l := Da) (ds := acc) (by simp)
      have e8 := E7.mut (i := (wipeG Γ vs).length) (m := m) (l := Da) (ds := acc) (es := acc ++ [dy]) (ys := xs ++ [y]) (by simp) (rx.append (RpA.one (by rw [hK1, ffe, ← ff2]; exact ry)))
      have es : (wipeG Γ vs ++ [Sl.ml m Da acc]).set (wipeG Γ vs).length (.ml m Da (acc ++ [dy])) = wipeG Γ vs ++ [.ml m Da (acc ++ [dy])] := by simp
      rw [es] at e8
      exact ⟨xs, hl, sz_lt (by rw [rx.length]; omega), F6, acc ++ [dy], e8, by simp; omega, q6⟩
  · have hE := back _ _ _ _ (En.unwipe E1 (by rw [hK, hK1]) n1.symm (lef E') hv E')
    exact k (.ref Da) F' H' _ (lf.tr (lef E')) hE (he acc hacc hI Da)
end
end Pk
end
section
set_option Elab.async false
set_option linter.all false
set_option maxRecDepth 100000
namespace Pk
open PySem PySem.Spec PyProof.Rows L2

def Sl.frz : Sl → Sl
  | .ml _ _ ds => .dat false (.list ds)
  | .ex v Φ => match Φ.vw with
    | some d => .dat false d
    | none => .ex v Φ
  | s => s
def Sl.fz : Sl → Bool
  | .ml _ _ _ => true
  | .ex _ Φ => Φ.vw.isSome
  | _ => false
section
variable {K : Kw} {Γ : List Sl}
open Classical in
/-- all things of one's own that may be read as data are frozen for a while -/
theorem En.thaw {X : Bs} {F H : Hp} {σ : L2.St} (E : En X F H σ Γ) : ∃ F1, Le F F1 ∧ En X F1 H σ (Γ.map Sl.frz) ∧ ∀ F2 H2, Le F1 F2 → En X F2 H2 σ (Γ.map Sl.frz) → ∃ F3, Le F F3 ∧ En X F3 H2 σ Γ := by
  obtain ⟨S, hs, hdj, ho⟩ := id E.sl
  let M : Addr → Prop := fun a => ∃ (i : Nat) (s : Sl), Γ[i]? = some s ∧ s.fz = true ∧ S i a
  have hML : ∀ {a}, M a → ∃ o, H a = some o ∧ Mo o = true := fun {a} ⟨i, s, h, f, sa⟩ => by
    have q := hs i s h
    cases s with
    | no => cases f
    | dat _ _ => cases f
    | ml m l ds =>
      obtain ⟨xs, _, hS, hl, _⟩ := q
      rw [(hS a).mp sa]
      exact ⟨.lst xs, hl, rfl⟩
    | ex v Φ =>
      obtain ⟨_, _, p⟩ := q
      cases hv : Φ.vw with
      | none => simp [Sl.fz, hv] at f
      | some d => exact (Φ.view E.le p hv).2 a sa
  have hMF : ∀ {a}, M a → F a = none := fun {a} ⟨i, s, h, f, sa⟩ => (ho i a sa).1
  have hMO : ∀ {a}, M a → X.own a := fun {a} ⟨i, s, h, f, sa⟩ => (ho i a sa).2.2
  let F1 : Hp := fun a => if M a then H a else F a
  have f1M : ∀ {a}, M a → F1 a = H a := fun h => if_pos h
  have f1N : ∀ {a}, ¬ M a → F1 a = F a := fun h => if_neg h
  have lf : Le F F1 := fun a o q => by
    by_cases h : M a
    · rw [hMF h] at q; cases q
    · rw [f1N h]; exact q
  have le1 : Le F1 H := fun a o q => by
    by_cases h : M a
    · rw [f1M h] at q; exact q
    · rw [f1N h] at q; exact E.le a o q
  have notM : ∀ {j : Nat} {a : Addr} {s : Sl}, Γ[j]? = some s → s.fz = false → S j a → ¬ M a := fun {j a s} hj hn sa ⟨i, u, h, f, si⟩ => by
    have := hdj i j a si sa
    subst this
    rw [h] at hj
    cases hj
    rw [f] at hn
    cases hn
  have frM : ∀ a o, X.H0 a = some o → ¬ X.S0 a → ¬ M a := fun a o e n h => by
    rcases hMO h with w | w
    · rw [w] at e; cases e
    · exact n w
  have frz_no : ∀ {s : Sl}, s.fz = false → s.frz = s := fun {s} h => by
    cases s with
    | no => rfl
    | dat _ _ => rfl
    | ml _ _ _ => cases h
    | ex v Φ =>
      cases hv : Φ.vw with
      | none => simp [Sl.frz, hv]
      | some d => simp [Sl.fz, hv] at h
  refine ⟨F1, lf, ⟨le1, by simp [E.len], ⟨fun i a => (∀ s, Γ[i]? = some s → s.fz = false) ∧ i < Γ.length ∧ S i a, fun i s e => ?_, fun i j a h1 h2 => hdj i j a h1.2.2 h2.2.2, fun i a h1 => ?_⟩, fun a o e n => ⟨(E.fr a o e n).1, (f1N (frM a o e n)).trans (E.fr a o e n).2⟩, E.f0.tr lf, E.nn⟩, fun F2 H2 l2 E2 => ?_⟩
  · rw [List.getElem?_map] at e
    cases hg : Γ[i]? with
    | none => rw [hg] at e; cases e
    | some u =>
      rw [hg] at e
      cases e
      have hi : i < Γ.length := (List.getElem?_eq_some_iff.mp hg).1
      cases hf : u.fz with
      | false =>
        rw [frz_no hf]
        have eS : (fun a => (∀ s, Γ[i]? = some s → s.fz = false) ∧ i < Γ.length ∧ S i a) = S i := by
          funext a
          exact propext ⟨fun z => z.2.2, fun z => ⟨fun s w => (by rw [hg] at w; cases w; exact hf), hi, z⟩⟩
        show SlOk X F1 H _ (fun a => (∀ s, Γ[i]? = some s → s.fz = false) ∧ i < Γ.length ∧ S i a) u
        rw [eS]
        exact (hs i u hg).mono lf fun _ _ => rfl
      | true =>
        have none_ : ∀ a, ¬ ((∀ s, Γ[i]? = some s → s.fz = false) ∧ i < Γ.length ∧ S i a) := fun a z => by
          have := z.1 u hg
          rw [hf] at this
          cases this
        cases u with
        | no => cases hf
        | dat _ _ => cases hf
        | ml m l ds =>
          obtain ⟨xs, e0, hS, hl, r, _⟩ := hs i _ hg
          exact ⟨⟨_, e0, .lst ((f1M ⟨i, _, hg, rfl, (hS l).mpr rfl⟩).trans hl) (r.mono ((X.ff_le F m).tr lf))⟩, none_⟩
        | ex v Φ =>
          obtain ⟨e0, hk, p⟩ := hs i _ hg
          cases hv : Φ.vw with
          | none => simp [Sl.fz, hv] at hf
          | some d =>
            have rv := (Φ.view E.le p hv).1
            have ll : Le (lay (S i) H F) F1 := fun a o q => by
              unfold lay at q
              by_cases sa : S i a
              · rw [if_pos sa] at q
                rw [f1M ⟨i, _, hg, hf, sa⟩]
                exact q
              · rw [if_neg sa] at q
                exact lf a o q
            have ef : (Sl.ex v Φ).frz = .dat false d := by simp [Sl.frz, hv]
            rw [ef]
            refine ⟨⟨v, e0, ?_⟩, none_⟩
            rw [← hk]
            exact rv.mono ll
  · obtain ⟨n1, hi, sa⟩ := h1
    have hg : Γ[i]? = some Γ[i] := List.getElem?_eq_getElem hi
    have nM : ¬ M a := notM hg (n1 _ hg) sa
    exact ⟨(f1N nM).trans (ho i a sa).1, (ho i a sa).2⟩
  · obtain ⟨S2, hs2, hdj2, ho2⟩ := id E2.sl
    let F3 : Hp := fun a => if M a then none else F2 a
    have f3M : ∀ {a}, M a → F3 a = none := fun h => if_pos h
    have f3N : ∀ {a}, ¬ M a → F3 a = F2 a := fun h => if_neg h
    have l3 : Le F F3 := fun a o q => by
      by_cases h : M a
      · rw [hMF h] at q; cases q
      · rw [f3N h]; exact l2 a o (lf a o q)
    have h2M : ∀ {a}, M a → F2 a = H a ∧ H2 a = H a := fun {a} h => by
      obtain ⟨o, hx, _⟩ := hML h
      have := l2 a _ ((f1M h).trans hx)
      rw [hx]
      exact ⟨this, E2.le _ _ this⟩
    have s2M : ∀ {i a}, S2 i a → ¬ M a := fun {i a} sa h => by
      obtain ⟨o, hx, _⟩ := hML h
      have := (h2M h).1
      rw [(ho2 i a sa).1, hx] at this; cases this
    have tl : TupLe X.K F2 F3 := by
      refine ⟨fun a xs h => ?_, fun a fs h => by
        rw [f3N]
        · exact h
        · intro z
          obtain ⟨o, hx, hm⟩ := hML z
          rw [(h2M z).1, hx] at h; cases h; cases hm⟩
      rcases h with (h | ⟨o, h⟩) | h
      · refine .inl (.inl ?_)
        rw [f3N]
        · exact h
        · intro z
          obtain ⟨o, hx, hm⟩ := hML z
          rw [(h2M z).1, hx] at h; cases h; cases hm
      · refine .inl (.inr ⟨o, ?_⟩)
        rw [f3N]
        · exact h
        · intro z
          obtain ⟨o, hx, hm⟩ := hML z
          rw [(h2M z).1, hx] at h; cases h; cases hm
      · exact .inr h
    refine ⟨F3, l3, ⟨fun a o q => ?_, E.len, ⟨fun i a => (∃ s, Γ[i]? = some s ∧ s.fz = true ∧ S i a) ∨ (∃ s, Γ[i]? = some s ∧ s.fz = false ∧ S2 i a), fun i s e => ?_, fun i j a h1 h2 => ?_, fun i a h1 => ?_⟩, fun a o e n => ⟨(E2.fr a o e n).1, (f3N (frM a o e n)).trans (E2.fr a o e n).2⟩, E.f0.tr l3, E2.nn⟩⟩
    · by_cases h : M a
      · rw [f3M h] at q; cases q
      · rw [f3N h] at q; exact E2.le a o q
    · cases hf : s.fz with
      | true =>
        have eS : (fun a => (∃ s, Γ[i]? = some s ∧ s.fz = true ∧ S i a) ∨ (∃ s, Γ[i]? = some s ∧ s.fz = false ∧ S2 i a)) = S i := by
          funext a
          apply propext
          constructor
          · rintro (⟨u, z, _, w⟩ | ⟨u, z, w, _⟩)
            · exact w
            · rw [e] at z; cases z; rw [hf] at w; cases w
          · intro z; exact .inl ⟨s, e, hf, z⟩
        show SlOk X F3 H2 _ (fun a => (∃ s, Γ[i]? = some s ∧ s.fz = true ∧ S i a) ∨ (∃ s, Γ[i]? = some s ∧ s.fz = false ∧ S2 i a)) _
        rw [eS]
        exact (hs i s e).mono l3 fun a sa => (h2M ⟨i, s, e, hf, sa⟩).2
      | false =>
        have q := hs2 i s (by rw [List.getElem?_map, e]; exact congrArg some (frz_no hf))
        have eS : (fun a => (∃ s, Γ[i]? = some s ∧ s.fz = true ∧ S i a) ∨ (∃ s, Γ[i]? = some s ∧ s.fz = false ∧ S2 i a)) = S2 i := by
          funext a
          apply propext
          constructor
          · rintro (⟨u, z, w, _⟩ | ⟨u, z, _, w⟩)
            · rw [e] at z; cases z; rw [hf] at w; cases w
            · exact w
          · intro z; exact .inr ⟨s, e, hf, z⟩
        show SlOk X F3 H2 _ (fun a => (∃ s, Γ[i]? = some s ∧ s.fz = true ∧ S i a) ∨ (∃ s, Γ[i]? = some s ∧ s.fz = false ∧ S2 i a)) _
        rw [eS]
        cases s with
        | no => exact q
        | dat m d =>
          obtain ⟨⟨v, e0, r⟩, n⟩ := hs i _ e
          exact ⟨⟨v, e0, Bs.mo r l3⟩, q.2⟩
        | ml _ _ _ => cases hf
        | ex v Φ =>
          obtain ⟨e0, hk, p⟩ := q
          exact ⟨e0, hk, Φ.keepT (by
            cases hv : Φ.vw with
            | none => rfl
            | some d => simp [Sl.fz, hv] at hf) p (by rw [hk]; exact tl) fun _ _ => rfl⟩
    · rcases h1 with ⟨s1, e1, f1, z1⟩ | ⟨s1, e1, f1, z1⟩ <;> rcases h2 with ⟨s2, e2, f2, z2⟩ | ⟨s2, e2, f2, z2⟩
      · exact hdj i j a z1 z2
      · exact absurd ⟨i, s1, e1, f1, z1⟩ (s2M z2)
      · exact absurd ⟨j, s2, e2, f2, z2⟩ (s2M z1)
      · exact hdj2 i j a z1 z2
    · rcases h1 with ⟨s1, e1, f1, z1⟩ | ⟨s1, e1, f1, z1⟩
      · have hm : M a := ⟨i, s1, e1, f1, z1⟩
        exact ⟨f3M hm, by rw [(h2M hm).2]; exact (ho i a z1).2.1, (ho i a z1).2.2⟩
      · exact ⟨(f3N (s2M z1)).trans (ho2 i a z1).1, (ho2 i a z1).2⟩
theorem wt_thaw {t : TT} {Q : Bool → Prop} (h : WT K (Γ.map Sl.frz) t Q) : WT K Γ t Q := fun X hK F H σ E C k => by
  obtain ⟨F1, lf, E1, back⟩ := E.thaw
  refine h X hK F1 H σ E1 C fun b F2 H2 l2 E2 q => ?_
  obtain ⟨F3, l3, E3⟩ := back F2 H2 l2 E2
  exact k b F3 H2 l3 E3 q
/-- an item of a list of one's own -/
theorem atI_rp {F : Hp} {xs : List V} {ds : List PyData} {n : Int} {d : PyData} (r : RpA K F xs ds) (h : atI ds n = some d) : ∃ v, atI xs n = some v ∧ Rp K F v d := by
  unfold atI at h ⊢
  rw [r.length]
  cases hx : ixN ds.length n with
  | none => rw [hx] at h; cases h
  | some j =>
    rw [hx] at h
    exact r.get h
/-- an item of a list of one's own -/
theorem wd_ixm {m : Bool} {i : Nat} {l : Addr} {ds : List PyData} {ti : TE} {Q : PyData → Prop} (hi : Γ[i]? = some (.ml m l ds)) (h : WD K false Γ ti fun k => ∃ n d, k = .int n ∧ atI ds n = some d ∧ Q d) : WD K m Γ (tOp (rIx K) (tVar i) ti) Q := fun X hK F H σ E C k => by
  subst hK
  obtain ⟨xs, e, hl, fl, rx⟩ := E.ml hi
  refine ⟨.ref l, e, h X rfl F H σ E _ fun u F1 H1 x l1 E1 r1 ⟨n, d, ek, ha, q⟩ => ?_⟩
  subst ek
  cases r1
  obtain ⟨xs1, e1, hl1, fl1, rx1⟩ := E1.ml hi
  obtain ⟨v, hv, rv⟩ := atI_rp rx1 ha
  exact .inl ⟨l, xs1, n, v, rfl, rfl, SqL.of hl1, hv, k v F1 H1 d l1 E1 rv q⟩
end

section
variable {K : Kw} {m : Bool} {Γ : List Sl} {Q : PyData → Prop} {QX : Sl → Prop}
theorem rd_I0 {g : Int → Int → V} {i j : Int} {d : PyData} (hg : ∀ F, Rp K F (g i j) d) (q : Q d) : RD K m Γ (rI0 g) (.int i) (.int j) Q := rd_plain (d := d) (fun F H v u C le rv ru k => by
  cases rv; cases ru
  exact ⟨i, j, rfl, rfl, k _ (hg F)⟩) q
theorem rd_I {P : Int → Int → Prop} {g : Int → Int → V} {i j : Int} {d : PyData} (hg : ∀ F, Rp K F (g i j) d) (hc : P i j) (q : Q d) : RD K m Γ (rI P g) (.int i) (.int j) Q := rd_plain (d := d) (fun F H v u C le rv ru k => by
  cases rv; cases ru
  exact ⟨i, j, rfl, rfl, hc, k _ (hg F)⟩) q
def dAdd (K : PySem.W.Frag) : R2 := fun x y H Q => rI0 (fun i j => .int (i + j)) x y H Q ∨ rCat x y H Q ∨ (∃ i j, x = .str i ∧ y = .str j ∧ i.length + j.length ≤ sizeLine ∧ Q (.str (i ++ j)) H) ∨ rCatA K x y H Q
theorem o_add {X : Cx} : OpR X (binaryOp .Add) (dAdd X.K) := op_add.or (op_cat.or (op_add_str.or op_catA))
theorem rd_add {i j : Int} (q : Q (.int (i + j))) : RD K m Γ (dAdd K) (.int i) (.int j) Q := rd_plain (d := .int (i + j)) (fun F H v u C le rv ru k => by
  cases rv; cases ru
  exact .inl ⟨i, j, rfl, rfl, k _ (.int _)⟩) q
theorem rx_cat {a b : List PyData} (hz : a.length + b.length ≤ 100000) (q : ∀ l, QX (.ml m l (a ++ b))) : RX K m Γ (dAdd K) (.list a) (.list b) QX := rx_list (ds := a ++ b) (fun F H v u C le rv ru k => by
  cases rv with
  | lst h1 r1 =>
    cases ru with
    | lst h2 r2 => exact .inr (.inl ⟨_, _, _, _, rfl, rfl, le _ _ h1, le _ _ h2, sz_le (by rw [r1.length, r2.length]; exact hz), fun p hp => k p _ hp (r1.append r2)⟩)) q
theorem rd_cat {a b : List PyData} (hz : a.length + b.length ≤ 100000) (q : Q (.list (a ++ b))) : RD K m Γ (dAdd K) (.list a) (.list b) Q := .ofX (rx_cat hz fun _ => ⟨_, toD_ml, q⟩)
theorem rd_addS {a b : Str} (hz : a.length + b.length ≤ 100000) (q : Q (.str (a ++ b))) : RD K m Γ (dAdd K) (.str a) (.str b) Q := rd_plain (d := .str (a ++ b)) (fun F H v u C le rv ru k => by
  cases rv; cases ru
  exact .inr (.inr (.inl ⟨a, b, rfl, rfl, sz_le hz, k _ (.str _)⟩))) q
def dSub : R2 := rI0 fun i j => .int (i - j)
theorem o_sub {X : Cx} : OpR X (binaryOp .Sub) dSub := op_sub
theorem rd_sub {i j : Int} (q : Q (.int (i - j))) : RD K m Γ dSub (.int i) (.int j) Q := rd_I0 (fun _ => .int _) q
def dMul : R2 := fun x y H Q => rI CMul (fun i j => .int (i * j)) x y H Q ∨ rRep x y H Q
theorem o_mul {X : Cx} : OpR X (binaryOp .Mult) dMul := op_mul.or op_rep
theorem rd_mul {i j : Int} (hc : CMul i j) (q : Q (.int (i * j))) : RD K m Γ dMul (.int i) (.int j) Q := rd_plain (d := .int (i * j)) (fun F H v u C le rv ru k => by
  cases rv; cases ru
  exact .inl ⟨i, j, rfl, rfl, hc, k _ (.int _)⟩) q
def dDiv : R2 := rI CDiv fun i j => .int (i / j)
theorem o_div {X : Cx} : OpR X (binaryOp .FloorDiv) dDiv := op_fdiv
theorem rd_div {i j : Int} (h : 0 < j) (h2 : j < 1073741824) (q : Q (.int (i / j))) : RD K m Γ dDiv (.int i) (.int j) Q := rd_I (fun _ => .int _) ⟨h, h2⟩ q
def dMod : R2 := rI (fun _ j => 0 < j) fun i j => .int (i % j)
theorem o_mod {X : Cx} : OpR X (binaryOp .Mod) dMod := op_mod
theorem rd_mod {i j : Int} (h : 0 < j) (q : Q (.int (i % j))) : RD K m Γ dMod (.int i) (.int j) Q := rd_I (fun _ => .int _) h q
def dPow : R2 := rI CPow fun i j => .int (i ^ j.toNat)
theorem o_pow {X : Cx} : OpR X (binaryOp .Pow) dPow := op_pow
theorem rd_pow {i j : Int} (h : CPow i j) (q : Q (.int (i ^ j.toNat))) : RD K m Γ dPow (.int i) (.int j) Q := rd_I (fun _ => .int _) h q
def dNeg : V → Hp → VK → Prop := rU fun i => .int (-i)
theorem o_neg {X : Cx} : UnR X (unaryOp .USub) dNeg := un_neg
theorem ru_neg {i : Int} (q : Q (.int (-i))) : RU K m Γ dNeg (.int i) Q := ru_plain (d := .int (-i)) (fun F H v C le rv k => by
  cases rv
  exact ⟨i, rfl, k _ (.int _)⟩) q
def dLt : R2 := rI0 fun i j => .bl (decide (i < j))
def dLe : R2 := rI0 fun i j => .bl (decide (i ≤ j))
def dGt : R2 := rI0 fun i j => .bl (decide (j < i))
def dGe : R2 := rI0 fun i j => .bl (decide (j ≤ i))
theorem o_lt {X : Cx} : OpR X (compareOp .Lt) dLt := op_lt
theorem o_le {X : Cx} : OpR X (compareOp .LtE) dLe := op_le
theorem o_gt {X : Cx} : OpR X (compareOp .Gt) dGt := op_gt
theorem o_ge {X : Cx} : OpR X (compareOp .GtE) dGe := op_ge
theorem rd_lt {i j : Int} (q : Q (.bool (decide (i < j)))) : RD K m Γ dLt (.int i) (.int j) Q := rd_I0 (fun _ => .bl _) q
theorem rd_le {i j : Int} (q : Q (.bool (decide (i ≤ j)))) : RD K m Γ dLe (.int i) (.int j) Q := rd_I0 (fun _ => .bl _) q
theorem rd_gt {i j : Int} (q : Q (.bool (decide (j < i)))) : RD K m Γ dGt (.int i) (.int j) Q := rd_I0 (fun _ => .bl _) q
theorem rd_ge {i j : Int} (q : Q (.bool (decide (j ≤ i)))) : RD K m Γ dGe (.int i) (.int j) Q := rd_I0 (fun _ => .bl _) q
def dEq (K : PySem.W.Frag) : R2 := rEqD K
def dNe (K : PySem.W.Frag) : R2 := rNeD K
theorem o_eq {X : Cx} (hu : X.A.units + 64 < cLine) : OpR X (compareOp .Eq) (dEq X.K) := op_eqD hu
theorem o_ne {X : Cx} (hu : X.A.units + 64 < cLine) : OpR X (compareOp .NotEq) (dNe X.K) := op_neD hu
theorem rd_eq {x y : PyData} (sx : SeqAt.shaped x = true) (sy : SeqAt.shaped y = true) (q : Q (.bool (PyData.eqv x y))) : RD K m Γ (dEq K) x y Q := rd_plain (d := .bool (PyData.eqv x y)) (fun F H v u C le rv ru k =>
  ⟨x, y, Rp.dp x (SeqAt.canLay_of_shaped sx) (rv.mono le), Rp.dp y (SeqAt.canLay_of_shaped sy) (ru.mono le), sx, sy, k _ (.bl _)⟩) q
theorem rd_ne {x y : PyData} (sx : SeqAt.shaped x = true) (sy : SeqAt.shaped y = true) (q : Q (.bool (!PyData.eqv x y))) : RD K m Γ (dNe K) x y Q := rd_plain (d := .bool (!PyData.eqv x y)) (fun F H v u C le rv ru k =>
  ⟨x, y, Rp.dp x (SeqAt.canLay_of_shaped sx) (rv.mono le), Rp.dp y (SeqAt.canLay_of_shaped sy) (ru.mono le), sx, sy, k _ (.bl _)⟩) q
def rInDT (K : PySem.W.Frag) (f : Bool → Bool) : R2 := fun x y H Q => ∃ d ds, Dp K H x d ∧ Dp K H y (.tuple ds) ∧ SeqAt.shaped d = true ∧ SeqAt.shaped (.tuple ds) = true ∧ Q (.bl (f (ds.any fun z => PyData.eqv z d))) H
theorem op_inDT {X : Cx} (hu : X.A.units + 65 < cLine) : OpR X (compareOp .In) (rInDT X.K id) := by
  intro pins s σ H x y v u Q I rx ry ⟨d, ds, hd, he, sd, se, q⟩
  obtain ⟨as, r1⟩ := Dp.reads I d x v hd rx
  obtain ⟨bs, r2⟩ := Dp.reads I (.tuple ds) y u he ry
  exact SeqAt.in_tuple_reads r2 r1 (SeqAt.canLay_of_shaped se) (SeqAt.canLay_of_shaped sd) (room_in_shaped sd hu) ⟨.bl _, H, I, rfl, q⟩
def dIn (K : PySem.W.Frag) : R2 := fun x y H Q => rInD K x y H Q ∨ (∃ i j, x = .str i ∧ y = .str j ∧ Q (.bl (!(Builtin.Str.occurrences j i 0 j.length 1).isEmpty)) H) ∨ rInDT K id x y H Q
theorem o_in {X : Cx} (hu : X.A.units + 65 < cLine) : OpR X (compareOp .In) (dIn X.K) := (op_inD hu).or (op_in_str.or (op_inDT hu))
theorem rd_in {x : PyData} {ds : List PyData} (sx : SeqAt.shaped x = true) (sy : SeqAt.shaped (.list ds) = true) (q : Q (.bool (ds.any fun z => PyData.eqv z x))) : RD K m Γ (dIn K) x (.list ds) Q := rd_plain (d := .bool _) (fun F H v u C le rv ru k =>
  .inl ⟨x, ds, Rp.dp x (SeqAt.canLay_of_shaped sx) (rv.mono le), Rp.dp _ (SeqAt.canLay_of_shaped sy) (ru.mono le), sx, sy, k _ (.bl _)⟩) q
theorem rd_ixL {ds : List PyData} {n : Int} {d : PyData} (h : atI ds n = some d) (q : Q d) : RD K m Γ (rIx K) (.list ds) (.int n) Q := rd_plain (d := d) (fun F H v u C le rv ru k => by
  cases rv with
  | lst h1 r1 =>
    cases ru
    obtain ⟨z, hz, rz⟩ := atI_rp r1 h
    exact .inl ⟨_, _, n, z, rfl, rfl, SqL.of (le _ _ h1), hz, k z rz⟩) q
theorem rd_ixT {ds : List PyData} {n : Int} {d : PyData} (h : atI ds n = some d) (q : Q d) : RD K m Γ (rIx K) (.tuple ds) (.int n) Q := rd_plain (d := d) (fun F H v u C le rv ru k => by
  cases rv with
  | tup h1 r1 =>
    cases ru
    obtain ⟨z, hz, rz⟩ := atI_rp r1 h
    exact .inr (.inl ⟨_, _, n, z, rfl, rfl, sqT_le le h1, hz, k z rz⟩)) q
theorem rd_ixS {x : Str} {n : Int} {c : Nat} (hz : x.length ≤ 100000) (h : atI x.cps.toList n = some c) (q : Q (.str ⟨#[c]⟩)) : RD K m Γ (rIx K) (.str x) (.int n) Q := rd_plain (d := .str ⟨#[c]⟩) (fun F H v u C le rv ru k => by
  cases rv; cases ru
  exact .inr (.inr ⟨x, n, c, rfl, rfl, sz_le hz, h, k _ (.str _)⟩)) q
theorem atI_ofNat {α : Type} {xs : List α} {n : Nat} : atI xs (n : Int) = xs[n]? := by
  unfold atI ixN
  by_cases h : n < xs.length
  · rw [if_pos (by omega), if_pos (by omega)]
    simp
  · rw [if_pos (by omega), if_neg (by omega)]
    simp [List.getElem?_eq_none (by omega : xs.length ≤ n)]
theorem atI_of {α : Type} {xs : List α} {z : Int} {n : Nat} {x : α} (e : z = (n : Int)) (h : xs[n]? = some x) : atI xs z = some x := by
  rw [e, atI_ofNat]; exact h
theorem atI_lastD {α : Type} {xs : List α} {x : α} : atI (xs ++ [x]) (-1) = some x := atI_last xs x
def dLen (K : PySem.W.Frag) : List V → Hp → VK → Prop := fun xs H Q => ∃ x n, xs = [x] ∧ LenV K x H n ∧ Q (.int n) H
theorem o_len {X : Cx} : CallR X (.builtin "len") (dLen X.K) := call_len
theorem rc_lenL {ds : List PyData} (q : Q (.int ds.length)) : RC K m Γ (dLen K) [.list ds] Q := rc_plain (d := .int ds.length) (fun F H vs C le rv k => by
  cases rv with
  | cons a b =>
    cases b
    cases a with
    | lst h1 r1 => exact ⟨_, ds.length, rfl, .inl ⟨_, SqL.of (le _ _ h1), r1.length.symm⟩, k _ (.int _)⟩) q
theorem rc_lenT {ds : List PyData} (q : Q (.int ds.length)) : RC K m Γ (dLen K) [.tuple ds] Q := rc_plain (d := .int ds.length) (fun F H vs C le rv k => by
  cases rv with
  | cons a b =>
    cases b
    cases a with
    | tup h1 r1 => exact ⟨_, ds.length, rfl, .inr ⟨_, sqT_le le h1, r1.length.symm⟩, k _ (.int _)⟩) q
theorem rc_lenS {x : Str} (hz : x.length ≤ 100000) (q : Q (.int x.length)) : RC K m Γ (dLen K) [.str x] Q := rc_plain (d := .int x.length) (fun F H vs C le rv k => by
  cases rv with
  | cons a b =>
    cases b
    cases a
    exact ⟨_, x.length, rfl, ⟨sz_le hz, rfl⟩, k _ (.int _)⟩) q
def dList (K : PySem.W.Frag) : List V → Hp → VK → Prop := fun xs H Q => ∃ p ys, xs = [.ref p] ∧ (SqL K H p ys ∨ SqT K H p ys) ∧ ∀ l, H l = none → Q (.ref l) (upd H l (.lst ys))
theorem o_list {X : Cx} : CallR X (.type "list") (dList X.K) := call_list_of
theorem rcx_listL {ds : List PyData} (q : ∀ l, QX (.ml m l ds)) : RCX K m Γ (dList K) [.list ds] QX := rcx_list (fun F H vs C le rv k => by
  cases rv with
  | cons a b =>
    cases b
    cases a with
    | lst h1 r1 => exact ⟨_, _, rfl, .inl (SqL.of (le _ _ h1)), fun p hp => k p _ hp r1⟩) q
theorem rcx_listT {ds : List PyData} (q : ∀ l, QX (.ml m l ds)) : RCX K m Γ (dList K) [.tuple ds] QX := rcx_list (fun F H vs C le rv k => by
  cases rv with
  | cons a b =>
    cases b
    cases a with
    | tup h1 r1 => exact ⟨_, _, rfl, .inr (sqT_le le h1), fun p hp => k p _ hp r1⟩) q
theorem rc_listL {ds : List PyData} (q : Q (.list ds)) : RC K m Γ (dList K) [.list ds] Q := .ofX (rcx_listL fun _ => ⟨_, toD_ml, q⟩)
theorem rc_listT {ds : List PyData} (q : Q (.list ds)) : RC K m Γ (dList K) [.tuple ds] Q := .ofX (rcx_listT fun _ => ⟨_, toD_ml, q⟩)
def dTuple (K : PySem.W.Frag) : List V → Hp → VK → Prop := fun xs H Q => ∃ p ys, xs = [.ref p] ∧ ((SqL K H p ys ∧ ∀ l, H l = none → Q (.ref l) (upd H l (.tup ys))) ∨ (SqT K H p ys ∧ Q (.ref p) H))
theorem rc_tupleL {ds : List PyData} (q : Q (.tuple ds)) : RC K m Γ (dTuple K) [.list ds] Q := rc_tuple (fun F H vs C le rv k => by
  cases rv with
  | cons a b =>
    cases b
    cases a with
    | lst h1 r1 => exact ⟨_, _, rfl, .inl ⟨SqL.of (le _ _ h1), fun p hp => k p _ hp r1⟩⟩) q
theorem ints_of {F : Hp} : ∀ {xs : List V} {ns : List Int}, RpA K F xs (ns.map PyData.int) → xs = ns.map V.int
  | [], [], _ => rfl
  | _ :: _, [], h => by cases h
  | [], _ :: _, h => by cases h
  | v :: xs, n :: ns, h => by
    cases h with
    | cons a b =>
      cases a
      rw [ints_of b]
      rfl
def dMax (K : PySem.W.Frag) : List V → Hp → VK → Prop := fun xs H Q => (∃ i j, xs = [.int i, .int j] ∧ Q (.int (if j > i then j else i)) H) ∨ rMax K xs H Q
def dMin (K : PySem.W.Frag) : List V → Hp → VK → Prop := fun xs H Q => (∃ i j, xs = [.int i, .int j] ∧ Q (.int (if j < i then j else i)) H) ∨ rMin K xs H Q
theorem o_max {X : Cx} (hc : X.calm = true) : CallR X (.builtin "max") (dMax X.K) := (call_max2 hc).or (cr_max hc)
theorem o_min {X : Cx} (hc : X.calm = true) : CallR X (.builtin "min") (dMin X.K) := (call_min2 hc).or (cr_min hc)
theorem rc_max2 {i j : Int} (q : Q (.int (max i j))) : RC K m Γ (dMax K) [.int i, .int j] Q := rc_plain (d := .int (max i j)) (fun F H vs C le rv k => by
  cases rv with
  | cons a b =>
    cases b with
    | cons b c =>
      cases c; cases a; cases b
      have e : (if j > i then j else i) = max i j := by split <;> omega
      exact .inl ⟨i, j, rfl, by rw [e]; exact k _ (.int _)⟩) q
theorem rc_min2 {i j : Int} (q : Q (.int (min i j))) : RC K m Γ (dMin K) [.int i, .int j] Q := rc_plain (d := .int (min i j)) (fun F H vs C le rv k => by
  cases rv with
  | cons a b =>
    cases b with
    | cons b c =>
      cases c; cases a; cases b
      have e : (if j < i then j else i) = min i j := by split <;> omega
      exact .inl ⟨i, j, rfl, by rw [e]; exact k _ (.int _)⟩) q
def dInt : List V → Hp → VK → Prop := fun xs H Q => (∃ i, xs = [.int i] ∧ Q (.int i) H) ∨ ∃ k, xs = [.bl k] ∧ Q (.int (if k then 1 else 0)) H
theorem o_int {X : Cx} : CallR X (.type "int") dInt := call_int1
theorem rc_intB {b : Bool} (q : Q (.int (if b then 1 else 0))) : RC K m Γ dInt [.bool b] Q := rc_plain (d := .int (if b then 1 else 0)) (fun F H vs C le rv k => by
  cases rv with
  | cons a c =>
    cases c; cases a
    exact .inr ⟨b, rfl, k _ (.int _)⟩) q
theorem rc_intI {i : Int} (q : Q (.int i)) : RC K m Γ dInt [.int i] Q := rc_plain (d := .int i) (fun F H vs C le rv k => by
  cases rv with
  | cons a c =>
    cases c; cases a
    exact .inl ⟨i, rfl, k _ (.int _)⟩) q
theorem rg_rp {F : Hp} {a b : Int} : RpA K F (rgV a b) (rangeD a (b - a).toNat) := by
  unfold rgV rangeD
  generalize List.range (b - a).toNat = l
  induction l with
  | nil => exact .nil
  | cons i l ih => exact .cons (.int _) ih
theorem wx_lrg1 {ta : TE} (m : Bool) (h : WD K false Γ ta fun x => ∃ n : Int, x = .int n ∧ (0 ≤ n ∧ n ≤ 100000) ∧ ∀ l, QX (.ml m l (rangeD 0 n.toNat))) : WX K Γ (tLstRg (tRg1 ta)) QX := fun X hK F H σ E C k =>
  h X hK F H σ E _ fun v F1 H1 x l1 E1 r ⟨n, e, hn, q⟩ => by
    subst e
    cases r
    refine ⟨n, rfl, RgOk.of_le (by omega) (by omega) (by omega) (by omega), fun p hp => ?_⟩
    have rr : RpA X.K (X.ff F1 m) (rgV 0 n) (rangeD 0 n.toNat) := by
      have := rg_rp (K := X.K) (F := X.ff F1 m) (a := 0) (b := n)
      rwa [Int.sub_zero] at this
    exact k (.ref p) F1 _ _ l1 (E1.pushM hp rr) (q p)
theorem wd_lrg1 {ta : TE} (h : WD K false Γ ta fun x => ∃ n : Int, x = .int n ∧ (0 ≤ n ∧ n ≤ 100000) ∧ Q (.list (rangeD 0 n.toNat))) : WD K m Γ (tLstRg (tRg1 ta)) Q := .ofX (wx_lrg1 m (h.mono fun d ⟨n, e, hn, q⟩ => ⟨n, e, hn, fun _ => ⟨_, toD_ml, q⟩⟩))
theorem wx_rev {ta : TE} (m : Bool) (h : WD K m Γ ta fun x => ∃ ds, x = .list ds ∧ ∀ l, QX (.ml m l ds.reverse)) : WX K Γ (tRevL K ta) QX := fun X hK F H σ E C k =>
  h X hK F H σ E _ fun v F1 H1 x l1 E1 r ⟨ds, e, q⟩ => by
    subst e
    subst hK
    cases r with
    | lst h1 r1 => exact ⟨_, _, rfl, SqL.of (E1.lef m _ _ h1), fun p hp => k (.ref p) F1 _ _ l1 (E1.pushM hp r1.reverse) (q p)⟩
theorem wd_rev {ta : TE} (h : WD K m Γ ta fun x => ∃ ds, x = .list ds ∧ Q (.list ds.reverse)) : WD K m Γ (tRevL K ta) Q := .ofX (wx_rev m (h.mono fun d ⟨n, e, q⟩ => ⟨n, e, fun _ => ⟨_, toD_ml, q⟩⟩))
def WO (K : Kw) (Γ : List Sl) (t : TO) (Q : Option Int → Prop) : Prop := ∀ X : Bs, X.K = K → ∀ F H σ, En X F H σ Γ → ∀ C : Option Int → Hp → Prop, (∀ o F' H', Le F F' → En X F' H' σ Γ → Q o → C o H') → t σ H C
theorem wo_no {Q : Option Int → Prop} (q : Q none) : WO K Γ tNoPart Q := fun X hK F H σ E C k => k none F H Le.rfl' E q
theorem wo_some {t : TE} {Q : Option Int → Prop} (h : WD K false Γ t fun d => ∃ i, d = .int i ∧ Q (some i)) : WO K Γ (tPart t) Q := fun X hK F H σ E C k =>
  h X hK F H σ E _ fun v F1 H1 x l1 E1 r ⟨i, e, q⟩ => by
    subst e
    cases r
    exact ⟨i, rfl, k (some i) F1 H1 l1 E1 q⟩
def cutD {α : Type} (xs : List α) (lo hi : Option Int) : List α := (xs.drop (HT.sIx xs.length 0 lo)).take (HT.sIx xs.length xs.length hi - HT.sIx xs.length 0 lo)
theorem cut_rp {F : Hp} {xs : List V} {ds : List PyData} (r : RpA K F xs ds) (lo hi : Option Int) : RpA K F (cutV xs lo hi) (cutD ds lo hi) := by
  unfold cutV cutD
  rw [r.length]
  exact (r.drop _).take _
theorem wx_sl {t : TE} {tl th : TO} (m : Bool) (h : WD K m Γ t fun x => ∃ ds, x = .list ds ∧ WO K Γ tl fun lo => WO K Γ th fun hi => ∀ l, QX (.ml m l (cutD ds lo hi))) : WX K Γ (tSl (rSlL K) t tl th) QX := fun X hK F H σ E C k =>
  h X hK F H σ E _ fun v F1 H1 x l1 E1 r ⟨ds, e, h1⟩ => h1 X hK F1 H1 σ E1 _ fun lo F2 H2 l2 E2 h2 => h2 X hK F2 H2 σ E2 _ fun hi F3 H3 l3 E3 q => by
    subst e
    subst hK
    cases (Bs.mo r (l2.tr l3)) with
    | lst h1 r1 => exact ⟨_, _, rfl, SqL.of (E3.lef m _ _ h1), fun p hp => k (.ref p) F3 _ _ (l1.tr (l2.tr l3)) (E3.pushM hp (cut_rp r1 lo hi)) (q p)⟩
theorem WO.mono {t : TO} {Q Q' : Option Int → Prop} (h : WO K Γ t Q) (k : ∀ o, Q o → Q' o) : WO K Γ t Q' := fun X hK F H σ E C c => h X hK F H σ E C fun o F' H' l E' q => c o F' H' l E' (k o q)
theorem wd_sl {t : TE} {tl th : TO} (h : WD K m Γ t fun x => ∃ ds, x = .list ds ∧ WO K Γ tl fun lo => WO K Γ th fun hi => Q (.list (cutD ds lo hi))) : WD K m Γ (tSl (rSlL K) t tl th) Q :=
  .ofX (wx_sl m (h.mono fun d ⟨ds, e, q⟩ => ⟨ds, e, q.mono fun lo q => q.mono fun hi q l => ⟨_, toD_ml, q⟩⟩))
theorem wd_slS {t : TE} {tl th : TO} (h : WD K false Γ t fun x => ∃ z, x = .str z ∧ z.length ≤ 100000 ∧ WO K Γ tl fun lo => WO K Γ th fun hi => Q (.str (cutS z lo hi))) : WD K m Γ (tSl rSlS t tl th) Q := fun X hK F H σ E C k =>
  h X hK F H σ E _ fun v F1 H1 x l1 E1 r ⟨z, e, hz, hq⟩ => by
    subst e
    cases r
    exact hq X hK F1 H1 σ E1 _ fun lo F2 H2 l2 E2 hq2 => hq2 X hK F2 H2 σ E2 _ fun hi F3 H3 l3 E3 q => ⟨z, rfl, sz_le hz, k _ F3 H3 _ (l1.tr (l2.tr l3)) E3 (.str _) q⟩
def isLid : List (PyData × PyData) → Bool
  | (.none, .bool false) :: _ => true
  | _ => false
theorem isLid_no {kvs : List (Key × V)} {ds : List (PyData × PyData)} (t : flatDs ds = true → kvs.map kvD = ds) : isLid ds = false := by
  cases h : isLid ds with
  | false => rfl
  | true =>
    have hf : flatDs ds = true := by
      unfold isLid at h
      split at h
      · rfl
      · cases h
    have e := t hf
    rw [← e] at h
    cases kvs with
    | nil => cases h
    | cons p q =>
      obtain ⟨k, u⟩ := p
      cases k <;> cases h
def tyN : PyData → String
  | .none => "NoneType" | .bool _ => "bool" | .int _ => "int" | .str _ => "str" | .list _ => "list" | .tuple _ => "tuple" | .dict l => if isLid l then "list" else "dict"
def isTyS (a T : String) : Bool := a == T || (a == "bool" && T == "int")
def isTy (d : PyData) (T : String) : Bool := isTyS (tyN d) T
/-- a dict with tuple keys -/
def IsN (H : Hp) (v : V) : Prop := ∃ a w ep es, v = .ref a ∧ H a = some (dN w a ep es)
/-- a dict with numbers and texts as keys -/
def IsF (H : Hp) (v : V) : Prop := ∃ a w ep kvs, v = .ref a ∧ H a = some (dF w a ep kvs)
def TyN (K : PySem.W.Frag) (H : Hp) (v : V) (t : Value) : Prop := TyX K H v t ∨ (t = .type "dict" ∧ (IsN H v ∨ IsF H v))
theorem kit_ofN {X : Cx} {pins : List (Addr × Obj)} {σ : L2.St} {H : Hp} {s : Shared} {x : V} {u t : Value} (I : Inv X pins σ H s) (rx : RelV x u) (ty : TyN X.K H x t) : ∃ P : Heap → Prop, PySem.W.KitX X.K u t P ∧ P s.heap ∧ u ≠ .builtin "__main__.__loader__#opaque" := by
  rcases ty with ty | ⟨rfl, ⟨a, w, ep, es, rfl, ea⟩ | ⟨a, w, ep, es, rfl, ea⟩⟩
  · exact kit_of I rx ty
  · cases (show u = Value.ref a from rx)
    obtain ⟨⟨_, _, _, xs, _, o, es', h1, h2, _⟩, _⟩ := (show ObjOk X.prog X.w H s.heap a (dN w a ep es) from I.hok a _ ea)
    exact ⟨_, PySem.W.kitx_dict, ⟨o, h1, h2.1⟩, fun z => nomatch z⟩
  · cases (show u = Value.ref a from rx)
    obtain ⟨⟨_, _, _, _, _, o, es', h1, h2, _⟩, _⟩ := (show ObjOk X.prog X.w H s.heap a (dF w a ep es) from I.hok a _ ea)
    exact ⟨_, PySem.W.kitx_dict, ⟨o, h1, h2.1⟩, fun z => nomatch z⟩
def rIsD (K : PySem.W.Frag) : List V → Hp → VK → Prop := fun xs H Q => ∃ (x c : V) (t u : Value) (b : Bool), xs = [x, c] ∧ ClsV c u ∧ TyN K H x t ∧ PySem.W.kitOne K t u = some b ∧ Q (.bl b) H
def rIsDT (K : PySem.W.Frag) : List V → Hp → VK → Prop := fun xs H Q => ∃ (x : V) (tp : Addr) (cs : List V) (t : Value) (us : List Value) (b : Bool), xs = [x, .ref tp] ∧ H tp = some (.tup cs) ∧ Paired ClsV cs us ∧ TyN K H x t ∧ PySem.W.kitAny K t us = some b ∧ Q (.bl b) H
theorem call_isD {X : Cx} : CallR X (.builtin "isinstance") (rIsD X.K) := by
  intro pins s σ H xs us Q I r h
  obtain ⟨x, c, t, u, b, rfl, k, ty, e, q⟩ := h
  obtain ⟨u1, u2, rfl, r1, r2⟩ := vals2 r
  have e2 := k.eq r2
  subst e2
  obtain ⟨P, Z, p, hx⟩ := kit_ofN I r1 ty
  exact PySem.W.kia_one Z I.kIn p e hx fun tk => ⟨.bl b, H, I.tok tk, rfl, q⟩
theorem tyX {F H : Hp} {v : V} {d : PyData} (le : Le F H) (r : Rp K F v d) : TyN K H v (.type (tyN d)) := by
  cases r with
  | non => exact .inl (.base .non)
  | bl b => exact .inl (.base (.bl b))
  | int i => exact .inl (.base (.int i))
  | str x => exact .inl (.base (.str x))
  | lst h _ => exact .inl (.base (.lst (le _ _ h)))
  | tup h _ =>
    rcases h with (h | ⟨o, h⟩) | ⟨o, its, n, hk, hc, _⟩
    · exact .inl (.base (.tup (le _ _ h)))
    · exact .inl (.fTuple (le _ _ h))
    · exact .inl (.kTuple hk hc)
  | dct h t =>
    have e := isLid_no t
    simp only [tyN, e]
    exact .inl (.base (.dK (le _ _ h)))
  | dcn h _ => exact .inr ⟨rfl, .inl ⟨_, _, _, _, rfl, le _ _ h⟩⟩
  | dcf h _ _ => exact .inr ⟨rfl, .inr ⟨_, _, _, _, rfl, le _ _ h⟩⟩
  | lid h _ => exact .inl (.base (.lst (le _ _ h)))
theorem kit_tab : ∀ a ∈ ["NoneType", "bool", "int", "str", "list", "tuple", "dict"], ∀ T ∈ ["int", "bool", "str", "list", "tuple", "dict"], kitB a T = some (isTyS a T) := by decide +kernel
theorem tyN_mem (d : PyData) : tyN d ∈ ["NoneType", "bool", "int", "str", "list", "tuple", "dict"] := by
  cases d <;> simp [tyN]
  split <;> simp
theorem kit_isTy {d : PyData} {T : String} (hT : T ∈ ["int", "bool", "str", "list", "tuple", "dict"]) : PySem.W.kitOne K (.type (tyN d)) (.type T) = some (isTy d T) := kit_ty (kit_tab _ (tyN_mem d) T hT)
theorem wd_isi {ta : TE} {T : String} (hT : T ∈ ["int", "bool", "str", "list", "tuple", "dict"]) (h : WD K false Γ ta fun d => Q (.bool (isTy d T))) : WD K m Γ (tCB (rIsD K) (tCons ta (tCons (tC (.ty T)) tNil))) Q := fun X hK F H σ E C k =>
  h X hK F H σ E _ fun v F1 H1 d l1 E1 r q => ⟨v, .ty T, .type (tyN d), .type T, isTy d T, rfl, .ty T, tyX E1.le r, kit_isTy hT, k _ F1 H1 _ l1 E1 (.bl _) q⟩
theorem wd_isi2 {ta : TE} {T U : String} (hT : T ∈ ["int", "bool", "str", "list", "tuple", "dict"]) (hU : U ∈ ["int", "bool", "str", "list", "tuple", "dict"]) (h : WD K false Γ ta fun d => Q (.bool (isTy d T || isTy d U))) : WD K m Γ (tCB (rIsDT K) (tCons ta (tCons (tTup (tCons (tC (.ty T)) (tCons (tC (.ty U)) tNil))) tNil))) Q := fun X hK F H σ E C k =>
  h X hK F H σ E _ fun v F1 H1 d l1 E1 r q => ⟨by show 2 ≤ sizeLine; decide, fun p hp => by
    refine ⟨v, p, [.ty T, .ty U], .type (tyN d), [.type T, .type U], isTy d T || isTy d U, rfl, upd_same, .cons (.ty T) (.cons (.ty U) .nil), tyX (E1.free hp).le r, ?_, k _ F1 _ _ l1 (E1.free hp) (.bl _) q⟩
    refine kitAny_cons (kit_isTy hT) (fun e => ?_) (fun e => by rw [e]; rfl)
    refine kitAny_cons (kit_isTy hU) (fun e2 => by rw [e, e2]; exact kitAny_nil) (fun e2 => by rw [e2]; simp)⟩
end
end Pk
end
section
set_option Elab.async false
set_option linter.all false
set_option maxRecDepth 100000
namespace Pk
open PySem PySem.Spec PyProof.Rows L2
section
variable {K : Kw} {m : Bool} {Γ : List Sl} {QI : List PyData → Prop} {ta : TA} {te : TE}
def pairD (x y : PyData) : PyData := .tuple [x, y]
theorem yPair {X : Bs} {F' : Hp} {fx fy : Nat → Option V} {xs ys ds : List PyData} (hd : ∀ i, i < ds.length → ∃ x y, xs[i]? = some x ∧ ys[i]? = some y ∧ ds[i]? = some (pairD x y)) (hx : ∀ i x, xs[i]? = some x → ∀ v, fx i = some v → Rp K (X.ff F' m) v x) (hy : ∀ i x, ys[i]? = some x → ∀ v, fy i = some v → Rp K (X.ff F' m) v x) :
    ∀ i F2 H2 x H3, Le F' F2 → Le F2 H2 → i < ds.length → YPair fx fy i H2 x H3 → ∃ d F3, ds[i]? = some d ∧ Gr F2 H2 F3 H3 ∧ Rp K (X.ff F3 m) x d := fun i F2 H2 v H3 l2 le hi hy' => by
  obtain ⟨T, x, y, rfl, nT, rfl, e1, e2⟩ := hy'
  obtain ⟨dx, dy, h1, h2, h3⟩ := hd i hi
  have g := Gr.new le (p := T) (o := .tup [x, y]) nT
  refine ⟨_, _, h3, g, .tup (Bs.ff_tup.1 _ _ (SqT.of upd_same)) (.cons (Bs.mo (hx i dx h1 x e1) (l2.tr g.lf)) (.cons (Bs.mo (hy i dy h2 y e2) (l2.tr g.lf)) .nil))⟩
theorem zip_get {xs ys : List PyData} {i : Nat} (h : i < (List.zipWith pairD xs ys).length) : ∃ x y, xs[i]? = some x ∧ ys[i]? = some y ∧ (List.zipWith pairD xs ys)[i]? = some (pairD x y) := by
  rw [List.length_zipWith] at h
  have h1 : i < xs.length := by omega
  have h2 : i < ys.length := by omega
  exact ⟨xs[i], ys[i], by simp [h1], by simp [h2], by simp [List.getElem?_zipWith, h1, h2]⟩
/-- (0, x0), (1, x1), .. -/
def enumD (xs : List PyData) : List PyData := List.zipWith pairD (rangeD 0 xs.length) xs
theorem enumD_len {xs : List PyData} : (enumD xs).length = xs.length := by simp [enumD, rangeD_len]
theorem enumD_of {xs : List PyData} {i : Nat} {d : PyData} (h : (enumD xs)[i]? = some d) : ∃ x, xs[i]? = some x ∧ d = .tuple [.int i, x] := by
  have hi : i < (enumD xs).length := (List.getElem?_eq_some_iff.mp h).1
  obtain ⟨a, b, h1, h2, h3⟩ := zip_get hi
  obtain ⟨_, e⟩ := rangeD_of h1
  refine ⟨b, h2, ?_⟩
  unfold enumD at h
  rw [h3] at h
  cases h
  rw [e, Int.zero_add]
  rfl
theorem wi_enum (h : WA K m Γ ta fun as => ∃ xs, as = [.d (.list xs)] ∧ QI (enumD xs)) : WI K m Γ (iEnum K ta) QI := fun X hK F H σ E C k =>
  h X hK F H σ E _ fun vs F1 H1 as l1 E1 r ⟨xs, e, q⟩ => by
    subst e
    cases r with
    | cons a b =>
      cases b
      have a' : Rp X.K (X.ff F1 m) _ (.list xs) := a
      cases a' with
      | lst ha ra =>
        rename_i pa us
        refine ⟨pa, us, rfl, SqL.of (E1.lef m _ _ ha), k (Ite K pa) F1 H1 _ _ (enumD xs) l1 E1 (by rw [enumD_len, ← ra.length]; exact walk_enum (xs := us)) (fun H2 l2 => SqL.of (l2 _ _ (X.ff_le F1 m _ _ ha))) (yPair (xs := rangeD 0 xs.length) (ys := xs) (fun i hi => zip_get hi) (fun i x hx v hv => ?_) (fun i x hx v hv => ?_)) q⟩
        · obtain ⟨_, e⟩ := rangeD_of hx
          cases hv
          rw [e, Int.zero_add]
          exact .int _
        · obtain ⟨u, hu, ru⟩ := ra.get hx
          rw [hv] at hu; cases hu; rw [← hK]; exact ru
end

/-- at most n deep, no dicts, texts of signs -/
def dep : Nat → PyData → Prop
  | _, .none => True
  | _, .bool _ => True
  | _, .int _ => True
  | _, .str x => PyData.strOk x = true
  | 0, .list _ => False
  | 0, .tuple _ => False
  | n + 1, .list xs => ∀ x ∈ xs, dep n x
  | n + 1, .tuple xs => ∀ x ∈ xs, dep n x
  | _, .dict _ => False
theorem dep_can : ∀ (n : Nat) (d : PyData), dep n d → d.canLay0 = true ∧ d.depth ≤ n + 1
  | _, .none, _ => ⟨rfl, by simp [PyData.depth]⟩
  | _, .bool _, _ => ⟨rfl, by simp [PyData.depth]⟩
  | _, .int _, _ => ⟨rfl, by simp [PyData.depth]⟩
  | n, .str x, h => by
    have h' : PyData.strOk x = true := by cases n <;> exact h
    exact ⟨by simpa [PyData.canLay0] using h', by simp [PyData.depth]⟩
  | 0, .list _, h => h.elim
  | 0, .tuple _, h => h.elim
  | n + 1, .list xs, h => by
    have : PyData.canLayAll0 xs = true ∧ PyData.depthAll xs ≤ n + 1 := by
      have h' : ∀ x ∈ xs, dep n x := h
      clear h
      induction xs with
      | nil => exact ⟨rfl, by simp [PyData.depthAll]⟩
      | cons x xs ih =>
        obtain ⟨a, b⟩ := dep_can n x (h' x List.mem_cons_self)
        obtain ⟨c, d⟩ := ih fun y hy => h' y (List.mem_cons_of_mem _ hy)
        exact ⟨by simp [PyData.canLayAll0, a, c], by simp only [PyData.depthAll]; omega⟩
    exact ⟨by simpa [PyData.canLay0] using this.1, by simp only [PyData.depth]; omega⟩
  | n + 1, .tuple xs, h => by
    have : PyData.canLayAll0 xs = true ∧ PyData.depthAll xs ≤ n + 1 := by
      have h' : ∀ x ∈ xs, dep n x := h
      clear h
      induction xs with
      | nil => exact ⟨rfl, by simp [PyData.depthAll]⟩
      | cons x xs ih =>
        obtain ⟨a, b⟩ := dep_can n x (h' x List.mem_cons_self)
        obtain ⟨c, d⟩ := ih fun y hy => h' y (List.mem_cons_of_mem _ hy)
        exact ⟨by simp [PyData.canLayAll0, a, c], by simp only [PyData.depthAll]; omega⟩
    exact ⟨by simpa [PyData.canLay0] using this.1, by simp only [PyData.depth]; omega⟩
  | n, .dict _, h => by cases n <;> exact h.elim
theorem dep_shaped {n : Nat} {d : PyData} (h : dep n d) (hn : n ≤ 63) : SeqAt.shaped d = true := by
  obtain ⟨a, b⟩ := dep_can n d h
  simp only [SeqAt.shaped, a, Bool.true_and, decide_eq_true_eq]
  omega
theorem sh_int {i : Int} : SeqAt.shaped (.int i) = true := dep_shaped (n := 0) (d := .int i) trivial (by decide)
theorem sh_bool {b : Bool} : SeqAt.shaped (.bool b) = true := dep_shaped (n := 0) (d := .bool b) trivial (by decide)
theorem sh_non : SeqAt.shaped .none = true := dep_shaped (n := 0) (d := .none) trivial (by decide)
theorem sh_str {x : Str} (h : PyData.strOk x = true) : SeqAt.shaped (.str x) = true := dep_shaped (n := 0) (d := .str x) h (by decide)
theorem sh_nil : SeqAt.shaped (.list []) = true := dep_shaped (n := 1) (d := .list []) (fun x h => by cases h) (by decide)
/-- == of texts, ints -/
theorem eqv_int {i j : Int} : PyData.eqv (.int i) (.int j) = decide (i = j) := by simp only [PyData.eqv]; exact Bool.beq_eq_decide_eq i j
theorem eqv_str {x y : Str} : PyData.eqv (.str x) (.str y) = decide (x = y) := by simp only [PyData.eqv]; exact Bool.beq_eq_decide_eq x y
theorem eqv_nil {xs : List PyData} : PyData.eqv (.list xs) (.list []) = xs.isEmpty := by cases xs <;> simp [PyData.eqv, PyData.eqvAll]
/-- no truths within -/
inductive NB : PyData → Prop
  | non : NB .none
  | int (i : Int) : NB (.int i)
  | str (x : Str) : NB (.str x)
  | lst {xs : List PyData} : (∀ x ∈ xs, NB x) → NB (.list xs)
  | tup {xs : List PyData} : (∀ x ∈ xs, NB x) → NB (.tuple xs)
mutual
theorem eqv_iff : ∀ (x y : PyData), NB x → NB y → (PyData.eqv x y = true ↔ x = y)
  | .none, y, _, hy => by cases hy <;> simp [PyData.eqv]
  | .int i, y, _, hy => by cases hy <;> simp [PyData.eqv]
  | .str s, y, _, hy => by cases hy <;> simp [PyData.eqv]
  | .list xs, y, hx, hy => by
    cases hx with
    | lst h =>
      cases hy with
      | lst k => simp only [PyData.eqv, PyData.list.injEq]; exact eqvAll_iff xs _ h k
      | _ => simp [PyData.eqv]
  | .tuple xs, y, hx, hy => by
    cases hx with
    | tup h =>
      cases hy with
      | tup k => simp only [PyData.eqv, PyData.tuple.injEq]; exact eqvAll_iff xs _ h k
      | _ => simp [PyData.eqv]
  | .bool _, _, hx, _ => by cases hx
  | .dict _, _, hx, _ => by cases hx
theorem eqvAll_iff : ∀ (xs ys : List PyData), (∀ x ∈ xs, NB x) → (∀ x ∈ ys, NB x) → (PyData.eqvAll xs ys = true ↔ xs = ys)
  | [], ys, _, _ => by cases ys <;> simp [PyData.eqvAll]
  | x :: xs, [], _, _ => by simp [PyData.eqvAll]
  | x :: xs, y :: ys, hx, hy => by
    simp only [PyData.eqvAll, Bool.and_eq_true, List.cons.injEq]
    rw [eqv_iff x y (hx x List.mem_cons_self) (hy y List.mem_cons_self), eqvAll_iff xs ys (fun z h => hx z (List.mem_cons_of_mem _ h)) (fun z h => hy z (List.mem_cons_of_mem _ h))]
end
theorem eqv_self {x : PyData} (h : NB x) : PyData.eqv x x = true := (eqv_iff x x h h).mpr rfl
end Pk
end
section
set_option Elab.async false
set_option linter.all false
set_option maxRecDepth 100000
namespace Pk
open PySem PySem.Spec PyProof.Rows L2
section
variable {K : Kw} {m : Bool} {Γ : List Sl} {Q : PyData → Prop} {QX : Sl → Prop} {ta tb tc td te tf : TE}
theorem wd_cb1 {r : List V → Hp → VK → Prop} (h : WD K m Γ ta fun x => RC K m Γ r [x] Q) : WD K m Γ (tCB r (tCons ta tNil)) Q := wd_cb (wa_d (h.mono fun x q => wa_nil ⟨_, rfl, q⟩))
theorem wd_cb2 {r : List V → Hp → VK → Prop} (h : WD K m Γ ta fun x => WD K m Γ tb fun y => RC K m Γ r [x, y] Q) : WD K m Γ (tCB r (tCons ta (tCons tb tNil))) Q := wd_cb (wa_d (h.mono fun x h => wa_d (h.mono fun y q => wa_nil ⟨_, rfl, q⟩)))
theorem wx_cb1 {r : List V → Hp → VK → Prop} (m : Bool) (h : WD K m Γ ta fun x => RCX K m Γ r [x] QX) : WX K Γ (tCB r (tCons ta tNil)) QX := wx_cb m (wa_d (h.mono fun x q => wa_nil ⟨_, rfl, q⟩))
theorem le_lit {n : Nat} (h : Nat.ble n 100000 = true) : n ≤ 100000 := Nat.le_of_ble_eq_true h
theorem wd_tup0 (q : Q (.tuple [])) : WD K m Γ (tTup tNil) Q := wd_tup (wa_nil ⟨_, rfl, le_lit rfl, q⟩)
theorem wd_tup1 (h : WD K m Γ ta fun x => Q (.tuple [x])) : WD K m Γ (tTup (tCons ta tNil)) Q := wd_tup (wa_d (h.mono fun x q => wa_nil ⟨_, rfl, le_lit rfl, q⟩))
theorem wd_tup2 (h : WD K m Γ ta fun x => WD K m Γ tb fun y => Q (.tuple [x, y])) : WD K m Γ (tTup (tCons ta (tCons tb tNil))) Q := wd_tup (wa_d (h.mono fun x h => wa_d (h.mono fun y q => wa_nil ⟨_, rfl, le_lit rfl, q⟩)))
theorem wd_tup3 (h : WD K m Γ ta fun x => WD K m Γ tb fun y => WD K m Γ tc fun z => Q (.tuple [x, y, z])) : WD K m Γ (tTup (tCons ta (tCons tb (tCons tc tNil)))) Q := wd_tup (wa_d (h.mono fun x h => wa_d (h.mono fun y h => wa_d (h.mono fun z q => wa_nil ⟨_, rfl, le_lit rfl, q⟩))))
theorem wd_lst0 (q : Q (.list [])) : WD K m Γ (tLst tNil) Q := wd_lst (wa_nil ⟨_, rfl, le_lit rfl, q⟩)
theorem wd_lst1 (h : WD K m Γ ta fun x => Q (.list [x])) : WD K m Γ (tLst (tCons ta tNil)) Q := wd_lst (wa_d (h.mono fun x q => wa_nil ⟨_, rfl, le_lit rfl, q⟩))
theorem wd_lst2 (h : WD K m Γ ta fun x => WD K m Γ tb fun y => Q (.list [x, y])) : WD K m Γ (tLst (tCons ta (tCons tb tNil))) Q := wd_lst (wa_d (h.mono fun x h => wa_d (h.mono fun y q => wa_nil ⟨_, rfl, le_lit rfl, q⟩)))
theorem wd_lst3 (h : WD K m Γ ta fun x => WD K m Γ tb fun y => WD K m Γ tc fun z => Q (.list [x, y, z])) : WD K m Γ (tLst (tCons ta (tCons tb (tCons tc tNil)))) Q := wd_lst (wa_d (h.mono fun x h => wa_d (h.mono fun y h => wa_d (h.mono fun z q => wa_nil ⟨_, rfl, le_lit rfl, q⟩))))
theorem wd_lst4 (h : WD K m Γ ta fun x => WD K m Γ tb fun y => WD K m Γ tc fun z => WD K m Γ td fun u => Q (.list [x, y, z, u])) : WD K m Γ (tLst (tCons ta (tCons tb (tCons tc (tCons td tNil))))) Q := wd_lst (wa_d (h.mono fun x h => wa_d (h.mono fun y h => wa_d (h.mono fun z h => wa_d (h.mono fun u q => wa_nil ⟨_, rfl, le_lit rfl, q⟩)))))
theorem wd_lst5 (h : WD K m Γ ta fun x => WD K m Γ tb fun y => WD K m Γ tc fun z => WD K m Γ td fun u => WD K m Γ te fun w => Q (.list [x, y, z, u, w])) : WD K m Γ (tLst (tCons ta (tCons tb (tCons tc (tCons td (tCons te tNil)))))) Q := wd_lst (wa_d (h.mono fun x h => wa_d (h.mono fun y h => wa_d (h.mono fun z h => wa_d (h.mono fun u h => wa_d (h.mono fun w q => wa_nil ⟨_, rfl, le_lit rfl, q⟩))))))
theorem wd_lst6 (h : WD K m Γ ta fun x => WD K m Γ tb fun y => WD K m Γ tc fun z => WD K m Γ td fun u => WD K m Γ te fun w => WD K m Γ tf fun r => Q (.list [x, y, z, u, w, r])) : WD K m Γ (tLst (tCons ta (tCons tb (tCons tc (tCons td (tCons te (tCons tf tNil))))))) Q := wd_lst (wa_d (h.mono fun x h => wa_d (h.mono fun y h => wa_d (h.mono fun z h => wa_d (h.mono fun u h => wa_d (h.mono fun w h => wa_d (h.mono fun r q => wa_nil ⟨_, rfl, le_lit rfl, q⟩)))))))
theorem wx_lst0 (m : Bool) (q : ∀ l, QX (.ml m l [])) : WX K Γ (tLst tNil) QX := wx_lst m (wa_nil ⟨_, rfl, le_lit rfl, q⟩)
theorem wx_lst3 (m : Bool) (h : WD K m Γ ta fun x => WD K m Γ tb fun y => WD K m Γ tc fun z => ∀ l, QX (.ml m l [x, y, z])) : WX K Γ (tLst (tCons ta (tCons tb (tCons tc tNil)))) QX := wx_lst m (wa_d (h.mono fun x h => wa_d (h.mono fun y h => wa_d (h.mono fun z q => wa_nil ⟨_, rfl, le_lit rfl, q⟩))))
variable {T : List Sl → (Sl → Prop) → Prop} {EE : XK}
theorem wx_call0 (h : T [] QX) : WX K Γ (tCall (spG K T) [] EE tNil) QX := wx_call (wa_nil ⟨agsGood_d rfl, h⟩)
theorem wx_call1 (h : WD K false Γ ta fun x => T [.dat false x] QX) : WX K Γ (tCall (spG K T) [] EE (tCons ta tNil)) QX := wx_call (wa_d (h.mono fun x q => wa_nil ⟨agsGood_d rfl, q⟩))
theorem wx_call2 (h : WD K false Γ ta fun x => WD K false Γ tb fun y => T [.dat false x, .dat false y] QX) : WX K Γ (tCall (spG K T) [] EE (tCons ta (tCons tb tNil))) QX := wx_call (wa_d (h.mono fun x h => wa_d (h.mono fun y q => wa_nil ⟨agsGood_d rfl, q⟩)))
theorem wx_call3 (h : WD K false Γ ta fun x => WD K false Γ tb fun y => WD K false Γ tc fun z => T [.dat false x, .dat false y, .dat false z] QX) : WX K Γ (tCall (spG K T) [] EE (tCons ta (tCons tb (tCons tc tNil)))) QX := wx_call (wa_d (h.mono fun x h => wa_d (h.mono fun y h => wa_d (h.mono fun z q => wa_nil ⟨agsGood_d rfl, q⟩))))
theorem wx_call4 (h : WD K false Γ ta fun x => WD K false Γ tb fun y => WD K false Γ tc fun z => WD K false Γ td fun u => T [.dat false x, .dat false y, .dat false z, .dat false u] QX) : WX K Γ (tCall (spG K T) [] EE (tCons ta (tCons tb (tCons tc (tCons td tNil))))) QX := wx_call (wa_d (h.mono fun x h => wa_d (h.mono fun y h => wa_d (h.mono fun z h => wa_d (h.mono fun u q => wa_nil ⟨agsGood_d rfl, q⟩)))))
theorem ag_ex {i : Nat} {v : V} {Φ : Own} (hi : Γ[i]? = some (.ex v Φ)) : Ag.sl Γ (.o i) = .ex v Φ := by simp [Ag.sl, List.getD_eq_getElem?_getD, hi]
theorem wx_callO0 {i : Nat} {v : V} {Φ : Own} (hi : Γ[i]? = some (.ex v Φ)) (h : T [.ex v Φ] QX) : WX K Γ (tCall (spG K T) [] EE (tCons (tVar i) tNil)) QX := wx_call (wa_o hi (wa_nil ⟨agsGood_1 hi rfl, by rw [List.map_cons, ag_ex hi]; exact h⟩))
theorem wx_callO1 {i : Nat} {v : V} {Φ : Own} (hi : Γ[i]? = some (.ex v Φ)) (h : WD K false Γ ta fun x => T [.ex v Φ, .dat false x] QX) : WX K Γ (tCall (spG K T) [] EE (tCons (tVar i) (tCons ta tNil))) QX := wx_call (wa_o hi (wa_d (h.mono fun x q => wa_nil ⟨agsGood_1 hi rfl, by rw [List.map_cons, ag_ex hi]; exact q⟩)))
theorem wx_callO2 {i : Nat} {v : V} {Φ : Own} (hi : Γ[i]? = some (.ex v Φ)) (h : WD K false Γ ta fun x => WD K false Γ tb fun y => T [.ex v Φ, .dat false x, .dat false y] QX) : WX K Γ (tCall (spG K T) [] EE (tCons (tVar i) (tCons ta (tCons tb tNil)))) QX := wx_call (wa_o hi (wa_d (h.mono fun x h => wa_d (h.mono fun y q => wa_nil ⟨agsGood_1 hi rfl, by rw [List.map_cons, ag_ex hi]; exact q⟩))))
theorem wx_callO3 {i : Nat} {v : V} {Φ : Own} (hi : Γ[i]? = some (.ex v Φ)) (h : WD K false Γ ta fun x => WD K false Γ tb fun y => WD K false Γ tc fun z => T [.ex v Φ, .dat false x, .dat false y, .dat false z] QX) : WX K Γ (tCall (spG K T) [] EE (tCons (tVar i) (tCons ta (tCons tb (tCons tc tNil))))) QX := wx_call (wa_o hi (wa_d (h.mono fun x h => wa_d (h.mono fun y h => wa_d (h.mono fun z q => wa_nil ⟨agsGood_1 hi rfl, by rw [List.map_cons, ag_ex hi]; exact q⟩)))))
/-- what is wanted of a call's result, as data -/
def asD (m : Bool) (Q : PyData → Prop) : Sl → Prop := fun s => ∃ d, s.toD m = some d ∧ Q d
theorem asD_dat {d : PyData} (q : Q d) : asD m Q (.dat m d) := ⟨d, toD_dat, q⟩
theorem asD_new {d : PyData} (q : Q d) : asD m Q (.dat true d) := ⟨d, by cases m <;> simp [Sl.toD], q⟩
theorem wd_call0 (h : T [] (asD m Q)) : WD K m Γ (tCall (spG K T) [] EE tNil) Q := .ofX (wx_call0 h)
theorem wd_call1 (h : WD K false Γ ta fun x => T [.dat false x] (asD m Q)) : WD K m Γ (tCall (spG K T) [] EE (tCons ta tNil)) Q := .ofX (wx_call1 h)
theorem wd_call2 (h : WD K false Γ ta fun x => WD K false Γ tb fun y => T [.dat false x, .dat false y] (asD m Q)) : WD K m Γ (tCall (spG K T) [] EE (tCons ta (tCons tb tNil))) Q := .ofX (wx_call2 h)
theorem wd_call3 (h : WD K false Γ ta fun x => WD K false Γ tb fun y => WD K false Γ tc fun z => T [.dat false x, .dat false y, .dat false z] (asD m Q)) : WD K m Γ (tCall (spG K T) [] EE (tCons ta (tCons tb (tCons tc tNil)))) Q := .ofX (wx_call3 h)
theorem wd_call4 (h : WD K false Γ ta fun x => WD K false Γ tb fun y => WD K false Γ tc fun z => WD K false Γ td fun u => T [.dat false x, .dat false y, .dat false z, .dat false u] (asD m Q)) : WD K m Γ (tCall (spG K T) [] EE (tCons ta (tCons tb (tCons tc (tCons td tNil))))) Q := .ofX (wx_call4 h)
theorem wd_callO0 {i : Nat} {v : V} {Φ : Own} (hi : Γ[i]? = some (.ex v Φ)) (h : T [.ex v Φ] (asD m Q)) : WD K m Γ (tCall (spG K T) [] EE (tCons (tVar i) tNil)) Q := .ofX (wx_callO0 hi h)
theorem wd_callO1 {i : Nat} {v : V} {Φ : Own} (hi : Γ[i]? = some (.ex v Φ)) (h : WD K false Γ ta fun x => T [.ex v Φ, .dat false x] (asD m Q)) : WD K m Γ (tCall (spG K T) [] EE (tCons (tVar i) (tCons ta tNil))) Q := .ofX (wx_callO1 hi h)
theorem wd_callO2 {i : Nat} {v : V} {Φ : Own} (hi : Γ[i]? = some (.ex v Φ)) (h : WD K false Γ ta fun x => WD K false Γ tb fun y => T [.ex v Φ, .dat false x, .dat false y] (asD m Q)) : WD K m Γ (tCall (spG K T) [] EE (tCons (tVar i) (tCons ta (tCons tb tNil)))) Q := .ofX (wx_callO2 hi h)
theorem wd_callO3 {i : Nat} {v : V} {Φ : Own} (hi : Γ[i]? = some (.ex v Φ)) (h : WD K false Γ ta fun x => WD K false Γ tb fun y => WD K false Γ tc fun z => T [.ex v Φ, .dat false x, .dat false y, .dat false z] (asD m Q)) : WD K m Γ (tCall (spG K T) [] EE (tCons (tVar i) (tCons ta (tCons tb (tCons tc tNil))))) Q := .ofX (wx_callO3 hi h)
end
theorem iteD {p A B : Prop} [Decidable p] (h1 : p → A) (h2 : ¬ p → B) : if decide p = true then A else B := by
  by_cases h : p
  · rw [decide_eq_true h, if_pos rfl]; exact h1 h
  · rw [decide_eq_false h, if_neg Bool.false_ne_true]; exact h2 h
theorem iteB {b : Bool} {A B : Prop} (h1 : b = true → A) (h2 : b = false → B) : if b = true then A else B := by
  cases b with
  | true => rw [if_pos rfl]; exact h1 rfl
  | false => rw [if_neg Bool.false_ne_true]; exact h2 rfl
theorem iteT' {A B : Prop} {b : Bool} (hb : b = true) (h : A) : if b = true then A else B := by rw [if_pos hb]; exact h
theorem iteF' {A B : Prop} {b : Bool} (hb : b = false) (h : B) : if b = true then A else B := by rw [hb, if_neg Bool.false_ne_true]; exact h
def OwnL (K : Kw) (P : List Int → Prop) : Own where
  K := K
  p := fun _ H v S => ∃ (l : Addr) (ns : List Int), v = .ref l ∧ (∀ b, S b ↔ b = l) ∧ H l = some (.lst (ns.map V.int)) ∧ P ns
  vw := none
  keep := fun {F F' H H' v S} ⟨l, ns, e, hS, hl, hp⟩ _ k => ⟨l, ns, e, hS, (k l ((hS l).mpr rfl)).trans hl, hp⟩
  keepT := fun _ {F F' H H' v S} ⟨l, ns, e, hS, hl, hp⟩ _ k => ⟨l, ns, e, hS, (k l ((hS l).mpr rfl)).trans hl, hp⟩
  view := fun _ _ e => nomatch e
theorem ints_rp {K : Kw} {F : Hp} : ∀ ns : List Int, RpA K F (ns.map V.int) (ns.map PyData.int)
  | [] => .nil
  | n :: ns => .cons (.int n) (ints_rp ns)
section
variable {K : Kw} {Γ : List Sl} {P : Po} {ts : TS}
/-- a slot is told otherwise -/
theorem sj_retell {i : Nat} {s s' : Sl} (hi : Γ[i]? = some s) (h : ∀ (X : Bs) (F H : Hp) (ov : Option V) (S : Addr → Prop), X.K = K → SlOk X F H ov S s → SlOk X F H ov S s') (k : SJ K (Γ.set i s') ts P) : SJ K Γ ts P := fun X hK F H σ E D hD =>
  k X hK F H σ (E.retell Le.rfl' E.le (fun _ _ _ _ => rfl) hi fun S hS q => ⟨S, h X F H _ S hK q, fun a sa => ⟨sa, (hS a sa).1⟩, fun _ z => absurd rfl z⟩) D hD
theorem sj_open (i : Nat) {v : V} {PL : List Int → Prop} (hi : Γ[i]? = some (.ex v (OwnL K PL))) (k : ∀ l ns, v = .ref l → PL ns → SJ K (Γ.set i (.ml false l (ns.map PyData.int))) ts P) : SJ K Γ ts P := fun X hK F H σ E D hD => by
  obtain ⟨S, hs, _, _⟩ := id E.sl
  obtain ⟨e, _, l, ns, rfl, hS, hl, hp⟩ := hs i _ hi
  refine k l ns rfl hp X hK F H σ (E.retell Le.rfl' E.le (fun _ _ _ _ => rfl) hi fun S hS q => ⟨S, ?_, fun a sa => ⟨sa, (hS a sa).1⟩, fun _ z => absurd rfl z⟩) D hD
  obtain ⟨e', _, l', ns', er, hS', hl', hp'⟩ := q
  cases er
  rw [hl] at hl'
  have : ns.map V.int = ns'.map V.int := by injection hl' with z; injection z
  exact ⟨ns.map V.int, e, hS', hl, ints_rp ns, fun z => nomatch z⟩
theorem sj_close (i : Nat) {m : Bool} {l : Addr} {ns : List Int} (PL : List Int → Prop) (hi : Γ[i]? = some (.ml m l (ns.map PyData.int))) (hp : PL ns) (k : SJ K (Γ.set i (.ex (.ref l) (OwnL K PL))) ts P) : SJ K Γ ts P :=
  sj_retell hi (fun X F H ov S hK q => by
    obtain ⟨xs, e, hS, hl, r, _⟩ := q
    rw [ints_of r] at hl
    exact ⟨e, hK.symm, l, ns, rfl, hS, hl, hp⟩) k
end
def ScriptO (K : Kw) (ns : List Int) : Own where
  K := K
  p := fun _ H v S => ∃ a : Addr, v = .ref a ∧ SqL K H a (ns.map V.int) ∧ ((∀ b, S b ↔ b = a) ∨ (∀ H', SqL K H' a (ns.map V.int)) ∧ ∀ b, ¬ S b)
  vw := none
  keep := fun {F F' H H' v S} ⟨a, e, h, c⟩ _ k => by
    refine ⟨a, e, ?_, c⟩
    rcases c with c | ⟨c, _⟩
    · have z := k a ((c a).mpr rfl)
      rcases h with (h | ⟨o, h⟩) | h
      · exact .inl (.inl (z.trans h))
      · exact .inl (.inr ⟨o, z.trans h⟩)
      · exact .inr h
    · exact c H'
  keepT := fun _ {F F' H H' v S} ⟨a, e, h, c⟩ _ k => by
    refine ⟨a, e, ?_, c⟩
    rcases c with c | ⟨c, _⟩
    · have z := k a ((c a).mpr rfl)
      rcases h with (h | ⟨o, h⟩) | h
      · exact .inl (.inl (z.trans h))
      · exact .inl (.inr ⟨o, z.trans h⟩)
      · exact .inr h
    · exact c H'
  view := fun _ _ e => nomatch e
section
variable {K : Kw} {m : Bool} {Γ : List Sl} {Q : PyData → Prop} {ta : TE}
theorem En.script {X : Bs} {F H : Hp} {σ : L2.St} (E : En X F H σ Γ) {i : Nat} {v : V} {ns : List Int} (hi : Γ[i]? = some (.ex v (ScriptO K ns))) : ∃ a, v = .ref a ∧ SqL K H a (ns.map V.int) := by
  obtain ⟨S, hs, _, _⟩ := E.sl
  obtain ⟨_, _, a, e, h, _⟩ := hs i _ hi
  exact ⟨a, e, h⟩
theorem wd_lenScript {i : Nat} {v : V} {ns : List Int} (hi : Γ[i]? = some (.ex v (ScriptO K ns))) (q : Q (.int ns.length)) : WD K m Γ (tCB (dLen K) (tCons (tVar i) tNil)) Q := fun X hK F H σ E C k => by
  obtain ⟨a, e, h⟩ := E.script hi
  subst e
  refine ⟨_, E.ex hi, _, ns.length, rfl, .inl ⟨_, h, by simp⟩, k _ F H _ Le.rfl' E (.int _) q⟩
theorem wd_ixScript {i : Nat} {v : V} {ns : List Int} (hi : Γ[i]? = some (.ex v (ScriptO K ns))) (h : WD K false Γ ta fun d => ∃ (n : Int) (c : Int), d = .int n ∧ atI ns n = some c ∧ Q (.int c)) : WD K m Γ (tOp (rIx K) (tVar i) ta) Q := fun X hK F H σ E C k => by
  refine ⟨v, E.ex hi, h X hK F H σ E _ fun u F1 H1 x l1 E1 r1 ⟨n, c, en, hc, q⟩ => ?_⟩
  subst en
  cases r1
  obtain ⟨a, e, hq⟩ := E1.script hi
  subst e
  refine .inl ⟨a, _, n, .int c, rfl, rfl, hq, ?_, k _ F1 H1 _ l1 E1 (.int _) q⟩
  unfold atI at hc ⊢
  rw [List.length_map]
  cases hx : ixN ns.length n with
  | none => rw [hx] at hc; cases hc
  | some j =>
    rw [hx] at hc
    simp only [Option.bind_some] at hc ⊢
    rw [List.getElem?_map, hc]
    rfl
end
end Pk
end
section
set_option Elab.async false
set_option linter.all false
set_option maxRecDepth 100000
namespace Pk
open PySem PySem.Spec PyProof.Rows L2
section
variable {K : Kw} {m mi : Bool} {Γ : List Sl} {Q : PyData → Prop} {QX : Sl → Prop} {ta tb te : TE} {wi : TI} {g : TG} {tt : TT} {vs : List Nat}
theorem WI.mono {QI QI' : List PyData → Prop} (h : WI K m Γ wi QI) (k : ∀ ds, QI ds → QI' ds) : WI K m Γ wi QI' := fun X hK F H σ E C c => h X hK F H σ E C fun J F' H' G Y ds l E' w a b q => c J F' H' G Y ds l E' w a b (k ds q)
theorem GJ.mono {N N' : List Sl → Prop} {d : PyData} (h : GJ K m Γ g d N) (k : ∀ Γ, N Γ → N' Γ) : GJ K m Γ g d N' := fun X hK F H σ E v r C c => h X hK F H σ E v r C fun F' H' σ' Γ' l E' q => c F' H' σ' Γ' l E' (k Γ' q)
/-- .. of typed items -/
theorem wx_lcPa {α : Type} (m : Bool) (enc : α → PyData) (p : α → Bool) (f : α → PyData) (hv : wipeOk Γ vs) (hgw : Gw g vs)
    (h : WI K mi Γ wi fun ds => ∃ xs : List α, ds = xs.map enc ∧ xs.length ≤ 100000 ∧ (∀ (i : Nat) (x : α), xs[i]? = some x → GJ K mi (wipeG Γ vs) g (enc x) fun Γ2 => wipeG Γ2 vs = wipeG Γ vs ∧ WT K Γ2 tt fun b => b = p x ∧ (b = true → WD K m Γ2 te fun y => y = f x)) ∧ ∀ l, QX (.ml m l ((xs.filter p).map f))) : WX K Γ (tLc wi g tt te vs) QX :=
  wx_lc m hv hgw (h.mono fun ds ⟨xs, ed, hz, hs, he⟩ => by
    subst ed
    refine ⟨fun n acc => acc = ((xs.take n).filter p).map f, by simpa using hz, by simp, fun i d acc hd _ ha => ?_, fun acc _ ha l => ?_⟩
    · rw [List.getElem?_map] at hd
      cases hx : xs[i]? with
      | none => rw [hx] at hd; cases hd
      | some x =>
        rw [hx] at hd
        cases hd
        have ha : acc = ((xs.take i).filter p).map f := ha
        refine (hs i x hx).mono fun Γ2 ⟨e, w⟩ => ⟨e, w.mono fun b ⟨hb, hw⟩ => ?_⟩
        have ht : xs.take (i + 1) = xs.take i ++ [x] := by rw [List.take_add_one, hx]; rfl
        cases hp : b with
        | true =>
          rw [if_pos rfl]
          refine (hw hp).mono fun y hy => ?_
          show acc ++ [y] = ((xs.take (i + 1)).filter p).map f
          rw [ht, List.filter_append, List.map_append, ha, hy]
          rw [hb] at hp
          simp [hp]
        | false =>
          rw [if_neg Bool.false_ne_true]
          show acc = ((xs.take (i + 1)).filter p).map f
          rw [ht, List.filter_append, List.map_append, ha]
          rw [hb] at hp
          simp [hp]
    · have ha : acc = ((xs.take (xs.map enc).length).filter p).map f := ha
      rw [ha, List.length_map, List.take_length]
      exact he l)
theorem wx_lcMa {α : Type} (m : Bool) (enc : α → PyData) (f : α → PyData) (hv : wipeOk Γ vs) (hgw : Gw g vs)
    (h : WI K mi Γ wi fun ds => ∃ xs : List α, ds = xs.map enc ∧ xs.length ≤ 100000 ∧ (∀ (i : Nat) (x : α), xs[i]? = some x → GJ K mi (wipeG Γ vs) g (enc x) fun Γ2 => wipeG Γ2 vs = wipeG Γ vs ∧ WD K m Γ2 te fun y => y = f x) ∧ ∀ l, QX (.ml m l (xs.map f))) : WX K Γ (tLc wi g tYes te vs) QX :=
  wx_lcPa m enc (fun _ => true) f hv hgw (h.mono fun ds ⟨xs, ed, hz, hs, he⟩ => ⟨xs, ed, hz, fun i x hx => (hs i x hx).mono fun Γ2 ⟨e, w⟩ => ⟨e, wt_yes ⟨rfl, fun _ => w⟩⟩, fun l => by
    have : xs.filter (fun _ => true) = xs := by simp
    rw [this]
    exact he l⟩)
theorem wd_lcMa {α : Type} (enc : α → PyData) (f : α → PyData) (hv : wipeOk Γ vs) (hgw : Gw g vs)
    (h : WI K mi Γ wi fun ds => ∃ xs : List α, ds = xs.map enc ∧ xs.length ≤ 100000 ∧ (∀ (i : Nat) (x : α), xs[i]? = some x → GJ K mi (wipeG Γ vs) g (enc x) fun Γ2 => wipeG Γ2 vs = wipeG Γ vs ∧ WD K m Γ2 te fun y => y = f x) ∧ Q (.list (xs.map f))) : WD K m Γ (tLc wi g tYes te vs) Q :=
  .ofX (wx_lcMa m enc f hv hgw (h.mono fun ds ⟨xs, ed, hz, hs, q⟩ => ⟨xs, ed, hz, hs, fun l => ⟨_, toD_ml, q⟩⟩))
/-- an item of a list at a drawn place -/
theorem rd_sel {ds : List PyData} {n : Int} (h0 : 0 ≤ n) (h1 : n < ds.length) (q : ∀ d ∈ ds, Q d) : RD K m Γ (rIx K) (.list ds) (.int n) Q := by
  have hl : n.toNat < ds.length := by omega
  exact rd_ixL (d := ds[n.toNat]) (atI_of (n := n.toNat) (by omega) (by simp [hl])) (q _ (List.getElem_mem hl))
theorem rd_selN {ds : List PyData} {n : Int} (j : Nat) (e : n = j) {d : PyData} (h : ds[j]? = some d) (q : Q d) : RD K m Γ (rIx K) (.list ds) (.int n) Q := rd_ixL (atI_of e h) q
theorem gwn {i : Nat} : Gw (gName i) [i] := gw_name (by simp)
/-- over range, the slot's own name -/
theorem wi_rng {mi : Bool} {ta : TE} {QI : List PyData → Prop} (h : WD K false Γ ta fun d => ∃ j : Int, d = .int j ∧ (-(2 ^ 62) ≤ j ∧ j < 2 ^ 62) ∧ QI (rangeD 0 j.toNat)) : WI K mi Γ (iRng1 (tCons ta tNil)) QI := wi_rng1 (wa_d (h.mono fun d ⟨j, e, hj, q⟩ => wa_nil ⟨j, by rw [e], hj, q⟩))
end
end Pk
end
section
set_option Elab.async false
set_option linter.all false
set_option maxRecDepth 100000
namespace Pk
open PySem PySem.Spec PyProof.Rows L2
theorem lay_at {F H : Hp} {S : Addr → Prop} {a : Addr} (h : S a) : lay S H F a = H a := by unfold lay; rw [if_pos h]
/-- the slots of others' things alone -/
def Sl.exo : Sl → Sl
  | .ex v Φ => match Φ.vw with
    | none => .ex v Φ
    | some _ => .no
  | _ => .no
section
variable {K : Kw} {Γ : List Sl} {P : Po}
open Classical in
end
end Pk
end
section
set_option Elab.async false
set_option linter.all false
set_option maxRecDepth 100000
namespace Pk
open PySem PySem.Spec PyProof.Rows L2
section
variable {K : Kw} {Γ : List Sl} {P : Po}
end
end Pk
end
section
set_option Elab.async false
set_option linter.all false
set_option maxRecDepth 100000
namespace Pk
open PySem PySem.Spec PyProof.Rows L2
section
variable {P : Program} {K : Kw} {mg : Str → Option Value} {base : Heap}
theorem fnOk_g {x : Str} {st : Stmt} {N ps : List Str} {k : Nat} {f : Addr} {fd : FuncData} {T : List Sl → (Sl → Prop) → Prop} (F : Fun K x x st f fd) (S : FnScope N ps (defScope st)) (hT : ∀ Γ Qr, T Γ Qr → Γ.length = ps.length ∧ NoMl Γ)
    (hb : ∀ (f : Addr) (cdv : Value) (A : Around) (outer : List Env) (s : Shared) (H : Hp) (E : XK), Room k (A.deeper (envOfC x (defScope st) s.heap.objs.size f cdv)) →
      ∃ t, PSs (cxOf CX0 P K.w K mg base N x (defScope st) f cdv A outer s H E).nox (defBody st) t ∧ ∀ Γ Qr, T Γ Qr → SJ K (Γ ++ List.replicate (N.length - Γ.length) .no) t (retP Γ Qr)) : FnOk P K.w K mg base CX0 (k + 1) f fd ps (spG K T) := by
  refine F.ok S (len_g fun Γ Qr h => (hT Γ Qr h).1) fun cdv A outer s H vs Q E hr h => ?_
  obtain ⟨t, ht, hj⟩ := hb f cdv A outer s H E hr
  exact ⟨t, ht, body_g h (fun Γ Qr z => (hT Γ Qr z).2) fun Γ Qr z => (hj Γ Qr z).t⟩
/-- a law's promise over data: of a script, the truth -/
def T_law (K : Kw) : List Sl → (Sl → Prop) → Prop := fun Γ Q => ∃ v ns, Γ = [.ex v (ScriptO K ns)] ∧ ns.length ≤ 63 ∧ Q (.dat true (.bool true))
theorem law_start {H : Hp} {a : Addr} {ns : List Int} {Q : VK} {E : XK} (hn : ns.length ≤ 63) (hS : SqL K H a (ns.map V.int)) (q : ∀ H', Q (.bl true) H') : spG K (T_law K) [.ref a] H Q E := by
  refine ⟨⟨K, fun _ => none, H, fun b => b = a, fun b => H b ≠ none⟩, fun _ => none, [.ex (.ref a) (ScriptO K ns)], fun s => s = .dat true (.bool true), rfl, rfl, rfl, fun _ => Iff.rfl, ?_, ⟨_, ns, rfl, hn, rfl⟩, ?_⟩
  · have hf : ∀ (b : Addr) (o : HO), H b = some o → ¬ b = a → H b = some o ∧ (none : Option HO) = none := fun b o e _ => ⟨e, rfl⟩
    rcases hS with hS | hS
    · refine ⟨fun _ _ z => (by cases z), rfl, ⟨fun i b => i = 0 ∧ b = a, fun i s e => ?_, fun i j b z1 z2 => z1.1.trans z2.1.symm, fun i b z => ⟨rfl, ?_, .inr z.2⟩⟩, hf, fun _ _ z => z, fun _ z => z⟩
      · cases i with
        | zero =>
          cases e
          exact ⟨rfl, rfl, a, rfl, .inl hS, .inl fun b => ⟨fun z => z.2, fun z => ⟨rfl, z⟩⟩⟩
        | succ i => simp at e
      · rw [z.2]
        rcases hS with h | ⟨o, h⟩ <;> rw [h] <;> simp
    · refine ⟨fun _ _ z => (by cases z), rfl, ⟨fun i b => False, fun i s e => ?_, fun i j b z1 z2 => z1.elim, fun i b z => z.elim⟩, hf, fun _ _ z => z, fun _ z => z⟩
      cases i with
      | zero =>
        cases e
        exact ⟨rfl, rfl, a, rfl, .inr hS, .inr ⟨fun H' => .inr hS, fun b z => z⟩⟩
      | succ i => simp at e
  · rintro F' H' v s _ E' rfl
    obtain ⟨S, hs, _, _⟩ := E'.sl
    obtain ⟨⟨u, e, r⟩, _⟩ := hs 1 _ rfl
    cases e
    cases r
    exact q H'
end
end Pk
end
section
set_option Elab.async false
set_option linter.all false
set_option maxRecDepth 100000
namespace Pk
open PySem PySem.Spec PyProof.Rows L2
abbrev XW := Value → Option Addr → L2.St → Hp → Prop
abbrev XQ := Value → Option Fs → Prop
section
variable {P : Program} {K : Kw} {mg : Str → Option Value} {base : Heap}
end
section
variable {K : Kw} {W : XW} {ex : Value → Option Fs → List Sl → Prop} {Γ : List Sl} {Q : Sl → Prop} {T : List Sl → (Sl → Prop) → XQ → Prop} {tr : TA} {te ta tb : TE} {P : Po}
end
end Pk
end
section
set_option Elab.async false
set_option linter.all false
set_option maxRecDepth 100000
namespace Pk
open PySem PySem.Spec PyProof.Rows L2
section
variable {X : Cx} {pins : List (Addr × Obj)} {σ : L2.St} {H : Hp} {s : Shared}
end
section
variable {X : Cx} {x n : Str} {c : Value} {i : Nat} {body suite : List Stmt} {b₀ : Stmt} {np pos pos' : Pos} {tb : XW → TS} {ts : Addr → TS} {Wout : XW}
end
end Pk
end
section
set_option Elab.async false
set_option linter.all false
set_option maxRecDepth 100000
namespace Pk
open PySem PySem.Spec PyProof.Rows L2
section
variable {K : Kw} {m : Bool} {Γ : List Sl} {Q : PyData → Prop} {QT : Bool → Prop} {te : TE}
end
section
variable {K : Kw} {m : Bool} {Γ : List Sl} {P : Po} {Q : PyData → Prop}
end
section
variable {K : Kw} {m : Bool} {Γ : List Sl} {Q : PyData → Prop}
end
structure ExcT (K : PySem.W.Frag) (mg : Str → Option Value) (x : Str) (C : Addr) : Prop where
  g : mg x = some (.ref C)
  q : PySem.W.excIn K C He.veBase "ValueError.__new__" = true
  k : PySem.W.keepIn K (.ref C) = true
  s : PySem.W.subIn K (.ref C) (.type "BaseException") = some true
  t : PySem.W.typeIn K (.ref C) = some (.type "type")
  c : ExcC K C
end Pk
namespace Pk
open PySem PySem.Spec PyProof.Rows L2
section
variable {X : Cx} {k : Nat} {x : Str} {ps : List Str} {sp : Sp} {W : XW} {p pos : Pos} {e : Expr} {es : List Expr} {t : TA}
end
end Pk
end
section
set_option Elab.async false
set_option linter.all false
set_option maxRecDepth 100000
namespace Pk
open PySem PySem.Spec PyProof.Rows L2
section
variable {X : Bs} {F H : Hp} {σ : L2.St} {Γ : List Sl}
end
section
variable {K : Kw} {m : Bool} {Γ : List Sl} {P : Po} {Q : PyData → Prop} {te : TE}
theorem wd_lenM {i : Nat} {m' : Bool} {l : Addr} {ds : List PyData} (hi : Γ[i]? = some (.ml m' l ds)) (q : Q (.int ds.length)) : WD K m Γ (tCB (dLen K) (tCons (tVar i) tNil)) Q := fun X hK F H σ E C k => by
  subst hK
  obtain ⟨xs, e, hl, fl, rx⟩ := E.ml hi
  exact ⟨_, e, _, ds.length, rfl, .inl ⟨_, SqL.of hl, rx.length.symm⟩, k _ F H _ Le.rfl' E (.int _) q⟩
end
end Pk
end
section
set_option Elab.async false
set_option linter.all false
set_option maxRecDepth 100000
namespace Pk
open PySem PySem.Spec PyProof.Rows L2
def rMulS : R2 := fun x y H Q => ∃ (a : Str) (n : Int), x = .str a ∧ y = .int n ∧ MulOk a n ∧ Q (.str (Txt.mul a n)) H
theorem op_mulS {X : Cx} : OpR X (binaryOp .Mult) rMulS := by
  intro pins s σ H x y v u Q I rx ry h
  obtain ⟨a, n, rfl, rfl, hm, q⟩ := h
  obtain ⟨t, rfl⟩ := rx
  obtain ⟨t', rfl⟩ := ry
  exact PySem.SB.mul hm fun _ k => ⟨.str _, H, I.tok k, ⟨_, rfl⟩, q⟩
section
variable {K : Kw} {m : Bool} {Γ : List Sl} {Q : PyData → Prop} {ta tb : TE}
theorem rd_mulS {a : Str} {n : Int} (hm : MulOk a n) (q : Q (.str (Txt.mul a n))) : RD K m Γ rMulS (.str a) (.int n) Q := rd_plain (d := .str (Txt.mul a n)) (fun F H v u C le rv ru k => by
  cases rv; cases ru
  exact ⟨a, n, rfl, rfl, hm, k _ (.str _)⟩) q
end
end Pk
end
section
set_option Elab.async false
set_option linter.all false
set_option maxRecDepth 100000
set_option maxHeartbeats 1000000
namespace Pz
open PySem PySem.Spec PyProof.Rows L2
/-- an iterator over the things at l, at turn k -/
structure Nx (prog : Program) (w : World) (it l : Addr) (its : Array Value) (St : Nat → Heap → Prop) : Prop where
  item : ∀ {A : Around} {E : Value → Shared → Prop} {s : Shared} {k : Nat} {x : Value} {Q : Value → Shared → Prop}, St k s.heap → its[k]? = some x → (∀ g, St (k + 1) g → Heap.SameBut it s.heap g → Q x { s with heap := g }) → wpAny (model prog w) A (Builtin.SmallTypes.nextOf (.ref it)) Q E s
  stop : ∀ {A : Around} {E : Value → Shared → Prop} {s : Shared} {k : Nat} {Q : Value → Shared → Prop}, A.handled = none → St k s.heap → its[k]? = none → (∀ g e, Heap.ExtBut it s.heap g → (∃ o, g.get? e = some o ∧ o.cls = .type "StopIteration") → E (.ref e) { s with heap := g }) → wpAny (model prog w) A (Builtin.SmallTypes.nextOf (.ref it)) Q E s
  fr : ∀ {k : Nat} {h g : Heap}, St k h → (∀ c o, c = it ∨ c = l → h.get? c = some o → g.get? c = some o) → St k g
  obj : ∀ {k : Nat} {h : Heap}, St k h → ∃ o, h.get? it = some o ∧ ∀ v, o.data ≠ .cell v
  seq : ∀ {k : Nat} {h : Heap}, St k h → ∃ o, h.get? l = some o
section
variable {prog : Program} {w : World} {A : Around} {E : Value → Shared → Prop} {s : Shared}
theorem Nx.sb {it l a : Addr} {its : Array Value} {St : Nat → Heap → Prop} (n : Nx prog w it l its St) {k : Nat} {h g : Heap} (q : St k h) (e : Heap.SameBut a h g) (hi : it ≠ a) (hl : l ≠ a) : St k g :=
  n.fr q fun c o hc z => e.extBut c o (by rcases hc with r | r <;> rw [r] <;> assumption) z
variable {z TI TO i1 i2 l1 l2 : Addr} {m n : Nat} {xs ys : Array Value} {x y : Value} {S1 S2 : Nat → Heap → Prop}
end
end Pz
end
section
set_option Elab.async false
set_option linter.all false
set_option maxRecDepth 100000
namespace Pk
open PySem PySem.Spec PyProof.Rows L2
section
variable {X : Bs} {F H : Hp} {σ : L2.St} {Γ : List Sl}
/-- slot i and the last one become slot i -/
theorem En.merge {ov : Option V} {s1 s2 : Sl} {i : Nat} (E : En X F H (σ ++ [ov]) (Γ ++ [s2])) (hi : Γ[i]? = some s1) :
    ∃ S1 S2 : Addr → Prop, SlOk X F H (σ.getD i none) S1 s1 ∧ SlOk X F H ov S2 s2 ∧ (∀ a, S1 a → ¬ S2 a) ∧ (∀ a, S1 a ∨ S2 a → F a = none ∧ H a ≠ none) ∧
      ∀ (H' : Hp) (s' : Sl) (S' : Addr → Prop), (∀ a o, H a = some o → ¬ S1 a → ¬ S2 a → H' a = some o) → (∀ a, S1 a ∨ S2 a → H' a ≠ none) → (∀ a, S' a → S1 a ∨ S2 a) → SlOk X F H' (σ.getD i none) S' s' → En X F H' σ (Γ.set i s') := by
  have hl : σ.length = Γ.length := by
    have := E.len
    simp at this
    exact this
  have hil : i < Γ.length := (List.getElem?_eq_some_iff.mp hi).1
  obtain ⟨S, hs, hdj, ho⟩ := id E.sl
  have q1 := hs i s1 (by rw [List.getElem?_append_left hil]; exact hi)
  rw [getD_app (by rw [hl]; exact hil)] at q1
  have q2 := hs Γ.length s2 (by simp)
  rw [← hl, getD_last] at q2
  have ow : ∀ a, S i a ∨ S σ.length a → F a = none ∧ H a ≠ none ∧ X.own a := fun a h => by
    rcases h with h | h
    · exact ho _ a h
    · exact ho _ a h
  refine ⟨S i, S σ.length, q1, q2, fun a h1 h2 => ?_, fun a h => ⟨(ow a h).1, (ow a h).2.1⟩, fun H' s' S' hk hn hS q => ?_⟩
  · have := hdj _ _ a h1 h2
    omega
  · have keep : ∀ (j : Nat) (a : Addr), j < Γ.length → j ≠ i → S j a → H' a = H a := fun j a hj ji sa => by
      cases z : H a with
      | none => exact absurd z (ho j a sa).2.1
      | some o => exact hk a o z (fun w => ji (hdj j i a sa w)) (fun w => by have := hdj j _ a sa w; omega)
    have some_ : ∀ a, H a ≠ none → H' a ≠ none := fun a h => by
      by_cases w1 : S i a
      · exact hn a (.inl w1)
      · by_cases w2 : S σ.length a
        · exact hn a (.inr w2)
        · cases z : H a with
          | none => exact absurd z h
          | some o => rw [hk a o z w1 w2]; simp
    refine ⟨fun a o z => ?_, by simp [hl], ⟨fun j a => (j = i ∧ S' a) ∨ (j ≠ i ∧ j < Γ.length ∧ S j a), fun j u e => ?_, fun j k a h1 h2 => ?_, fun j a h1 => ?_⟩, fun a o e n => ?_, E.f0, fun a n => some_ a (E.nn a n)⟩
    · have hz := E.le a o z
      refine hk a o hz (fun w => ?_) (fun w => ?_)
      · rw [(ho _ a w).1] at z; cases z
      · rw [(ho _ a w).1] at z; cases z
    · by_cases hj : j = i
      · subst hj
        rw [List.getElem?_set_self hil] at e
        cases e
        have eS : (fun a => (j = j ∧ S' a) ∨ (j ≠ j ∧ j < Γ.length ∧ S j a)) = S' := by
          funext a
          exact propext ⟨fun z => by rcases z with z | z; exact z.2; exact absurd rfl z.1, fun z => .inl ⟨rfl, z⟩⟩
        show SlOk X F H' _ (fun a => (j = j ∧ S' a) ∨ (j ≠ j ∧ j < Γ.length ∧ S j a)) _
        rw [eS]
        exact q
      · rw [List.getElem?_set_ne (Ne.symm hj)] at e
        have hjl : j < Γ.length := (List.getElem?_eq_some_iff.mp e).1
        have eS : (fun a => (j = i ∧ S' a) ∨ (j ≠ i ∧ j < Γ.length ∧ S j a)) = S j := by
          funext a
          exact propext ⟨fun z => by rcases z with z | z; exact absurd z.1 hj; exact z.2.2, fun z => .inr ⟨hj, hjl, z⟩⟩
        show SlOk X F H' _ (fun a => (j = i ∧ S' a) ∨ (j ≠ i ∧ j < Γ.length ∧ S j a)) _
        rw [eS]
        have z := hs j u (by rw [List.getElem?_append_left hjl]; exact e)
        rw [getD_app (by rw [hl]; exact hjl)] at z
        exact z.mono Le.rfl' fun a sa => keep j a hjl hj sa
    · rcases h1 with ⟨e1, h1⟩ | ⟨n1, l1, h1⟩ <;> rcases h2 with ⟨e2, h2⟩ | ⟨n2, l2, h2⟩
      · omega
      · rcases hS a h1 with w | w
        · exact absurd (hdj _ _ a h2 w) n2
        · have := hdj _ _ a h2 w; omega
      · rcases hS a h2 with w | w
        · exact absurd (hdj _ _ a h1 w) n1
        · have := hdj _ _ a h1 w; omega
      · exact hdj j k a h1 h2
    · rcases h1 with ⟨e1, h1⟩ | ⟨n1, l1, h1⟩
      · have := ow a (hS a h1)
        exact ⟨this.1, hn a (hS a h1), this.2.2⟩
      · have := ho j a h1
        exact ⟨this.1, some_ a this.2.1, this.2.2⟩
    · obtain ⟨r1, r2⟩ := E.fr a o e n
      have nS : ∀ j, S j a → False := fun j sj => by
        rcases (ho j a sj).2.2 with w | w
        · rw [w] at e; cases e
        · exact n w
      exact ⟨hk a o r1 (nS _) (nS _), r2⟩
/-- slot i changes -/
theorem En.reown {s1 : Sl} {i : Nat} (E : En X F H σ Γ) (hi : Γ[i]? = some s1) :
    ∃ S1 : Addr → Prop, SlOk X F H (σ.getD i none) S1 s1 ∧ (∀ a, S1 a → F a = none ∧ H a ≠ none) ∧
      ∀ (H' : Hp) (s' : Sl) (S' : Addr → Prop), (∀ a o, H a = some o → ¬ S1 a → H' a = some o) → (∀ a, S1 a → H' a ≠ none) → (∀ a, S' a → S1 a) → SlOk X F H' (σ.getD i none) S' s' → En X F H' σ (Γ.set i s') := by
  obtain ⟨S1, S2, q1, q2, hd, ho, k⟩ := (E.pushD (v := .non) (m := false) .non).merge hi
  refine ⟨S1, q1, fun a h => ho a (.inl h), fun H' s' S' h1 h2 h3 h4 => k H' s' S' (fun a o z w _ => h1 a o z w) (fun a h => ?_) (fun a h => .inl (h3 a h)) h4⟩
  rcases h with h | h
  · exact h2 a h
  · exact absurd h (q2.2 a)
end
def PoolsP (K : PySem.W.Frag) (PP : List (List Int) → Prop) (H : Hp) (l : Addr) (qs : List Addr) : Prop := ∃ nss : List (List Int), H l = some (.lst (qs.map V.ref)) ∧ qs.length = nss.length ∧ (l :: qs).Nodup ∧ PP nss ∧ ∀ (i : Nat) (q : Addr) (ns : List Int), qs[i]? = some q → nss[i]? = some ns → H q = some (.lst (ns.map V.int))
theorem PoolsP.keep {K : PySem.W.Frag} {PP : List (List Int) → Prop} {H H' : Hp} {l : Addr} {qs : List Addr} (h : PoolsP K PP H l qs) (k : ∀ a, a = l ∨ a ∈ qs → H' a = H a) : PoolsP K PP H' l qs := by
  obtain ⟨nss, h1, h2, h3, h4, h5⟩ := h
  exact ⟨nss, (k l (.inl rfl)).trans h1, h2, h3, h4, fun i q ns a b => (k q (.inr (List.mem_of_getElem? a))).trans (h5 i q ns a b)⟩
section
variable {K : Kw} {Γ : List Sl} {P : Po} {te : TE} {ts : TS}
end
end Pk
end
section
set_option Elab.async false
set_option linter.all false
set_option maxRecDepth 100000
set_option maxHeartbeats 1000000
namespace Pz
open PySem PySem.Spec PyProof.Rows L2
abbrev g1 (h : Heap) (a : Addr) : Heap := h.push { cls := .type "list_iterator", data := .fields #[.ref a, .int 0 0] }
section
variable {prog : Program} {w : World} {A : Around} {E : Value → Shared → Prop} {s : Shared}
variable {z TI TO i1 i2 l1 l2 : Addr} {m n : Nat} {xs ys : Array Value} {x y a b : Value} {S1 S2 : Nat → Heap → Prop}
end
section
variable {prog : Program} {w : World} {z TI TO i1 i2 l1 l2 : Addr} {xs ys : Array Value} {S1 S2 : Nat → Heap → Prop}
end
structure Zst (X : Cx) (pins : List (Addr × Obj)) (H : Hp) (h : Heap) (z TI TO i1 i2 a b : Addr) : Prop where
  D : ZipApart z TI TO i1 i2 a b
  zz : IsZip h z TI TO .none
  I : IsPair h TI (.ref i1) (.ref i2)
  O : ∃ x y, IsPair h TO x y
  p1 : h.IsListIter i1 a 0
  p2 : h.IsTupleIter i2 b 0
  fp : ∀ c ∈ [z, TI, TO, i1, i2], FpOk X pins H c
end Pz
namespace Pk
open PySem PySem.Spec PyProof.Rows L2 Pz
section
variable {K : Kw} {m : Bool} {Γ : List Sl} {ta : TA} {QI : List PyData → Prop}
end
end Pk
end
section
set_option Elab.async false
set_option linter.all false
set_option maxRecDepth 100000
namespace Pk
open PySem PySem.Spec PyProof.Rows L2 Pz
def rJoin (K : PySem.W.Frag) : V → List V → Hp → VK → Prop := fun x xs H Q => ∃ a p, ∃ ys : List Str, x = .str a ∧ xs = [.ref p] ∧ (SqL K H p (ys.map V.str) ∨ SqT K H p (ys.map V.str)) ∧ (ys.map (·.length)).sum + ys.length * a.length ≤ 16777216 ∧ Q (.str (Txt.join a ys)) H
section
variable {K : Kw} {m : Bool} {Γ : List Sl} {Q : PyData → Prop} {QX : Sl → Prop} {te ti ta tb : TE} {tr : TA}
theorem strs_of {F : Hp} : ∀ {xs : List V} {ns : List Str}, RpA K F xs (ns.map PyData.str) → xs = ns.map V.str
  | [], [], _ => rfl
  | _ :: _, [], h => by cases h
  | [], _ :: _, h => by cases h
  | x :: xs, n :: ns, h => by
    cases h with
    | cons a b => cases a; rw [strs_of b]; rfl
end
end Pk
end
section
set_option Elab.async false
set_option linter.all false
set_option maxRecDepth 100000
namespace Dk
open PySem PySem.Spec PyProof.Rows L2 Pk
inductive Op where
  | plus | times | less | same
  deriving DecidableEq
def Op.w : Op → Str
  | .plus => "plus" | .times => "times" | .less => "less" | .same => "same"
inductive Th where
  | num (n : Nat)
  | box (x : Str)
  | op (o : Op) (a b : Th)
def Th.d : Th → PyData
  | .num n => .tuple [.str "number", .int n]
  | .box x => .tuple [.str "box", .str x]
  | .op o a b => .tuple [.str o.w, a.d, b.d]
/-- at most so deep, of numbers below m and of the boxes -/
def Th.Ok (m : Nat) (bs : List Str) : Nat → Th → Prop
  | 0, _ => False
  | _ + 1, .num k => k < m
  | _ + 1, .box x => x ∈ bs
  | n + 1, .op _ a b => a.Ok m bs n ∧ b.Ok m bs n
theorem Th.Ok.up {m : Nat} {bs : List Str} : ∀ {n : Nat} {t : Th}, t.Ok m bs n → t.Ok m bs (n + 1)
  | 0, _, h => by cases h
  | n + 1, .num k, h => h
  | n + 1, .box x, h => h
  | n + 1, .op o a b, h => ⟨Th.Ok.up (n := n) h.1, Th.Ok.up (n := n) h.2⟩
theorem Th.Ok.mono {m : Nat} {bs : List Str} {n k : Nat} {t : Th} (h : t.Ok m bs n) (le : n ≤ k) : t.Ok m bs k := by
  obtain ⟨j, rfl⟩ := Nat.exists_eq_add_of_le le
  induction j with
  | zero => exact h
  | succ j ih => exact (ih (by omega)).up
def ltr (c : Nat) : Prop := 97 ≤ c ∧ c ≤ 122
def NameOk (x : Str) : Prop := 1 ≤ x.length ∧ x.length ≤ 8 ∧ ∀ c ∈ x.cps.toList, ltr c
theorem NameOk.strOk {x : Str} (h : NameOk x) : PyData.strOk x = true := by
  unfold PyData.strOk
  rw [← Array.all_toList, List.all_eq_true]
  intro c hc
  have := (h.2.2 c hc).2
  exact decide_eq_true (by omega)
structure BsOk (bs : List Str) : Prop where
  len0 : 1 ≤ bs.length
  len5 : bs.length ≤ 5
  nd : bs.Nodup
  nm : ∀ x ∈ bs, NameOk x
abbrev bsD (bs : List Str) : PyData := .list (bs.map PyData.str)
inductive Rw where
  | set (x : Str) (t : Th)
  | pick (x : Str) (ts : List Th)
  | need (t : Th)
  | skip (t : Th) (k : Nat)
  | give (t : Th)
def Rw.d : Rw → PyData
  | .set x t => .tuple [.str "set", .str x, t.d]
  | .pick x ts => .tuple [.str "pick", .str x, .list (ts.map Th.d)]
  | .need t => .tuple [.str "need", t.d]
  | .skip t k => .tuple [.str "skip", t.d, .int k]
  | .give t => .tuple [.str "give", t.d]
def Rw.Ok (m : Nat) (bs : List Str) : Rw → Prop
  | .set x t => x ∈ bs ∧ t.Ok m bs 4
  | .pick x ts => x ∈ bs ∧ 1 ≤ ts.length ∧ ts.length ≤ 5 ∧ ∀ t ∈ ts, t.Ok m bs 4
  | .need t => t.Ok m bs 4
  | .skip t k => t.Ok m bs 4 ∧ 1 ≤ k ∧ k ≤ 30
  | .give t => t.Ok m bs 4
structure Pg where
  m : Nat
  bs : List Str
  rows : List Rw
def Pg.d (p : Pg) : PyData := .tuple [.int p.m, bsD p.bs, .list (p.rows.map Rw.d)]
structure Pg.Ok (p : Pg) : Prop where
  m2 : 2 ≤ p.m
  m16 : p.m ≤ 16
  bs : BsOk p.bs
  r30 : p.rows.length ≤ 30
  rows : ∀ r ∈ p.rows, r.Ok p.m p.bs
abbrev stD (st : List Nat) : PyData := .tuple (st.map fun (n : Nat) => PyData.int n)
structure StOk (m : Nat) (bs : List Str) (st : List Nat) : Prop where
  len : st.length = bs.length
  lt : ∀ n ∈ st, n < m
def Op.v (m : Nat) : Op → Nat → Nat → Nat
  | .plus, a, b => (a + b) % m
  | .times, a, b => a * b % m
  | .less, a, b => if a < b then 1 else 0
  | .same, a, b => if a = b then 1 else 0
def at_ (bs : List Str) (st : List Nat) (x : Str) : Nat := st.getD (bs.idxOf x) 0
def Th.v (m : Nat) (bs : List Str) (st : List Nat) : Th → Nat
  | .num n => n
  | .box x => at_ bs st x
  | .op o a b => o.v m (a.v m bs st) (b.v m bs st)
theorem idx_lt {bs : List Str} {x : Str} (h : x ∈ bs) : bs.idxOf x < bs.length := List.idxOf_lt_length_of_mem h
theorem at_get {m : Nat} {bs : List Str} {st : List Nat} (s : StOk m bs st) {x : Str} (h : x ∈ bs) : st[bs.idxOf x]? = some (at_ bs st x) := by
  have := idx_lt h
  have hl : bs.idxOf x < st.length := by rw [s.len]; exact this
  simp [at_, List.getD_eq_getElem?_getD, hl]
theorem at_lt {m : Nat} {bs : List Str} {st : List Nat} (s : StOk m bs st) {x : Str} (h : x ∈ bs) : at_ bs st x < m := s.lt _ (List.mem_of_getElem? (at_get s h))
theorem Op.v_lt {m : Nat} (h2 : 2 ≤ m) (o : Op) (a b : Nat) : o.v m a b < m := by
  cases o with
  | plus => exact Nat.mod_lt _ (by omega)
  | times => exact Nat.mod_lt _ (by omega)
  | less => show (if a < b then 1 else 0) < m; split <;> omega
  | same => show (if a = b then 1 else 0) < m; split <;> omega
theorem Th.v_lt {m : Nat} {bs : List Str} {st : List Nat} (h2 : 2 ≤ m) (s : StOk m bs st) : ∀ {n : Nat} {t : Th}, t.Ok m bs n → t.v m bs st < m
  | 0, _, h => by cases h
  | n + 1, .num k, h => h
  | n + 1, .box x, h => at_lt s h
  | n + 1, .op o a b, h => Op.v_lt h2 o _ _
theorem sh_of {n : Nat} {d : PyData} (h : dep n d) (hn : n ≤ 63) : SeqAt.shaped d = true := dep_shaped h hn
end Dk
end
section
set_option Elab.async false
set_option linter.all false
set_option maxRecDepth 100000
namespace Dk
open PySem PySem.Spec PyProof.Rows L2 Pk
abbrev LET : Str := "abcdefghijklmnopqrstuvwxyz"
theorem let_len : LET.length = 26 := by decide +kernel
theorem let_tab : ∀ r ∈ List.range 26, LET.cps.toList[r]? = some (97 + r) := by decide +kernel
theorem let_at {r : Nat} (h : r < 26) : LET.cps.toList[r]? = some (97 + r) := let_tab r (List.mem_range.mpr h)
def one (c : Nat) : Str := ⟨#[c]⟩
theorem one_len (c : Nat) : (one c).length = 1 := rfl
theorem str_len (x : Str) : x.length = x.cps.toList.length := by simp [Str.length]
theorem app_cps (x y : Str) : (x ++ y).cps.toList = x.cps.toList ++ y.cps.toList := by
  show (x.cps ++ y.cps).toList = _
  simp
/-- "".join(..) -/
theorem join_cps (ys : List Str) : (Txt.join "" ys).cps.toList = ys.flatMap fun y => y.cps.toList := by
  have hf : ∀ (ps : List Str) (acc : Array Nat), ((ps.foldl (fun acc p => acc ++ ("" : Str).cps ++ p.cps) acc)).toList = acc.toList ++ ps.flatMap fun y => y.cps.toList := by
    intro ps
    induction ps with
    | nil => intro acc; simp
    | cons p ps ih =>
      intro acc
      rw [List.foldl_cons, ih]
      have : ("" : Str).cps = #[] := by decide +kernel
      rw [this]
      simp
  show (Builtin.Str.glued "" ys).cps.toList = _
  unfold Builtin.Str.glued
  cases ys with
  | nil => simp [Str.empty]
  | cons y ys =>
    refine (hf ys y.cps).trans ?_
    simp
theorem join_name {cs : List Nat} (h1 : 1 ≤ cs.length) (h8 : cs.length ≤ 8) (hl : ∀ c ∈ cs, ltr c) : NameOk (Txt.join "" (cs.map one)) := by
  have e : (Txt.join "" (cs.map one)).cps.toList = cs := by
    rw [join_cps]
    clear h1 h8 hl
    induction cs with
    | nil => rfl
    | cons c cs ih => rw [List.map_cons, List.flatMap_cons, ih]; rfl
  refine ⟨?_, ?_, fun c hc => ?_⟩
  · rw [str_len, e]; exact h1
  · rw [str_len, e]; exact h8
  · rw [e] at hc; exact hl c hc
theorem join_sum (cs : List Nat) : ((cs.map one).map (·.length)).sum = cs.length := by
  induction cs with
  | nil => rfl
  | cons c cs ih =>
    rw [List.map_cons, List.map_cons, List.sum_cons, ih, one_len, List.length_cons]
    omega
/-- letters[t] * 8 -/
def rep8 (t : Nat) : Str := ⟨#[97 + t, 97 + t, 97 + t, 97 + t, 97 + t, 97 + t, 97 + t, 97 + t]⟩
theorem mul8 (c : Nat) : Txt.mul (one c) 8 = ⟨#[c, c, c, c, c, c, c, c]⟩ := by
  simp [Txt.mul, one, Str.length, List.replicate]
theorem mulOk8 (c : Nat) : MulOk (one c) 8 := by
  refine ⟨by decide, fun _ _ => ?_, fun _ _ => ?_⟩
  · rw [one_len]; decide
  · rw [one_len]; decide
theorem rep8_inj {s t : Nat} (h : rep8 s = rep8 t) : s = t := by
  simp [rep8] at h
  omega
theorem rep8_name {t : Nat} (h : t < 26) : NameOk (rep8 t) := ⟨by simp [rep8, Str.length], by simp [rep8, Str.length], fun c hc => by
  simp [rep8] at hc
  subst hc
  exact ⟨by omega, by omega⟩⟩
theorem nd_sub {α : Type} [DecidableEq α] : ∀ {as bs : List α}, as.Nodup → (∀ a ∈ as, a ∈ bs) → as.length ≤ bs.length
  | [], _, _, _ => Nat.zero_le _
  | a :: as, bs, nd, h => by
    obtain ⟨h1, h2⟩ := List.nodup_cons.mp nd
    have ha := h a List.mem_cons_self
    have ih := nd_sub (as := as) (bs := bs.erase a) h2 fun b hb => (List.mem_erase_of_ne (fun z => h1 (by rw [← z]; exact hb))).mpr (h b (List.mem_cons_of_mem _ hb))
    rw [List.length_erase_of_mem ha] at ih
    have : 0 < bs.length := List.length_pos_of_mem ha
    rw [List.length_cons]
    omega
theorem rep_le {bs : List Str} {t : Nat} (h : ∀ i, i < t → rep8 i ∈ bs) : t ≤ bs.length := by
  have := nd_sub (as := (List.range t).map rep8) (bs := bs) (List.nodup_iff_pairwise_ne.mpr (List.pairwise_map.mpr ((List.nodup_iff_pairwise_ne.mp List.nodup_range).imp fun {a b} hab z => hab (rep8_inj z)))) fun a ha => by
    obtain ⟨i, hi, rfl⟩ := List.mem_map.mp ha
    exact h i (List.mem_range.mp hi)
  simpa using this
theorem op_ok (o : Op) : PyData.strOk o.w = true := by cases o <;> decide +kernel
theorem ok_w {x : Str} (h : x ∈ [("number" : Str), "box", "set", "pick", "need", "skip", "give", "nothing", "gives"]) : PyData.strOk x = true := by
  have : ∀ y ∈ [("number" : Str), "box", "set", "pick", "need", "skip", "give", "nothing", "gives"], PyData.strOk y = true := by decide +kernel
  exact this x h
theorem Th.dep {m : Nat} {bs : List Str} (hb : ∀ x ∈ bs, NameOk x) : ∀ {n : Nat} {t : Th}, t.Ok m bs n → Pk.dep n t.d
  | 0, _, h => by cases h
  | n + 1, .num k, h => by
    intro x hx
    simp at hx
    rcases hx with rfl | rfl
    · cases n <;> exact ok_w (by simp)
    · cases n <;> exact True.intro
  | n + 1, .box y, h => by
    intro x hx
    simp at hx
    rcases hx with rfl | rfl
    · cases n <;> exact ok_w (by simp)
    · have := (hb y h).strOk
      cases n <;> exact this
  | n + 1, .op o a b, h => by
    intro x hx
    simp at hx
    rcases hx with rfl | rfl | rfl
    · have := op_ok o
      cases n <;> exact this
    · exact Th.dep hb h.1
    · exact Th.dep hb h.2
theorem dep_up {n k : Nat} {d : PyData} (h : Pk.dep n d) (le : n ≤ k) : Pk.dep k d := by
  induction n generalizing k d with
  | zero => cases d <;> cases k <;> first | exact h | exact h.elim
  | succ n ih =>
    cases k with
    | zero => omega
    | succ k =>
      cases d with
      | list xs => exact fun x hx => ih (h x hx) (by omega)
      | tuple xs => exact fun x hx => ih (h x hx) (by omega)
      | none => exact h
      | bool _ => exact h
      | int _ => exact h
      | str _ => exact h
      | dict _ => exact h
theorem dep_str {n : Nat} {x : Str} (h : PyData.strOk x = true) : Pk.dep n (.str x) := by cases n <;> exact h
theorem dep_int {n : Nat} {i : Int} : Pk.dep n (.int i) := by cases n <;> exact True.intro
theorem Rw.dep {m : Nat} {bs : List Str} (hb : ∀ x ∈ bs, NameOk x) {r : Rw} (h : r.Ok m bs) : Pk.dep 6 r.d := by
  cases r with
  | set y t =>
    intro x hx
    simp at hx
    rcases hx with rfl | rfl | rfl
    · exact dep_str (ok_w (by simp))
    · exact dep_str (hb y h.1).strOk
    · exact dep_up (Th.dep hb h.2) (by decide)
  | pick y ts =>
    intro x hx
    simp at hx
    rcases hx with rfl | rfl | rfl
    · exact dep_str (ok_w (by simp))
    · exact dep_str (hb y h.1).strOk
    · intro z hz
      obtain ⟨t, ht, rfl⟩ := List.mem_map.mp hz
      exact dep_up (Th.dep hb (h.2.2.2 t ht)) (by decide)
  | need t =>
    intro x hx
    simp at hx
    rcases hx with rfl | rfl
    · exact dep_str (ok_w (by simp))
    · exact dep_up (Th.dep hb h) (by decide)
  | skip t k =>
    intro x hx
    simp at hx
    rcases hx with rfl | rfl | rfl
    · exact dep_str (ok_w (by simp))
    · exact dep_up (Th.dep hb h.1) (by decide)
    · exact dep_int
  | give t =>
    intro x hx
    simp at hx
    rcases hx with rfl | rfl
    · exact dep_str (ok_w (by simp))
    · exact dep_up (Th.dep hb h) (by decide)
theorem bs_dep {bs : List Str} (hb : ∀ x ∈ bs, NameOk x) (n : Nat) : Pk.dep (n + 1) (bsD bs) := fun x hx => by
  obtain ⟨y, hy, rfl⟩ := List.mem_map.mp hx
  exact dep_str (hb y hy).strOk
theorem bs_sh {bs : List Str} (hb : ∀ x ∈ bs, NameOk x) : SeqAt.shaped (bsD bs) = true := sh_of (bs_dep hb 0) (by decide)
theorem Pg.dep {p : Pg} (h : p.Ok) : Pk.dep 8 p.d := by
  intro x hx
  simp at hx
  rcases hx with rfl | rfl | rfl
  · exact dep_int
  · exact bs_dep h.bs.nm 6
  · intro y hy
    obtain ⟨r, hr, rfl⟩ := List.mem_map.mp hy
    exact Rw.dep h.bs.nm (h.rows r hr)
theorem Pg.sh {p : Pg} (h : p.Ok) : SeqAt.shaped p.d = true := sh_of (Pg.dep h) (by decide)
theorem Th.nb : ∀ t : Th, NB t.d
  | .num n => .tup fun x hx => by
    simp at hx
    rcases hx with rfl | rfl
    · exact .str _
    · exact .int _
  | .box y => .tup fun x hx => by
    simp at hx
    rcases hx with rfl | rfl
    · exact .str _
    · exact .str _
  | .op o a b => .tup fun x hx => by
    simp at hx
    rcases hx with rfl | rfl | rfl
    · exact .str _
    · exact Th.nb a
    · exact Th.nb b
theorem Rw.nb (r : Rw) : NB r.d := by
  cases r <;> refine .tup fun x hx => ?_ <;> simp at hx
  · rcases hx with rfl | rfl | rfl
    · exact .str _
    · exact .str _
    · exact Th.nb _
  · rcases hx with rfl | rfl | rfl
    · exact .str _
    · exact .str _
    · refine .lst fun z hz => ?_
      obtain ⟨t, _, rfl⟩ := List.mem_map.mp hz
      exact Th.nb t
  · rcases hx with rfl | rfl
    · exact .str _
    · exact Th.nb _
  · rcases hx with rfl | rfl | rfl
    · exact .str _
    · exact Th.nb _
    · exact .int _
  · rcases hx with rfl | rfl
    · exact .str _
    · exact Th.nb _
theorem Pg.nb (p : Pg) : NB p.d := .tup fun x hx => by
  simp at hx
  rcases hx with rfl | rfl | rfl
  · exact .int _
  · refine .lst fun z hz => ?_
    obtain ⟨t, _, rfl⟩ := List.mem_map.mp hz
    exact .str t
  · refine .lst fun z hz => ?_
    obtain ⟨t, _, rfl⟩ := List.mem_map.mp hz
    exact Rw.nb t
theorem Th.lf : ∀ t : Th, Pk.lf t.d = true
  | .num n => rfl
  | .box y => rfl
  | .op o a b => by
    show Pk.lfA [.str o.w, a.d, b.d] = true
    simp [Pk.lfA, Th.lf a, Th.lf b, Pk.lf]
theorem st_lf (st : List Nat) : Pk.lf (stD st) = true := by
  show Pk.lfA _ = true
  induction st with
  | nil => rfl
  | cons n st ih => simp [Pk.lfA, ih, Pk.lf]
def Rw.w : Rw → Str
  | .set _ _ => "set" | .pick _ _ => "pick" | .need _ => "need" | .skip _ _ => "skip" | .give _ => "give"
def Rw.isPick : Rw → Bool
  | .pick _ _ => true | _ => false
section
variable {K : Kw} {m : Bool} {Γ : List Sl} {Q : PyData → Prop}
theorem rd_neSelf {d : PyData} (hs : SeqAt.shaped d = true) (nb : NB d) (q : Q (.bool false)) : RD K m Γ (dNe K) d d Q := rd_ne hs hs (by rw [eqv_self nb]; exact q)
end
end Dk
end
section
set_option Elab.async false
set_option linter.all false
set_option maxRecDepth 100000
namespace Pk
open PySem PySem.Spec PyProof.Rows L2
end Pk
end
section
set_option Elab.async false
set_option linter.all false
set_option maxRecDepth 100000
namespace Ps
open PySem PySem.Spec PyProof.Rows L2
section
variable {prog : Program} {w : World} {A : Around} {R : Result → Shared → Prop} {I : Addr} {fp wr : List Addr} {G : Array GenState → Array GenState → Prop} {n : Nat} {P : Nat → Value → Prop} {St : Nat → Shared → Prop}
end
section
variable {prog : Program} {w : World} {A : Around} {E : Value → Shared → Prop} {s : Shared}
end
end Ps
namespace Pk
open PySem PySem.Spec PyProof.Rows L2 Ps
end Pk
end
section
set_option Elab.async false
set_option linter.all false
set_option maxRecDepth 100000
namespace Pk
open PySem PySem.Spec PyProof.Rows L2
section
variable {K : Kw} {m : Bool} {Γ : List Sl} {Q : PyData → Prop} {te : TE}
end
section
variable {K : Kw} {Γ : List Sl} {W : XW} {ex : Value → Option Fs → List Sl → Prop} {T : List Sl → (Sl → Prop) → XQ → Prop} {Q : Sl → Prop} {ta tb tc : TE} {r : R2}
end
end Pk
end
section
set_option Elab.async false
set_option linter.all false
set_option maxRecDepth 100000
namespace Pk
open PySem PySem.Spec PyProof.Rows L2
section
variable {K : Kw} {m : Bool} {Γ : List Sl} {P : Po} {te : TE} {ta : TA} {QI : List PyData → Prop}
end
end Pk
end
section
set_option Elab.async false
set_option linter.all false
set_option maxRecDepth 100000
namespace Pk
open PySem PySem.Spec PyProof.Rows L2
/-- what __init__(self, f): self.f = f promises -/
def spIni (K : PySem.W.Frag) (C : Addr) (f : Str) : Sp := fun vs H Q _ => ∃ (a : Addr) (y : V), vs = [.ref a, y] ∧ H a = some (exo a C none) ∧ ∀ dx, H dx = none → dx ≠ a → Q .non (upd (upd H dx (exd dx [(f, y)])) a (exo a C (some dx)))
section
variable {K : Kw} {m : Bool} {Γ : List Sl} {P : Po} {te : TE} {Q : PyData → Prop}
end
/-- such a class, as the top tells it -/
structure IniT (P : Program) (w : World) (K : PySem.W.Frag) (mg : Str → Option Value) (base : Heap) (k : Nat) (x : Str) (C : Addr) (f : Str) : Prop where
  g : mg x = some (.ref C)
  o : OexC K C
  i : ∃ (fI : Addr) (fd : FuncData), PySem.W.findIn K (.ref C) "__init__" = some (some (.ref fI)) ∧ PySem.W.typeIn K (.ref fI) = some (.type "function") ∧ FnOk P w K mg base CX0 k fI fd ["self", f] (spIni K C f) ∧ Binds K fd ["self", f] []
section
variable {X : Cx} {W : XW} {x f : Str} {C : Addr} {k : Nat} {e : Expr} {te : TE} {p pos pos' : Pos}
end
end Pk
end
section
set_option Elab.async false
set_option linter.all false
set_option maxRecDepth 100000
namespace Pk
open PySem PySem.Spec PyProof.Rows L2
/-- such a class, as the head tells it -/
structure IniD (K : PySem.W.Frag) (mg : Str → Option Value) (x : Str) (C : Addr) (qual f : Str) (st : Stmt) : Prop where
  g : mg x = some (.ref C)
  o : OexC K C
  n : PySem.W.findIn K (.ref C) f = some none
  x : XfC K C
  c : ExcC K C
  i : ∃ (fI : Addr) (fd : FuncData), PySem.W.findIn K (.ref C) "__init__" = some (some (.ref fI)) ∧ PySem.W.typeIn K (.ref fI) = some (.type "function") ∧ Fun K "__init__" qual st fI fd ∧ Binds K fd ["self", f] []
section
variable {P : Program} {K : Kw} {mg : Str → Option Value} {base : Heap}
end
section
variable {K : Kw} {m : Bool} {Γ : List Sl} {P : Po} {Q : PyData → Prop}
end
section
variable {K : Kw} {m : Bool} {Γ : List Sl} {Q : PyData → Prop}
end
section
variable {K : Kw} {m : Bool} {Γ : List Sl} {Q : PyData → Prop}
end
section
variable {K : Kw} {m : Bool} {W : XW} {ex : Value → Option Fs → List Sl → Prop} {Γ : List Sl} {Q : Sl → Prop} {ta tb : TE} {r : R2}
end
end Pk
end
section
set_option Elab.async false
set_option linter.all false
set_option maxRecDepth 100000
namespace Pk
open PySem PySem.Spec PyProof.Rows L2
section
variable {K : Kw} {m : Bool} {Γ : List Sl} {Q : PyData → Prop} {QX : Sl → Prop} {ta : TE}
end
end Pk
end
section
set_option Elab.async false
set_option linter.all false
set_option maxRecDepth 100000
namespace PkI
open PySem PySem.W PySem.Spec PySem.Calls PyProof.Rows
section
variable {prog : Program} {w : World} {A : Around} {E : Value → Shared → Prop} {s : Shared} {K : Frag} {x D : Addr} {ox : Obj} {od : Option Obj}
end
end PkI
namespace Pk
open PySem PySem.Spec PyProof.Rows L2
section
variable {K : Kw} {m : Bool} {Γ : List Sl} {Q : PyData → Prop}
end
section
variable {K : Kw} {m : Bool} {Γ : List Sl} {Q : PyData → Prop}
end
section
variable {K : Kw} {m : Bool} {Γ : List Sl} {Q : PyData → Prop}
end
end Pk
end
section
set_option Elab.async false
set_option linter.all false
set_option maxRecDepth 100000
namespace Pk
open PySem PySem.Spec PyProof.Rows L2 Pz
section
variable {K : Kw} {m : Bool} {Γ : List Sl} {Q : PyData → Prop} {te ti : TE} {tr : TA}
end
/-- an expression that may change an own list -/
def WDg (K : Kw) (m : Bool) (Γ : List Sl) (t : TE) (Q : PyData → List Sl → Prop) : Prop := ∀ X : Bs, X.K = K → ∀ F H σ, En X F H σ Γ → ∀ C : VK,
  (∀ v F' H' d Γ', Le F F' → En X F' H' σ Γ' → Rp K (X.ff F' m) v d → Q d Γ' → C v H') → t σ H C
def WXg (K : Kw) (Γ : List Sl) (t : TE) (Q : List Sl → Sl → Prop) : Prop := ∀ X : Bs, X.K = K → ∀ F H σ, En X F H σ Γ → ∀ C : VK,
  (∀ v F' H' Γ' s, Le F F' → En X F' H' (σ ++ [some v]) (Γ' ++ [s]) → Q Γ' s → C v H') → t σ H C
theorem wipeG_no {Γ : List Sl} : ∀ {vs : List Nat}, (∀ i ∈ vs, Γ[i]? = some .no) → wipeG Γ vs = Γ
  | [], _ => rfl
  | v :: vs, h => by
    show (wipeG Γ vs).set v .no = Γ
    rw [wipeG_no fun i hi => h i (List.mem_cons_of_mem _ hi)]
    have hv := h v List.mem_cons_self
    apply List.ext_getElem?
    intro i
    by_cases hi : v = i
    · subst hi
      rw [List.getElem?_set_self (List.getElem?_eq_some_iff.mp hv).1, hv]
    · rw [List.getElem?_set_ne hi]
theorem En.unwipeN {X : Bs} {F H : Hp} {σ : L2.St} {Γ : List Sl} {ov : Option V} {s : Sl} {vs : List Nat} (hl : σ.length = Γ.length) (hv : ∀ i ∈ vs, Γ[i]? = some .no) (E : En X F H (L2.wipe σ vs ++ [ov]) (Γ ++ [s])) : En X F H (σ ++ [ov]) (Γ ++ [s]) := by
  obtain ⟨S, hs, hdj, ho⟩ := id E.sl
  refine ⟨E.le, by simp [hl], ⟨S, fun i u e => ?_, hdj, ho⟩, E.fr, E.f0, E.nn⟩
  have q := hs i u e
  have hi : i < (Γ ++ [s]).length := (List.getElem?_eq_some_iff.mp e).1
  simp only [List.length_append, List.length_cons, List.length_nil] at hi
  by_cases hlt : i < Γ.length
  · rw [getD_app (by rw [wipe_length, hl]; exact hlt)] at q
    rw [getD_app (by rw [hl]; exact hlt)]
    by_cases hin : i ∈ vs
    · rw [List.getElem?_append_left hlt, hv i hin] at e
      cases e
      exact q
    · have : (L2.wipe σ vs).getD i none = σ.getD i none := by simp [List.getD_eq_getElem?_getD, wipe_out hin]
      rw [this] at q
      exact q
  · have hie : i = Γ.length := by omega
    subst hie
    have e1 : (L2.wipe σ vs ++ [ov]).getD Γ.length none = ov := by rw [← hl, ← wipe_length σ vs, getD_last]
    have e2 : (σ ++ [ov]).getD Γ.length none = ov := by rw [← hl, getD_last]
    rw [e1] at q
    rw [e2]
    exact q
section
variable {K : Kw} {Γ : List Sl} {g : TG} {wi : TI} {te : TE} {vs : List Nat} {P : Po}
end
end Pk
end
section
set_option Elab.async false
set_option linter.all false
set_option maxRecDepth 100000
namespace Pk
open PySem PySem.Spec PyProof.Rows L2
section
variable {K : Kw} {Γ : List Sl} {P : Po}
theorem En.takeE {X : Bs} {F H : Hp} {σ : L2.St} (E : En X F H σ Γ) {i : Nat} {v : V} {Φ : Own} (hi : Γ[i]? = some (.ex v Φ)) : En X F H (σ ++ [some v]) (Γ.set i .no ++ [.ex v Φ]) := by
  obtain ⟨S, hs, hdj, ho⟩ := id E.sl
  have hil : i < Γ.length := (List.getElem?_eq_some_iff.mp hi).1
  refine ⟨E.le, by simp [E.len], ⟨fun j a => (j < Γ.length ∧ j ≠ i ∧ S j a) ∨ (j = Γ.length ∧ S i a), fun j u e => ?_, fun j k a h1 h2 => ?_, fun j a h1 => ?_⟩, E.fr, E.f0, E.nn⟩
  · have hj : j < (Γ.set i .no ++ [Sl.ex v Φ]).length := (List.getElem?_eq_some_iff.mp e).1
    simp only [List.length_append, List.length_cons, List.length_nil, List.length_set] at hj
    by_cases hlt : j < Γ.length
    · rw [List.getElem?_append_left (by simpa using hlt)] at e
      rw [getD_app (by rw [E.len]; exact hlt)]
      by_cases z : j = i
      · subst z
        rw [List.getElem?_set_self hil] at e
        cases e
        intro a q
        rcases q with ⟨_, q, _⟩ | ⟨q, _⟩
        · exact q rfl
        · omega
      · rw [List.getElem?_set_ne (Ne.symm z)] at e
        have eS : (fun a => (j < Γ.length ∧ j ≠ i ∧ S j a) ∨ (j = Γ.length ∧ S i a)) = S j := by
          funext a
          apply propext
          constructor
          · rintro (⟨_, _, q⟩ | ⟨q, _⟩)
            · exact q
            · omega
          · intro q; exact .inl ⟨hlt, z, q⟩
        show SlOk X F H _ (fun a => (j < Γ.length ∧ j ≠ i ∧ S j a) ∨ (j = Γ.length ∧ S i a)) _
        rw [eS]
        exact hs j u e
    · have hje : j = Γ.length := by omega
      subst hje
      have e' : (Γ.set i .no ++ [Sl.ex v Φ])[Γ.length]? = some (.ex v Φ) := by
        have : Γ.length = (Γ.set i Sl.no).length := by simp
        rw [this]; simp
      rw [e'] at e
      cases e
      have eS : (fun a => (Γ.length < Γ.length ∧ Γ.length ≠ i ∧ S Γ.length a) ∨ (Γ.length = Γ.length ∧ S i a)) = S i := by
        funext a
        apply propext
        constructor
        · rintro (⟨q, _⟩ | ⟨_, q⟩)
          · omega
          · exact q
        · intro q; exact .inr ⟨rfl, q⟩
      show SlOk X F H _ (fun a => (Γ.length < Γ.length ∧ Γ.length ≠ i ∧ S Γ.length a) ∨ (Γ.length = Γ.length ∧ S i a)) _
      rw [eS, ← E.len, getD_last]
      obtain ⟨e0, r⟩ := hs i _ hi
      exact ⟨rfl, r⟩
  · rcases h1 with ⟨a1, b1, c1⟩ | ⟨a1, c1⟩ <;> rcases h2 with ⟨a2, b2, c2⟩ | ⟨a2, c2⟩
    · exact hdj j k a c1 c2
    · exact absurd (hdj _ _ a c1 c2) b1
    · exact absurd (hdj _ _ a c2 c1) b2
    · omega
  · rcases h1 with ⟨_, _, c1⟩ | ⟨_, c1⟩
    · exact ho j a c1
    · exact ho i a c1
end
end Pk
end
section
set_option Elab.async false
set_option linter.all false
set_option maxRecDepth 100000
namespace Pk
open PySem PySem.Spec PyProof.Rows L2
mutual
theorem data_inj : ∀ (a b : NestedKey), a.data = b.data → a = b
  | .none, b, h => by cases b <;> first | rfl | (simp [NestedKey.data] at h)
  | .num i, b, h => by
    cases b with
    | num j => simp [NestedKey.data] at h; rw [h]
    | _ => simp [NestedKey.data] at h
  | .text i, b, h => by
    cases b with
    | text j => simp [NestedKey.data] at h; rw [h]
    | _ => simp [NestedKey.data] at h
  | .tup xs, b, h => by
    cases b with
    | tup ys => simp [NestedKey.data] at h; rw [datas_inj xs ys h]
    | _ => simp [NestedKey.data] at h
theorem datas_inj : ∀ (a b : List NestedKey), NestedKey.datas a = NestedKey.datas b → a = b
  | [], b, h => by
    cases b with
    | nil => rfl
    | cons _ _ => simp [NestedKey.datas] at h
  | x :: xs, b, h => by
    cases b with
    | nil => simp [NestedKey.datas] at h
    | cons y ys =>
      simp [NestedKey.datas] at h
      rw [data_inj x y h.1, datas_inj xs ys h.2]
end
theorem nds_inj : ∀ {a b : NDs}, (a.map fun x => (x.1.data, x.2)) = (b.map fun x => (x.1.data, x.2)) → a = b
  | [], [], _ => rfl
  | [], _ :: _, h => by simp at h
  | _ :: _, [], h => by simp at h
  | (k, d) :: a, (k', d') :: b, h => by
    simp only [List.map_cons, List.cons.injEq, Prod.mk.injEq] at h
    rw [data_inj _ _ h.1.1, h.1.2, nds_inj h.2]
theorem Rp.dictN_inv {K : Kw} {F : Hp} {v : V} {ds : NDs} (h : Rp K F v (dictN ds)) : ∃ a ep es, v = .ref a ∧ F a = some (dN K.w a ep es) ∧ RpD K F es ds := by
  rcases h.dict_inv with ⟨a, kvs, rfl, ha, t⟩ | ⟨a, ep, es, ds', rfl, ez, ha, r⟩ | ⟨_, _, _, _, _, ez, _⟩ | ⟨_, _, _, _, ez, _⟩
  · have e := t rfl
    cases kvs with
    | nil => cases e
    | cons p q =>
      obtain ⟨k, u⟩ := p
      cases k <;> simp [kvD, kD] at e
  · simp only [List.cons.injEq, true_and] at ez
    rw [nds_inj ez]
    exact ⟨a, ep, es, rfl, ha, r⟩
  · simp at ez
  · simp at ez

def nval (kvs : NEs) (k : NestedKey) : Option V := (kvs.find? fun x => decide (x.1 = k)).map (·.2.2)
def nput (kvs : NEs) (k : NestedKey) (b : Addr) (v : V) : NEs := if (nval kvs k).isSome then kvs.map (fun x => if x.1 = k then (x.1, x.2.1, v) else x) else kvs ++ [(k, b, v)]
abbrev NP (kvs : NEs) (xs : List (NestedKey × Addr × Value)) : Prop := Paired (fun (p : NestedKey × Addr × V) (q : NestedKey × Addr × Value) => p.1 = q.1 ∧ p.2.1 = q.2.1 ∧ RelV p.2.2 q.2.2) kvs xs
theorem nval_pos {p : NestedKey × Addr × V} {r : NEs} {k : NestedKey} (e : p.1 = k) : nval (p :: r) k = some p.2.2 := by simp [nval, List.find?_cons, e]
theorem nval_neg {p : NestedKey × Addr × V} {r : NEs} {k : NestedKey} (e : ¬ p.1 = k) : nval (p :: r) k = nval r k := by simp [nval, List.find?_cons, e]
theorem NP.val {kvs : NEs} {xs : List (NestedKey × Addr × Value)} (r : NP kvs xs) (k : NestedKey) : RelO (nval kvs k) ((atKey xs k).map (·.2)) := by
  induction r with
  | nil => exact True.intro
  | @cons p q ps qs h t ih =>
    obtain ⟨h1, _, h2⟩ := h
    by_cases e : p.1 = k
    · have e' : q.1 = k := h1.symm.trans e
      have b : atKey (q :: qs) k = some q.2 := by simp [atKey, List.find?_cons, e']
      rw [nval_pos e, b]; exact h2
    · have e' : ¬ q.1 = k := fun z => e (h1.trans z)
      have b : atKey (q :: qs) k = atKey qs k := by simp [atKey, List.find?_cons, e']
      rw [nval_neg e, b]; exact ih
theorem NP.repl {kvs : NEs} {xs : List (NestedKey × Addr × Value)} (r : NP kvs xs) (k : NestedKey) {y : V} {u : Value} (ry : RelV y u) :
    NP (kvs.map fun x => if x.1 = k then (x.1, x.2.1, y) else x) (xs.map (putAt k u)) := by
  induction r with
  | nil => exact .nil
  | @cons p q ps qs h t ih =>
    rw [List.map_cons, List.map_cons]
    refine .cons ?_ ih
    obtain ⟨h1, h2, h3⟩ := h
    unfold putAt
    by_cases e : p.1 = k
    · rw [if_pos e, if_pos (h1.symm.trans e)]; exact ⟨h1, h2, ry⟩
    · rw [if_neg e, if_neg (fun z => e (h1.trans z))]; exact ⟨h1, h2, h3⟩
theorem NP.put {kvs : NEs} {xs : List (NestedKey × Addr × Value)} (r : NP kvs xs) (k : NestedKey) {b : Addr} {y : V} {u : Value} (ry : RelV y u) : NP (nput kvs k b y) (storedH xs k b u) := by
  have e : (nval kvs k).isSome = (atKey xs k).isSome := by rw [(r.val k).isSome_eq, Option.isSome_map]
  unfold nput storedH
  rw [e]
  by_cases q : (atKey xs k).isSome = true
  · rw [if_pos q, if_pos q]; exact r.repl k ry
  · rw [if_neg q, if_neg q]; exact Paired.snoc r ⟨rfl, rfl, ry⟩
/-- the keys' tuples stand -/
def NKeys (K : PySem.W.Frag) (H : Hp) (kvs : NEs) : Prop := ∀ x ∈ kvs, Dp K H (.ref x.2.1) x.1.data
section
variable {X : Cx} {pins : List (Addr × Obj)} {σ : L2.St} {H : Hp} {s : Shared} {a b : Addr} {ep : Nat} {kvs : NEs} {k : NestedKey}
end
section
variable {X : Cx} {pins : List (Addr × Obj)} {σ : L2.St} {H : Hp} {s : Shared} {a : Addr} {y v : V} {u r : Value} {o : Option V} {A : Around} {E : Value → Shared → Prop}
end
section
variable {X : Cx} {o i e f value : Expr} {pos pos' tpos apos cpos : Pos} {td ty tv tx tk : TE}
end

section
variable {prog : Program} {w : World} {K : Type} [DecidableEq K] {knd : HeapKind prog w K} {A : Around} {E : Value → Shared → Prop} {s : Shared}
end

section
variable {X : Cx} {pos : Pos} {tk tv : TE} {k v : Expr}
end
section
variable {P : Program} {w w0 : World} {K : PySem.W.Frag} {tg : Expr} {d : Addr} {ep : Nat} {kvs : NEs}
end
section
variable {X : Cx} {tg e : Expr} {td : TE} {apos cpos : Pos}
end
end Pk
end
section
set_option Elab.async false
set_option linter.all false
set_option maxRecDepth 100000
namespace Pk
open PySem PySem.Spec PyProof.Rows L2
open PySem.W (KdlSrc)
section
variable {prog : Program} {w : World} {A : Around} {E : Value → Shared → Prop} {s : Shared} {T : String} {r d : Addr} {n : Nat} {P : Nat → Value → Prop} {OK : Heap → Prop}
end
section
variable {X : Cx}
end
end Pk
end
section
set_option Elab.async false
set_option linter.all false
set_option maxRecDepth 100000
namespace Pk
open PySem PySem.Spec PyProof.Rows L2
def dval (ds : NDs) (k : NestedKey) : Option PyData := (ds.find? fun x => decide (x.1 = k)).map (·.2)
def dput (ds : NDs) (k : NestedKey) (d : PyData) : NDs := if (dval ds k).isSome then ds.map (fun x => if x.1 = k then (x.1, d) else x) else ds ++ [(k, d)]
mutual
theorem Rp.dpK {K : Kw} {F : Hp} : ∀ (k : NestedKey) {v : V}, Rp K F v k.data → Dp K F v k.data
  | .none, _, h => by have h' : Rp K F _ .none := h; cases h'; exact .non
  | .num i, _, h => by have h' : Rp K F _ (.int i) := h; cases h'; exact .int _
  | .text x, _, h => by have h' : Rp K F _ (.str x) := h; cases h'; exact .str _
  | .tup ks, _, h => by
    have h' : Rp K F _ (.tuple (NestedKey.datas ks)) := h
    cases h' with
    | tup a b => exact .tup a (RpA.dpK ks b)
theorem RpA.dpK {K : Kw} {F : Hp} : ∀ (ks : List NestedKey) {vs : List V}, RpA K F vs (NestedKey.datas ks) → DpAll K F vs (NestedKey.datas ks)
  | [], _, h => by have h' : RpA K F _ [] := h; cases h'; exact .nil
  | k :: ks, _, h => by
    have h' : RpA K F _ (k.data :: NestedKey.datas ks) := h
    cases h' with
    | cons a b => exact .cons (Rp.dpK k a) (RpA.dpK ks b)
end
section
variable {K : Kw} {F F' H : Hp} {es : NEs} {ds : NDs}
theorem RpD.length (r : RpD K F es ds) : es.length = ds.length := by
  induction es generalizing ds with
  | nil => cases r; rfl
  | cons e es ih => cases r with
    | cons a b c => simp [ih c]
theorem RpD.keys (le : Le F H) (r : RpD K F es ds) : NKeys K H es := by
  induction es generalizing ds with
  | nil => exact fun x hx => nomatch hx
  | cons e es ih => cases r with
    | cons a b c =>
      intro x hx
      rcases List.mem_cons.mp hx with rfl | hx
      · exact Rp.dpK _ (a.mono le)
      · exact ih c x hx
theorem RpD.vSome {k : NestedKey} {d : PyData} (r : RpD K F es ds) (h : dval ds k = some d) : ∃ v, nval es k = some v ∧ Rp K F v d := by
  induction es generalizing ds with
  | nil => cases r; cases h
  | cons e es ih => cases r with
    | @cons k' b v d' _ ds a b' c =>
      by_cases e : k' = k
      · subst e
        have : dval ((k', d') :: ds) k' = some d' := by simp [dval]
        rw [this] at h
        cases h
        exact ⟨v, nval_pos rfl, b'⟩
      · have : dval ((k', d') :: ds) k = dval ds k := by simp [dval, List.find?_cons, e]
        rw [this] at h
        rw [nval_neg e]
        exact ih c h
theorem RpD.vNone {k : NestedKey} (r : RpD K F es ds) (h : dval ds k = none) : nval es k = none := by
  induction es generalizing ds with
  | nil => rfl
  | cons e es ih => cases r with
    | @cons k' b v d' _ ds a b' c =>
      by_cases e : k' = k
      · subst e
        have : dval ((k', d') :: ds) k' = some d' := by simp [dval]
        rw [this] at h
        cases h
      · have : dval ((k', d') :: ds) k = dval ds k := by simp [dval, List.find?_cons, e]
        rw [this] at h
        rw [nval_neg e]
        exact ih c h
theorem RpD.repl {k : NestedKey} {v : V} {d : PyData} (r : RpD K F es ds) (rv : Rp K F v d) : RpD K F (es.map fun x => if x.1 = k then (x.1, x.2.1, v) else x) (ds.map fun x => if x.1 = k then (x.1, d) else x) := by
  induction es generalizing ds with
  | nil => cases r; exact .nil
  | cons e es ih => cases r with
    | @cons k' b v' d' _ ds a b' c =>
      rw [List.map_cons, List.map_cons]
      by_cases e : k' = k
      · rw [if_pos e, if_pos e]
        exact .cons a rv (ih c)
      · rw [if_neg e, if_neg e]
        exact .cons a b' (ih c)
theorem RpD.app {es' : NEs} {ds' : NDs} (r : RpD K F es ds) (r' : RpD K F es' ds') : RpD K F (es ++ es') (ds ++ ds') := by
  induction es generalizing ds with
  | nil => cases r; exact r'
  | cons e es ih => cases r with
    | cons a b c => exact .cons a b (ih c)
theorem RpD.put {k : NestedKey} {b : Addr} {v : V} {d : PyData} (r : RpD K F es ds) (rb : Rp K F (.ref b) k.data) (rv : Rp K F v d) : RpD K F (nput es k b v) (dput ds k d) := by
  have e : (nval es k).isSome = (dval ds k).isSome := by
    cases h : dval ds k with
    | none => rw [r.vNone h]; rfl
    | some x => obtain ⟨u, hu, _⟩ := r.vSome h; rw [hu]; rfl
  unfold nput dput
  rw [e]
  split
  · exact r.repl rv
  · exact r.app (.cons rb rv .nil)
theorem RpD.get (r : RpD K F es ds) {i : Nat} {k : NestedKey} {b : Addr} {v : V} (h : es[i]? = some (k, b, v)) : ∃ d, ds[i]? = some (k, d) ∧ Rp K F (.ref b) k.data ∧ Rp K F v d := by
  induction es generalizing ds i with
  | nil => simp at h
  | cons e es ih => cases r with
    | cons a b c =>
      cases i with
      | zero => simp at h; obtain ⟨rfl, rfl, rfl⟩ := h; exact ⟨_, rfl, a, b⟩
      | succ i => exact ih c (by simpa using h)
end
section
variable {K : Kw} {m : Bool} {Γ : List Sl} {Q : PyData → Prop} {QX : Sl → Prop} {te ti tx td : TE}
end
theorem lay_le {S : Addr → Prop} {H F : Hp} (le : Le F H) : Le F (lay S H F) := fun a o q => by
  unfold lay
  by_cases h : S a
  · rw [if_pos h]; exact le a o q
  · rw [if_neg h]; exact q
section
variable {K : Kw} {m : Bool} {Γ : List Sl} {Q : PyData → Prop} {QX : Sl → Prop} {te ti tx td : TE} {P : Po}
/-- a thing of one's own that may be read as data is frozen -/
theorem sj_frzE (i : Nat) {v : V} {Φ : Own} {d : PyData} {ts : TS} (hi : Γ[i]? = some (.ex v Φ)) (hv : Φ.vw = some d) (h : SJ K (Γ.set i (.dat false d)) ts P) : SJ K Γ ts P := fun X hK F H σ E D hD => by
  have ev := E.ex hi
  have hil : i < Γ.length := (List.getElem?_eq_some_iff.mp hi).1
  have E1 := E.takeE hi
  obtain ⟨F', lf, E2, r⟩ := lastFreeze (m := false) (d := d) (by simp [Sl.toD, hv]) E1
  have E3 := (E2.pushD (m := false) r).put i
  have e1 : (Γ.set i .no).set i (.dat false d) = Γ.set i (.dat false d) := by simp
  have e2 : σ.set i (some v) = σ := by
    apply List.ext_getElem?
    intro j
    by_cases hj : i = j
    · subst hj
      have : i < σ.length := by rw [E.len]; exact hil
      rw [List.getElem?_set_self this]
      exact ev.symm
    · rw [List.getElem?_set_ne hj]
  rw [e1, e2] at E3
  exact h X hK F' H σ E3 D hD
end
end Pk
end
section
set_option Elab.async false
set_option linter.all false
set_option maxRecDepth 100000
namespace Pk
open PySem PySem.Spec PyProof.Rows L2
section
variable {K : Kw} {m : Bool} {Γ : List Sl} {Q : PyData → Prop} {QX : Sl → Prop} {te ti tx td tk : TE} {P : Po}
end
end Pk
end
section
set_option Elab.async false
set_option linter.all false
set_option maxRecDepth 100000
namespace Pk
open PySem PySem.Spec PyProof.Rows L2
section
variable {K : Kw} {m : Bool} {Γ : List Sl} {Q : PyData → Prop} {QX : Sl → Prop}
end
end Pk
end
section
set_option Elab.async false
set_option linter.all false
set_option maxRecDepth 100000
namespace Pk
open PySem PySem.Spec PyProof.Rows L2
/-- the same but for what is told of things of one's own -/
def Alk (Γ Ξ : List Sl) : Prop := Ξ.length = Γ.length ∧ ∀ (i : Nat), (∃ v Φ Φ', Γ[i]? = some (.ex v Φ) ∧ Ξ[i]? = some (.ex v Φ')) ∨ ((∀ v Φ, Γ[i]? ≠ some (.ex v Φ)) ∧ Ξ[i]? = Γ[i]?)
theorem Alk.same {Γ Ξ : List Sl} (h : Alk Γ Ξ) {i : Nat} {s : Sl} (e : Ξ[i]? = some s) (n : ∀ v Φ, s ≠ .ex v Φ) : Γ[i]? = some s := by
  rcases h.2 i with ⟨v, Φ, Φ', _, z⟩ | ⟨_, z⟩
  · rw [e] at z; injection z with z; exact absurd z (n v Φ')
  · rw [← z]; exact e
section
variable {P : Program} {K : Kw} {mg : Str → Option Value} {base : Heap}
end
section
variable {K : Kw} {m : Bool} {Γ : List Sl} {T : List Sl → (List Sl → Sl → Prop) → Prop} {EE : XK} {tr : TA} {te : TE} {P : Po}
end
end Pk
end
section
set_option Elab.async false
set_option linter.all false
set_option maxRecDepth 100000
namespace Pk
open PySem PySem.Spec PyProof.Rows L2
open PySem.W (KdlSrc)
section
variable {prog : Program} {w : World} {A : Around} {E : Value → Shared → Prop} {s : Shared} {T : String} {r d : Addr} {n : Nat} {P : Nat → Value → Prop} {OK : Heap → Prop}
end
section
variable {X : Cx} {e : Expr} {td : TE} {apos cpos p0 pos : Pos}
end
section
variable {K : Kw} {m : Bool} {Γ : List Sl} {Q : PyData → Prop} {td : TE}
end
end Pk
end
section
set_option Elab.async false
set_option linter.all false
set_option maxRecDepth 100000
namespace Pk
open PySem PySem.Spec PyProof.Rows L2
section
variable {K : Kw} {m : Bool} {Γ : List Sl} {Q : PyData → Prop} {QX : Sl → Prop} {te ti tx td tk : TE} {P : Po}
end
end Pk
end
section
set_option Elab.async false
set_option linter.all false
set_option maxRecDepth 100000
namespace Pk
open PySem PySem.Spec PyProof.Rows L2
section
variable {K : Kw} {m : Bool} {Γ : List Sl} {Q : PyData → Prop} {QX : Sl → Prop} {W : XW} {ex : Value → Option Fs → List Sl → Prop} {T : List Sl → (Sl → Prop) → XQ → Prop} {ta tb tc te : TE} {tt : TT} {g : TG} {vs : List Nat} {a : V} {P : Po}
end
end Pk
end
section
set_option Elab.async false
set_option linter.all false
set_option maxRecDepth 100000
namespace Pk
open PySem PySem.Spec PyProof.Rows L2
section
variable {K : Kw} {m : Bool} {Γ : List Sl} {Q : PyData → Prop} {QX : Sl → Prop} {t : TE}
end
end Pk
end
section
set_option Elab.async false
set_option linter.all false
set_option maxRecDepth 100000
namespace Pk
open PySem PySem.Spec PyProof.Rows L2
section
variable {K : Kw} {m : Bool} {Γ : List Sl} {P : Po} {te : TE} {ta : TA} {QI : List PyData → Prop} {Q : PyData → Prop}
end
end Pk
end
section
set_option Elab.async false
set_option linter.all false
set_option maxRecDepth 100000
namespace Pk
open PySem PySem.Spec PyProof.Rows L2
section
variable {K : Kw} {Γ : List Sl} {P : Po} {te : TE} {ts : TS}
theorem sj_setG {i : Nat} (h : WXg K Γ te fun Γ' s => P.nx (Γ'.set i s)) : SJ K Γ (tAsg te (gName i)) P := fun X hK F H σ E D hD =>
  h X hK F H σ E _ fun v F1 H1 Γ' s l1 E1 q => hD.nx F1 H1 _ _ (E1.put i) q
end
end Pk
end
section
set_option Elab.async false
set_option linter.all false
set_option maxRecDepth 100000
namespace Pk
open PySem PySem.Spec PyProof.Rows L2
section
variable {K : Kw} {m : Bool} {Γ : List Sl} {N : List Sl → Prop}
end
end Pk
end
section
set_option Elab.async false
set_option linter.all false
set_option maxRecDepth 100000
set_option pp.maxSteps 1000
namespace Pk
open PySem PySem.Spec PyProof.Rows L2
open PySem.W (DilG)
section
variable {X : Cx} {pins : List (Addr × Obj)} {σ : L2.St} {H : Hp} {s : Shared}
end
section
open PySem.W (EachIs keyToks keyToksAll alike dataLt SortsAt)
variable {prog : Program} {w : World} {A : Around} {E : Value → Shared → Prop} {s : Shared}
abbrev Pr3 := Value × PyData × PyData
structure PrOk (h : Heap) (u : Nat) (bs : List Pr3) : Prop where
  rd : ∀ p ∈ bs, ∃ as, Reads h p.1 (.tuple [p.2.1, p.2.2]) as
  one : ∀ p ∈ bs, ∀ q ∈ bs, p.1 = q.1 → p = q
  key : ∀ p ∈ bs, ∀ q ∈ bs, p = q ∨ (alike p.2.1 q.2.1 = true ∧ PyData.eqv p.2.1 q.2.1 = false)
  self : ∀ p ∈ bs, alike p.2.1 p.2.1 = true ∧ alike p.2.2 p.2.2 = true
  tup : ∀ p ∈ bs, ∃ xs, p.2.1 = .tuple xs
  dep : ∀ p ∈ bs, u + 1 + p.2.1.depth < cLine ∧ u + 1 + p.2.2.depth < cLine
end
/-- items that can be sorted by their keys -/
structure NSrt (K : PySem.W.Frag) (H : Hp) (kvs : NEs) (vds : List PyData) : Prop where
  keys : NKeys K H kvs
  vals : DpAll K H (kvs.map fun x => x.2.2) vds
  len : vds.length = kvs.length
  nd : (kvs.map fun x => x.1).Nodup
  al : ∀ x ∈ kvs, ∀ y ∈ kvs, PySem.W.alike x.1.data y.1.data = true
  ne : ∀ x ∈ kvs, ∀ y ∈ kvs, x.1 ≠ y.1 → PyData.eqv x.1.data y.1.data = false
  tup : ∀ x ∈ kvs, ∃ ks, x.1 = .tup ks
  kd : ∀ x ∈ kvs, x.1.data.depth ≤ 50
  va : ∀ d ∈ vds, PySem.W.alike d d = true
  vd : ∀ d ∈ vds, d.depth ≤ 50
section
variable {X : Cx} {pins : List (Addr × Obj)} {σ : L2.St} {H : Hp} {s : Shared}
end
section
variable {X : Cx} {e : Expr} {td : TE} {apos cpos p0 pos : Pos}
end
end Pk
end
section
set_option Elab.async false
set_option linter.all false
set_option maxRecDepth 100000
set_option pp.maxSteps 1000
namespace Pk
open PySem PySem.Spec PyProof.Rows L2
section
variable {K : Kw} {F F' H : Hp}
end
/-- pairs that can be sorted by their first ones -/
structure DSrt (ds : NDs) : Prop where
  nd : (ds.map fun x => x.1).Nodup
  al : ∀ x ∈ ds, ∀ y ∈ ds, PySem.W.alike x.1.data y.1.data = true
  ne : ∀ x ∈ ds, ∀ y ∈ ds, x.1 ≠ y.1 → PyData.eqv x.1.data y.1.data = false
  tup : ∀ x ∈ ds, ∃ ks, x.1 = .tup ks
  kd : ∀ x ∈ ds, x.1.data.depth ≤ 50
  vc : PyData.canLayAll0 (ds.map fun x => x.2) = true
  va : ∀ x ∈ ds, PySem.W.alike x.2 x.2 = true
  vd : ∀ x ∈ ds, x.2.depth ≤ 50
section
variable {K : Kw} {Γ : List Sl} {td : TE} {QX : Sl → Prop}
end
section
section
variable {X : Cx} {pins : List (Addr × Obj)} {σ : L2.St} {H : Hp} {s : Shared}
end
section
variable {K : Kw} {Γ : List Sl} {te : TE} {QX : Sl → Prop} {Q : PyData → Prop}
end
end
end Pk
end
section
set_option Elab.async false
set_option linter.all false
set_option maxRecDepth 100000
set_option pp.maxSteps 1000
namespace Pk
open PySem PySem.Spec PyProof.Rows L2
section
variable {X : Cx} {o i value : Expr} {pos pos' : Pos} {td ty tv : TE}
end
section
variable {K : Kw} {m : Bool} {Γ : List Sl} {QI : List PyData → Prop} {Q : PyData → Prop} {P : Po} {td ti tx te : TE}
end
section
variable {K : Kw} {m : Bool} {Γ : List Sl} {Q : PyData → Prop}
end
end Pk
end
section
set_option Elab.async false
set_option linter.all false
set_option maxRecDepth 100000
set_option pp.maxSteps 1000
namespace Pk
open PySem PySem.Spec PyProof.Rows L2 Pz
section
variable {K : Kw} {m : Bool} {Γ : List Sl} {ta tb tc : TE} {QX : Sl → Prop}
end
end Pk
end
section
set_option Elab.async false
set_option linter.all false
set_option maxRecDepth 100000
set_option pp.maxSteps 1000
namespace Pk
open PySem PySem.Spec PyProof.Rows L2
section
variable {X : Cx} {pins : List (Addr × Obj)} {σ : L2.St} {H : Hp} {s : Shared} {a b : Addr} {ep : Nat} {kvs : List (Key × V)} {k : Key}
end
section
variable {X : Cx} {pins : List (Addr × Obj)} {σ : L2.St} {H : Hp} {s : Shared} {a : Addr} {y v : V} {u r : Value} {o : Option V} {A : Around} {E : Value → Shared → Prop}
end
section
variable {X : Cx} {o i e f value : Expr} {pos pos' tpos apos cpos : Pos} {td ty tv tx tk : TE}
end
section
variable {P : Program} {w w0 : World} {K : PySem.W.Frag} {tg : Expr} {d : Addr} {ep : Nat} {kvs : List (Key × V)}
end
section
variable {X : Cx} {tg e : Expr} {td : TE} {apos cpos : Pos}
end
end Pk
end
section
set_option Elab.async false
set_option linter.all false
set_option maxRecDepth 100000
set_option pp.maxSteps 1000
namespace Pk
open PySem PySem.Spec PyProof.Rows L2
section
variable {X : Cx} {pins : List (Addr × Obj)} {σ : L2.St} {H : Hp} {s : Shared} {a : Addr} {ep : Nat} {kvs : List (Key × V)} {y v : V} {u r : Value} {o : Option V} {A : Around} {E : Value → Shared → Prop}
end
section
variable {X : Cx} {o e f : Expr} {pos apos cpos : Pos} {t td ty tx : TE}
end
end Pk
end
section
set_option Elab.async false
set_option linter.all false
set_option maxRecDepth 100000
set_option pp.maxSteps 1000
namespace Pk
open PySem PySem.Spec PyProof.Rows L2
def fval (fs : FDs) (k : Key) : Option PyData := (fs.find? fun x => decide (x.1 = k)).map (·.2)
def fput (fs : FDs) (k : Key) (d : PyData) : FDs := if (fs.any fun x => decide (x.1 = k)) = true then fs.map (fun x => if x.1 = k then (x.1, d) else x) else fs ++ [(k, d)]
/-- entries and what they stand for -/
structure RpF (K : Kw) (F : Hp) (kvs : List (Key × V)) (fs : FDs) : Prop where
  ks : kvs.map (·.1) = fs.map (·.1)
  vs : RpA K F (kvs.map (·.2)) (fs.map (·.2))
section
variable {K : Kw} {F F' H : Hp}
theorem RpF.nil : RpF K F [] [] := ⟨rfl, .nil⟩
theorem RpF.mono {kvs : List (Key × V)} {fs : FDs} (r : RpF K F kvs fs) (e : Le F F') : RpF K F' kvs fs := ⟨r.ks, r.vs.mono e⟩
theorem RpF.length {kvs : List (Key × V)} {fs : FDs} (r : RpF K F kvs fs) : kvs.length = fs.length := by
  have := congrArg List.length r.ks
  rw [List.length_map, List.length_map] at this
  exact this
theorem RpF.unc {p : Key × V} {q : Key × PyData} {kvs : List (Key × V)} {fs : FDs} (r : RpF K F (p :: kvs) (q :: fs)) : p.1 = q.1 ∧ Rp K F p.2 q.2 ∧ RpF K F kvs fs := by
  obtain ⟨h1, h2⟩ := r
  rw [List.map_cons, List.map_cons] at h1 h2
  injection h1 with a b
  cases h2 with
  | cons x y => exact ⟨a, x, b, y⟩
theorem RpF.cons {p : Key × V} {q : Key × PyData} {kvs : List (Key × V)} {fs : FDs} (h : p.1 = q.1) (hv : Rp K F p.2 q.2) (r : RpF K F kvs fs) : RpF K F (p :: kvs) (q :: fs) :=
  ⟨by rw [List.map_cons, List.map_cons, h, r.ks], .cons hv r.vs⟩
theorem RpF.vSome {k : Key} {d : PyData} : ∀ {kvs : List (Key × V)} {fs : FDs}, RpF K F kvs fs → fval fs k = some d → ∃ v, valV kvs k = some v ∧ Rp K F v d
  | [], [], _, h => by simp [fval] at h
  | [], _ :: _, r, _ => by have := r.length; simp at this
  | _ :: _, [], r, _ => by have := r.length; simp at this
  | p :: kvs, q :: fs, r, h => by
    obtain ⟨a, b, c⟩ := r.unc
    by_cases e : q.1 = k
    · have : fval (q :: fs) k = some q.2 := by simp [fval, e]
      rw [this] at h
      cases h
      exact ⟨p.2, by simp [valV, a, e], b⟩
    · have : fval (q :: fs) k = fval fs k := by simp [fval, List.find?_cons, e]
      rw [this] at h
      obtain ⟨v, hv, rv⟩ := RpF.vSome c h
      refine ⟨v, ?_, rv⟩
      rw [← hv]
      simp [valV, List.find?_cons, a, e]
theorem RpF.vNone {k : Key} : ∀ {kvs : List (Key × V)} {fs : FDs}, RpF K F kvs fs → fval fs k = none → valV kvs k = none
  | [], [], _, h => rfl
  | [], _ :: _, r, _ => by have := r.length; simp at this
  | _ :: _, [], r, _ => by have := r.length; simp at this
  | p :: kvs, q :: fs, r, h => by
    obtain ⟨a, b, c⟩ := r.unc
    by_cases e : q.1 = k
    · have : fval (q :: fs) k = some q.2 := by simp [fval, e]
      rw [this] at h
      cases h
    · have : fval (q :: fs) k = fval fs k := by simp [fval, List.find?_cons, e]
      rw [this] at h
      rw [← RpF.vNone c h]
      simp [valV, List.find?_cons, a, e]
theorem RpF.anyK {k : Key} {kvs : List (Key × V)} {fs : FDs} (r : RpF K F kvs fs) : (kvs.any fun x => decide (x.1 = k)) = fs.any fun x => decide (x.1 = k) := by
  have e1 : (kvs.any fun x => decide (x.1 = k)) = (kvs.map (·.1)).any fun x => decide (x = k) := by rw [List.any_map]; rfl
  have e2 : (fs.any fun x => decide (x.1 = k)) = (fs.map (·.1)).any fun x => decide (x = k) := by rw [List.any_map]; rfl
  rw [e1, e2, r.ks]
theorem RpF.repl {k : Key} {v : V} {d : PyData} (hv : Rp K F v d) : ∀ {kvs : List (Key × V)} {fs : FDs}, RpF K F kvs fs → RpF K F (kvs.map fun x => if x.1 = k then (x.1, v) else x) (fs.map fun x => if x.1 = k then (x.1, d) else x)
  | [], [], _ => .nil
  | [], _ :: _, r => by have := r.length; simp at this
  | _ :: _, [], r => by have := r.length; simp at this
  | p :: kvs, q :: fs, r => by
    obtain ⟨a, b, c⟩ := r.unc
    rw [List.map_cons, List.map_cons]
    refine .cons ?_ ?_ (RpF.repl hv c)
    · rw [a]; split <;> simp [a]
    · rw [a]; split
      · exact hv
      · exact b
theorem RpF.snoc {k : Key} {v : V} {d : PyData} (hv : Rp K F v d) : ∀ {kvs : List (Key × V)} {fs : FDs}, RpF K F kvs fs → RpF K F (kvs ++ [(k, v)]) (fs ++ [(k, d)])
  | [], [], _ => .cons rfl hv .nil
  | [], _ :: _, r => by have := r.length; simp at this
  | _ :: _, [], r => by have := r.length; simp at this
  | p :: kvs, q :: fs, r => by
    obtain ⟨a, b, c⟩ := r.unc
    exact .cons a b (RpF.snoc hv c)
theorem RpF.put {k : Key} {v : V} {d : PyData} {kvs : List (Key × V)} {fs : FDs} (r : RpF K F kvs fs) (hv : Rp K F v d) : RpF K F (putK kvs k v) (fput fs k d) := by
  unfold putK fput
  rw [r.anyK]
  by_cases h : (fs.any fun x => decide (x.1 = k)) = true
  · rw [if_pos h, if_pos h]; exact r.repl hv
  · rw [if_neg h, if_neg h]; exact r.snoc hv
theorem RpF.get {kvs : List (Key × V)} {fs : FDs} (r : RpF K F kvs fs) {i : Nat} {k : Key} {v : V} (h : kvs[i]? = some (k, v)) : ∃ d, fs[i]? = some (k, d) ∧ Rp K F v d := by
  induction kvs generalizing fs i with
  | nil => simp at h
  | cons p kvs ih =>
    cases fs with
    | nil => have := r.length; simp at this
    | cons q fs =>
      obtain ⟨a, b, c⟩ := r.unc
      cases i with
      | zero =>
        simp at h
        subst h
        exact ⟨q.2, by simp; rw [show k = q.1 from a], b⟩
      | succ i =>
        obtain ⟨d, h1, h2⟩ := ih c (by simpa using h)
        exact ⟨d, by simpa using h1, h2⟩
end
section
variable {K : Kw} {m : Bool} {Γ : List Sl} {Q : PyData → Prop} {QX : Sl → Prop} {te ti tx td : TE}
end
section
variable {K : Kw} {m : Bool} {Γ : List Sl} {Q : PyData → Prop} {QX : Sl → Prop} {te ti tx td : TE} {P : Po}
end
end Pk
end
section
set_option Elab.async false
set_option linter.all false
set_option maxRecDepth 100000
set_option pp.maxSteps 1000
namespace Pk
open PySem PySem.Spec PyProof.Rows L2
section
variable {X : Cx} {pins : List (Addr × Obj)} {σ : L2.St} {H : Hp} {s : Shared} {d : Addr} {ep : Nat} {kvs : List (Key × V)}
end
section
variable {K : Kw} {m : Bool} {Γ : List Sl} {Q : PyData → Prop} {QX : Sl → Prop} {ta tb : TE}
end
end Pk
end
section
set_option Elab.async false
set_option linter.all false
set_option maxRecDepth 100000
set_option pp.maxSteps 1000
namespace Pk
open PySem PySem.Spec PyProof.Rows L2
section
variable {K : Kw} {m : Bool} {Γ : List Sl} {Q : PyData → Prop} {QX : Sl → Prop} {te : TE}
end
end Pk
end
section
set_option Elab.async false
set_option linter.all false
set_option maxRecDepth 100000
namespace Pk
open PySem PySem.Spec PyProof.Rows L2
/-- where a def stands that a global of another name holds -/
structure DefA (K : PySem.W.Frag) (mg : Str → Option Value) (x y : Str) (st : Stmt) (ps : List Str) : Prop where
  ex : ∃ f fd, mg x = some (.ref f) ∧ Fun K y y st f fd ∧ Binds K fd ps []
section
variable {P : Program} {K : Kw} {mg : Str → Option Value} {base : Heap}
end
end Pk
end
section
set_option Elab.async false
set_option linter.all false
set_option maxRecDepth 100000
set_option pp.maxSteps 1000
namespace Pk
open PySem PySem.Spec PyProof.Rows L2
section
variable {X : Cx} {pins : List (Addr × Obj)} {σ : L2.St} {H : Hp} {s : Shared}
end
section
variable {K : Kw} {m : Bool} {Γ : List Sl} {Q : PyData → Prop}
end
end Pk
end
section
set_option Elab.async false
set_option linter.all false
set_option maxRecDepth 100000
set_option pp.maxSteps 1000
namespace Pk
open PySem PySem.Spec PyProof.Rows L2
section
variable {K : Kw} {m : Bool} {Γ : List Sl} {Q : PyData → Prop} {te ti : TE}
end
end Pk
end
section
set_option Elab.async false
set_option linter.all false
set_option maxRecDepth 100000
set_option pp.maxSteps 1000
namespace Pk
open PySem PySem.Spec PyProof.Rows L2
/-- the same slots, own things told otherwise -/
structure SameEx (Γ Γ2 : List Sl) : Prop where
  len : Γ2.length = Γ.length
  at_ : ∀ i : Nat, Γ2[i]? = Γ[i]? ∨ ∃ v Φ Φ', Γ[i]? = some (Sl.ex v Φ) ∧ Γ2[i]? = some (Sl.ex v Φ')
/-- a promise: T tells of the arguments what is wanted of the arguments behind and of the result -/
def spD (K : Kw) (T : List Sl → (List Sl → Sl → Prop) → Prop) : Sp := fun vs H Q _ => ∃ (X : Bs) (F : Hp) (Γ : List Sl) (Qr : List Sl → Sl → Prop), X.K = K ∧ X.F0 = F ∧ X.H0 = H ∧ (∀ a, X.N a ↔ H a ≠ none) ∧ En X F H (vs.map some) Γ ∧ T Γ Qr ∧
  ∀ F' H' v s Γ2, Le F F' → SameEx Γ Γ2 → En X F' H' (vs.map some ++ [some v]) (Γ2 ++ [s]) → Qr Γ2 s → Q v H'
/-- the call, own things told otherwise behind it -/
theorem call_spD {K : Kw} {Γ : List Sl} {X : Bs} (hK : X.K = K) {F H : Hp} {σ : L2.St} (E : En X F H σ Γ) {vs : List V} {as : List Ag} (ra : AgsOk X false F σ vs as) (hg : AgsGood Γ as) :
    ∃ X1 : Bs, X1.K = K ∧ X1.F0 = F ∧ X1.H0 = H ∧ (∀ a, X1.N a ↔ H a ≠ none) ∧ En X1 F H (vs.map some) (as.map (Ag.sl Γ)) ∧ ∀ F' H' v s (Γa Γ' : List Sl), Le F F' → Γa.length = as.length → Γ'.length = Γ.length → (∀ j : Nat, (∀ (k : Nat), as[k]? ≠ some (.o j)) → Γ'[j]? = Γ[j]?) → (∀ (k j : Nat), as[k]? = some (.o j) → ∃ u Φ Φ', Γ[j]? = some (.ex u Φ) ∧ Γa[k]? = some (.ex u Φ') ∧ Γ'[j]? = some (.ex u Φ')) → En X1 F' H' (vs.map some ++ [some v]) (Γa ++ [s]) → En X F' H' (σ ++ [some v]) (Γ' ++ [s]) := by
  subst hK
  obtain ⟨S, hs, hdj, ho⟩ := id E.sl
  obtain ⟨nd, hex⟩ := hg
  have exv : ∀ {k i : Nat}, as[k]? = some (.o i) → ∃ v Φ, Γ[i]? = some (.ex v Φ) ∧ vs[k]? = some v ∧ σ.getD i none = some v ∧ Φ.K = X.K ∧ Φ.p F H v (S i) := fun {k i} h => by
    obtain ⟨v, Φ, hΓ⟩ := hex i (ix_mem h)
    obtain ⟨e, hk, q⟩ := hs i _ hΓ
    obtain ⟨u, hu, hv⟩ := ra.at h
    have e2 : σ[i]? = some (some v) := E.ex hΓ
    have e3 : σ[i]? = some (some u) := hv
    rw [e2] at e3
    cases e3
    exact ⟨v, Φ, hΓ, hu, e, hk, q⟩
  refine ⟨⟨X.K, F, H, fun a => ∃ (k i : Nat), as[k]? = some (.o i) ∧ S i a, fun a => H a ≠ none⟩, rfl, rfl, rfl, fun _ => Iff.rfl, ⟨E.le, by simp [ra.len], ⟨fun k a => ∃ (i : Nat), as[k]? = some (.o i) ∧ S i a, fun k s e => ?_, fun k k' a h1 h2 => ?_, fun k a h1 => ?_⟩, fun a o e _ => ⟨e, rfl⟩, Le.rfl', fun _ h => h⟩, fun F' H' v s Γa Γ' lf hla hlg hun hch E' => ?_⟩
  · rw [List.getElem?_map] at e
    cases ha : as[k]? with
    | none => rw [ha] at e; cases e
    | some a =>
      rw [ha] at e
      cases e
      cases a with
      | d x =>
        obtain ⟨u, hu, hv⟩ := ra.at ha
        exact ⟨⟨u, map_some_getD hu, hv⟩, fun a ⟨i, z, _⟩ => by rw [ha] at z; cases z⟩
      | o i =>
        obtain ⟨u, Φ, hΓ, hu, _, hk, q⟩ := exv ha
        have e1 : Ag.sl Γ (.o i) = .ex u Φ := by simp [Ag.sl, List.getD_eq_getElem?_getD, hΓ]
        rw [e1]
        have eS : (fun a => ∃ (j : Nat), as[k]? = some (.o j) ∧ S j a) = S i := by
          funext a
          apply propext
          constructor
          · rintro ⟨j, e, z⟩
            rw [ha] at e
            cases e
            exact z
          · intro z; exact ⟨i, ha, z⟩
        show SlOk _ F H _ (fun a => ∃ (j : Nat), as[k]? = some (.o j) ∧ S j a) _
        rw [eS]
        exact ⟨map_some_getD hu, hk, q⟩
  · obtain ⟨i, e1, s1⟩ := h1
    obtain ⟨j, e2, s2⟩ := h2
    have := hdj i j a s1 s2
    subst this
    exact ix_inj nd e1 e2
  · obtain ⟨i, e1, s1⟩ := h1
    exact ⟨(ho i a s1).1, (ho i a s1).2.1, .inr ⟨k, i, e1, s1⟩⟩
  · -- behind the call
    obtain ⟨S', hs', hdj', ho'⟩ := id E'.sl
    have hlen : (vs.map some).length = Γa.length := by simp [ra.len, hla]
    have notP : ∀ j a, S j a → (∀ (k : Nat), as[k]? ≠ some (.o j)) → ¬ ∃ (k i : Nat), as[k]? = some (.o i) ∧ S i a := fun j a sj hn ⟨k, i, e, si⟩ => by
      have := hdj i j a si sj
      subst this
      exact hn k e
    have keepP : ∀ j a, S j a → (∀ (k : Nat), as[k]? ≠ some (.o j)) → H' a = H a ∧ F' a = F a := fun j a sj hn => by
      obtain ⟨_, h1, _⟩ := ho j a sj
      cases z : H a with
      | none => exact absurd z h1
      | some o => exact E'.fr a o z (notP j a sj hn)
    have disP : ∀ k j a, S' k a → S j a → (∀ (k : Nat), as[k]? ≠ some (.o j)) → False := fun k j a h1 sj hn => by
      rcases (ho' k a h1).2.2 with w | w
      · exact (ho j a sj).2.1 w
      · exact notP j a sj hn w
    have ownX : ∀ k a, S' k a → X.own a := fun k a h1 => by
      rcases (ho' k a h1).2.2 with w | ⟨k', i, _, w⟩
      · exact E.ownN w
      · exact (ho i a w).2.2
    have kl : ∀ {k i : Nat}, as[k]? = some (.o i) → k < as.length := fun h => (List.getElem?_eq_some_iff.mp h).1
    refine ⟨E'.le, by simp [E.len, hlg], ⟨fun j a => (j < Γ.length ∧ ((∃ (k : Nat), as[k]? = some (.o j) ∧ S' k a) ∨ ((∀ (k : Nat), as[k]? ≠ some (.o j)) ∧ S j a))) ∨ (j = Γ.length ∧ S' as.length a), fun j u e => ?_, fun j j' a h1 h2 => ?_, fun j a h1 => ?_⟩, fun a o e n => ?_, E.f0.tr lf, fun a n => E'.nn a (E.nn a n)⟩
    · have hj : j < (Γ' ++ [s]).length := (List.getElem?_eq_some_iff.mp e).1
      simp only [List.length_append, List.length_cons, List.length_nil, hlg] at hj
      by_cases hlt : j < Γ.length
      · rw [List.getElem?_append_left (by rw [hlg]; exact hlt)] at e
        rw [getD_app (by rw [E.len]; exact hlt)]
        by_cases hp : ∃ (k : Nat), as[k]? = some (.o j)
        · obtain ⟨k, hk⟩ := hp
          obtain ⟨u0, Φ0, hΓ, hu, e0, hkk0, _⟩ := exv hk
          obtain ⟨u1, Φ1, Φ, hΓ1, ha1, hg1⟩ := hch k j hk
          rw [hΓ] at hΓ1
          cases hΓ1
          rw [hg1] at e
          cases e
          have eS : (fun a => (j < Γ.length ∧ ((∃ (k : Nat), as[k]? = some (.o j) ∧ S' k a) ∨ ((∀ (k : Nat), as[k]? ≠ some (.o j)) ∧ S j a))) ∨ (j = Γ.length ∧ S' as.length a)) = S' k := by
            funext a
            apply propext
            constructor
            · rintro (⟨_, ⟨k', e', z⟩ | ⟨z, _⟩⟩ | ⟨z, _⟩)
              · rw [ix_inj nd hk e']; exact z
              · exact absurd hk (z k)
              · omega
            · intro z; exact .inl ⟨hlt, .inl ⟨k, hk, z⟩⟩
          show SlOk X F' H' _ (fun a => (j < Γ.length ∧ ((∃ (k : Nat), as[k]? = some (.o j) ∧ S' k a) ∨ ((∀ (k : Nat), as[k]? ≠ some (.o j)) ∧ S j a))) ∨ (j = Γ.length ∧ S' as.length a)) _
          rw [eS]
          have hk' : k < as.length := kl hk
          have q1 := hs' k (.ex u0 Φ) (by
            rw [List.getElem?_append_left (by rw [hla]; exact hk'), ha1])
          exact ⟨e0, q1.2.1, q1.2.2⟩
        · have hn : ∀ (k : Nat), as[k]? ≠ some (.o j) := fun k z => hp ⟨k, z⟩
          have eS : (fun a => (j < Γ.length ∧ ((∃ (k : Nat), as[k]? = some (.o j) ∧ S' k a) ∨ ((∀ (k : Nat), as[k]? ≠ some (.o j)) ∧ S j a))) ∨ (j = Γ.length ∧ S' as.length a)) = S j := by
            funext a
            apply propext
            constructor
            · rintro (⟨_, ⟨k', e', z⟩ | ⟨_, z⟩⟩ | ⟨z, _⟩)
              · exact absurd e' (hn k')
              · exact z
              · omega
            · intro z; exact .inl ⟨hlt, .inr ⟨hn, z⟩⟩
          show SlOk X F' H' _ (fun a => (j < Γ.length ∧ ((∃ (k : Nat), as[k]? = some (.o j) ∧ S' k a) ∨ ((∀ (k : Nat), as[k]? ≠ some (.o j)) ∧ S j a))) ∨ (j = Γ.length ∧ S' as.length a)) _
          rw [eS]
          rw [hun j hn] at e
          exact (hs j u e).mono lf fun a sa => (keepP j a sa hn).1
      · have hje : j = Γ.length := by omega
        subst hje
        rw [← hlg] at e
        simp at e
        subst e
        have eS : (fun a => (Γ.length < Γ.length ∧ ((∃ (k : Nat), as[k]? = some (.o Γ.length) ∧ S' k a) ∨ ((∀ (k : Nat), as[k]? ≠ some (.o Γ.length)) ∧ S Γ.length a))) ∨ (Γ.length = Γ.length ∧ S' as.length a)) = S' as.length := by
          funext a
          apply propext
          constructor
          · rintro (⟨z, _⟩ | ⟨_, z⟩)
            · omega
            · exact z
          · intro z; exact .inr ⟨rfl, z⟩
        show SlOk X F' H' _ (fun a => (Γ.length < Γ.length ∧ ((∃ (k : Nat), as[k]? = some (.o Γ.length) ∧ S' k a) ∨ ((∀ (k : Nat), as[k]? ≠ some (.o Γ.length)) ∧ S Γ.length a))) ∨ (Γ.length = Γ.length ∧ S' as.length a)) _
        rw [eS, ← E.len, getD_last]
        have q1 := hs' as.length s (by
          rw [← hla]
          simp)
        have e4 : (vs.map some ++ [some v]).getD as.length none = some v := by
          have : as.length = (vs.map some).length := by simp [ra.len]
          rw [this, getD_last]
        rw [e4] at q1
        refine SlOk.to ?_ ?_ q1
        · rfl
        · exact fun a n => E.nn a n
    · rcases h1 with ⟨a1, ⟨k1, e1, z1⟩ | ⟨n1, z1⟩⟩ | ⟨a1, z1⟩ <;> rcases h2 with ⟨a2, ⟨k2, e2, z2⟩ | ⟨n2, z2⟩⟩ | ⟨a2, z2⟩
      · have := hdj' k1 k2 a z1 z2
        subst this
        rw [e1] at e2
        cases e2
        rfl
      · exact (disP k1 j' a z1 z2 n2).elim
      · have := hdj' k1 as.length a z1 z2
        have := kl e1
        omega
      · exact (disP k2 j a z2 z1 n1).elim
      · exact hdj j j' a z1 z2
      · exact (disP _ j a z2 z1 n1).elim
      · have := hdj' k2 as.length a z2 z1
        have := kl e2
        omega
      · exact (disP _ j' a z1 z2 n2).elim
      · omega
    · rcases h1 with ⟨a1, ⟨k1, e1, z1⟩ | ⟨n1, z1⟩⟩ | ⟨a1, z1⟩
      · exact ⟨(ho' k1 a z1).1, (ho' k1 a z1).2.1, ownX k1 a z1⟩
      · obtain ⟨q1, q2⟩ := keepP j a z1 n1
        exact ⟨q2.trans (ho j a z1).1, by rw [q1]; exact (ho j a z1).2.1, (ho j a z1).2.2⟩
      · exact ⟨(ho' _ a z1).1, (ho' _ a z1).2.1, ownX _ a z1⟩
    · obtain ⟨q1, q2⟩ := E.fr a o e n
      have nS : ¬ ∃ (k i : Nat), as[k]? = some (.o i) ∧ S i a := fun ⟨k, i, _, si⟩ => by
        rcases (ho i a si).2.2 with w | w
        · rw [w] at e; cases e
        · exact n w
      obtain ⟨r1, r2⟩ := E'.fr a o q1 nS
      exact ⟨r1, r2.trans q2⟩
theorem En.backD {X : Bs} {F H F' H' : Hp} {σ' : L2.St} {Γ Γ2 Γ' : List Sl} {vs : List V} {ov : Option V} {s : Sl} (E0 : En X F H (vs.map some) Γ) (hF : X.F0 = F) (nm : NoMl Γ) (se : SameEx Γ Γ2) (kp : Keep Γ2 Γ') (E : En X F' H' (σ' ++ [ov]) (Γ' ++ [s])) : En X F' H' (vs.map some ++ [ov]) (Γ2 ++ [s]) := by
  have lf : Le F F' := by rw [← hF]; exact E.f0
  have hl : σ'.length = Γ'.length := by
    have := E.len
    simp at this
    exact this
  obtain ⟨S0, hs0, _, _⟩ := id E0.sl
  obtain ⟨S, hs, hdj, ho⟩ := id E.sl
  refine ⟨E.le, by simp [← E0.len, se.len], ⟨fun i a => (i < Γ2.length ∧ (∃ v Φ, Γ2[i]? = some (.ex v Φ)) ∧ S i a) ∨ (i = Γ2.length ∧ S Γ'.length a), fun i u e => ?_, fun i j a h1 h2 => ?_, fun i a h1 => ?_⟩, E.fr, E.f0, E.nn⟩
  · have hi : i < (Γ2 ++ [s]).length := (List.getElem?_eq_some_iff.mp e).1
    simp only [List.length_append, List.length_cons, List.length_nil] at hi
    by_cases hlt : i < Γ2.length
    · rw [List.getElem?_append_left hlt] at e
      rw [getD_app (by rw [E0.len, ← se.len]; exact hlt)]
      cases u with
      | no =>
        intro a z
        rcases z with ⟨_, ⟨v, Φ, z⟩, _⟩ | ⟨z, _⟩
        · rw [e] at z; cases z
        · omega
      | dat m d =>
        have e' : Γ[i]? = some (.dat m d) := by
          rcases se.at_ i with z | ⟨_, _, _, _, z⟩
          · rw [← z]; exact e
          · rw [z] at e; cases e
        obtain ⟨⟨v, ev, r⟩, _⟩ := hs0 i _ e'
        refine ⟨⟨v, ev, Bs.mo r lf⟩, fun a z => ?_⟩
        rcases z with ⟨_, ⟨v, Φ, z⟩, _⟩ | ⟨z, _⟩
        · rw [e] at z; cases z
        · omega
      | ml m l ds =>
        refine absurd ?_ (nm i m l ds)
        rcases se.at_ i with z | ⟨_, _, _, _, z⟩
        · rw [← z]; exact e
        · rw [z] at e; cases e
      | ex v Φ =>
        have e' := kp i v Φ e
        have hi' : i < Γ'.length := (List.getElem?_eq_some_iff.mp e').1
        have q := hs i _ (by rw [List.getElem?_append_left hi']; exact e')
        obtain ⟨Φ0, e0⟩ : ∃ Φ0, Γ[i]? = some (.ex v Φ0) := by
          rcases se.at_ i with z | ⟨v', Φ0, Φ1, z1, z2⟩
          · exact ⟨Φ, by rw [← z]; exact e⟩
          · rw [e] at z2; cases z2; exact ⟨Φ0, z1⟩
        obtain ⟨ev, _, _⟩ := hs0 i _ e0
        have eS : (fun a => (i < Γ2.length ∧ (∃ v Φ, Γ2[i]? = some (.ex v Φ)) ∧ S i a) ∨ (i = Γ2.length ∧ S Γ'.length a)) = S i := by
          funext a
          apply propext
          constructor
          · rintro (⟨_, _, z⟩ | ⟨z, _⟩)
            · exact z
            · omega
          · intro z; exact .inl ⟨hlt, ⟨v, Φ, e⟩, z⟩
        show SlOk X F' H' _ (fun a => (i < Γ2.length ∧ (∃ v Φ, Γ2[i]? = some (.ex v Φ)) ∧ S i a) ∨ (i = Γ2.length ∧ S Γ'.length a)) _
        rw [eS]
        exact ⟨ev, q.2.1, q.2.2⟩
    · have hie : i = Γ2.length := by omega
      subst hie
      simp at e
      subst e
      have eS : (fun a => (Γ2.length < Γ2.length ∧ (∃ v Φ, Γ2[Γ2.length]? = some (.ex v Φ)) ∧ S Γ2.length a) ∨ (Γ2.length = Γ2.length ∧ S Γ'.length a)) = S Γ'.length := by
        funext a
        apply propext
        constructor
        · rintro (⟨z, _⟩ | ⟨_, z⟩)
          · omega
          · exact z
        · intro z; exact .inr ⟨rfl, z⟩
      show SlOk X F' H' _ (fun a => (Γ2.length < Γ2.length ∧ (∃ v Φ, Γ2[Γ2.length]? = some (.ex v Φ)) ∧ S Γ2.length a) ∨ (Γ2.length = Γ2.length ∧ S Γ'.length a)) _
      rw [eS, show Γ2.length = (vs.map some).length from by rw [se.len, ← E0.len], getD_last]
      have q := hs Γ'.length s (by simp)
      rw [← hl, getD_last, hl] at q
      exact q
  · have le : ∀ {i : Nat}, (∃ v Φ, Γ2[i]? = some (Sl.ex v Φ)) → i < Γ'.length := fun {i} ⟨v, Φ, z⟩ => (List.getElem?_eq_some_iff.mp (kp i v Φ z)).1
    rcases h1 with ⟨a1, b1, c1⟩ | ⟨a1, c1⟩ <;> rcases h2 with ⟨a2, b2, c2⟩ | ⟨a2, c2⟩
    · exact hdj i j a c1 c2
    · have := hdj _ _ a c1 c2
      have := le b1
      omega
    · have := hdj _ _ a c1 c2
      have := le b2
      omega
    · omega
  · rcases h1 with ⟨a1, b1, c1⟩ | ⟨a1, c1⟩
    · exact ho i a c1
    · exact ho _ a c1
/-- what is wanted of such a def's body -/
def retD (Γ : List Sl) (Qr : List Sl → Sl → Prop) : Po := { nx := fun Γ' => ∃ Γ2, SameEx Γ Γ2 ∧ Keep Γ2 Γ' ∧ Qr Γ2 (.dat true .none), rt := fun s Γ' => ∃ Γ2, SameEx Γ Γ2 ∧ Keep Γ2 Γ' ∧ Qr Γ2 s }
section
variable {P : Program} {K : Kw} {mg : Str → Option Value} {base : Heap}
theorem body_gD {N : List Str} {T : List Sl → (List Sl → Sl → Prop) → Prop} {vs : List V} {H : Hp} {Q : VK} {E : XK} {t : TS} (h : spD K T vs H Q E) (hn : ∀ Γ Qr, T Γ Qr → NoMl Γ) (hj : ∀ Γ Qr, T Γ Qr → SJ K (Γ ++ List.replicate (N.length - Γ.length) .no) t (retD Γ Qr)) : t { nx := fun _ H' => Q .non H', rt := Q } (L2.start N vs) H := by
  obtain ⟨X, F, Γ, Qr, hK, hF, hH, hNN, E0, hT, k⟩ := h
  have hl : vs.length = Γ.length := by simpa using E0.len
  have Ep := E0.pad (N.length - Γ.length)
  have es : L2.start N vs = vs.map some ++ List.replicate (N.length - Γ.length) none := by rw [L2.start, hl]
  rw [es]
  refine hj Γ Qr hT X hK F H _ Ep _ ⟨fun F' H' σ' Γ' E' ⟨Γ2, se, kp, q⟩ => ?_, fun F' H' σ' Γ' v s E' ⟨Γ2, se, kp, q⟩ => ?_, fun _ _ _ _ _ z => z, fun _ _ _ _ _ z => z, fun _ _ _ _ _ _ _ _ _ z => z⟩
  · exact k F' H' .non (.dat true .none) Γ2 (by rw [← hF]; exact E'.f0) se (E0.backD hF (hn Γ Qr hT) se kp (E'.pushD .non)) q
  · exact k F' H' v s Γ2 (by rw [← hF]; exact E'.drop.f0) se (E0.backD hF (hn Γ Qr hT) se kp E') q
theorem len_gD {T : List Sl → (List Sl → Sl → Prop) → Prop} {n : Nat} (hl : ∀ Γ Qr, T Γ Qr → Γ.length = n) : ∀ vs H Q E, spD K T vs H Q E → vs.length = n := fun vs H Q E h => by
  obtain ⟨X, F, Γ, Qr, hK, hF, hH, hNN, E0, hT, k⟩ := h
  have := E0.len
  rw [List.length_map] at this
  rw [this]
  exact hl Γ Qr hT
/-- THE RULE for such a def -/
theorem cal_gD {x : Str} {st : Stmt} {N ps : List Str} {k : Nat} {T : List Sl → (List Sl → Sl → Prop) → Prop} (D : Def K mg x st ps) (S : FnScope N ps (defScope st)) (hT : ∀ Γ Qr, T Γ Qr → Γ.length = ps.length ∧ NoMl Γ)
    (hb : ∀ (f : Addr) (cdv : Value) (A : Around) (outer : List Env) (s : Shared) (H : Hp) (E : XK), Room k (A.deeper (envOfC x (defScope st) s.heap.objs.size f cdv)) →
      ∃ t, PSs (cxOf CX0 P K.w K mg base N x (defScope st) f cdv A outer s H E).nox (defBody st) t ∧ ∀ Γ Qr, T Γ Qr → SJ K (Γ ++ List.replicate (N.length - Γ.length) .no) t (retD Γ Qr)) : Cal P K.w K mg base CX0 (k + 1) x ps (spD K T) := by
  obtain ⟨f, fd, a, F, b⟩ := D.ex
  refine ⟨f, fd, a, F.kp, b, F.ok S (len_gD fun Γ Qr h => (hT Γ Qr h).1) fun cdv A outer s H vs Q E hr h => ?_⟩
  obtain ⟨t, ht, hj⟩ := hb f cdv A outer s H E hr
  exact ⟨t, ht, body_gD h (fun Γ Qr z => (hT Γ Qr z).2) hj⟩
end
end Pk
end
section
set_option Elab.async false
set_option linter.all false
set_option maxRecDepth 100000
set_option pp.maxSteps 1000
namespace Pk
open PySem PySem.Spec PyProof.Rows L2
section
variable {K : Kw} {m : Bool} {Γ : List Sl} {t ta tb tc te : TE} {Q : PyData → List Sl → Prop} {QX : List Sl → Sl → Prop} {P : Po}
theorem wdg_of (h : WD K m Γ t fun d => Q d Γ) : WDg K m Γ t Q := fun X hK F H σ E C k => h X hK F H σ E C fun v F' H' d l E' r q => k v F' H' d Γ l E' r q
theorem wdg_lf (h : WDg K false Γ t fun d Γ' => lf d = true ∧ Q d Γ') : WDg K m Γ t Q := fun X hK F H σ E C k =>
  h X hK F H σ E C fun v F' H' d Γ' l E' r ⟨z, q⟩ => k v F' H' d Γ' l E' (Rp.lfree Bs.ff_tup d z r) q
theorem wdg_ofX (h : WXg K Γ t fun Γ' s => ∃ d, s.toD m = some d ∧ Q d Γ') : WDg K m Γ t Q := fun X hK F H σ E C k =>
  h X hK F H σ E C fun v F' H' Γ' s lf E' ⟨d, hs, q⟩ => by
    obtain ⟨F2, l2, E2, r⟩ := lastFreeze hs E'
    subst hK
    exact k v F2 H' d Γ' (lf.tr l2) E2 r q
theorem wdg_op {r : R2} (h : WDg K m Γ ta fun x Γ1 => WDg K m Γ1 tb fun y Γ2 => RD K m Γ2 r x y fun z => Q z Γ2) : WDg K m Γ (tOp r ta tb) Q := fun X hK F H σ E C k =>
  h X hK F H σ E _ fun v F1 H1 x Γ1 l1 E1 r1 h1 => h1 X hK F1 H1 σ E1 _ fun u F2 H2 y Γ2 l2 E2 r2 h2 =>
    h2 X hK F2 H2 σ E2 v u (Bs.mo r1 l2) r2 C fun z F3 H3 d l3 E3 r3 q => k z F3 H3 d Γ2 (l1.tr (l2.tr l3)) E3 r3 q
/-- arguments that are data -/
def WAg (K : Kw) (m : Bool) (Γ : List Sl) (t : TA) (Q : List PyData → List Sl → Prop) : Prop := ∀ X : Bs, X.K = K → ∀ F H σ, En X F H σ Γ → ∀ C : List V → Hp → Prop,
  (∀ vs F' H' ds Γ', Le F F' → En X F' H' σ Γ' → RpA K (X.ff F' m) vs ds → Q ds Γ' → C vs H') → t σ H C
variable {tr : TA} {QA : List PyData → List Sl → Prop}
theorem wag_nil (q : QA [] Γ) : WAg K m Γ tNil QA := fun X hK F H σ E C k => k [] F H [] Γ Le.rfl' E .nil q
theorem wag_cons (h : WDg K m Γ ta fun d Γ1 => WAg K m Γ1 tr fun ds Γ2 => QA (d :: ds) Γ2) : WAg K m Γ (tCons ta tr) QA := fun X hK F H σ E C k =>
  h X hK F H σ E _ fun v F1 H1 x Γ1 l1 E1 r1 h1 => h1 X hK F1 H1 σ E1 _ fun vs F2 H2 ds Γ2 l2 E2 r2 q => k (v :: vs) F2 H2 _ Γ2 (l1.tr l2) E2 (.cons (Bs.mo r1 l2) r2) q
theorem wag_d (h : WD K m Γ ta fun d => WAg K m Γ tr fun ds Γ2 => QA (d :: ds) Γ2) : WAg K m Γ (tCons ta tr) QA := wag_cons (wdg_of h)
theorem wdg_tup (h : WAg K m Γ tr fun ds Γ' => ds.length ≤ 100000 ∧ Q (.tuple ds) Γ') : WDg K m Γ (tTup tr) Q := fun X hK F H σ E C k =>
  h X hK F H σ E _ fun vs F1 H1 ds Γ1 l1 E1 rv ⟨hz, q⟩ => by
    refine ⟨Nat.le_trans (by rw [rv.length]; exact hz) (by decide), fun p hp => ?_⟩
    obtain ⟨a, b, c⟩ := E1.newT hK hp rv
    exact k (.ref p) _ _ _ Γ1 (l1.tr a) b c q
theorem wxg_lst (m : Bool) (h : WAg K m Γ tr fun ds Γ' => ds.length ≤ 100000 ∧ ∀ l, QX Γ' (.ml m l ds)) : WXg K Γ (tLst tr) QX := fun X hK F H σ E C k =>
  h X hK F H σ E _ fun vs F1 H1 ds Γ1 l1 E1 rv ⟨hz, q⟩ => by
    refine ⟨Nat.le_trans (by rw [rv.length]; exact hz) (by decide), fun p hp => ?_⟩
    exact k (.ref p) _ _ _ _ l1 (E1.pushM hp (by rw [hK]; exact rv)) (q p)
theorem wdg_lst (h : WAg K m Γ tr fun ds Γ' => ds.length ≤ 100000 ∧ Q (.list ds) Γ') : WDg K m Γ (tLst tr) Q := wdg_ofX (wxg_lst m fun X hK F H σ E C k => h X hK F H σ E C fun vs F' H' ds Γ' l E' r ⟨hz, q⟩ => k vs F' H' ds Γ' l E' r ⟨hz, fun _ => ⟨_, toD_ml, q⟩⟩)
theorem wdg_join {sep : Str} (h : WDg K false Γ ta fun d Γ' => ∃ ys : List Str, d = .list (ys.map PyData.str) ∧ (ys.map (·.length)).sum + ys.length * sep.length ≤ 16777216 ∧ Q (.str (Txt.join sep ys)) Γ') : WDg K m Γ (tBM K "str" (rJoin K) (tC (.str sep)) (tCons ta tNil)) Q := fun X hK F H σ E C k => by
  subst hK
  refine ⟨rfl, h X rfl F H σ E _ fun v F1 H1 d Γ1 l1 E1 r ⟨ys, e, hz, q⟩ => ?_⟩
  subst e
  cases r with
  | lst ha ra => exact ⟨sep, _, ys, rfl, rfl, .inl (by rw [← strs_of ra]; exact SqL.of (E1.le _ _ ha)), hz, k _ F1 H1 _ Γ1 l1 E1 (.str _) q⟩
variable {T : List Sl → (List Sl → Sl → Prop) → Prop} {EE : XK}
theorem allD_map : ∀ ds : List PyData, allD (ds.map Ag.d) = some ds
  | [] => rfl
  | d :: ds => by
    show (allD (ds.map Ag.d)).map (d :: ·) = _
    rw [allD_map ds]; rfl
theorem agsOk_d {X : Bs} {F : Hp} {σ : L2.St} : ∀ {vs : List V} {ds : List PyData}, RpA X.K (X.ff F m) vs ds → AgsOk X m F σ vs (ds.map Ag.d)
  | [], [], _ => .nil
  | _ :: _, [], h => by cases h
  | [], _ :: _, h => by cases h
  | v :: vs, d :: ds, h => by
    cases h with
    | cons a b => exact .cons (a := .d d) a (agsOk_d b)
theorem ags_cons {ds : List PyData} {i : Nat} {k j : Nat} (h : (Ag.o i :: ds.map Ag.d)[k]? = some (.o j)) : k = 0 ∧ j = i := by
  cases k with
  | zero => simp at h; exact ⟨rfl, h.symm⟩
  | succ k =>
    rw [List.getElem?_cons_succ, List.getElem?_map] at h
    cases hq : ds[k]? with
    | none => rw [hq] at h; cases h
    | some d => rw [hq] at h; cases h
theorem wxg_callD {i : Nat} {v : V} {Φ : Own} (hi : Γ[i]? = some (.ex v Φ)) (h : WAg K false Γ tr fun ds Γ' => ∃ Φ1, Γ'[i]? = some (.ex v Φ1) ∧ T (.ex v Φ1 :: ds.map (Sl.dat false)) fun Γa s => ∃ Φ2, Γa = .ex v Φ2 :: ds.map (Sl.dat false) ∧ QX (Γ'.set i (.ex v Φ2)) s) : WXg K Γ (tCall (spD K T) [] EE (tCons (tVar i) tr)) QX := fun X hK F H σ E C k =>
  ⟨v, E.ex hi, h X hK F H σ E _ fun vs F1 H1 ds Γ1 l1 E1 r1 ⟨Φ1, hi1, hT⟩ => by
    show spD K T (v :: vs ++ []) H1 C EE
    rw [List.append_nil]
    subst hK
    have ra : AgsOk X false F1 σ (v :: vs) (Ag.o i :: ds.map Ag.d) := .cons (a := .o i) (E1.ex hi1) (agsOk_d r1)
    have hg : AgsGood Γ1 (Ag.o i :: ds.map Ag.d) := agsGood_1 hi1 (allD_map ds)
    obtain ⟨X1, a, b, c, d, e, f⟩ := call_spD rfl E1 ra hg
    have em : (Ag.o i :: ds.map Ag.d).map (Ag.sl Γ1) = .ex v Φ1 :: ds.map (Sl.dat false) := by
      rw [List.map_cons, List.map_map]
      congr 1
      simp [Ag.sl, List.getD_eq_getElem?_getD, hi1]
    rw [em] at e
    refine ⟨X1, F1, _, _, a, b, c, d, e, hT, fun F' H' z s Γ2 lf se E' ⟨Φ2, e2, q⟩ => ?_⟩
    subst e2
    have hil : i < Γ1.length := (List.getElem?_eq_some_iff.mp hi1).1
    refine k z F' H' _ s (l1.tr lf) (f F' H' z s _ (Γ1.set i (.ex v Φ2)) lf (by simp) (by simp) (fun j hj => ?_) (fun k' j hk => ?_) E') q
    · rw [List.getElem?_set_ne]
      intro z2
      subst z2
      exact hj 0 rfl
    · obtain ⟨rfl, rfl⟩ := ags_cons hk
      exact ⟨v, Φ1, Φ2, hi1, rfl, List.getElem?_set_self hil⟩⟩
theorem wdg_callD {i : Nat} {v : V} {Φ : Own} (hi : Γ[i]? = some (.ex v Φ)) (h : WAg K false Γ tr fun ds Γ' => ∃ Φ1, Γ'[i]? = some (.ex v Φ1) ∧ T (.ex v Φ1 :: ds.map (Sl.dat false)) fun Γa s => ∃ Φ2, Γa = .ex v Φ2 :: ds.map (Sl.dat false) ∧ ∃ d, s.toD m = some d ∧ Q d (Γ'.set i (.ex v Φ2))) : WDg K m Γ (tCall (spD K T) [] EE (tCons (tVar i) tr)) Q := wdg_ofX (wxg_callD hi (fun X hK F H σ E C k => h X hK F H σ E C fun vs F' H' ds Γ' l E' r q => k vs F' H' ds Γ' l E' r q))
def WTg (K : Kw) (Γ : List Sl) (t : TT) (Q : Bool → List Sl → Prop) : Prop := ∀ X : Bs, X.K = K → ∀ F H σ, En X F H σ Γ → ∀ C : Bool → Hp → Prop,
  (∀ b F' H' Γ', Le F F' → En X F' H' σ Γ' → Q b Γ' → C b H') → t σ H C
variable {tt tu : TT} {QT : Bool → List Sl → Prop}
theorem wtg_of (h : WT K Γ tt fun b => QT b Γ) : WTg K Γ tt QT := fun X hK F H σ E C k => h X hK F H σ E C fun b F' H' l E' q => k b F' H' Γ l E' q
theorem wtg_test (h : WDg K false Γ t fun d Γ' => ∃ b, d = .bool b ∧ QT b Γ') : WTg K Γ (tTest t) QT := fun X hK F H σ E C k =>
  h X hK F H σ E _ fun v F1 H1 x Γ1 l1 E1 r1 ⟨b, e, q⟩ => by
    subst e
    cases r1
    exact ⟨b, rfl, k b F1 H1 Γ1 l1 E1 q⟩
theorem wtg_or (h : WTg K Γ tt fun b Γ1 => if b = true then QT true Γ1 else WTg K Γ1 tu QT) : WTg K Γ (tOr tt tu) QT := fun X hK F H σ E C k =>
  h X hK F H σ E _ fun b F1 H1 Γ1 l1 E1 q => by
    cases b with
    | false => exact q X hK F1 H1 σ E1 C fun b F2 H2 Γ2 l2 E2 q2 => k b F2 H2 Γ2 (l1.tr l2) E2 q2
    | true => exact k true F1 H1 Γ1 l1 E1 q
theorem sj_ifG {c : TT} {t u : TS} (h : WTg K Γ c fun b Γ' => if b = true then SJ K Γ' t P else SJ K Γ' u P) : SJ K Γ (tIfS c t u) P := fun X hK F H σ E D hD =>
  h X hK F H σ E _ fun b F1 H1 Γ1 l1 E1 q => by
    cases b with
    | true => exact q X hK F1 H1 σ E1 D hD
    | false => exact q X hK F1 H1 σ E1 D hD
theorem sj_setGD {i : Nat} (m : Bool) (h : WDg K m Γ t fun d Γ' => P.nx (Γ'.set i (.dat m d))) : SJ K Γ (tAsg t (gName i)) P := fun X hK F H σ E D hD =>
  h X hK F H σ E _ fun v F1 H1 d Γ1 l1 E1 r q => by subst hK; exact hD.nx F1 H1 _ _ ((E1.pushD r).put i) q
theorem sj_asgG {g : TG} (m : Bool) (h : WDg K m Γ t fun d Γ' => GJ K m Γ' g d P.nx) : SJ K Γ (tAsg t g) P := fun X hK F H σ E D hD =>
  h X hK F H σ E _ fun v F1 H1 d Γ1 l1 E1 r q => q X hK F1 H1 σ E1 v r _ fun F2 H2 σ2 Γ2 l2 E2 q2 => hD.nx F2 H2 σ2 Γ2 E2 q2
theorem sj_retGD (m : Bool) (h : WDg K m Γ t fun d Γ' => P.rt (.dat m d) Γ') : SJ K Γ (tRet t) P := fun X hK F H σ E D hD =>
  h X hK F H σ E _ fun v F1 H1 d Γ1 l1 E1 r q => by subst hK; exact hD.rt F1 H1 σ Γ1 v _ (E1.pushD r) q
def WIg (K : Kw) (m : Bool) (Γ : List Sl) (wi : TI) (Q : List PyData → List Sl → Prop) : Prop := ∀ X : Bs, X.K = K → ∀ F H σ, En X F H σ Γ → ∀ C : It → Hp → Prop,
  (∀ J F' H' G Y ds Γ', Le F F' → En X F' H' σ Γ' → Walk J ds.length G Y → (∀ H2, Le F' H2 → G H2) → (∀ i F2 H2 x H3, Le F' F2 → Le F2 H2 → i < ds.length → Y i H2 x H3 → ∃ d F3, ds[i]? = some d ∧ Gr F2 H2 F3 H3 ∧ Rp K (X.ff F3 m) x d) → Q ds Γ' → C J H') → wi σ H C
variable {wi : TI} {QI : List PyData → List Sl → Prop} {g : TG} {tbs : TS}
theorem wig_rng (h : WDg K false Γ t fun d Γ1 => ∃ j : Int, d = .int j ∧ (-(2 ^ 62) ≤ j ∧ j < 2 ^ 62) ∧ QI (rangeD 0 j.toNat) Γ1) : WIg K m Γ (iRng1 (tCons t tNil)) QI := fun X hK F H σ E C k =>
  h X hK F H σ E _ fun v F1 H1 d Γ1 l1 E1 r ⟨j, e, hj, q⟩ => by
    subst e
    cases r
    exact ⟨j, rfl, hj.1, hj.2, k (Itr 0 j.toNat) F1 H1 (fun _ => True) _ (rangeD 0 j.toNat) Γ1 l1 E1 (by rw [rangeD_len]; exact walk_range) (fun _ _ => trivial) walkR q⟩
/-- a comprehension in which own things come to be told otherwise -/
theorem wxg_lcG {mi : Bool} (m : Bool) {vs : List Nat} (hgw : Gw g vs)
    (h : WIg K mi Γ wi fun ds Γ1 => ∃ I : Nat → List PyData → List Sl → Prop, ds.length ≤ 100000 ∧ (∀ n acc Γ', I n acc Γ' → Γ'.length = Γ1.length ∧ ∀ i ∈ vs, Γ'[i]? = some .no) ∧ I 0 [] Γ1 ∧ (∀ i d acc Γ', ds[i]? = some d → acc.length ≤ i → I i acc Γ' → GJ K mi Γ' g d fun Γ2 => WDg K m Γ2 te fun y Γ3 => I (i + 1) (acc ++ [y]) (wipeG Γ3 vs)) ∧
      ∀ acc Γ', acc.length ≤ ds.length → I ds.length acc Γ' → ∀ la, QX Γ' (.ml m la acc)) : WXg K Γ (tLc wi g tYes te vs) QX := fun X hK F H σ E C k => by
  refine h X hK F H σ E _ fun J F1 H1 G Y ds Γ1 lf E1 wk hG hY ⟨I, hz, hI, h0, hs, he⟩ Da hD => ?_
  obtain ⟨X1, k1, n1, f1, _, Er, back⟩ := E1.rebase
  have ffe : ∀ F, X1.ff F m = X.ff F m := fun F => by cases m <;> simp [Bs.ff, n1]
  have hK1 : X1.K = K := k1.trans hK
  have lef : ∀ {F' H' σ' Γ'}, En X1 F' H' σ' Γ' → Le F1 F' := fun E' => by rw [← f1]; exact E'.f0
  have hlen0 : σ.length = Γ1.length := E1.len
  have hv1 := (hI 0 [] Γ1 h0).2
  refine lc_it wk (fun i H' => ∃ F' acc Γ', En X1 F' H' (L2.wipe σ vs ++ [some (.ref Da)]) (Γ' ++ [.ml m Da acc]) ∧ acc.length ≤ i ∧ I i acc Γ') ⟨F1, [], Γ1, ?_, Nat.le_refl _, h0⟩ (fun i H' _ ⟨F', acc, Γ', E', _⟩ => hG H' ((lef E').tr E'.le)) (fun i x H' H3 hi ⟨F', acc, Γ', E', hacc, hIi⟩ hy => ?_) (fun H' ⟨F', acc, Γ', E', hacc, hIi⟩ => ?_)
  · have := (Er.wipe vs).pushM (m := m) hD .nil
    rw [wipeG_no hv1] at this
    exact this
  · obtain ⟨d, F3, hd, gr, r⟩ := hY i F' H' x H3 (lef E') E'.le hi hy
    have E3 := E'.gr gr
    obtain ⟨X2, k2, n2, Ef, fb⟩ := E3.frame
    have ff2 : ∀ F m, X2.ff F m = X.ff F m := fun F m => by cases m <;> simp [Bs.ff, n2, n1]
    have hK2 : X2.K = K := k2.trans hK1
    refine hgw x _ H3 (fun σ2 H2 => L2.wipe σ2 vs = L2.wipe σ vs → _) _ σ wipe_wipe (fun σ2 H2 e2 q => ⟨e2, q e2⟩) ?_
    refine hs i d acc Γ' hd hacc hIi X2 hK2 F3 H3 _ Ef x (by rw [ff2]; exact r) _ fun F4 H4 σ4 Γ4 l4 E4 wt eσ => ?_
    show (tYes : TT) σ4 H4 _
    refine (show WT K Γ4 tYes fun b => b = true from wt_yes rfl) X2 hK2 F4 H4 σ4 E4 _ fun b F5 H5 l5 E5 q5 => ?_
    subst q5
    rw [if_pos rfl]
    refine wt X2 hK2 F5 H5 σ4 E5 _ fun y F6 H6 dy Γ6 l6 E6 ry q6 => ?_
    have hl6 := (hI _ _ _ q6).1
    have hlen : (wipeG Γ6 vs).length = Γ'.length := by rw [hl6, (hI _ _ _ hIi).1]
    have E7 : En X1 F6 H6 (L2.wipe σ vs ++ [some (.ref Da)]) (wipeG Γ6 vs ++ [.ml m Da acc]) := by
      have := fb F6 H6 _ _ hlen (l4.tr (l5.tr l6)) (E6.wipe vs)
      rw [eσ] at this
      exact this
    obtain ⟨xs, _, hl, _, rx⟩ := E7.ml (i := (wipeG Γ6 vs).length) (m := m) (l := Da) (ds := acc) (by simp)
    have e8 := E7.mut (i := (wipeG Γ6 vs).length) (m := m) (l := Da) (ds := acc) (es := acc ++ [dy]) (ys := xs ++ [y]) (by simp) (rx.append (RpA.one (by rw [hK1, ffe, ← ff2]; exact ry)))
    have es : (wipeG Γ6 vs ++ [Sl.ml m Da acc]).set (wipeG Γ6 vs).length (.ml m Da (acc ++ [dy])) = wipeG Γ6 vs ++ [.ml m Da (acc ++ [dy])] := by simp
    rw [es] at e8
    exact ⟨xs, hl, sz_lt (by rw [rx.length]; omega), F6, acc ++ [dy], _, e8, by simp; omega, q6⟩
  · have hE := back _ _ _ _ (En.unwipeN (by rw [(hI _ _ _ hIi).1]; exact hlen0) (hI _ _ _ hIi).2 E')
    exact k (.ref Da) F' H' _ _ (lf.tr (lef E')) hE (he acc Γ' hacc hIi Da)
end
end Pk
end
section
set_option Elab.async false
set_option linter.all false
set_option maxRecDepth 100000
namespace Pk
open PySem PySem.Spec PyProof.Rows L2
section
variable {K : Kw} {m : Bool} {Γ : List Sl} {Q : PyData → Prop} {te ti : TE}
end
end Pk
end
section
set_option Elab.async false
set_option linter.all false
set_option maxRecDepth 100000
namespace Pk
open PySem PySem.Spec PyProof.Rows L2
section
variable {K : Kw} {Γ : List Sl}
open Classical in
end
end Pk
end
section
set_option Elab.async false
set_option linter.all false
set_option maxRecDepth 100000
namespace Pk
open PySem PySem.Spec PyProof.Rows L2
/-- pairs that can be sorted by their first ones -/
structure PrD (ps : List (PyData × PyData)) : Prop where
  nd : ps.Nodup
  key : ∀ p ∈ ps, ∀ q ∈ ps, p = q ∨ (PySem.W.alike p.1 q.1 = true ∧ PyData.eqv p.1 q.1 = false)
  self : ∀ p ∈ ps, PySem.W.alike p.1 p.1 = true ∧ PySem.W.alike p.2 p.2 = true
  tup : ∀ p ∈ ps, ∃ xs, p.1 = .tuple xs
  dep : ∀ p ∈ ps, p.1.depth ≤ 50 ∧ p.2.depth ≤ 50
  lay : (PyData.list (ps.map fun p => .tuple [p.1, p.2])).canLay0 = true
  len : ps.length ≤ 100000
section
variable {K : Kw} {m : Bool} {Γ : List Sl} {Q : PyData → Prop} {QX : Sl → Prop} {ta : TE}
end
end Pk
end
section
set_option Elab.async false
set_option linter.all false
set_option maxRecDepth 100000
set_option pp.maxSteps 1000
namespace Pk
open PySem PySem.Spec PyProof.Rows L2

mutual
/-- the addresses that are told -/
def ad : PyData → List Addr
  | .tuple ds => adA ds
  | .list ds => adA ds
  | .dict [(.none, .bool false), (.int a, .list ds)] => a.toNat :: adA ds
  | .dict ((.none, .none) :: r) => adP r
  | .dict ((.none, .bool true) :: r) => adP r
  | _ => []
def adA : List PyData → List Addr
  | [] => []
  | d :: ds => ad d ++ adA ds
def adP : List (PyData × PyData) → List Addr
  | [] => []
  | (_, d) :: r => ad d ++ adP r
end
mutual
/-- the data without addresses -/
def pl : PyData → PyData
  | .tuple ds => .tuple (plA ds)
  | .list ds => .list (plA ds)
  | .dict [(.none, .bool false), (.int _, .list ds)] => .list (plA ds)
  | d => d
def plA : List PyData → List PyData
  | [] => []
  | d :: ds => pl d :: plA ds
end
mutual
/-- all lists are told with their addresses -/
def npl : PyData → Bool
  | .tuple ds => nplA ds
  | .list _ => false
  | .dict [(.none, .bool false), (.int _, .list ds)] => nplA ds
  | .dict _ => false
  | _ => true
def nplA : List PyData → Bool
  | [] => true
  | d :: ds => npl d && nplA ds
end
mutual
/-- the list at a changed -/
def mA (a : Addr) (f : List PyData → List PyData) : PyData → PyData
  | .tuple ds => .tuple (mAs a f ds)
  | .dict [(.none, .bool false), (.int b, .list ds)] => .dict [(.none, .bool false), (.int b, .list (if b = (a : Int) then f (mAs a f ds) else mAs a f ds))]
  | d => d
def mAs (a : Addr) (f : List PyData → List PyData) : List PyData → List PyData
  | [] => []
  | d :: ds => mA a f d :: mAs a f ds
end
/-- a list at a, of es, is in it -/
inductive Oc (a : Addr) (es : List PyData) : PyData → Prop
  | here : Oc a es (listAt a es)
  | tup {d : PyData} {ds : List PyData} : d ∈ ds → Oc a es d → Oc a es (.tuple ds)
  | lst {b : Addr} {d : PyData} {ds : List PyData} : d ∈ ds → Oc a es d → Oc a es (listAt b ds)
theorem ad_at {a : Addr} {ds : List PyData} : ad (listAt a ds) = a :: adA ds := by simp [ad]
theorem ad_tup {ds : List PyData} : ad (.tuple ds) = adA ds := by simp [ad]
theorem adA_nil : adA [] = [] := by simp [adA]
theorem adA_cons {d : PyData} {ds : List PyData} : adA (d :: ds) = ad d ++ adA ds := by simp [adA]
theorem adA_append : ∀ {xs ys : List PyData}, adA (xs ++ ys) = adA xs ++ adA ys
  | [], ys => by simp [adA]
  | x :: xs, ys => by rw [List.cons_append, adA_cons, adA_append, adA_cons, List.append_assoc]
theorem adP_map {α : Type} {f : α → PyData} {g : α → PyData} : ∀ {xs : List α}, adP (xs.map fun x => (f x, g x)) = adA (xs.map g)
  | [] => by simp [adP, adA]
  | x :: xs => by rw [List.map_cons, List.map_cons, adP, adA, adP_map]
theorem ad_dictN {ds : NDs} : ad (dictN ds) = adA (ds.map (·.2)) := by
  have : ad (dictN ds) = adP (ds.map fun x => (x.1.data, x.2)) := by simp [ad]
  rw [this, adP_map]
theorem ad_dictF {fs : FDs} : ad (dictF fs) = adA (fs.map (·.2)) := by
  have : ad (dictF fs) = adP (fs.map fun x => (kD x.1, x.2)) := by simp [ad]
  rw [this, adP_map]
theorem adA_flat {ds : List PyData} : adA ds = ds.flatMap ad := by
  induction ds with
  | nil => simp [adA]
  | cons d ds ih => rw [adA_cons, ih]; simp
theorem mem_adA {ds : List PyData} {d : PyData} {a : Addr} (h : d ∈ ds) (k : a ∈ ad d) : a ∈ adA ds := by
  rw [adA_flat]; exact List.mem_flatMap.mpr ⟨d, h, k⟩
theorem pl_at {a : Addr} {ds : List PyData} : pl (listAt a ds) = .list (plA ds) := by simp [pl]
theorem pl_tup {ds : List PyData} : pl (.tuple ds) = .tuple (plA ds) := by simp [pl]
theorem plA_map {ds : List PyData} : plA ds = ds.map pl := by
  induction ds with
  | nil => simp [plA]
  | cons d ds ih => rw [plA, ih]; rfl
theorem pl_dict {ds : List (PyData × PyData)} (h : isLid ds = false) : pl (.dict ds) = .dict ds := by
  unfold pl
  split <;> first | rfl | (rename_i e; cases e; done) | skip
  all_goals (rename_i e; injection e with e; subst e; cases h)
theorem ad_dct {kvs : List (Key × V)} {ds : List (PyData × PyData)} (t : flatDs ds = true → kvs.map kvD = ds) : ad (.dict ds) = [] := by
  cases hm : isMk ds with
  | true =>
    exfalso
    have e := t (by simp [flatDs, hm])
    rw [← e] at hm
    cases kvs with
    | nil => cases hm
    | cons p q =>
      obtain ⟨k, u⟩ := p
      cases k <;> cases hm
  | false =>
    unfold ad
    split <;> first | rfl | (rename_i e; cases e; done) | (rename_i e; injection e with e; subst e; cases hm; done) | (exfalso; simp_all; done)
theorem npl_tup {ds : List PyData} : npl (.tuple ds) = nplA ds := by simp [npl]
theorem npl_at {a : Addr} {ds : List PyData} : npl (listAt a ds) = nplA ds := by simp [npl]
theorem npl_dict {ds : List (PyData × PyData)} (h : isLid ds = false) : npl (.dict ds) = false := by
  unfold npl
  split <;> first | rfl | (rename_i e; cases e; done) | (rename_i e; injection e with e; subst e; cases h; done) | (exfalso; simp_all; done)
theorem nplA_all {ds : List PyData} : nplA ds = ds.all npl := by
  induction ds with
  | nil => simp [nplA]
  | cons d ds ih => rw [nplA, ih]; rfl
theorem mA_tup {a : Addr} {f : List PyData → List PyData} {ds : List PyData} : mA a f (.tuple ds) = .tuple (mAs a f ds) := by simp [mA]
theorem mA_at {a b : Addr} {f : List PyData → List PyData} {ds : List PyData} : mA a f (listAt b ds) = listAt b (if b = a then f (mAs a f ds) else mAs a f ds) := by
  unfold mA
  by_cases h : b = a
  · subst h; simp
  · have : ¬ ((b : Int) = (a : Int)) := fun z => h (by exact_mod_cast z)
    simp [h, this]
theorem mAs_map {a : Addr} {f : List PyData → List PyData} {ds : List PyData} : mAs a f ds = ds.map (mA a f) := by
  induction ds with
  | nil => simp [mAs]
  | cons d ds ih => rw [mAs, ih]; rfl
mutual
theorem pl_lf : ∀ d : PyData, lf d = true → pl d = d
  | .none, _ => by simp [pl]
  | .bool _, _ => by simp [pl]
  | .int _, _ => by simp [pl]
  | .str _, _ => by simp [pl]
  | .list _, h => by simp [lf] at h
  | .dict _, h => by simp [lf] at h
  | .tuple ds, h => by rw [pl_tup, plA_lf ds (by simpa [lf] using h)]
theorem plA_lf : ∀ ds : List PyData, lfA ds = true → plA ds = ds
  | [], _ => by simp [plA]
  | d :: ds, h => by
    have h' : lf d = true ∧ lfA ds = true := by simpa [lfA] using h
    rw [plA, pl_lf d h'.1, plA_lf ds h'.2]
end
mutual
theorem ad_lf : ∀ d : PyData, lf d = true → ad d = []
  | .none, _ => by simp [ad]
  | .bool _, _ => by simp [ad]
  | .int _, _ => by simp [ad]
  | .str _, _ => by simp [ad]
  | .list _, h => by simp [lf] at h
  | .dict _, h => by simp [lf] at h
  | .tuple ds, h => by rw [ad_tup, adA_lf ds (by simpa [lf] using h)]
theorem adA_lf : ∀ ds : List PyData, lfA ds = true → adA ds = []
  | [], _ => by simp [adA]
  | d :: ds, h => by
    have h' : lf d = true ∧ lfA ds = true := by simpa [lfA] using h
    rw [adA, ad_lf d h'.1, adA_lf ds h'.2]; rfl
end
mutual
theorem npl_lf : ∀ d : PyData, lf d = true → npl d = true
  | .none, _ => by simp [npl]
  | .bool _, _ => by simp [npl]
  | .int _, _ => by simp [npl]
  | .str _, _ => by simp [npl]
  | .list _, h => by simp [lf] at h
  | .dict _, h => by simp [lf] at h
  | .tuple ds, h => by rw [npl_tup, nplA_lf ds (by simpa [lf] using h)]
theorem nplA_lf : ∀ ds : List PyData, lfA ds = true → nplA ds = true
  | [], _ => by simp [nplA]
  | d :: ds, h => by
    have h' : lf d = true ∧ lfA ds = true := by simpa [lfA] using h
    simp only [nplA, Bool.and_eq_true]
    exact ⟨npl_lf d h'.1, nplA_lf ds h'.2⟩
end
mutual
theorem mA_lf {a : Addr} {f : List PyData → List PyData} : ∀ d : PyData, lf d = true → mA a f d = d
  | .none, _ => by simp [mA]
  | .bool _, _ => by simp [mA]
  | .int _, _ => by simp [mA]
  | .str _, _ => by simp [mA]
  | .list _, h => by simp [lf] at h
  | .dict _, h => by simp [lf] at h
  | .tuple ds, h => by rw [mA_tup, mAs_lf ds (by simpa [lf] using h)]
theorem mAs_lf {a : Addr} {f : List PyData → List PyData} : ∀ ds : List PyData, lfA ds = true → mAs a f ds = ds
  | [], _ => by simp [mAs]
  | d :: ds, h => by
    have h' : lf d = true ∧ lfA ds = true := by simpa [lfA] using h
    rw [mAs, mA_lf d h'.1, mAs_lf ds h'.2]
end
theorem lfA_of {ds : List PyData} (h : ∀ d ∈ ds, lf d = true) : lfA ds = true := by
  induction ds with
  | nil => simp [lfA]
  | cons d ds ih =>
    simp only [lfA, Bool.and_eq_true]
    exact ⟨h d List.mem_cons_self, ih fun x hx => h x (List.mem_cons_of_mem _ hx)⟩
theorem Oc.ad {a : Addr} {es : List PyData} {d : PyData} (h : Oc a es d) : a ∈ ad d := by
  induction h with
  | here => rw [ad_at]; exact List.mem_cons_self
  | tup m _ ih => rw [ad_tup]; exact mem_adA m ih
  | lst m _ ih => rw [ad_at]; exact List.mem_cons_of_mem _ (mem_adA m ih)
section
variable {K : Kw} {F G H : Hp}
/-- what is read may be read without addresses -/
theorem Rp.pl {v : V} {d : PyData} (h : Rp K F v d) : Rp K F v (pl d) :=
  Rp.rec (motive_1 := fun v d _ => Rp K F v (Pk.pl d)) (motive_2 := fun vs ds _ => RpA K F vs (plA ds)) (motive_3 := fun _ _ _ => True)
    (by simp only [Pk.pl]; exact .non) (fun b => by simp only [Pk.pl]; exact .bl b) (fun i => by simp only [Pk.pl]; exact .int i) (fun x => by simp only [Pk.pl]; exact .str x)
    (fun h _ ih => by simp only [Pk.pl]; exact .lst h ih) (fun h _ ih => by simp only [Pk.pl]; exact .tup h ih)
    (fun h t => by rw [pl_dict (isLid_no t)]; exact .dct h t)
    (fun h r _ => by rw [pl_dict (by rfl)]; exact .dcn h r)
    (fun h k r _ => by rw [pl_dict (by rfl)]; exact .dcf h k r)
    (fun h _ ih => by rw [pl_at]; exact .lst h ih)
    (by simp only [plA]; exact .nil) (fun _ _ a b => by simp only [plA]; exact .cons a b) trivial (fun _ _ _ _ _ _ => trivial) h
/-- the lists that are told stand there -/
theorem Rp.ad {v : V} {d : PyData} (h : Rp K F v d) : ∀ a ∈ ad d, ∃ xs, F a = some (.lst xs) :=
  Rp.rec (motive_1 := fun v d _ => ∀ a ∈ Pk.ad d, ∃ xs, F a = some (.lst xs)) (motive_2 := fun vs ds _ => ∀ a ∈ adA ds, ∃ xs, F a = some (.lst xs)) (motive_3 := fun _ ds _ => ∀ a ∈ adA (ds.map (·.2)), ∃ xs, F a = some (.lst xs))
    (by simp [Pk.ad]) (fun b => by simp [Pk.ad]) (fun i => by simp [Pk.ad]) (fun x => by simp [Pk.ad])
    (fun h _ ih => by simp only [Pk.ad]; exact ih) (fun h _ ih => by simp only [Pk.ad]; exact ih)
    (fun h t => by rw [ad_dct t]; simp)
    (fun h r ih => by rw [ad_dictN]; exact ih)
    (fun h k r ih => by rw [ad_dictF]; exact ih)
    (fun {a xs ds} h _ ih => by
      intro b hb
      rw [ad_at] at hb
      rcases List.mem_cons.mp hb with z | z
      · subst z; exact ⟨xs, h⟩
      · exact ih b z)
    (by simp [adA]) (fun _ _ a b => by
      intro c hc
      rw [adA_cons] at hc
      rcases List.mem_append.mp hc with z | z
      · exact a c z
      · exact b c z) (by simp [adA]) (fun _ _ _ _ b d => by
      intro c hc
      rw [List.map_cons, adA_cons] at hc
      rcases List.mem_append.mp hc with z | z
      · exact b c z
      · exact d c z) h
theorem RpA.ad : ∀ {vs : List V} {ds : List PyData}, RpA K F vs ds → ∀ a ∈ adA ds, ∃ xs, F a = some (.lst xs)
  | [], [], _ => by simp [adA]
  | _ :: _, [], h => by cases h
  | [], _ :: _, h => by cases h
  | _ :: vs, d :: ds, h => by
    cases h with
    | cons a b =>
      intro c hc
      rw [adA_cons] at hc
      rcases List.mem_append.mp hc with z | z
      · exact Rp.ad a c z
      · exact RpA.ad b c z
theorem Rp.at_inv {v : V} {a : Addr} {ds : List PyData} (h : Rp K F v (listAt a ds)) : ∃ xs, v = .ref a ∧ F a = some (.lst xs) ∧ RpA K F xs ds := by
  rcases h.dict_inv with ⟨b, kvs, rfl, ha, t⟩ | ⟨b, ep, es, ds', rfl, ez, ha, r⟩ | ⟨_, _, _, _, _, ez, _⟩ | ⟨b, xs, es, rfl, ez, ha, r⟩
  · have e := isLid_no t
    cases e
  · simp at ez
  · simp at ez
  · simp only [List.cons.injEq, Prod.mk.injEq, PyData.int.injEq, PyData.list.injEq, true_and, and_true] at ez
    obtain ⟨e1, e2⟩ := ez
    have : a = b := by exact_mod_cast e1
    subst this e2
    exact ⟨xs, rfl, ha, r⟩
theorem RpA.mem {vs : List V} {ds : List PyData} {d : PyData} (h : RpA K F vs ds) (m : d ∈ ds) : ∃ v ∈ vs, Rp K F v d := by
  obtain ⟨i, hi⟩ := List.getElem?_of_mem m
  obtain ⟨v, hv, r⟩ := h.get hi
  exact ⟨v, List.mem_of_getElem? hv, r⟩
theorem Rp.oc {a : Addr} {es : List PyData} {d : PyData} (o : Oc a es d) : ∀ {v : V}, Rp K F v d → ∃ xs, F a = some (.lst xs) ∧ RpA K F xs es := by
  induction o with
  | here => intro v h; obtain ⟨xs, _, h1, h2⟩ := h.at_inv; exact ⟨xs, h1, h2⟩
  | tup m _ ih =>
    intro v h
    cases h with
    | tup a b => obtain ⟨u, _, r⟩ := b.mem m; exact ih r
  | lst m _ ih =>
    intro v h
    obtain ⟨xs, _, _, b⟩ := h.at_inv
    obtain ⟨u, _, r⟩ := b.mem m
    exact ih r
theorem tupLe_upd {K : PySem.W.Frag} {a : Addr} {xs ys : List V} (ha : G a = some (.lst xs)) : TupLe K G (upd G a (.lst ys)) := by
  have ne : ∀ {b : Addr} {o : HO}, G b = some o → (∀ zs, o ≠ .lst zs) → b ≠ a := fun {b o} h no e => by
    subst e; rw [ha] at h; cases h; exact no _ rfl
  refine ⟨fun b zs h => ?_, fun b fs h => by rw [upd_ne (ne h fun _ w => nomatch w)]; exact h⟩
  rcases h with (h | ⟨o, h⟩) | h
  · exact .inl (.inl (by rw [upd_ne (ne h fun _ w => nomatch w)]; exact h))
  · exact .inl (.inr ⟨o, by rw [upd_ne (ne h fun _ w => nomatch w)]; exact h⟩)
  · exact .inr h
/-- a list that is told by its address is changed -/
theorem Rp.mut {a : Addr} {xs ys : List V} {f : List PyData → List PyData} (ha : G a = some (.lst xs)) (hf : ∀ ds, RpA K (upd G a (.lst ys)) xs ds → RpA K (upd G a (.lst ys)) ys (f ds)) {v : V} {d : PyData} (h : Rp K G v d) : npl d = true → Rp K (upd G a (.lst ys)) v (mA a f d) :=
  Rp.rec (motive_1 := fun v d _ => npl d = true → Rp K (upd G a (.lst ys)) v (mA a f d)) (motive_2 := fun vs ds _ => nplA ds = true → RpA K (upd G a (.lst ys)) vs (mAs a f ds)) (motive_3 := fun _ _ _ => True)
    (fun _ => by simp only [mA]; exact .non) (fun b _ => by simp only [mA]; exact .bl b) (fun i _ => by simp only [mA]; exact .int i) (fun x _ => by simp only [mA]; exact .str x)
    (fun h _ ih n => by simp [npl] at n) (fun h _ ih n => by rw [mA_tup]; rw [npl_tup] at n; exact .tup ((tupLe_upd ha).1 _ _ h) (ih n))
    (fun h t n => by rw [npl_dict (isLid_no t)] at n; cases n)
    (fun h r _ n => by rw [npl_dict (by rfl)] at n; cases n)
    (fun h k r _ n => by rw [npl_dict (by rfl)] at n; cases n)
    (fun {b zs ds} h _ ih n => by
      rw [mA_at]
      rw [npl_at] at n
      have r := ih n
      by_cases e : b = a
      · subst e
        rw [if_pos rfl]
        rw [ha] at h
        cases h
        exact .lid upd_same (hf _ r)
      · rw [if_neg e]
        exact .lid (by rw [upd_ne e]; exact h) r)
    (fun _ => by simp only [mAs]; exact .nil) (fun {v vs d ds} _ _ p q n => by
      simp only [nplA, Bool.and_eq_true] at n
      simp only [mAs]
      exact .cons (p n.1) (q n.2)) trivial (fun _ _ _ _ _ _ => trivial) h
end
mutual
theorem ad_mA {a : Addr} {f : List PyData → List PyData} (hf : ∀ ds, ∀ b ∈ adA (f ds), b ∈ adA ds) : ∀ d : PyData, ∀ b ∈ ad (mA a f d), b ∈ ad d
  | .none, b, h => by simp [mA] at h; exact h
  | .bool _, b, h => by simp [mA] at h; exact h
  | .int _, b, h => by simp [mA] at h; exact h
  | .str _, b, h => by simp [mA] at h; exact h
  | .list _, b, h => by simp [mA] at h; exact h
  | .tuple ds, b, h => by
    rw [mA_tup, ad_tup] at h
    rw [ad_tup]
    exact ad_mAs hf ds b h
  | .dict ds, b, h => by
    unfold mA at h
    split at h
    · rename_i e; cases e
    · rename_i c es e
      injection e with e
      subst e
      simp only [ad] at h ⊢
      rcases List.mem_cons.mp h with z | z
      · rw [z]; exact List.mem_cons_self
      · refine List.mem_cons_of_mem _ ?_
        split at z
        · exact ad_mAs hf es b (hf _ b z)
        · exact ad_mAs hf es b z
    · exact h
theorem ad_mAs {a : Addr} {f : List PyData → List PyData} (hf : ∀ ds, ∀ b ∈ adA (f ds), b ∈ adA ds) : ∀ ds : List PyData, ∀ b ∈ adA (mAs a f ds), b ∈ adA ds
  | [], b, h => by simp [mAs] at h; exact h
  | d :: ds, b, h => by
    rw [mAs, adA_cons] at h
    rw [adA_cons]
    rcases List.mem_append.mp h with z | z
    · exact List.mem_append.mpr (.inl (ad_mA hf d b z))
    · exact List.mem_append.mpr (.inr (ad_mAs hf ds b z))
end
mutual
theorem npl_mA {a : Addr} {f : List PyData → List PyData} (hf : ∀ ds, nplA ds = true → nplA (f ds) = true) : ∀ d : PyData, npl d = true → npl (mA a f d) = true
  | .none, h => by simp [mA, npl]
  | .bool _, h => by simp [mA, npl]
  | .int _, h => by simp [mA, npl]
  | .str _, h => by simp [mA, npl]
  | .list _, h => by simp [npl] at h
  | .tuple ds, h => by
    rw [mA_tup, npl_tup]
    rw [npl_tup] at h
    exact npl_mAs hf ds h
  | .dict ds, h => by
    unfold mA
    split
    · rename_i e; cases e
    · rename_i c es e
      injection e with e
      subst e
      have n : nplA es = true := by simpa [npl] using h
      simp only [npl]
      split
      · exact hf _ (npl_mAs hf es n)
      · exact npl_mAs hf es n
    · exact h
theorem npl_mAs {a : Addr} {f : List PyData → List PyData} (hf : ∀ ds, nplA ds = true → nplA (f ds) = true) : ∀ ds : List PyData, nplA ds = true → nplA (mAs a f ds) = true
  | [], _ => by simp [mAs, nplA]
  | d :: ds, h => by
    simp only [nplA, Bool.and_eq_true] at h
    simp only [mAs, nplA, Bool.and_eq_true]
    exact ⟨npl_mA hf d h.1, npl_mAs hf ds h.2⟩
end
section
variable {K : Kw} {F G H : Hp}
/-- what is told by its addresses is read where these lists stand -/
theorem Rp.cut {G' : Hp} (tl : TupLe K G G') {v : V} {d : PyData} (h : Rp K G v d) : npl d = true → (∀ a ∈ Pk.ad d, G' a = G a) → Rp K G' v d :=
  Rp.rec (motive_1 := fun v d _ => npl d = true → (∀ a ∈ Pk.ad d, G' a = G a) → Rp K G' v d) (motive_2 := fun vs ds _ => nplA ds = true → (∀ a ∈ adA ds, G' a = G a) → RpA K G' vs ds) (motive_3 := fun _ _ _ => True)
    (fun _ _ => .non) (fun b _ _ => .bl b) (fun i _ _ => .int i) (fun x _ _ => .str x)
    (fun h _ ih n => by simp [npl] at n) (fun h _ ih n k => by rw [npl_tup] at n; rw [ad_tup] at k; exact .tup (tl.1 _ _ h) (ih n k))
    (fun h t n => by rw [npl_dict (isLid_no t)] at n; cases n)
    (fun h r _ n => by rw [npl_dict (by rfl)] at n; cases n)
    (fun h k r _ n => by rw [npl_dict (by rfl)] at n; cases n)
    (fun {b zs ds} h _ ih n k => by
      rw [npl_at] at n
      rw [ad_at] at k
      exact .lid ((k b List.mem_cons_self).trans h) (ih n fun a m => k a (List.mem_cons_of_mem _ m)))
    (fun _ _ => .nil) (fun {v vs d ds} _ _ p q n k => by
      simp only [nplA, Bool.and_eq_true] at n
      rw [adA_cons] at k
      exact .cons (p n.1 fun a m => k a (List.mem_append.mpr (.inl m))) (q n.2 fun a m => k a (List.mem_append.mpr (.inr m)))) trivial (fun _ _ _ _ _ _ => trivial) h
end
/-- a tree of one's own: all its lists are one's own; pn: what stands at one of them -/
def AtP (K : Kw) (d : PyData) (pn : Option (Addr × List V)) : Own where
  K := K
  p := fun F H v S => npl d = true ∧ Rp K (lay S H F) v d ∧ (∀ a, S a ↔ a ∈ ad d) ∧ ∀ q, pn = some q → q.1 ∈ ad d ∧ H q.1 = some (.lst q.2)
  vw := some d
  keep := fun {F F' H H' v S} ⟨n, r, hS, hp⟩ le k => ⟨n, r.mono fun a o q => by
    unfold lay at q ⊢
    by_cases h : S a
    · rw [if_pos h] at q ⊢; rw [k a h]; exact q
    · rw [if_neg h] at q ⊢; exact le a o q, hS, fun q e => ⟨(hp q e).1, (k _ ((hS _).mpr (hp q e).1)).trans (hp q e).2⟩⟩
  keepT := fun e => nomatch e
  view := fun {F H v S d'} le ⟨n, r, hS, _⟩ ed => by
    cases ed
    refine ⟨r, fun a sa => ?_⟩
    obtain ⟨xs, h⟩ := r.ad a ((hS a).mp sa)
    rw [lay_at sa] at h
    exact ⟨_, h, rfl⟩
abbrev AtO (K : Kw) (d : PyData) : Own := AtP K d none
end Pk
end
section
set_option Elab.async false
set_option linter.all false
set_option maxRecDepth 100000
set_option pp.maxSteps 1000
namespace Pk
open PySem PySem.Spec PyProof.Rows L2

mutual
inductive Rw (K : Kw) (F : Hp) : V → PyData → Prop
  | non : Rw K F .non .none
  | bl (b : Bool) : Rw K F (.bl b) (.bool b)
  | int (i : Int) : Rw K F (.int i) (.int i)
  | str (x : Str) : Rw K F (.str x) (.str x)
  | tup {a : Addr} {xs : List V} {ds : List PyData} : SqT K F a xs → RwA K F xs ds → Rw K F (.ref a) (.tuple ds)
  | lid {a : Addr} {b : Int} {ds : List PyData} : b = a → Rw K F (.ref a) (.dict [(.none, .bool false), (.int b, .list ds)])
inductive RwA (K : Kw) (F : Hp) : List V → List PyData → Prop
  | nil : RwA K F [] []
  | cons {v : V} {vs : List V} {d : PyData} {ds : List PyData} : Rw K F v d → RwA K F vs ds → RwA K F (v :: vs) (d :: ds)
end
section
variable {K : Kw} {F G : Hp}
theorem Rp.wk (tl : TupLe K G F) {v : V} {d : PyData} (h : Rp K G v d) : npl d = true → Rw K F v d :=
  Rp.rec (motive_1 := fun v d _ => npl d = true → Rw K F v d) (motive_2 := fun vs ds _ => nplA ds = true → RwA K F vs ds) (motive_3 := fun _ _ _ => True)
    (fun _ => .non) (fun b _ => .bl b) (fun i _ => .int i) (fun x _ => .str x)
    (fun h _ ih n => by simp [npl] at n) (fun h _ ih n => by rw [npl_tup] at n; exact .tup (tl.1 _ _ h) (ih n))
    (fun h t n => by rw [npl_dict (isLid_no t)] at n; cases n)
    (fun h r _ n => by rw [npl_dict (by rfl)] at n; cases n)
    (fun h k r _ n => by rw [npl_dict (by rfl)] at n; cases n)
    (fun {b zs ds} h _ ih n => .lid rfl)
    (fun _ => .nil) (fun {v vs d ds} _ _ p q n => by
      simp only [nplA, Bool.and_eq_true] at n
      exact .cons (p n.1) (q n.2)) trivial (fun _ _ _ _ _ _ => trivial) h
theorem RpA.wk (tl : TupLe K G F) : ∀ {vs : List V} {ds : List PyData}, RpA K G vs ds → nplA ds = true → RwA K F vs ds
  | [], [], _, _ => .nil
  | _ :: _, [], h, _ => by cases h
  | [], _ :: _, h, _ => by cases h
  | _ :: _, _ :: _, h, n => by
    simp only [nplA, Bool.and_eq_true] at n
    cases h with
    | cons a b => exact .cons (a.wk tl n.1) (RpA.wk tl b n.2)
theorem Rw.mono (tl : TupLe K G F) {v : V} {d : PyData} (h : Rw K G v d) : Rw K F v d :=
  Rw.rec (motive_1 := fun v d _ => Rw K F v d) (motive_2 := fun vs ds _ => RwA K F vs ds) .non .bl .int .str (fun h _ ih => .tup (tl.1 _ _ h) ih) (fun e => .lid e) .nil (fun _ _ a b => .cons a b) h
theorem RwA.mono (tl : TupLe K G F) {v : List V} {d : List PyData} (h : RwA K G v d) : RwA K F v d :=
  RwA.rec (motive_1 := fun v d _ => Rw K F v d) (motive_2 := fun vs ds _ => RwA K F vs ds) .non .bl .int .str (fun h _ ih => .tup (tl.1 _ _ h) ih) (fun e => .lid e) .nil (fun _ _ a b => .cons a b) h
theorem Rw.lf {v : V} {d : PyData} (h : Rw K F v d) : Pk.lf d = true → Rp K F v d :=
  Rw.rec (motive_1 := fun v d _ => Pk.lf d = true → Rp K F v d) (motive_2 := fun vs ds _ => lfA ds = true → RpA K F vs ds) (fun _ => .non) (fun b _ => .bl b) (fun i _ => .int i) (fun x _ => .str x)
    (fun h _ ih n => .tup h (ih (by simpa [Pk.lf] using n))) (fun e n => by simp [Pk.lf] at n) (fun _ => .nil) (fun _ _ a b n => by
      simp only [lfA, Bool.and_eq_true] at n
      exact .cons (a n.1) (b n.2)) h
theorem Rw.at_inv {v : V} {a : Addr} {ds : List PyData} (h : Rw K F v (listAt a ds)) : v = .ref a := by
  generalize e : listAt a ds = d at h
  cases h with
  | @lid a' b ds' q =>
    simp only [PyData.dict.injEq, List.cons.injEq, Prod.mk.injEq, PyData.int.injEq, true_and, and_true] at e
    have e2 : (a : Int) = (a' : Int) := e.1.trans q
    have e3 : a = a' := by exact_mod_cast e2
    rw [e3]
  | _ => cases e
theorem Rw.tup_inv {v : V} {ds : List PyData} (h : Rw K F v (.tuple ds)) : ∃ a xs, v = .ref a ∧ SqT K F a xs ∧ RwA K F xs ds := by
  cases h with
  | tup a b => exact ⟨_, _, rfl, a, b⟩
theorem RwA.length : ∀ {vs : List V} {ds : List PyData}, RwA K F vs ds → vs.length = ds.length
  | [], [], _ => rfl
  | _ :: _, [], h => by cases h
  | [], _ :: _, h => by cases h
  | _ :: vs, _ :: ds, h => by
    cases h with
    | cons _ b => simp [RwA.length b]
theorem RwA.get : ∀ {vs : List V} {ds : List PyData} {i : Nat} {d : PyData}, RwA K F vs ds → ds[i]? = some d → ∃ v, vs[i]? = some v ∧ Rw K F v d
  | [], [], i, d, _, e => by simp at e
  | _ :: _, [], _, _, h, _ => by cases h
  | [], _ :: _, _, _, h, _ => by cases h
  | v :: vs, x :: ds, 0, d, h, e => by
    cases h with
    | cons a b => simp at e; subst e; exact ⟨v, rfl, a⟩
  | v :: vs, x :: ds, i + 1, d, h, e => by
    cases h with
    | cons a b =>
      obtain ⟨u, h1, h2⟩ := RwA.get (i := i) (d := d) b (by simpa using e)
      exact ⟨u, by simpa using h1, h2⟩
theorem RwA.getV : ∀ {vs : List V} {ds : List PyData} {i : Nat} {v : V}, RwA K F vs ds → vs[i]? = some v → ∃ d, ds[i]? = some d ∧ Rw K F v d
  | [], [], i, d, _, e => by simp at e
  | _ :: _, [], _, _, h, _ => by cases h
  | [], _ :: _, _, _, h, _ => by cases h
  | v :: vs, x :: ds, 0, d, h, e => by
    cases h with
    | cons a b => simp at e; subst e; exact ⟨x, rfl, a⟩
  | v :: vs, x :: ds, i + 1, d, h, e => by
    cases h with
    | cons a b =>
      obtain ⟨u, h1, h2⟩ := RwA.getV (i := i) (v := d) b (by simpa using e)
      exact ⟨u, by simpa using h1, h2⟩
end
/-- a name for something in a tree of one's own -/
def WkO (K : Kw) (d : PyData) : Own where
  K := K
  p := fun F _ v S => Rw K F v d ∧ ∀ a, ¬ S a
  vw := none
  keep := fun ⟨r, n⟩ le _ => ⟨r.mono le.tup, n⟩
  keepT := fun _ => fun ⟨r, n⟩ tl _ => ⟨r.mono tl, n⟩
  view := fun _ _ e => nomatch e

def adS : Sl → List Addr
  | .dat _ d => ad d
  | .ml _ l ds => l :: adA ds
  | .ex _ Φ => match Φ.vw with
    | some d => ad d
    | none => []
  | .no => []
def adG (Γ : List Sl) : List Addr := Γ.flatMap adS
def ntS : Sl → Bool
  | .dat m _ => !m
  | .ml m _ _ => !m
  | _ => true
/-- nothing is told as new -/
def ntG (Γ : List Sl) : Bool := Γ.all ntS
section
variable {X : Bs} {F H : Hp} {σ : L2.St} {Γ : List Sl}
theorem En.adS (E : En X F H σ Γ) {s : Sl} (m : s ∈ Γ) {a : Addr} (ha : a ∈ adS s) : H a ≠ none := by
  obtain ⟨i, hi⟩ := List.getElem?_of_mem m
  obtain ⟨S, hs, _, ho⟩ := id E.sl
  have q := hs i s hi
  cases s with
  | no => cases ha
  | dat m' d =>
    obtain ⟨⟨v, _, r⟩, _⟩ := q
    obtain ⟨xs, h⟩ := r.ad a ha
    rw [E.lef m' _ _ h]; simp
  | ml m' l ds =>
    obtain ⟨xs, _, hS, hl, r, _⟩ := q
    rcases List.mem_cons.mp ha with z | z
    · subst z; rw [hl]; simp
    · obtain ⟨ys, h⟩ := r.ad a z
      rw [E.lef m' _ _ h]; simp
  | ex v Φ =>
    obtain ⟨_, _, p⟩ := q
    cases hv : Φ.vw with
    | none => simp [Pk.adS, hv] at ha
    | some d =>
      have ha' : a ∈ ad d := by simpa [Pk.adS, hv] using ha
      obtain ⟨xs, h⟩ := (Φ.view E.le p hv).1.ad a ha'
      unfold lay at h
      by_cases sa : S i a
      · exact (ho i a sa).2.1
      · rw [if_neg sa] at h; rw [E.le _ _ h]; simp
theorem En.adG (E : En X F H σ Γ) {a : Addr} (ha : a ∈ adG Γ) : H a ≠ none := by
  obtain ⟨s, hm, hs⟩ := List.mem_flatMap.mp ha
  exact E.adS hm hs
theorem En.lastNew {v : V} {m : Bool} {l : Addr} {ds : List PyData} (E : En X F H (σ ++ [some v]) (Γ ++ [.ml m l ds])) : l ∉ Pk.adG Γ ∧ l ∉ adA ds := by
  obtain ⟨S, hs, hdj, ho⟩ := id E.sl
  have hl := hs Γ.length (.ml m l ds) (by simp)
  obtain ⟨xs, _, hS, hH, r, _⟩ := hl
  have sl : S Γ.length l := (hS l).mpr rfl
  have fl : F l = none := (ho _ l sl).1
  have hlen : σ.length = Γ.length := by
    have := E.len
    simp at this
    exact this
  refine ⟨fun z => ?_, fun z => ?_⟩
  · obtain ⟨s, hm, ha⟩ := List.mem_flatMap.mp z
    obtain ⟨i, hi⟩ := List.getElem?_of_mem hm
    have hil : i < Γ.length := (List.getElem?_eq_some_iff.mp hi).1
    have q := hs i s (by rw [List.getElem?_append_left hil]; exact hi)
    have neS : ∀ a, S i a → a ≠ l := fun a sa e => by
      subst e
      have := hdj _ _ _ sa sl
      omega
    cases s with
    | no => cases ha
    | dat m d =>
      obtain ⟨⟨v, _, r⟩, _⟩ := q
      obtain ⟨xs, h⟩ := r.ad l ha
      rw [X.ff_le F m _ _ h] at fl; cases fl
    | ml m l' ds =>
      obtain ⟨xs, _, hS', hl, r, _⟩ := q
      rcases List.mem_cons.mp ha with z | z
      · exact neS l' ((hS' l').mpr rfl) z.symm
      · obtain ⟨ys, h⟩ := r.ad l z
        rw [X.ff_le F m _ _ h] at fl; cases fl
    | ex v Φ =>
      obtain ⟨_, _, p⟩ := q
      cases hv : Φ.vw with
      | none => simp [Pk.adS, hv] at ha
      | some d =>
        have ha' : l ∈ ad d := by simpa [Pk.adS, hv] using ha
        obtain ⟨xs, h⟩ := (Φ.view E.le p hv).1.ad l ha'
        unfold lay at h
        by_cases sa : S i l
        · exact neS l sa rfl
        · rw [if_neg sa] at h; rw [h] at fl; cases fl
  · obtain ⟨ys, h⟩ := r.ad l z
    rw [X.ff_le F m _ _ h] at fl; cases fl
theorem SlOk.reN {ov : Option V} {S : Addr → Prop} {s : Sl} {N' : Addr → Prop} (h : ntS s = true) (q : SlOk X F H ov S s) : SlOk { X with N := N' } F H ov S s := by
  cases s with
  | no => exact q
  | dat m d =>
    cases m with
    | true => cases h
    | false => exact q
  | ml m l ds =>
    cases m with
    | true => cases h
    | false =>
      obtain ⟨xs, e, hS, hl, r, _⟩ := q
      exact ⟨xs, e, hS, hl, r, fun z => nomatch z⟩
  | ex v Φ => exact q
/-- another base's new -/
theorem En.reN (E : En X F H σ Γ) (hn : ntG Γ = true) (N' : Addr → Prop) (hN : ∀ a, N' a → H a ≠ none) : En { X with N := N' } F H σ Γ := by
  obtain ⟨S, hs, hdj, ho⟩ := id E.sl
  exact ⟨E.le, E.len, ⟨S, fun i s e => (hs i s e).reN (List.all_eq_true.mp hn s (List.mem_of_getElem? e)), hdj, ho⟩, E.fr, E.f0, hN⟩
theorem cutN_ad {N : Addr → Prop} {K : Kw} {v : V} {d : PyData} (r : Rp K (cutN N F) v d) : ∀ a ∈ ad d, ¬ N a := fun a ha => by
  obtain ⟨xs, h⟩ := r.ad a ha
  exact (cutN_lst h).1
end
section
variable {K : Kw} {m : Bool} {Γ : List Sl} {t te ta : TE} {Q : PyData → Prop} {QX : Sl → Prop} {P : Po} {g : TG}
theorem wd_pl (h : WD K m Γ t fun d => Q (pl d)) : WD K m Γ t Q := fun X hK F H σ E C k => h X hK F H σ E C fun v F' H' d l E' r q => k v F' H' _ l E' r.pl q
/-- a list of one's own is frozen, its address told -/
theorem En.freezeA {X : Bs} {F H : Hp} {σ : L2.St} (E : En X F H σ Γ) {i : Nat} {l : Addr} {ds : List PyData} (hi : Γ[i]? = some (.ml m l ds)) : ∃ F', Le F F' ∧ En X F' H σ (Γ.set i (.dat m (listAt l ds))) := by
  obtain ⟨xs, e1, hl, fl, r⟩ := E.ml hi
  obtain ⟨S, hs, hdj, ho⟩ := id E.sl
  have own : X.own l ∧ (m = true → ¬ X.N l) := by
    obtain ⟨_, _, hS, _, _, nl⟩ := hs i _ hi
    exact ⟨(ho i l ((hS l).mpr rfl)).2.2, nl⟩
  obtain ⟨own, nl⟩ := own
  have fl' : ∀ {F : Hp}, F l = some (.lst xs) → X.ff F m l = some (.lst xs) := fun {F} h => by
    cases m with
    | false => exact h
    | true => rw [Bs.ff_at (nl rfl)]; exact h
  refine ⟨upd F l (.lst xs), Le.up fl, E.retell (Le.up fl) (E.le.lay hl) (fun a o e n => ?_) hi fun S hS q => ?_⟩
  · refine upd_ne fun z => ?_
    subst z
    rcases own with w | w
    · rw [w] at e; cases e
    · exact n w
  · obtain ⟨ys, e, hS', hl', r', _⟩ := q
    rw [hl] at hl'; cases hl'
    refine ⟨fun _ => False, ⟨⟨.ref l, e, .lid (fl' upd_same) (r.mono (Bs.ff_mono (Le.up fl) m))⟩, fun _ z => z⟩, fun _ z => z.elim, fun a ha => ?_⟩
    refine (hS' a).mpr ?_
    by_cases z : a = l
    · exact z
    · exact absurd (upd_ne z) ha
theorem lastFreezeA {X : Bs} {F H : Hp} {σ : L2.St} {v : V} {l : Addr} {ds : List PyData} (E : En X F H (σ ++ [some v]) (Γ ++ [.ml m l ds])) : ∃ F', Le F F' ∧ En X F' H σ Γ ∧ Rp X.K (X.ff F' m) v (listAt l ds) := by
  have hl : σ.length = Γ.length := by
    have := E.len
    simp at this
    exact this
  obtain ⟨F', lf, E'⟩ := E.freezeA (i := Γ.length) (m := m) (l := l) (ds := ds) (by simp)
  have e2 : (Γ ++ [Sl.ml m l ds]).set Γ.length (.dat m (listAt l ds)) = Γ ++ [.dat m (listAt l ds)] := by simp
  rw [e2] at E'
  obtain ⟨u, e, r⟩ := E'.dat (i := Γ.length) (m := m) (d := listAt l ds) (by simp)
  rw [← hl] at e
  simp at e
  subst e
  exact ⟨F', lf, E'.drop, r⟩
/-- a new list of one's own as data, its address told -/
theorem wd_at (h : WX K Γ t fun s => ∃ l ds, s = .ml m l ds ∧ (l ∉ adA ds → l ∉ adG Γ → Q (listAt l ds))) : WD K m Γ t Q := fun X hK F H σ E C k =>
  h X hK F H σ E C fun v F' H' s lf E' ⟨l, ds, es, q⟩ => by
    subst es
    obtain ⟨n1, n2⟩ := E'.lastNew
    obtain ⟨F2, l2, E2, r⟩ := lastFreezeA E'
    subst hK
    exact k v F2 H' _ (lf.tr l2) E2 r (q n2 n1)
theorem AgsOk.to {X X' : Bs} {F : Hp} {σ : L2.St} (hK : X'.K = X.K) (hN : ∀ a, X.N a → X'.N a) : ∀ {vs : List V} {as : List Ag}, AgsOk X' true F σ vs as → AgsOk X true F σ vs as
  | _, _, .nil => .nil
  | _, _, .cons (a := .d x) h t => .cons (a := .d x) (by
      have h' : Rp X'.K (cutN X'.N F) _ x := h
      rw [hK] at h'
      exact h'.mono (cutN_mono hN Le.rfl')) (AgsOk.to hK hN t)
  | _, _, .cons (a := .o i) h t => .cons (a := .o i) h (AgsOk.to hK hN t)
def adAg : List Ag → List Addr
  | [] => []
  | .d x :: r => ad x ++ adAg r
  | .o _ :: r => adAg r
theorem AgsOk.ad {X : Bs} {F : Hp} {σ : L2.St} : ∀ {vs : List V} {as : List Ag}, AgsOk X true F σ vs as → ∀ a ∈ adAg as, ¬ X.N a
  | _, _, .nil => fun a h => by cases h
  | _, _, .cons (a := .d x) h t => fun a ha => by
      rcases List.mem_append.mp ha with z | z
      · exact cutN_ad (F := F) (N := X.N) h a z
      · exact AgsOk.ad t a z
  | _, _, .cons (a := .o i) h t => fun a ha => AgsOk.ad t a ha
/-- an argument, and the others, whose lists are unlike its own -/
theorem wa_dF {tr : TA} {QA : List Ag → Prop} (hn : ntG Γ = true) (h : WD K true Γ ta fun d => WA K true Γ tr fun as => (∀ a ∈ ad d, a ∉ adAg as) → (∀ a ∈ adAg as, a ∉ adG Γ) → QA (.d d :: as)) : WA K true Γ (tCons ta tr) QA := fun X hK F H σ E C k =>
  h X hK F H σ E _ fun v F1 H1 x l1 E1 r1 h1 => by
    subst hK
    have nn : ∀ a, X.N a → H1 a ≠ none := E1.nn
    refine h1 { X with N := fun a => H1 a ≠ none } rfl F1 H1 σ (E1.reN hn _ fun _ h => h) _ fun vs F2 H2 as l2 E2 r2 q => ?_
    have e : En X F2 H2 σ Γ := E2.reN hn X.N fun a h => E2.nn a (nn a h)
    have r2' : AgsOk X true F2 σ vs as := AgsOk.to (X := X) (X' := { X with N := fun a => H1 a ≠ none }) rfl (fun a h => nn a h) r2
    have hv : ∀ a ∈ ad x, H1 a ≠ none := fun a ha => by
      obtain ⟨xs, h⟩ := r1.ad a ha
      rw [E1.le _ _ (cutN_le _ _ _ _ h)]; simp
    exact k (v :: vs) F2 H2 _ (l1.tr l2) e (.cons (a := .d x) (Bs.mo r1 l2) r2') (q (fun a ha hz => (AgsOk.ad r2 a hz) (hv a ha)) fun a ha hg => (AgsOk.ad r2 a ha) (E1.adG hg))
theorem En.loN {X : Bs} {F H : Hp} {σ : L2.St} {N' : Addr → Prop} (hN : ∀ a, X.N a → N' a) (E : En { X with N := N' } F H σ Γ) : En X F H σ Γ := by
  obtain ⟨S, hs, hdj, ho⟩ := id E.sl
  exact ⟨E.le, E.len, ⟨S, fun i s e => SlOk.to (X := { X with N := N' }) (X' := X) rfl hN (hs i s e), hdj, ho⟩, E.fr, E.f0, fun a h => E.nn a (hN a h)⟩
/-- a list comprehension, the lists of whose items are all unlike -/
theorem wx_lcA {wi : TI} {mi : Bool} (m : Bool) {tt : TT} {vs : List Nat} (hv : wipeOk Γ vs) (hgw : Gw g vs) (hn : ntG (wipeG Γ vs) = true)
    (h : WI K mi Γ wi fun ds => ∃ I : Nat → List PyData → Prop, ds.length ≤ 100000 ∧ I 0 [] ∧ (∀ i d acc, ds[i]? = some d → acc.length ≤ i → I i acc → GJ K mi (wipeG Γ vs) g d fun Γ2 => ntG Γ2 = true ∧ wipeG Γ2 vs = wipeG Γ vs ∧ WT K Γ2 tt fun b => if b = true then WD K true Γ2 te fun y => (ad y).Nodup ∧ I (i + 1) (acc ++ [y]) else I (i + 1) acc) ∧
      ∀ acc, acc.length ≤ ds.length → I ds.length acc → (adA acc).Nodup → (∀ a ∈ adA acc, a ∉ adG Γ) → ∀ l, QX (.ml m l acc)) (hmi : mi = false) : WX K Γ (tLc wi g tt te vs) QX := fun X hK F H σ E C k => by
  subst hmi
  refine h X hK F H σ E _ fun J F1 H1 G Y ds lf E1 wk hG hY ⟨I, hz, h0, hs, he⟩ Da hD => ?_
  obtain ⟨X1, k1, n1, f1, g1, Er, back⟩ := E1.rebase
  have hK1 : X1.K = K := k1.trans hK
  let N1 : Addr → Prop := fun a => X1.N a ∨ a ∈ adG Γ
  have hN1 : ∀ a, N1 a → H1 a ≠ none := fun a h => by
    rcases h with h | h
    · exact Er.nn a h
    · exact E1.adG h
  let XN : Bs := { X1 with N := N1 }
  have lef : ∀ {F' H' σ' Γ'}, En XN F' H' σ' Γ' → Le F1 F' := fun E' => by rw [← f1]; exact E'.f0
  have ffN : ∀ F, Le (XN.ff F m) (X.ff F m) := fun F => by
    cases m with
    | false => exact Le.rfl'
    | true => exact cutN_mono (fun a h => .inl (by rw [n1]; exact h)) Le.rfl'
  have ErN : En XN F1 H1 (L2.wipe σ vs) (wipeG Γ vs) := (Er.wipe vs).reN hn N1 hN1
  refine lc_it wk (fun i H' => ∃ F' acc, En XN F' H' (L2.wipe σ vs ++ [some (.ref Da)]) (wipeG Γ vs ++ [.ml m Da acc]) ∧ acc.length ≤ i ∧ I i acc ∧ (adA acc).Nodup ∧ ∀ a ∈ adA acc, ¬ N1 a) ⟨F1, [], ErN.pushM hD .nil, Nat.le_refl _, h0, by simp [adA], by simp [adA]⟩ (fun i H' _ ⟨F', acc, E', _⟩ => hG H' ((lef E').tr E'.le)) (fun i x H' H3 hi ⟨F', acc, E', hacc, hI, hnd, hng⟩ hy => ?_) (fun H' ⟨F', acc, E', hacc, hI, hnd, hng⟩ => ?_)
  · obtain ⟨d, F3, hd, gr, r⟩ := hY i F' H' x H3 (lef E') E'.le hi hy
    have E3 := E'.gr gr
    obtain ⟨X2, k2, n2, Ef, fb⟩ := E3.frame
    have hK2 : X2.K = K := k2.trans hK1
    refine hgw x _ H3 (fun σ2 H2 => L2.wipe σ2 vs = L2.wipe σ vs → _) _ σ wipe_wipe (fun σ2 H2 e2 q => ⟨e2, q e2⟩) ?_
    refine hs i d acc hd hacc hI X2 hK2 F3 H3 _ Ef x r _ fun F4 H4 σ4 Γ4 l4 E4 ⟨hnt, eΓ, wt⟩ eσ => ?_
    have hlen : Γ4.length = (wipeG Γ vs).length := by rw [← eΓ, wipeG_length]
    have again : ∀ {F5 H5}, Le F4 F5 → En X2 F5 H5 σ4 Γ4 → En XN F5 H5 (L2.wipe σ vs ++ [some (.ref Da)]) (wipeG Γ vs ++ [.ml m Da acc]) := fun {F5 H5} l5 E5 => by
      have := fb F5 H5 _ _ (by rw [wipeG_length, hlen]) (l4.tr l5) (E5.wipe vs)
      rw [eΓ, eσ] at this
      exact this
    refine wt X2 hK2 F4 H4 σ4 E4 _ fun b F5 H5 l5 E5 q5 => ?_
    cases b with
    | false => exact ⟨F5, acc, again l5 E5, Nat.le_succ_of_le hacc, q5, hnd, hng⟩
    | true =>
      rw [if_pos rfl] at q5 ⊢
      have nn5 : ∀ a, X2.N a → H5 a ≠ none := E5.nn
      have acc5 : ∀ a ∈ adA acc, H5 a ≠ none := fun a ha => (again l5 E5).adG (List.mem_flatMap.mpr ⟨.ml m Da acc, by simp, List.mem_cons_of_mem _ ha⟩)
      refine q5 { X2 with N := fun a => H5 a ≠ none } hK2 F5 H5 σ4 (E5.reN hnt _ fun _ h => h) _ fun y F6 H6 dy l6 E6 ry ⟨ndy, q6⟩ => ?_
      have ry' : Rp K (cutN (fun a => H5 a ≠ none) F6) y dy := ry
      have E6' : En X2 F6 H6 σ4 Γ4 := En.loN nn5 E6
      have E7 := again (l5.tr l6) E6'
      have nN : ∀ a ∈ ad dy, ¬ N1 a := fun a ha h => (cutN_ad ry' a ha) (nn5 a (by rw [n2]; exact h))
      obtain ⟨xs, _, hl, _, rx⟩ := E7.ml (i := (wipeG Γ vs).length) (m := m) (l := Da) (ds := acc) (by simp)
      have ry2 : Rp XN.K (XN.ff F6 m) y dy := by
        have e : XN.K = K := hK1
        rw [e]
        cases m with
        | false => exact ry'.mono (cutN_le _ _)
        | true => exact ry'.mono (cutN_mono (fun a h => nn5 a (by rw [n2]; exact h)) Le.rfl')
      have e8 := E7.mut (i := (wipeG Γ vs).length) (m := m) (l := Da) (ds := acc) (es := acc ++ [dy]) (ys := xs ++ [y]) (by simp) (rx.append (RpA.one ry2))
      have es : (wipeG Γ vs ++ [Sl.ml m Da acc]).set (wipeG Γ vs).length (.ml m Da (acc ++ [dy])) = wipeG Γ vs ++ [.ml m Da (acc ++ [dy])] := by simp
      rw [es] at e8
      refine ⟨xs, hl, sz_lt (by rw [rx.length]; omega), F6, acc ++ [dy], e8, by simp; omega, q6, ?_, ?_⟩
      · rw [adA_append, adA_cons, adA_nil, List.append_nil]
        exact List.nodup_append.mpr ⟨hnd, ndy, fun a ha b hb e => by subst e; exact (cutN_ad ry' a hb) (acc5 a ha)⟩
      · intro a ha
        rw [adA_append, adA_cons, adA_nil, List.append_nil] at ha
        rcases List.mem_append.mp ha with z | z
        · exact hng a z
        · exact nN a z
  · have E1' : En X1 F' H' (L2.wipe σ vs ++ [some (.ref Da)]) (wipeG Γ vs ++ [.ml m Da acc]) := En.loN (fun a h => .inl h) E'
    have hE := back _ _ _ _ (En.unwipe E1 (by rw [hK, hK1]) n1.symm (lef E') hv E1')
    exact k (.ref Da) F' H' _ (lf.tr (lef E')) hE (he acc hacc hI hnd (fun a ha hg => hng a ha (.inr hg)) Da)
end
end Pk
end
section
set_option Elab.async false
set_option linter.all false
set_option maxRecDepth 100000
set_option pp.maxSteps 1000
namespace Pk
open PySem PySem.Spec PyProof.Rows L2
section
variable {K : Kw} {m : Bool} {Γ : List Sl} {t te tr : TE} {Q : PyData → Prop} {QX : Sl → Prop} {P : Po} {g : TG} {tb : TS}
open Classical in
/-- what is new, told with all its addresses, is handed back as the asker's own -/
theorem sjt_retAt (h : WD K true Γ te fun d => npl d = true ∧ ∀ v, P.rt (.ex v (AtO K d)) (Γ.map Sl.exo)) : SJt K Γ (tRet te) P := fun X hK hT F0 H0 σ E0 D hD => by
  refine h X hK F0 H0 σ E0 _ fun v F H d lf0 E r ⟨hn, hrt⟩ => ?_
  subst hK
  have r : Rp X.K (cutN X.N F) v d := r
  obtain ⟨S, hs, hdj, ho⟩ := id E.sl
  let SS : Addr → Prop := fun a => a ∈ ad d
  have hcF : ∀ a, SS a → ¬ X.N a ∧ ∃ ys, F a = some (.lst ys) := fun a ha => by
    obtain ⟨ys, q⟩ := r.ad a ha
    exact ⟨(cutN_lst q).1, ys, (cutN_lst q).2⟩
  let F' : Hp := fun a => if SS a then none else F a
  have fN : ∀ {a}, ¬ SS a → F' a = F a := fun h => if_neg h
  have fY : ∀ {a}, SS a → F' a = none := fun h => if_pos h
  have le' : Le F' F := fun a o q => by
    by_cases h : SS a
    · rw [fY h] at q; cases q
    · rw [fN h] at q; exact q
  have h0 : ∀ a, SS a → X.H0 a = none := fun a sa => by
    cases q : X.H0 a with
    | none => rfl
    | some o => exact absurd ((hT.1 a).mpr (by rw [q]; simp)) (hcF a sa).1
  have tl : TupLe X.K F F' := by
    have nS : ∀ {a : Addr} {o : HO}, F a = some o → (∀ zs, o ≠ .lst zs) → ¬ SS a := fun {a o} q no sa => by
      obtain ⟨_, ws, q2⟩ := hcF a sa
      rw [q] at q2; cases q2; exact no _ rfl
    refine ⟨fun a ys z => ?_, fun a fs z => by rw [fN (nS z fun _ w => nomatch w)]; exact z⟩
    rcases z with (z | ⟨o, z⟩) | z
    · exact .inl (.inl (by rw [fN (nS z fun _ w => nomatch w)]; exact z))
    · exact .inl (.inr ⟨o, by rw [fN (nS z fun _ w => nomatch w)]; exact z⟩)
    · exact .inr z
  have rd : Rp X.K (lay SS H F') v d := r.mono fun a o q => by
    have q' := cutN_le _ _ _ _ q
    unfold lay
    by_cases h : SS a
    · rw [if_pos h]; exact E.le a o q'
    · rw [if_neg h, fN h]; exact q'
  refine hD.rt F' H σ (Γ.map Sl.exo) v (.ex v (AtO X.K d)) ⟨le'.tr E.le, by simp [E.len], ⟨fun j a => (j < Γ.length ∧ (∃ v Φ, Γ[j]? = some (.ex v Φ) ∧ Φ.vw = none) ∧ S j a) ∨ (j = Γ.length ∧ SS a), fun j u e => ?_, fun j k a q1 q2 => ?_, fun j a q => ?_⟩, fun a o e n => ?_, fun a o q => ?_, E.nn⟩ (hrt v)
  · have hj : j < (Γ.map Sl.exo ++ [Sl.ex v (AtO X.K d)]).length := (List.getElem?_eq_some_iff.mp e).1
    simp only [List.length_append, List.length_map, List.length_cons, List.length_nil] at hj
    by_cases hlt : j < Γ.length
    · rw [List.getElem?_append_left (by simpa using hlt), List.getElem?_map, List.getElem?_eq_getElem hlt] at e
      rw [getD_app (by rw [E.len]; exact hlt)]
      have hg : Γ[j]? = some Γ[j] := List.getElem?_eq_getElem hlt
      simp only [Option.map_some, Option.some.injEq] at e
      subst e
      cases hu : Γ[j] with
      | ex v Φ =>
        rw [hu] at hg
        cases hv : Φ.vw with
        | some dv =>
          simp only [Sl.exo, hv]
          intro a z
          rcases z with ⟨_, ⟨v', Φ', z, hz⟩, _⟩ | ⟨z, _⟩
          · rw [hg] at z
            cases z
            rw [hv] at hz
            cases hz
          · omega
        | none =>
        simp only [Sl.exo, hv]
        obtain ⟨e0, hk, p⟩ := hs j _ hg
        have eS : (fun a => (j < Γ.length ∧ (∃ v Φ, Γ[j]? = some (.ex v Φ) ∧ Φ.vw = none) ∧ S j a) ∨ (j = Γ.length ∧ SS a)) = S j := by
          funext a
          apply propext
          constructor
          · rintro (⟨_, _, z⟩ | ⟨z, _⟩)
            · exact z
            · omega
          · intro z; exact .inl ⟨hlt, ⟨v, Φ, hg, hv⟩, z⟩
        show SlOk X F' H _ (fun a => (j < Γ.length ∧ (∃ v Φ, Γ[j]? = some (.ex v Φ) ∧ Φ.vw = none) ∧ S j a) ∨ (j = Γ.length ∧ SS a)) (.ex v Φ)
        rw [eS]
        exact ⟨e0, hk, Φ.keepT hv p (by rw [hk]; exact tl) fun _ _ => rfl⟩
      | _ =>
        rw [hu] at hg
        intro a z
        rcases z with ⟨_, ⟨v, Φ, z, _⟩, _⟩ | ⟨z, _⟩
        · rw [hg] at z; cases z
        · omega
    · have hje : j = Γ.length := by omega
      subst hje
      have e' : (Γ.map Sl.exo ++ [Sl.ex v (AtO X.K d)])[Γ.length]? = some (.ex v (AtO X.K d)) := by
        have : Γ.length = (Γ.map Sl.exo).length := by simp
        rw [this]; simp
      rw [e'] at e
      cases e
      have eS : (fun a => (Γ.length < Γ.length ∧ (∃ v Φ, Γ[Γ.length]? = some (.ex v Φ) ∧ Φ.vw = none) ∧ S Γ.length a) ∨ (Γ.length = Γ.length ∧ SS a)) = SS := by
        funext a
        apply propext
        constructor
        · rintro (⟨z, _⟩ | ⟨_, z⟩)
          · omega
          · exact z
        · intro z; exact .inr ⟨rfl, z⟩
      show SlOk X F' H _ (fun a => (Γ.length < Γ.length ∧ (∃ v Φ, Γ[Γ.length]? = some (.ex v Φ) ∧ Φ.vw = none) ∧ S Γ.length a) ∨ (Γ.length = Γ.length ∧ SS a)) _
      rw [eS, ← E.len, getD_last]
      exact ⟨rfl, rfl, hn, rd, fun _ => Iff.rfl, fun _ e => nomatch e⟩
  · have exS : ∀ j a, S j a → (∃ v Φ, Γ[j]? = some (Sl.ex v Φ) ∧ Φ.vw = none) → ¬ SS a := fun j a sa _ ss => by
      obtain ⟨_, ys, q⟩ := hcF a ss
      rw [(ho j a sa).1] at q; cases q
    rcases q1 with ⟨a1, b1, c1⟩ | ⟨a1, c1⟩ <;> rcases q2 with ⟨a2, b2, c2⟩ | ⟨a2, c2⟩
    · exact hdj j k a c1 c2
    · exact absurd c2 (exS j a c1 b1)
    · exact absurd c1 (exS k a c2 b2)
    · omega
  · rcases q with ⟨a1, b1, c1⟩ | ⟨a1, c1⟩
    · refine ⟨?_, (ho j a c1).2⟩
      by_cases z : SS a
      · exact fY z
      · rw [fN z]; exact (ho j a c1).1
    · refine ⟨fY c1, ?_, .inl (h0 a c1)⟩
      obtain ⟨_, ys, q⟩ := hcF a c1
      rw [E.le _ _ q]; simp
  · obtain ⟨q1, q2⟩ := E.fr a o e n
    refine ⟨q1, ?_⟩
    rw [fN fun sa => by rw [h0 a sa] at e; cases e]
    exact q2
  · have q' := E.f0 a o q
    rw [fN]
    · exact q'
    · intro sa
      have := hT.2 a o q
      rw [h0 a sa] at this
      cases this

def RA (K : Kw) (Γ : List Sl) (te : TE) (a : Addr) : Prop := ∀ X : Bs, X.K = K → ∀ F H σ, En X F H σ Γ → ∀ C : VK,
  (∀ F' H', Le F F' → En X F' H' σ Γ → C (.ref a) H') → te σ H C
theorem ra_thaw {a : Addr} (h : WD K false (Γ.map Sl.frz) te fun z => ∃ es, z = listAt a es) : RA K Γ te a := fun X hK F H σ E C k => by
  obtain ⟨F1, lf, E1, back⟩ := E.thaw
  refine h X hK F1 H σ E1 C fun v F2 H2 d l2 E2 r ⟨es, e⟩ => ?_
  subst e
  obtain ⟨xs, rfl, _⟩ := r.at_inv
  obtain ⟨F3, l3, E3⟩ := back F2 H2 l2 E2
  exact k F3 H2 l3 E3
theorem En.wkO {X : Bs} {F H : Hp} {σ : L2.St} (E : En X F H σ Γ) {j : Nat} {v : V} {d : PyData} (hj : Γ[j]? = some (.ex v (WkO K d))) : Rw K F v d := by
  obtain ⟨S, hs, _, _⟩ := id E.sl
  obtain ⟨_, _, r, _⟩ := hs j _ hj
  exact r
theorem atI_rw {F : Hp} {xs : List V} {ds : List PyData} {n : Int} {d : PyData} (r : RwA K F xs ds) (h : atI ds n = some d) : ∃ z, atI xs n = some z ∧ Rw K F z d := by
  unfold atI at h ⊢
  rw [r.length]
  cases e : ixN ds.length n with
  | none => rw [e] at h; cases h
  | some j =>
    rw [e] at h
    exact r.get h
theorem ra_wkIx {j : Nat} {v : V} {ds : List PyData} {n : Int} {a : Addr} {es : List PyData} (hj : Γ[j]? = some (.ex v (WkO K (.tuple ds)))) (h : atI ds n = some (listAt a es)) : RA K Γ (tOp (rIx K) (tVar j) (tC (.int n))) a := fun X hK F H σ E C k => by
  obtain ⟨b, xs, rfl, hb, rx⟩ := (E.wkO hj).tup_inv
  obtain ⟨z, hz, rz⟩ := atI_rw rx h
  have e := rz.at_inv
  subst e
  exact ⟨_, E.ex hj, .inr (.inl ⟨_, _, n, _, rfl, rfl, sqT_le E.le hb, hz, k F H Le.rfl' E⟩)⟩
/-- what is no list in such a tuple -/
theorem wd_wkIx {j : Nat} {v : V} {ds : List PyData} {n : Int} {d : PyData} (hj : Γ[j]? = some (.ex v (WkO K (.tuple ds)))) (h : atI ds n = some d) (hl : lf d = true) (q : Q d) : WD K m Γ (tOp (rIx K) (tVar j) (tC (.int n))) Q := fun X hK F H σ E C k => by
  obtain ⟨b, xs, rfl, hb, rx⟩ := (E.wkO hj).tup_inv
  obtain ⟨z, hz, rz⟩ := atI_rw rx h
  exact ⟨_, E.ex hj, .inr (.inl ⟨_, _, n, _, rfl, rfl, sqT_le E.le hb, hz, k z F H _ Le.rfl' E (Rp.lfree Bs.ff_tup d hl (rz.lf hl)) q⟩)⟩

theorem AtP.mut {F H : Hp} {v : V} {S : Addr → Prop} {d : PyData} {a : Addr} {xs ys : List V} {f : List PyData → List PyData} (n : npl d = true) (r : Rp K (lay S H F) v d) (hS : ∀ a, S a ↔ a ∈ ad d) (ha : H a = some (.lst xs)) (sa : a ∈ ad d)
    (hf : ∀ ds, RpA K (upd (lay S H F) a (.lst ys)) xs ds → RpA K (upd (lay S H F) a (.lst ys)) ys (f ds)) (hsub : ∀ ds, ∀ b ∈ adA (f ds), b ∈ adA ds) (hnpl : ∀ ds, nplA ds = true → nplA (f ds) = true) :
    npl (mA a f d) = true ∧ Rp K (lay (fun b => b ∈ ad (mA a f d)) (upd H a (.lst ys)) F) v (mA a f d) ∧ ∀ b, b ∈ ad (mA a f d) → S b := by
  have la : lay S H F a = some (.lst xs) := by rw [lay_at ((hS a).mpr sa)]; exact ha
  have hn := npl_mA (a := a) hnpl d n
  have sub : ∀ b, b ∈ ad (mA a f d) → S b := fun b hb => (hS b).mpr (ad_mA hsub d b hb)
  have lS : ∀ b, S b → ∃ zs, lay S H F b = some (.lst zs) := fun b sb => r.ad b ((hS b).mp sb)
  refine ⟨hn, (Rp.mut la hf r n).cut ?_ hn fun b hb => ?_, sub⟩
  · have key : ∀ {b : Addr} {o : HO}, upd (lay S H F) a (.lst ys) b = some o → (∀ zs, o ≠ .lst zs) → lay (fun b => b ∈ ad (mA a f d)) (upd H a (.lst ys)) F b = some o := fun {b o} q no => by
      have ne : b ≠ a := fun e => by subst e; rw [upd_same] at q; cases q; exact no _ rfl
      rw [upd_ne ne] at q
      have nS : ¬ S b := fun sb => by
        obtain ⟨zs, w⟩ := lS b sb
        rw [q] at w; cases w; exact no _ rfl
      unfold lay at q ⊢
      rw [if_neg nS] at q
      rw [if_neg fun h => nS (sub b h)]
      exact q
    refine ⟨fun b zs z => ?_, fun b fs z => key z fun _ w => nomatch w⟩
    rcases z with (z | ⟨o, z⟩) | z
    · exact .inl (.inl (key z fun _ w => nomatch w))
    · exact .inl (.inr ⟨o, key z fun _ w => nomatch w⟩)
    · exact .inr z
  · have sb := sub b hb
    rw [lay_at hb]
    by_cases e : b = a
    · subst e; rw [upd_same, upd_same]
    · rw [upd_ne e, upd_ne e, lay_at sb]
/-- one list of a tree of one's own is changed -/
theorem En.atMut {X : Bs} (hK : X.K = K) {F H : Hp} {σ : L2.St} (E : En X F H σ Γ) {i : Nat} {v : V} {d : PyData} {pn : Option (Addr × List V)} {a : Addr} {es : List PyData} (hi : Γ[i]? = some (.ex v (AtP K d pn))) (ho : Oc a es d) (hp : ∀ q, pn = some q → q.1 ≠ a) :
    ∃ xs, H a = some (.lst xs) ∧ xs.length = es.length ∧ ∀ (ys : List V) (f : List PyData → List PyData), (∀ G ds, Le F G → RpA K G xs ds → RpA K G ys (f ds)) → (∀ ds, ∀ b ∈ adA (f ds), b ∈ adA ds) → (∀ ds, nplA ds = true → nplA (f ds) = true) → (∀ q, pn = some q → q.1 ∈ ad (mA a f d)) → En X F (upd H a (.lst ys)) σ (Γ.set i (.ex v (AtP K (mA a f d) pn))) := by
  obtain ⟨S, hS, hO, km⟩ := E.reown hi
  obtain ⟨ev, hk, n, r, hSa, hpn⟩ := hS
  obtain ⟨xs, hx, rx⟩ := r.oc ho
  have sa := ho.ad
  have ha : H a = some (.lst xs) := by rw [lay_at ((hSa a).mpr sa)] at hx; exact hx
  refine ⟨xs, ha, rx.length, fun ys f hf hsub hnpl hq => ?_⟩
  have fa : F a = none := (hO a ((hSa a).mpr sa)).1
  have lG : Le F (upd (lay S H F) a (.lst ys)) := fun b o q => by
    rw [upd_ne fun e => by subst e; rw [fa] at q; cases q]
    exact lay_le E.le b o q
  obtain ⟨n', r', sub⟩ := AtP.mut n r hSa ha sa (fun ds z => hf _ ds lG z) hsub hnpl
  refine km _ (.ex v (AtP K (mA a f d) pn)) (fun b => b ∈ ad (mA a f d)) (fun c o z w => ?_) (fun c w => ?_) sub ⟨ev, hk, n', r', fun _ => Iff.rfl, fun q e => ⟨hq q e, ?_⟩⟩
  · rw [upd_ne fun e => w (by subst e; exact (hSa c).mpr sa)]; exact z
  · by_cases e : c = a
    · subst e; rw [upd_same]; simp
    · rw [upd_ne e]; exact (hO c w).2
  · rw [upd_ne (hp q e)]; exact (hpn q e).2
theorem ad_mA_mem {a b : Addr} {f : List PyData → List PyData} {d : PyData} (hf : ∀ ds, ∀ b ∈ adA ds, b ∈ adA (f ds)) (n : npl d = true) (h : b ∈ ad d) : b ∈ ad (mA a f d) := by
  have key : ∀ (k : Nat) (d : PyData), sizeOf d < k → npl d = true → b ∈ ad d → b ∈ ad (mA a f d) := by
    intro k
    induction k with
    | zero => intro d hk; omega
    | succ k ih =>
      have ihs : ∀ (ds : List PyData), sizeOf ds < k + 1 → nplA ds = true → b ∈ adA ds → b ∈ adA (mAs a f ds) := by
        intro ds
        induction ds with
        | nil => intro _ _ h; simp [adA] at h
        | cons d ds ih2 =>
          intro hk hn h
          simp only [nplA, Bool.and_eq_true] at hn
          rw [adA_cons] at h
          rw [mAs, adA_cons]
          simp only [List.cons.sizeOf_spec] at hk
          rcases List.mem_append.mp h with z | z
          · exact List.mem_append.mpr (.inl (ih d (by omega) hn.1 z))
          · exact List.mem_append.mpr (.inr (ih2 (by omega) hn.2 z))
      intro d hk hn h
      match d, hk, hn, h with
      | .none, _, _, h => simp [Pk.ad] at h
      | .bool _, _, _, h => simp [Pk.ad] at h
      | .int _, _, _, h => simp [Pk.ad] at h
      | .str _, _, _, h => simp [Pk.ad] at h
      | .list _, _, hn, _ => simp [npl] at hn
      | .tuple ds, hk, hn, h =>
        rw [ad_tup] at h
        rw [npl_tup] at hn
        rw [mA_tup, ad_tup]
        exact ihs ds (by simp only [PyData.tuple.sizeOf_spec] at hk; omega) hn h
      | .dict ps, hk, hn, h =>
        unfold mA
        split
        · rename_i e; cases e
        · rename_i c es e
          injection e with e
          subst e
          have n : nplA es = true := by simpa [npl] using hn
          simp only [Pk.ad] at h ⊢
          rcases List.mem_cons.mp h with z | z
          · rw [z]; exact List.mem_cons_self
          · refine List.mem_cons_of_mem _ ?_
            have hh := ihs es (by simp only [PyData.dict.sizeOf_spec, List.cons.sizeOf_spec, Prod.mk.sizeOf_spec, PyData.list.sizeOf_spec] at hk; omega) n z
            split
            · exact hf _ b hh
            · exact hh
        · exact h
  exact key (sizeOf d + 1) d (by omega) n h
theorem nplA_append {xs ys : List PyData} : nplA (xs ++ ys) = (nplA xs && nplA ys) := by
  simp only [nplA_all, List.all_append]
/-- .append(x) of a list in a tree of one's own -/
theorem sj_atApp {i : Nat} {v : V} {d : PyData} {pn : Option (Addr × List V)} {a : Addr} {es : List PyData} (hi : Γ[i]? = some (.ex v (AtP K d pn))) (ho : Oc a es d) (hp : ∀ q, pn = some q → q.1 ≠ a) (hz : es.length < 100000) (hr : RA K Γ tr a)
    (h : WD K false Γ te fun x => npl x = true ∧ ad x = [] ∧ P.nx (Γ.set i (.ex v (AtP K (mA a (· ++ [x]) d) pn)))) : SJ K Γ (tDrop (tBM K "list" rAppend tr (tCons te tNil))) P := fun X hK F H σ E D hD => by
  refine hr X hK F H σ E _ fun F1 H1 l1 E1 => ?_
  obtain ⟨zs, hz1, _, _⟩ := E1.atMut hK hi ho hp
  refine ⟨.inl ⟨rfl, _, SqL.of hz1⟩, h X hK F1 H1 σ E1 _ fun u F2 H2 x l2 E2 rx ⟨nx, ax, q⟩ => ?_⟩
  obtain ⟨xs, hx, hl, km⟩ := E2.atMut hK hi ho hp
  refine ⟨a, xs, u, rfl, rfl, hx, sz_lt (by rw [hl]; exact hz), hD.nx F2 _ σ _ (km _ (· ++ [x]) (fun G ds le r => r.append (RpA.one (Rp.mono rx le))) (fun ds b hb => ?_) (fun ds hn => by rw [nplA_append, hn]; simp [nplA, nx]) fun q e => ?_) q⟩
  · rw [adA_append, adA_cons, ax, adA_nil] at hb
    simpa using hb
  · obtain ⟨S, hS, _, _⟩ := E2.reown hi
    obtain ⟨_, _, n, _, _, hpn⟩ := hS
    exact ad_mA_mem (fun ds b hb => by rw [adA_append]; exact List.mem_append.mpr (.inl hb)) n (hpn q e).1
/-- a target for what is in a tree of one's own -/
def GW (K : Kw) (Γ : List Sl) (g : TG) (d : PyData) (N : List Sl → Prop) : Prop := ∀ X : Bs, X.K = K → ∀ F H σ, En X F H σ Γ → ∀ v, Rw K F v d → ∀ C : L2.St → Hp → Prop,
  (∀ F' H' σ' Γ', Le F F' → En X F' H' σ' Γ' → N Γ' → C σ' H') → g v σ H C
def GWs (K : Kw) (Γ : List Sl) (g : TGs) (ds : List PyData) (N : List Sl → Prop) : Prop := ∀ X : Bs, X.K = K → ∀ F H σ, En X F H σ Γ → ∀ vs, RwA K F vs ds → ∀ C : L2.St → Hp → Prop,
  (∀ F' H' σ' Γ', Le F F' → En X F' H' σ' Γ' → N Γ' → C σ' H') → g vs σ H C
theorem gw_wk {i : Nat} {d : PyData} {N : List Sl → Prop} (q : ∀ v, N (Γ.set i (.ex v (WkO K d)))) : GW K Γ (gName i) d N := fun X hK F H σ E v r C k => by
  subst hK
  exact k F H _ _ Le.rfl' ((E.pushG (ov := some v) (s := .ex v (WkO X.K d)) (T := fun _ => False) Le.rfl' E.le (fun _ _ q => q) (fun _ _ _ => rfl) ⟨rfl, rfl, r, fun _ z => z⟩ (fun _ z => z.elim)).put i) (q v)
theorem gw_dat {i : Nat} {d : PyData} {N : List Sl → Prop} (hl : lf d = true) (q : N (Γ.set i (.dat false d))) : GW K Γ (gName i) d N := fun X hK F H σ E v r C k => by
  subst hK
  exact k F H _ _ Le.rfl' ((E.pushD (m := false) (r.lf hl)).put i) q
theorem gw_tupl {n : Nat} {gs : TGs} {ds : List PyData} {N : List Sl → Prop} (hn : ds.length = n) (h : GWs K Γ gs ds N) : GW K Γ (gTup K n gs) (.tuple ds) N := fun X hK F H σ E v r C k => by
  obtain ⟨b, xs, rfl, hb, rx⟩ := r.tup_inv
  exact ⟨_, _, rfl, sqT_le E.le hb, by rw [rx.length]; exact hn, h X hK F H σ E _ rx C k⟩
theorem gws_nilW {N : List Sl → Prop} (q : N Γ) : GWs K Γ gNil [] N := fun X hK F H σ E vs r C k => by
  cases r
  exact ⟨rfl, k F H σ Γ Le.rfl' E q⟩
theorem gws_consW {g : TG} {gs : TGs} {d : PyData} {ds : List PyData} {N : List Sl → Prop} (h : GW K Γ g d fun Γ' => GWs K Γ' gs ds N) : GWs K Γ (gCons g gs) (d :: ds) N := fun X hK F H σ E vs r C k => by
  cases r with
  | cons a b => exact ⟨_, _, rfl, h X hK F H σ E _ a _ fun F' H' σ' Γ' lf E' h' => h' X hK F' H' σ' E' _ (b.mono lf.tup) C fun F2 H2 σ2 Γ2 l2 E2 q => k F2 H2 σ2 Γ2 (lf.tr l2) E2 q⟩
end
end Pk
end
section
set_option Elab.async false
set_option linter.all false
set_option maxRecDepth 100000
set_option pp.maxSteps 1000
namespace Pk
open PySem PySem.Spec PyProof.Rows L2
section
variable {K : Kw} {F : Hp} {N : Addr → Prop}
theorem cutN_not {a : Addr} {o : HO} (h : F a = some o) (n : ∀ xs, o ≠ .lst xs) : cutN N F a = some o := by
  unfold cutN
  split
  · rename_i xs e
    rw [h] at e
    cases e
    exact absurd rfl (n xs)
  · exact h
theorem Rp.cutA {v : V} {d : PyData} (h : Rp K F v d) (hn : npl d = true) (ha : ∀ a ∈ Pk.ad d, ¬ N a) : Rp K (cutN N F) v d := h.cut cutN_tup hn fun a m => cutN_at (ha a m)
theorem RpD.cutA {es : NEs} : ∀ {ds : NDs}, RpD K F es ds → (∀ x ∈ ds, Pk.lf x.1.data = true) → (∀ x ∈ ds, npl x.2 = true) → (∀ x ∈ ds, ∀ a ∈ Pk.ad x.2, ¬ N a) → RpD K (cutN N F) es ds := by
  induction es with
  | nil => intro ds h _ _ _; cases h; exact .nil
  | cons e es ih =>
    intro ds h h1 h2 h3
    cases h with
    | cons a b c => exact .cons (Rp.lfree cutN_tup _ (h1 _ List.mem_cons_self) a) (b.cutA (h2 _ List.mem_cons_self) (h3 _ List.mem_cons_self)) (ih c (fun x hx => h1 x (List.mem_cons_of_mem _ hx)) (fun x hx => h2 x (List.mem_cons_of_mem _ hx)) (fun x hx => h3 x (List.mem_cons_of_mem _ hx)))
theorem Rp.cutD {v : V} {ds : NDs} (h : Rp K F v (dictN ds)) (h1 : ∀ x ∈ ds, Pk.lf x.1.data = true) (h2 : ∀ x ∈ ds, npl x.2 = true) (h3 : ∀ x ∈ ds, ∀ a ∈ Pk.ad x.2, ¬ N a) : Rp K (cutN N F) v (dictN ds) := by
  obtain ⟨a, ep, es, rfl, ha, r⟩ := h.dictN_inv
  exact .dcn (cutN_not ha fun xs e => by unfold dN at e; cases e) (r.cutA h1 h2 h3)
end

section
variable {K : Kw} {N : Addr → Prop} {m : Bool} {Γ : List Sl} {P : Po} {t u : TS} {te ti tx td : TE} {QX : Sl → Prop}
/-- the values without addresses -/
def plN (ds : NDs) : NDs := ds.map fun x => (x.1, pl x.2)
theorem RpD.pl {F : Hp} {es : NEs} : ∀ {ds : NDs}, RpD K F es ds → RpD K F es (plN ds) := by
  induction es with
  | nil => intro ds h; cases h; exact .nil
  | cons e es ih =>
    intro ds h
    cases h with
    | cons a b c => exact .cons a b.pl (ih c)
end
end Pk
end
section
set_option Elab.async false
set_option linter.all false
set_option maxRecDepth 100000
set_option pp.maxSteps 1000
namespace Pk
open PySem PySem.Spec PyProof.Rows L2
/-- nothing is told -/
def NilO (K : Kw) : Own where
  K := K
  p := fun _ _ _ S => ∀ a, ¬ S a
  vw := none
  keep := fun n _ _ => n
  keepT := fun _ {_ _ _ _ _ _} n _ _ => n
  view := fun _ _ e => nomatch e
section
variable {K : Kw} {m : Bool} {N : Addr → Prop} {Γ : List Sl} {t te tr ta : TE} {Q : PyData → Prop} {QX : Sl → Prop} {P : Po} {g : TG} {tb ts : TS}
/-- for g in enumerate(a list of a tree of one's own), which stays as it is while its items' lists change -/
theorem sj_forEnAt {i : Nat} {v : V} {d : PyData} {l : Addr} {es : List PyData} (hi : Γ[i]? = some (.ex v (AtO K d))) (ho : Oc l es d) (hn : nplA es = true) (hr : RA K Γ tr l)
    (h : ∀ xs : List V, ∃ I : Nat → List Sl → Prop, I 0 (Γ.set i (.ex v (AtP K d (some (l, xs))))) ∧ (∀ n Γ', I n Γ' → ∃ d', Γ'[i]? = some (.ex v (AtP K d' (some (l, xs)))) ∧ (n = es.length → P.nx (Γ'.set i (.ex v (AtO K d'))))) ∧
      (∀ n y Γ', es[n]? = some y → I n Γ' → GW K Γ' g (.tuple [.int (n : Int), y]) fun Γ2 => SJ K Γ2 tb { P with nx := I (n + 1), ct := I (n + 1), bk := fun _ => False })) : SJ K Γ (tFor (iEnum K (tCons tr tNil)) g tb) P := fun X hK F H σ E D hD => by
  refine hr X hK F H σ E _ fun F1 H1 l1 E1 => ?_
  obtain ⟨S, hS, hO, km⟩ := E1.reown hi
  obtain ⟨ev, hk, n, r, hSa, _⟩ := id hS
  obtain ⟨xs, hx, rx⟩ := r.oc ho
  have sa := ho.ad
  have ha : H1 l = some (.lst xs) := by rw [lay_at ((hSa l).mpr sa)] at hx; exact hx
  have tl : TupLe K (lay S H1 F1) F1 := by
    have key : ∀ {b : Addr} {o : HO}, lay S H1 F1 b = some o → (∀ zs, o ≠ .lst zs) → F1 b = some o := fun {b o} q no => by
      by_cases sb : S b
      · obtain ⟨zs, w⟩ := r.ad b ((hSa b).mp sb)
        rw [q] at w; cases w; exact absurd rfl (no _)
      · unfold lay at q; rw [if_neg sb] at q; exact q
    refine ⟨fun b zs z => ?_, fun b fs z => key z fun _ w => nomatch w⟩
    rcases z with (z | ⟨o, z⟩) | z
    · exact .inl (.inl (key z fun _ w => nomatch w))
    · exact .inl (.inr ⟨o, key z fun _ w => nomatch w⟩)
    · exact .inr z
  have rw0 : RwA K F1 xs es := rx.wk tl hn
  have Ep := km H1 (.ex v (AtP K d (some (l, xs)))) S (fun _ _ z _ => z) (fun a w => (hO a w).2) (fun _ w => w) ⟨ev, hk, n, r, hSa, fun q e => by cases e; exact ⟨sa, ha⟩⟩
  obtain ⟨I, h0, hpin, hs⟩ := h xs
  refine ⟨l, xs, rfl, SqL.of ha, ?_⟩
  obtain ⟨X1, k1, n1, f1, _, Er, back⟩ := Ep.rebase
  have hK1 : X1.K = K := k1.trans hK
  have hlen : xs.length = es.length := rx.length
  have stand : ∀ {n σ' H' F' Γ'}, En X1 F' H' σ' Γ' → I n Γ' → H' l = some (.lst xs) := fun {n σ' H' F' Γ'} E' hI => by
    obtain ⟨d', hg, _⟩ := hpin n Γ' hI
    obtain ⟨S', hs', _, _⟩ := id E'.sl
    obtain ⟨_, _, _, _, _, hpn⟩ := hs' i _ hg
    exact (hpn _ rfl).2
  refine for_it (walk_enum (K := K) (a := l) (xs := xs)) (fun n σ' H' => ∃ F' Γ', En X1 F' H' σ' Γ' ∧ I n Γ') ⟨F1, _, Er, h0⟩ (fun n σ' H' _ ⟨F', Γ', E', hI⟩ => SqL.of (stand E' hI)) (fun n x σ' H' H3 hn ⟨F', Γ', E', hI⟩ hy => ?_) (fun σ' H' ⟨F', Γ', E', hI⟩ => ?_)
  · obtain ⟨T, x1, x2, rfl, nT, rfl, e1, hx'⟩ := hy
    cases e1
    obtain ⟨y, hyd, ry⟩ := rw0.getV hx'
    have l3 : Le F' (upd F' T (.tup [.int ((n : Nat) : Int), x2])) := Le.up (E'.le.nn nT)
    have E3 : En X1 (upd F' T (.tup [.int ((n : Nat) : Int), x2])) (upd H' T (.tup [.int ((n : Nat) : Int), x2])) σ' Γ' := E'.alloc nT
    refine hs n y Γ' hyd hI X1 hK1 _ _ σ' E3 (.ref T) (.tup (SqT.of upd_same) (.cons (.int _) (.cons (ry.mono (Le.tup ((show Le F1 F' by rw [← f1]; exact E'.f0).tr l3))) .nil))) _ fun F4 H4 σ4 Γ4 l4 E4 sj => ?_
    exact sj X1 hK1 F4 H4 σ4 E4 _ ⟨fun F5 H5 σ5 Γ5 E5 q => ⟨F5, Γ5, E5, q⟩, fun F5 H5 σ5 Γ5 v s E5 q => hD.rt F5 H5 σ5 Γ5 v s (back _ _ _ _ E5) q, fun _ _ _ _ _ q => q.elim, fun F5 H5 σ5 Γ5 E5 q => ⟨F5, Γ5, E5, q⟩, fun F5 H5 σ5 Γ5 c o d E5 a q => hD.xc F5 H5 σ5 Γ5 c o d (back _ _ _ _ E5) a q⟩
  · obtain ⟨d', hg, hq⟩ := hpin _ Γ' hI
    have E2 := back _ _ _ _ E'
    obtain ⟨S2, hS2, hO2, km2⟩ := E2.reown hg
    obtain ⟨ev2, hk2, n2, r2, hSa2, _⟩ := hS2
    exact hD.nx F' H' σ' _ (km2 H' (.ex v (AtO K d')) S2 (fun _ _ z _ => z) (fun a w => (hO2 a w).2) (fun _ w => w) ⟨ev2, hk2, n2, r2, hSa2, fun q e => nomatch e⟩) (hq hlen)
/-- an own thing is handed back: the argument is nobody's now -/
theorem sj_retExN {i : Nat} {v : V} {Φ : Own} (hi : Γ[i]? = some (.ex v Φ)) (h : P.rt (.ex v Φ) (Γ.set i (.ex v (NilO K)))) : SJ K Γ (tRet (tVar i)) P := fun X hK F H σ E D hD => by
  subst hK
  have ev := E.ex hi
  have hil : i < Γ.length := (List.getElem?_eq_some_iff.mp hi).1
  have E1 := E.takeE hi
  have hlen : σ.length = Γ.length := E.len
  have h0 : (Γ.set i .no ++ [Sl.ex v Φ])[i]? = some .no := by
    rw [List.getElem?_append_left (by simpa using hil)]
    simp [hil]
  have E2 := E1.retell (s' := .ex v (NilO X.K)) Le.rfl' E1.le (fun _ _ _ _ => rfl) h0 fun S _ q => ⟨fun _ => False, ⟨by
    rw [getD_app (by rw [hlen]; exact hil)]
    simp only [List.getD_eq_getElem?_getD, ev, Option.getD_some], rfl, fun _ z => z⟩, fun _ z => z.elim, fun _ h => absurd rfl h⟩
  have e : (Γ.set i .no ++ [Sl.ex v Φ]).set i (.ex v (NilO X.K)) = Γ.set i (.ex v (NilO X.K)) ++ [.ex v Φ] := by
    rw [List.set_append_left _ _ (by simpa using hil)]
    simp
  rw [e] at E2
  exact ⟨v, ev, hD.rt F H σ _ v _ E2 h⟩
/-- a call with an own thing just made, told otherwise behind it -/
theorem wx_callE {T : List Sl → (List Sl → Sl → Prop) → Prop} {EE : XK} (h : WX K Γ te fun s => ∃ v Φ, s = .ex v Φ ∧ T [.ex v Φ] fun Γa s' => ∃ Φ2, Γa = [.ex v Φ2] ∧ QX s') : WX K Γ (tCall (spD K T) [] EE (tCons te tNil)) QX := fun X hK F H σ E C k =>
  h X hK F H σ E _ fun v F1 H1 s l1 E1 ⟨v', Φ, es, hT⟩ => by
    subst es hK
    have hlen : σ.length = Γ.length := E.len
    have hi : (Γ ++ [Sl.ex v' Φ])[Γ.length]? = some (.ex v' Φ) := by simp
    have ev : v = v' := by
      have := E1.ex hi
      rw [← hlen] at this
      simpa using this
    subst ev
    have hv : (σ ++ [some v])[Γ.length]? = some (some v) := by rw [← hlen]; simp
    obtain ⟨X1, a, b, c, d, e, f⟩ := call_spD rfl E1 (vs := [v]) (as := [.o Γ.length]) (.cons hv .nil) (agsGood_1 hi rfl)
    have hsl : ([Ag.o Γ.length].map (Ag.sl (Γ ++ [Sl.ex v Φ]))) = [.ex v Φ] := by simp [Ag.sl, List.getD_eq_getElem?_getD]
    rw [hsl] at e
    refine ⟨X1, F1, _, _, a, b, c, d, e, hT, fun F' H' z s Γ2 lf se E' ⟨Φ2, e2, q⟩ => ?_⟩
    subst e2
    have E2 := f F' H' z s [.ex v Φ2] (Γ ++ [.ex v Φ2]) lf rfl (by simp) (fun j hj => ?_) (fun k' j hk => ?_) E'
    · have E3 := E2.put Γ.length
      have e1 : (σ ++ [some v]).set Γ.length (some z) = σ ++ [some z] := by rw [← hlen]; simp
      have e3 : (Γ ++ [Sl.ex v Φ2]).set Γ.length s = Γ ++ [s] := by simp
      rw [e1, e3] at E3
      exact k z F' H' s (l1.tr lf) E3 q
    · have hj' : j ≠ Γ.length := fun z => hj 0 (by rw [z]; rfl)
      rcases Nat.lt_or_ge j Γ.length with w | w
      · rw [List.getElem?_append_left w, List.getElem?_append_left w]
      · rw [List.getElem?_eq_none (by simp; omega), List.getElem?_eq_none (by simp; omega)]
    · have hk0 : k' = 0 ∧ j = Γ.length := by
        cases k' with
        | zero => simp at hk; exact ⟨rfl, hk.symm⟩
        | succ k' => simp at hk
      obtain ⟨rfl, rfl⟩ := hk0
      exact ⟨v, Φ, Φ2, hi, rfl, by simp⟩
theorem wd_callE {T : List Sl → (List Sl → Sl → Prop) → Prop} {EE : XK} (h : WX K Γ te fun s => ∃ v Φ, s = .ex v Φ ∧ T [.ex v Φ] fun Γa s' => ∃ Φ2, Γa = [.ex v Φ2] ∧ ∃ d, s'.toD m = some d ∧ Q d) : WD K m Γ (tCall (spD K T) [] EE (tCons te tNil)) Q := .ofX (wx_callE h)
theorem En.lastNewAt {X : Bs} {F H : Hp} {σ : L2.St} (E : En X F H σ Γ) {i : Nat} {l : Addr} {ds : List PyData} (hi : Γ[i]? = some (.ml m l ds)) : l ∉ adA ds := fun z => by
  obtain ⟨xs, _, _, fl, r⟩ := E.ml hi
  obtain ⟨ys, h⟩ := r.ad l z
  rw [X.ff_le F m _ _ h] at fl; cases fl
/-- a list of one's own is frozen, its address told -/
theorem sjt_frzA (i : Nat) {l : Addr} {ds : List PyData} (hi : Γ[i]? = some (.ml m l ds)) (h : l ∉ adA ds → SJt K (Γ.set i (.dat m (listAt l ds))) ts P) : SJt K Γ ts P := fun X hK hT F H σ E D hD => by
  obtain ⟨F', lf, E'⟩ := E.freezeA hi
  exact h (E.lastNewAt hi) X hK hT F' H σ E' D hD
theorem wdg_pl {Q : PyData → List Sl → Prop} (h : WDg K m Γ t fun d Γ' => Q (pl d) Γ') : WDg K m Γ t Q := fun X hK F H σ E C k => h X hK F H σ E C fun v F' H' d Γ' l E' r q => k v F' H' _ Γ' l E' r.pl q
end
end Pk
end
section
set_option Elab.async false
set_option linter.all false
set_option maxRecDepth 100000
set_option pp.maxSteps 1000
namespace Pk
open PySem PySem.Spec PyProof.Rows L2
variable {K : Kw} {m : Bool} {Γ : List Sl} {t te tr ta : TE} {Q : PyData → Prop} {QX : Sl → Prop} {P : Po}
/-- list(a list whose items hold no list): new with all that is in it -/
theorem rcx_listLN {ds : List PyData} (hl : lfA ds = true) (q : ∀ l, QX (.ml true l ds)) : RCX K false Γ (dList K) [.list ds] QX := fun X hK F H σ E vs rv C k => by
  cases rv with
  | cons a b =>
    cases b
    cases a with
    | lst h1 r1 => exact ⟨_, _, rfl, .inl (SqL.of (E.le _ _ h1)), fun p hp => k (.ref p) F _ _ Le.rfl' (E.pushM (m := true) hp (by rw [hK]; exact RpA.lfree Bs.ff_tup _ hl r1)) (q p)⟩
theorem wx_listN (h : WD K false Γ ta fun x => ∃ ds, x = .list ds ∧ lfA ds = true ∧ ∀ l, QX (.ml true l ds)) : WX K Γ (tCB (dList K) (tCons ta tNil)) QX :=
  wx_cb1 false (h.mono fun x ⟨ds, e, hl, q⟩ => by subst e; exact rcx_listLN hl q)
/-- what is told with its addresses is told without -/
theorem En.plV {X : Bs} {F H : Hp} {σ : L2.St} (E : En X F H σ Γ) {i : Nat} {d : PyData} (hi : Γ[i]? = some (.dat m d)) : En X F H σ (Γ.set i (.dat m (pl d))) :=
  E.retell Le.rfl' E.le (fun _ _ _ _ => rfl) hi fun S hS q => by
    obtain ⟨⟨v, e, r⟩, n⟩ := q
    exact ⟨S, ⟨⟨v, e, r.pl⟩, n⟩, fun a sa => absurd sa (n a), fun a h => absurd rfl h⟩
theorem sj_plV (i : Nat) {d : PyData} {ts : TS} (hi : Γ[i]? = some (.dat m d)) (h : SJ K (Γ.set i (.dat m (pl d))) ts P) : SJ K Γ ts P := fun X hK F H σ E D hD => h X hK F H σ (E.plV hi) D hD
end Pk
end
section
set_option Elab.async false
set_option linter.all false
set_option maxRecDepth 100000
namespace Sy
open PySem PySem.Spec PyProof.Rows L2 Pk Pz Ps
def topS (i : Nat) : Stmt := PySem.Challenge.pw_pickruns_k56_rows_taken_out.main.body.getD i (.Pass ⟨0, 0, 0, 0⟩)
theorem room1 {k : Nat} {A : Around} (r : Room k A) : A.units + 1 < cLine := by have := r.un; omega
theorem room65 {k : Nat} {A : Around} (r : Room k A) : A.units + 65 < cLine := by have := r.un; omega
abbrev s_copied_row : Stmt := topS 4
theorem sc_copied_row : FnScope ["row"] ["row"] (defScope s_copied_row) := ⟨rfl, rfl, rfl, by decide +kernel, rfl, by decide +kernel, by decide +kernel⟩
def t_copied_row (K : PySem.W.Frag) : TS :=
  (tSeq (tIfS (tTest (tOp (dEq K) (tOp (rIx K) (tVar 0) (tC (.int 0))) (tC (.str "pick")))) (tRet (tTup (tCons (tOp (rIx K) (tVar 0) (tC (.int 0))) (tCons (tOp (rIx K) (tVar 0) (tC (.int 1))) (tCons (tCB (dList K) (tCons (tOp (rIx K) (tVar 0) (tC (.int 2))) tNil)) tNil))))) tNext)
    (tRet (tVar 0)))
theorem wk_copied_row {P : Program} {w : World} {K : PySem.W.Frag} {mg : Str → Option Value} {base : Heap} {k : Nat} (m_list : mg "list" = none)
    (f : Addr) (cdv : Value) (A : Around) (outer : List Env) (s : Shared) (H : Hp) (E : XK) (hr : Room k (A.deeper (envOfC "copied_row" (defScope s_copied_row) s.heap.objs.size f cdv))) :
    PSs (cxOf CX0 P w K mg base ["row"] "copied_row" (defScope s_copied_row) f cdv A outer s H E).nox (defBody s_copied_row) (t_copied_row K) := by
  have hu : (cxOf CX0 P w K mg base ["row"] "copied_row" (defScope s_copied_row) f cdv A outer s H E).nox.A.units + 64 < cLine := hr.units
  have hu5 : (cxOf CX0 P w K mg base ["row"] "copied_row" (defScope s_copied_row) f cdv A outer s H E).nox.A.units + 65 < cLine := room65 hr
  have hu1 : (cxOf CX0 P w K mg base ["row"] "copied_row" (defScope s_copied_row) f cdv A outer s H E).nox.A.units + 1 < cLine := room1 hr
  unfold t_copied_row
  exact (pss_cons (ps_if (pt_cmpR (o_eq hu) (pe_ix ix_seq (pv 0) pe_int (fun _ _ => rfl)) pe_str (nomark _)) (pss_one (ps_ret (pe_tup (pa_cons (pe_ix ix_seq (pv 0) pe_int (fun _ _ => rfl)) (pa_cons (pe_ix ix_seq (pv 0) pe_int (fun _ _ => rfl)) (pa_cons (pe_callTy o_list (by rfl) m_list (by decide +kernel) (pa_cons (pe_ix ix_seq (pv 0) pe_int (fun _ _ => rfl)) pa_nil)) pa_nil)))))) pss_nil)
    (pss_one (ps_ret (pv 0))))
abbrev s_program_of : Stmt := topS 5
theorem sc_program_of : FnScope ["program", "rows", "row"] ["program", "rows"] (defScope s_program_of) := ⟨rfl, rfl, rfl, by decide +kernel, rfl, by decide +kernel, by decide +kernel⟩
def t_program_of (K : PySem.W.Frag) (sp_copied_row : Sp) : TS :=
  (tRet (tTup (tCons (tOp (rIx K) (tVar 0) (tC (.int 0))) (tCons (tCB (dList K) (tCons (tOp (rIx K) (tVar 0) (tC (.int 1))) tNil)) (tCons (tLc (iList K (tVar 1)) (gName 2) tYes (tCall sp_copied_row [] E0 (tCons (tVar 2) tNil)) [2]) tNil)))))
theorem wk_program_of {P : Program} {w : World} {K : PySem.W.Frag} {mg : Str → Option Value} {base : Heap} {k : Nat} {sp_copied_row : Sp}
    (c_copied_row : Cal P w K mg base CX0 k "copied_row" ["row"] sp_copied_row) (m_list : mg "list" = none)
    (f : Addr) (cdv : Value) (A : Around) (outer : List Env) (s : Shared) (H : Hp) (E : XK) (hr : Room k (A.deeper (envOfC "program_of" (defScope s_program_of) s.heap.objs.size f cdv))) :
    PSs (cxOf CX0 P w K mg base ["program", "rows", "row"] "program_of" (defScope s_program_of) f cdv A outer s H E).nox (defBody s_program_of) (t_program_of K sp_copied_row) := by
  have hu : (cxOf CX0 P w K mg base ["program", "rows", "row"] "program_of" (defScope s_program_of) f cdv A outer s H E).nox.A.units + 64 < cLine := hr.units
  have hu5 : (cxOf CX0 P w K mg base ["program", "rows", "row"] "program_of" (defScope s_program_of) f cdv A outer s H E).nox.A.units + 65 < cLine := room65 hr
  have hu1 : (cxOf CX0 P w K mg base ["program", "rows", "row"] "program_of" (defScope s_program_of) f cdv A outer s H E).nox.A.units + 1 < cLine := room1 hr
  unfold t_program_of
  exact (pss_one (ps_ret (pe_tup (pa_cons (pe_ix ix_seq (pv 0) pe_int (fun _ _ => rfl)) (pa_cons (pe_callTy o_list (by rfl) m_list (by decide +kernel) (pa_cons (pe_ix ix_seq (pv 0) pe_int (fun _ _ => rfl)) pa_nil)) (pa_cons (pe_lc (own := [("row", 2)]) (g := (gName 2)) (tt := tYes) rfl sc_program_of.nd (pi_list (pv 1)) (blkOk_by (N := ["program", "rows", "row"]) (sc := defScope s_program_of) (by decide +kernel)) (fun _ _ _ _ _ => (pg_name (i := 2) sc_program_of.nd rfl (by first | exact Or.inl rfl | exact Or.inr rfl))) (fun _ _ _ _ _ => pts_nil) (fun _ _ _ _ _ => (pe_c c_copied_row hr (by rfl) (pa_cons (pv 2) pa_nil)))) pa_nil))))))
abbrev s_row_behind_out : Stmt := topS 6
theorem sc_row_behind_out : FnScope ["program", "r", "i", "row"] ["program", "r", "i"] (defScope s_row_behind_out) := ⟨rfl, rfl, rfl, by decide +kernel, rfl, by decide +kernel, by decide +kernel⟩
def t_row_behind_out (K : PySem.W.Frag) : TS :=
  (tSeq (tAsg (tOp (rIx K) (tOp (rIx K) (tVar 0) (tC (.int 2))) (tVar 1)) (gName 3))
    (tSeq (tIfS (tOr (tTest (tOp (dNe K) (tOp (rIx K) (tVar 3) (tC (.int 0))) (tC (.str "skip")))) (tTest (tOp dGt (tVar 2) (tOp (dAdd K) (tVar 1) (tOp (rIx K) (tVar 3) (tC (.int 2))))))) (tRet (tVar 3)) tNext)
    (tSeq (tIfS (tTest (tOp (dEq K) (tOp (rIx K) (tVar 3) (tC (.int 2))) (tC (.int 1)))) (tRet (tTup (tCons (tC (.str "set")) (tCons (tOp (rIx K) (tOp (rIx K) (tVar 0) (tC (.int 1))) (tC (.int 0))) (tCons (tTup (tCons (tC (.str "box")) (tCons (tOp (rIx K) (tOp (rIx K) (tVar 0) (tC (.int 1))) (tC (.int 0))) tNil))) tNil))))) tNext)
    (tRet (tTup (tCons (tOp (rIx K) (tVar 3) (tC (.int 0))) (tCons (tOp (rIx K) (tVar 3) (tC (.int 1))) (tCons (tOp dSub (tOp (rIx K) (tVar 3) (tC (.int 2))) (tC (.int 1))) tNil))))))))
theorem wk_row_behind_out {P : Program} {w : World} {K : PySem.W.Frag} {mg : Str → Option Value} {base : Heap} {k : Nat}
    (f : Addr) (cdv : Value) (A : Around) (outer : List Env) (s : Shared) (H : Hp) (E : XK) (hr : Room k (A.deeper (envOfC "row_behind_out" (defScope s_row_behind_out) s.heap.objs.size f cdv))) :
    PSs (cxOf CX0 P w K mg base ["program", "r", "i", "row"] "row_behind_out" (defScope s_row_behind_out) f cdv A outer s H E).nox (defBody s_row_behind_out) (t_row_behind_out K) := by
  have hu : (cxOf CX0 P w K mg base ["program", "r", "i", "row"] "row_behind_out" (defScope s_row_behind_out) f cdv A outer s H E).nox.A.units + 64 < cLine := hr.units
  have hu5 : (cxOf CX0 P w K mg base ["program", "r", "i", "row"] "row_behind_out" (defScope s_row_behind_out) f cdv A outer s H E).nox.A.units + 65 < cLine := room65 hr
  have hu1 : (cxOf CX0 P w K mg base ["program", "r", "i", "row"] "row_behind_out" (defScope s_row_behind_out) f cdv A outer s H E).nox.A.units + 1 < cLine := room1 hr
  unfold t_row_behind_out
  exact (pss_cons (ps_set (i := 3) sc_row_behind_out.nd rfl (by first | exact Or.inl rfl | exact Or.inr rfl) (pe_ix ix_seq (pe_ix ix_seq (pv 0) pe_int (fun _ _ => rfl)) (pv 1) (fun _ _ => rfl)))
    (pss_cons (ps_if (PW.pt (pw_or (pt_cmpR (o_ne hu) (pe_ix ix_seq (pv 3) pe_int (fun _ _ => rfl)) pe_str (nomark _)) (pw_or1 (pt_cmpR o_gt (pv 2) (pe_op o_add (pv 1) (pe_ix ix_seq (pv 3) pe_int (fun _ _ => rfl))) (nomark _))))) (pss_one (ps_ret (pv 3))) pss_nil)
    (pss_cons (ps_if (pt_cmpR (o_eq hu) (pe_ix ix_seq (pv 3) pe_int (fun _ _ => rfl)) pe_int (nomark _)) (pss_one (ps_ret (pe_tup (pa_cons pe_str (pa_cons (pe_ix ix_seq (pe_ix ix_seq (pv 0) pe_int (fun _ _ => rfl)) pe_int (fun _ _ => rfl)) (pa_cons (pe_tup (pa_cons pe_str (pa_cons (pe_ix ix_seq (pe_ix ix_seq (pv 0) pe_int (fun _ _ => rfl)) pe_int (fun _ _ => rfl)) pa_nil))) pa_nil)))))) pss_nil)
    (pss_one (ps_ret (pe_tup (pa_cons (pe_ix ix_seq (pv 3) pe_int (fun _ _ => rfl)) (pa_cons (pe_ix ix_seq (pv 3) pe_int (fun _ _ => rfl)) (pa_cons (pe_op o_sub (pe_ix ix_seq (pv 3) pe_int (fun _ _ => rfl)) pe_int) pa_nil)))))))))
abbrev s_row_out : Stmt := topS 7
theorem sc_row_out : FnScope ["program", "i", "rows", "r"] ["program", "i"] (defScope s_row_out) := ⟨rfl, rfl, rfl, by decide +kernel, rfl, by decide +kernel, by decide +kernel⟩
def t_row_out (K : PySem.W.Frag) (sp_program_of : Sp) (sp_row_behind_out : Sp) : TS :=
  (tSeq (tAsg (tOp (rIx K) (tVar 0) (tC (.int 2))) (gName 2))
    (tSeq (tIfS (tOr (tNot (tB (tCB (rIsD K) (tCons (tVar 1) (tCons (tC (.ty "int")) tNil))))) (tOr (tB (tCB (rIsD K) (tCons (tVar 1) (tCons (tC (.ty "bool")) tNil)))) (tNot (tTest (tChain dLe dLt (tC (.int 0)) (tVar 1) (tCB (dLen K) (tCons (tVar 2) tNil))))))) tNever tNext)
    (tRet (tCall sp_program_of [] E0 (tCons (tVar 0) (tCons (tOp (dAdd K) (tLc (iRng1 (tCons (tVar 1) tNil)) (gName 3) tYes (tCall sp_row_behind_out [] E0 (tCons (tVar 0) (tCons (tVar 3) (tCons (tVar 1) tNil)))) [3]) (tSl (rSlL K) (tVar 2) (tPart (tOp (dAdd K) (tVar 1) (tC (.int 1)))) tNoPart)) tNil))))))
theorem wk_row_out {P : Program} {w : World} {K : PySem.W.Frag} {mg : Str → Option Value} {base : Heap} {k : Nat} {sp_program_of : Sp} {sp_row_behind_out : Sp}
    (c_program_of : Cal P w K mg base CX0 k "program_of" ["program", "rows"] sp_program_of)
    (c_row_behind_out : Cal P w K mg base CX0 k "row_behind_out" ["program", "r", "i"] sp_row_behind_out) (m_range : mg "range" = none) (m_len : mg "len" = none) (m_isinstance : mg "isinstance" = none) (m_bool : mg "bool" = none) (m_int : mg "int" = none)
    (f : Addr) (cdv : Value) (A : Around) (outer : List Env) (s : Shared) (H : Hp) (E : XK) (hr : Room k (A.deeper (envOfC "row_out" (defScope s_row_out) s.heap.objs.size f cdv))) :
    PSs (cxOf CX0 P w K mg base ["program", "i", "rows", "r"] "row_out" (defScope s_row_out) f cdv A outer s H E).nox (defBody s_row_out) (t_row_out K sp_program_of sp_row_behind_out) := by
  have hu : (cxOf CX0 P w K mg base ["program", "i", "rows", "r"] "row_out" (defScope s_row_out) f cdv A outer s H E).nox.A.units + 64 < cLine := hr.units
  have hu5 : (cxOf CX0 P w K mg base ["program", "i", "rows", "r"] "row_out" (defScope s_row_out) f cdv A outer s H E).nox.A.units + 65 < cLine := room65 hr
  have hu1 : (cxOf CX0 P w K mg base ["program", "i", "rows", "r"] "row_out" (defScope s_row_out) f cdv A outer s H E).nox.A.units + 1 < cLine := room1 hr
  unfold t_row_out
  exact (pss_cons (ps_set (i := 2) sc_row_out.nd rfl (by first | exact Or.inl rfl | exact Or.inr rfl) (pe_ix ix_seq (pv 0) pe_int (fun _ _ => rfl)))
    (pss_cons (ps_if (PW.pt (pw_or (pt_not (pt_val (pe_callB call_isD (by rfl) m_isinstance (by decide +kernel) (pa_cons (pv 1) (pa_cons (pe_bltn (by rfl) m_int (by decide +kernel) rfl) pa_nil))))) (pw_or (pt_val (pe_callB call_isD (by rfl) m_isinstance (by decide +kernel) (pa_cons (pv 1) (pa_cons (pe_bltn (by rfl) m_bool (by decide +kernel) rfl) pa_nil)))) (pw_or1 (pt_not (pt_chain o_le o_lt pe_int (pv 1) (pe_callB o_len (by rfl) m_len (by decide +kernel) (pa_cons (pv 2) pa_nil)))))))) (pss_one ps_never) pss_nil)
    (pss_one (ps_ret (pe_c c_program_of hr (by rfl) (pa_cons (pv 0) (pa_cons (pe_op o_add (pe_lc (own := [("r", 3)]) (g := (gName 3)) (tt := tYes) rfl sc_row_out.nd (pi_range1 (by rfl) m_range (pa_cons (pv 1) pa_nil)) (blkOk_by (N := ["program", "i", "rows", "r"]) (sc := defScope s_row_out) (by decide +kernel)) (fun _ _ _ _ _ => (pg_name (i := 3) sc_row_out.nd rfl (by first | exact Or.inl rfl | exact Or.inr rfl))) (fun _ _ _ _ _ => pts_nil) (fun _ _ _ _ _ => (pe_c c_row_behind_out hr (by rfl) (pa_cons (pv 0) (pa_cons (pv 3) (pa_cons (pv 1) pa_nil)))))) (pe_slice sl_list (pv 2) (po_some (pe_op o_add (pv 1) pe_int)) po_none)) pa_nil)))))))
abbrev s_l_pool : Stmt := topS 9
theorem sc_l_pool : FnScope ["script", "k", "cell"] ["script", "k"] (defScope s_l_pool) := ⟨rfl, rfl, rfl, by decide +kernel, rfl, by decide +kernel, by decide +kernel⟩
def t_l_pool (K : PySem.W.Frag) : TS :=
  (tSeq (tAsg (tC (.int 0)) (gName 2))
    (tSeq (tIfS (tTest (tOp dLt (tVar 1) (tCB (dLen K) (tCons (tVar 0) tNil)))) (tAsg (tOp (rIx K) (tVar 0) (tVar 1)) (gName 2)) tNext)
    (tSeq (tIfS (tTest (tOp dGe (tVar 2) (tOp dPow (tC (.int 10)) (tC (.int 18))))) (tRet (tLst (tCons (tOp dSub (tVar 2) (tOp dPow (tC (.int 10)) (tC (.int 18)))) (tCons (tC (.int 1)) (tCons (tC (.int 0)) tNil))))) tNext)
    (tRet (tLst (tCons (tVar 2) (tCons (tC (.int 0)) (tCons (tOp dMul (tC (.int 59)) (tVar 1)) tNil))))))))
theorem wk_l_pool {P : Program} {w : World} {K : PySem.W.Frag} {mg : Str → Option Value} {base : Heap} {k : Nat} (m_len : mg "len" = none)
    (f : Addr) (cdv : Value) (A : Around) (outer : List Env) (s : Shared) (H : Hp) (E : XK) (hr : Room k (A.deeper (envOfC "_law_pool" (defScope s_l_pool) s.heap.objs.size f cdv))) :
    PSs (cxOf CX0 P w K mg base ["script", "k", "cell"] "_law_pool" (defScope s_l_pool) f cdv A outer s H E).nox (defBody s_l_pool) (t_l_pool K) := by
  have hu : (cxOf CX0 P w K mg base ["script", "k", "cell"] "_law_pool" (defScope s_l_pool) f cdv A outer s H E).nox.A.units + 64 < cLine := hr.units
  have hu5 : (cxOf CX0 P w K mg base ["script", "k", "cell"] "_law_pool" (defScope s_l_pool) f cdv A outer s H E).nox.A.units + 65 < cLine := room65 hr
  have hu1 : (cxOf CX0 P w K mg base ["script", "k", "cell"] "_law_pool" (defScope s_l_pool) f cdv A outer s H E).nox.A.units + 1 < cLine := room1 hr
  unfold t_l_pool
  exact (pss_cons (ps_set (i := 2) sc_l_pool.nd rfl (by first | exact Or.inl rfl | exact Or.inr rfl) pe_int)
    (pss_cons (ps_if (pt_cmpR o_lt (pv 1) (pe_callB o_len (by rfl) m_len (by decide +kernel) (pa_cons (pv 0) pa_nil)) (nomark _)) (pss_one (ps_set (i := 2) sc_l_pool.nd rfl (by first | exact Or.inl rfl | exact Or.inr rfl) (pe_ix ix_seq (pv 0) (pv 1) (fun _ _ => rfl)))) pss_nil)
    (pss_cons (ps_if (pt_cmpR o_ge (pv 2) (pe_op o_pow pe_int pe_int) (nomark _)) (pss_one (ps_ret (pe_lst (pa_cons (pe_op o_sub (pv 2) (pe_op o_pow pe_int pe_int)) (pa_cons pe_int (pa_cons pe_int pa_nil)))))) pss_nil)
    (pss_one (ps_ret (pe_lst (pa_cons (pv 2) (pa_cons pe_int (pa_cons (pe_op o_mul pe_int (pv 1)) pa_nil)))))))))
abbrev s_l_take : Stmt := topS 10
theorem sc_l_take : FnScope ["pool", "many", "found", "step", "mark"] ["pool", "many"] (defScope s_l_take) := ⟨rfl, rfl, rfl, by decide +kernel, rfl, by decide +kernel, by decide +kernel⟩
def t_l_take (K : PySem.W.Frag) : TS :=
  (tSeq (tIfS (tTest (tOp (dEq K) (tOp (rIx K) (tVar 0) (tC (.int 1))) (tC (.int 1)))) (tSeq (tAsg (tOp dMod (tOp (rIx K) (tVar 0) (tC (.int 0))) (tVar 1)) (gName 2))
    (tSeq (tAsg (tOp dDiv (tOp (rIx K) (tVar 0) (tC (.int 0))) (tVar 1)) (gSub (tVar 0) (tC (.int 0)) rSetL))
    (tRet (tVar 2)))) tNext)
    (tSeq (tAsg (tOp (dAdd K) (tOp (rIx K) (tVar 0) (tC (.int 2))) (tC (.int 1))) (gSub (tVar 0) (tC (.int 2)) rSetL))
    (tSeq (tAsg (tOp (rIx K) (tVar 0) (tC (.int 2))) (gName 3))
    (tSeq (tAsg (tOp dMul (tOp (dAdd K) (tOp dMod (tOp (rIx K) (tVar 0) (tC (.int 0))) (tC (.int 9999999533))) (tC (.int 1021))) (tOp (dAdd K) (tOp dMul (tC (.int 47)) (tVar 3)) (tC (.int 79)))) (gName 4))
    (tSeq (tAsg (tOp (dAdd K) (tVar 4) (tOp dMul (tOp dMul (tC (.int 3593)) (tVar 3)) (tVar 3))) (gName 4))
    (tSeq (tAsg (tOp dMod (tOp dMul (tVar 4) (tVar 4)) (tC (.int 99999999571))) (gName 4))
    (tRet (tOp dMod (tOp dDiv (tOp dMod (tOp dMul (tVar 4) (tOp (dAdd K) (tVar 4) (tC (.int 61)))) (tC (.int 99999999863))) (tC (.int 109))) (tVar 1)))))))))
theorem wk_l_take {P : Program} {w : World} {K : PySem.W.Frag} {mg : Str → Option Value} {base : Heap} {k : Nat}
    (f : Addr) (cdv : Value) (A : Around) (outer : List Env) (s : Shared) (H : Hp) (E : XK) (hr : Room k (A.deeper (envOfC "_law_take" (defScope s_l_take) s.heap.objs.size f cdv))) :
    PSs (cxOf CX0 P w K mg base ["pool", "many", "found", "step", "mark"] "_law_take" (defScope s_l_take) f cdv A outer s H E).nox (defBody s_l_take) (t_l_take K) := by
  have hu : (cxOf CX0 P w K mg base ["pool", "many", "found", "step", "mark"] "_law_take" (defScope s_l_take) f cdv A outer s H E).nox.A.units + 64 < cLine := hr.units
  have hu5 : (cxOf CX0 P w K mg base ["pool", "many", "found", "step", "mark"] "_law_take" (defScope s_l_take) f cdv A outer s H E).nox.A.units + 65 < cLine := room65 hr
  have hu1 : (cxOf CX0 P w K mg base ["pool", "many", "found", "step", "mark"] "_law_take" (defScope s_l_take) f cdv A outer s H E).nox.A.units + 1 < cLine := room1 hr
  unfold t_l_take
  exact (pss_cons (ps_if (pt_cmpR (o_eq hu) (pe_ix ix_seq (pv 0) pe_int (fun _ _ => rfl)) pe_int (nomark _)) (pss_cons (ps_set (i := 2) sc_l_take.nd rfl (by first | exact Or.inl rfl | exact Or.inr rfl) (pe_op o_mod (pe_ix ix_seq (pv 0) pe_int (fun _ _ => rfl)) (pv 1)))
    (pss_cons (ps_asg (pe_op o_div (pe_ix ix_seq (pv 0) pe_int (fun _ _ => rfl)) (pv 1)) (pg_sub (pv 0) pe_int set_list))
    (pss_one (ps_ret (pv 2))))) pss_nil)
    (pss_cons (ps_asg (pe_op o_add (pe_ix ix_seq (pv 0) pe_int (fun _ _ => rfl)) pe_int) (pg_sub (pv 0) pe_int set_list))
    (pss_cons (ps_set (i := 3) sc_l_take.nd rfl (by first | exact Or.inl rfl | exact Or.inr rfl) (pe_ix ix_seq (pv 0) pe_int (fun _ _ => rfl)))
    (pss_cons (ps_set (i := 4) sc_l_take.nd rfl (by first | exact Or.inl rfl | exact Or.inr rfl) (pe_op o_mul (pe_op o_add (pe_op o_mod (pe_ix ix_seq (pv 0) pe_int (fun _ _ => rfl)) pe_int) pe_int) (pe_op o_add (pe_op o_mul pe_int (pv 3)) pe_int)))
    (pss_cons (ps_set (i := 4) sc_l_take.nd rfl (by first | exact Or.inl rfl | exact Or.inr rfl) (pe_op o_add (pv 4) (pe_op o_mul (pe_op o_mul pe_int (pv 3)) (pv 3))))
    (pss_cons (ps_set (i := 4) sc_l_take.nd rfl (by first | exact Or.inl rfl | exact Or.inr rfl) (pe_op o_mod (pe_op o_mul (pv 4) (pv 4)) pe_int))
    (pss_one (ps_ret (pe_op o_mod (pe_op o_div (pe_op o_mod (pe_op o_mul (pv 4) (pe_op o_add (pv 4) pe_int)) pe_int) pe_int) (pv 1))))))))))
abbrev s_l_boxes : Stmt := topS 11
theorem sc_l_boxes : FnScope ["pool", "many", "letters", "found", "k", "name", "j", "way", "at", "turn"] ["pool", "many"] (defScope s_l_boxes) := ⟨rfl, rfl, rfl, by decide +kernel, rfl, by decide +kernel, by decide +kernel⟩
def t_l_boxes (K : PySem.W.Frag) (sp_l_take : Sp) : TS :=
  (tSeq (tAsg (tC (.str "abcdefghijklmnopqrstuvwxyz")) (gName 2))
    (tSeq (tAsg (tLst tNil) (gName 3))
    (tSeq (tFor (iRng1 (tCons (tVar 1) tNil)) (gName 4) (tSeq (tAsg (tBM K "str" (rJoin K) (tC (.str "")) (tCons (tLc (iRng1 (tCons (tOp (dAdd K) (tC (.int 1)) (tCall sp_l_take [] E0 (tCons (tVar 0) (tCons (tC (.int 8)) tNil)))) tNil)) (gName 6) tYes (tOp (rIx K) (tVar 2) (tCall sp_l_take [] E0 (tCons (tVar 0) (tCons (tC (.int 26)) tNil)))) [6]) tNil)) (gName 5))
    (tSeq (tAsg (tCall sp_l_take [] E0 (tCons (tVar 0) (tCons (tC (.int 4)) tNil))) (gName 7))
    (tSeq (tIfS (tAnd (tTest (tOp (dEq K) (tVar 7) (tC (.int 0)))) (tTest (tOp (dNe K) (tVar 3) (tLst tNil)))) (tSeq (tAsg (tCall sp_l_take [] E0 (tCons (tVar 0) (tCons (tCB (dLen K) (tCons (tOp (rIx K) (tVar 3) (tUn dNeg (tC (.int 1)))) tNil)) tNil))) (gName 8))
    (tAsg (tOp (dAdd K) (tOp (dAdd K) (tSl rSlS (tOp (rIx K) (tVar 3) (tUn dNeg (tC (.int 1)))) tNoPart (tPart (tVar 8))) (tOp (rIx K) (tVar 2) (tCall sp_l_take [] E0 (tCons (tVar 0) (tCons (tC (.int 26)) tNil))))) (tSl rSlS (tOp (rIx K) (tVar 3) (tUn dNeg (tC (.int 1)))) (tPart (tOp (dAdd K) (tVar 8) (tC (.int 1)))) tNoPart)) (gName 5))) tNext)
    (tSeq (tIfS (tTest (tOp (dEq K) (tVar 7) (tC (.int 1)))) (tAsg (tOp (rIx K) (tLst (tCons (tC (.str "need")) (tCons (tC (.str "skip")) (tCons (tC (.str "if")) (tCons (tC (.str "give")) (tCons (tC (.str "a")) (tCons (tC (.str "b")) (tCons (tC (.str "set")) (tCons (tC (.str "pick")) tNil))))))))) (tCall sp_l_take [] E0 (tCons (tVar 0) (tCons (tC (.int 8)) tNil)))) (gName 5)) tNext)
    (tSeq (tAsg (tC (.int 0)) (gName 9))
    (tSeq (tWhile (tTest (tOp (dIn K) (tVar 5) (tVar 3))) (tSeq (tAsg (tOp rMulS (tOp (rIx K) (tVar 2) (tVar 9)) (tC (.int 8))) (gName 5))
    (tAsg (tOp (dAdd K) (tVar 9) (tC (.int 1))) (gName 9))))
    (tDrop (tBM K "list" rAppend (tVar 3) (tCons (tVar 5) tNil))))))))))
    (tRet (tVar 3)))))
theorem wk_l_boxes {P : Program} {w : World} {K : PySem.W.Frag} {mg : Str → Option Value} {base : Heap} {k : Nat} {sp_l_take : Sp}
    (c_l_take : Cal P w K mg base CX0 k "_law_take" ["pool", "many"] sp_l_take) (m_range : mg "range" = none) (m_len : mg "len" = none)
    (f : Addr) (cdv : Value) (A : Around) (outer : List Env) (s : Shared) (H : Hp) (E : XK) (hr : Room k (A.deeper (envOfC "_law_boxes" (defScope s_l_boxes) s.heap.objs.size f cdv))) :
    PSs (cxOf CX0 P w K mg base ["pool", "many", "letters", "found", "k", "name", "j", "way", "at", "turn"] "_law_boxes" (defScope s_l_boxes) f cdv A outer s H E).nox (defBody s_l_boxes) (t_l_boxes K sp_l_take) := by
  have hu : (cxOf CX0 P w K mg base ["pool", "many", "letters", "found", "k", "name", "j", "way", "at", "turn"] "_law_boxes" (defScope s_l_boxes) f cdv A outer s H E).nox.A.units + 64 < cLine := hr.units
  have hu5 : (cxOf CX0 P w K mg base ["pool", "many", "letters", "found", "k", "name", "j", "way", "at", "turn"] "_law_boxes" (defScope s_l_boxes) f cdv A outer s H E).nox.A.units + 65 < cLine := room65 hr
  have hu1 : (cxOf CX0 P w K mg base ["pool", "many", "letters", "found", "k", "name", "j", "way", "at", "turn"] "_law_boxes" (defScope s_l_boxes) f cdv A outer s H E).nox.A.units + 1 < cLine := room1 hr
  unfold t_l_boxes
  exact (pss_cons (ps_set (i := 2) sc_l_boxes.nd rfl (by first | exact Or.inl rfl | exact Or.inr rfl) pe_str)
    (pss_cons (ps_set (i := 3) sc_l_boxes.nd rfl (by first | exact Or.inl rfl | exact Or.inr rfl) (pe_lst pa_nil))
    (pss_cons (ps_for PassesOwn.never rfl (pi_range1 (by rfl) m_range (pa_cons (pv 1) pa_nil)) (pg_name (i := 4) sc_l_boxes.nd rfl (by first | exact Or.inl rfl | exact Or.inr rfl)) (pss_cons (ps_set (i := 5) sc_l_boxes.nd rfl (by first | exact Or.inl rfl | exact Or.inr rfl) (pe_bm PySem.F.plainAttrs_str PySem.F.slot_str_join PySem.F.type_str_join mt_join pe_str (pa_cons (pe_lc (own := [("j", 6)]) (g := (gName 6)) (tt := tYes) rfl sc_l_boxes.nd (pi_range1 (by rfl) m_range (pa_cons (pe_op o_add pe_int (pe_c c_l_take hr (by rfl) (pa_cons (pv 0) (pa_cons pe_int pa_nil)))) pa_nil)) (blkOk_by (N := ["pool", "many", "letters", "found", "k", "name", "j", "way", "at", "turn"]) (sc := defScope s_l_boxes) (by decide +kernel)) (fun _ _ _ _ _ => (pg_name (i := 6) sc_l_boxes.nd rfl (by first | exact Or.inl rfl | exact Or.inr rfl))) (fun _ _ _ _ _ => pts_nil) (fun _ _ _ _ _ => (pe_ix ix_seq (pv 2) (pe_c c_l_take hr (by rfl) (pa_cons (pv 0) (pa_cons pe_int pa_nil))) (fun _ _ => rfl)))) pa_nil)))
    (pss_cons (ps_set (i := 7) sc_l_boxes.nd rfl (by first | exact Or.inl rfl | exact Or.inr rfl) (pe_c c_l_take hr (by rfl) (pa_cons (pv 0) (pa_cons pe_int pa_nil))))
    (pss_cons (ps_if (PW.pt (pw_and (pt_cmpR (o_eq hu) (pv 7) pe_int (nomark _)) (pw_and1 (pt_cmpR (o_ne hu) (pv 3) (pe_lst pa_nil) (nomark _))))) (pss_cons (ps_set (i := 8) sc_l_boxes.nd rfl (by first | exact Or.inl rfl | exact Or.inr rfl) (pe_c c_l_take hr (by rfl) (pa_cons (pv 0) (pa_cons (pe_callB o_len (by rfl) m_len (by decide +kernel) (pa_cons (pe_ix ix_seq (pv 3) (pe_un o_neg pe_int) (fun _ _ => rfl)) pa_nil)) pa_nil))))
    (pss_one (ps_set (i := 5) sc_l_boxes.nd rfl (by first | exact Or.inl rfl | exact Or.inr rfl) (pe_op o_add (pe_op o_add (pe_slice sl_str (pe_ix ix_seq (pv 3) (pe_un o_neg pe_int) (fun _ _ => rfl)) po_none (po_some (pv 8))) (pe_ix ix_seq (pv 2) (pe_c c_l_take hr (by rfl) (pa_cons (pv 0) (pa_cons pe_int pa_nil))) (fun _ _ => rfl))) (pe_slice sl_str (pe_ix ix_seq (pv 3) (pe_un o_neg pe_int) (fun _ _ => rfl)) (po_some (pe_op o_add (pv 8) pe_int)) po_none))))) pss_nil)
    (pss_cons (ps_if (pt_cmpR (o_eq hu) (pv 7) pe_int (nomark _)) (pss_one (ps_set (i := 5) sc_l_boxes.nd rfl (by first | exact Or.inl rfl | exact Or.inr rfl) (pe_ix ix_seq (pe_lst (pa_cons pe_str (pa_cons pe_str (pa_cons pe_str (pa_cons pe_str (pa_cons pe_str (pa_cons pe_str (pa_cons pe_str (pa_cons pe_str pa_nil))))))))) (pe_c c_l_take hr (by rfl) (pa_cons (pv 0) (pa_cons pe_int pa_nil))) (fun _ _ => rfl)))) pss_nil)
    (pss_cons (ps_set (i := 9) sc_l_boxes.nd rfl (by first | exact Or.inl rfl | exact Or.inr rfl) pe_int)
    (pss_cons (ps_while PassesOwn.never (pt_cmpR (o_in hu5) (pv 5) (pv 3) (by rfl)) (pss_cons (ps_set (i := 5) sc_l_boxes.nd rfl (by first | exact Or.inl rfl | exact Or.inr rfl) (pe_op op_mulS (pe_ix ix_seq (pv 2) (pv 9) (fun _ _ => rfl)) pe_int))
    (pss_one (ps_set (i := 9) sc_l_boxes.nd rfl (by first | exact Or.inl rfl | exact Or.inr rfl) (pe_op o_add (pv 9) pe_int)))))
    (pss_one (ps_expr (pe_bm PySem.F.plainAttrs_list PySem.F.slot_list_append PySem.F.type_list_append mt_append (pv 3) (pa_cons (pv 5) pa_nil)))))))))))
    (pss_one (ps_ret (pv 3))))))
abbrev s_l_thing : Stmt := topS 12
theorem sc_l_thing : FnScope ["pool", "m", "boxes", "deep", "way", "one", "word"] ["pool", "m", "boxes", "deep"] (defScope s_l_thing) := ⟨rfl, rfl, rfl, by decide +kernel, rfl, by decide +kernel, by decide +kernel⟩
def t_l_thing (K : PySem.W.Frag) (sp_l_thing : Sp) (sp_l_take : Sp) : TS :=
  (tSeq (tAsg (tCall sp_l_take [] E0 (tCons (tVar 0) (tCons (tC (.int 8)) tNil))) (gName 4))
    (tSeq (tIfS (tOr (tTest (tOp dLt (tVar 4) (tC (.int 2)))) (tAnd (tTest (tOp (dEq K) (tVar 3) (tC (.int 1)))) (tTest (tOp dLt (tVar 4) (tC (.int 4)))))) (tRet (tTup (tCons (tC (.str "number")) (tCons (tOp (rIx K) (tLst (tCons (tCall sp_l_take [] E0 (tCons (tVar 0) (tCons (tVar 1) tNil))) (tCons (tCall sp_l_take [] E0 (tCons (tVar 0) (tCons (tCB (dMin K) (tCons (tVar 1) (tCons (tC (.int 3)) tNil))) tNil))) tNil))) (tCall sp_l_take [] E0 (tCons (tVar 0) (tCons (tC (.int 2)) tNil)))) tNil)))) tNext)
    (tSeq (tIfS (tOr (tTest (tOp dLt (tVar 4) (tC (.int 5)))) (tTest (tOp (dEq K) (tVar 3) (tC (.int 1))))) (tRet (tTup (tCons (tC (.str "box")) (tCons (tOp (rIx K) (tVar 2) (tCall sp_l_take [] E0 (tCons (tVar 0) (tCons (tCB (dLen K) (tCons (tVar 2) tNil)) tNil)))) tNil)))) tNext)
    (tSeq (tAsg (tCall sp_l_thing [] E0 (tCons (tVar 0) (tCons (tVar 1) (tCons (tVar 2) (tCons (tOp dSub (tVar 3) (tC (.int 1))) tNil))))) (gName 5))
    (tSeq (tAsg (tOp (rIx K) (tLst (tCons (tC (.str "plus")) (tCons (tC (.str "plus")) (tCons (tC (.str "times")) (tCons (tC (.str "less")) (tCons (tC (.str "same")) tNil)))))) (tCall sp_l_take [] E0 (tCons (tVar 0) (tCons (tC (.int 5)) tNil)))) (gName 6))
    (tRet (tTup (tCons (tVar 6) (tCons (tVar 5) (tCons (tCall sp_l_thing [] E0 (tCons (tVar 0) (tCons (tVar 1) (tCons (tVar 2) (tCons (tOp dSub (tVar 3) (tC (.int 1))) tNil))))) tNil))))))))))
theorem wk_l_thing {P : Program} {w : World} {K : PySem.W.Frag} {mg : Str → Option Value} {base : Heap} {k : Nat} {sp_l_thing : Sp} {sp_l_take : Sp}
    (c_l_thing : Cal P w K mg base CX0 k "_law_thing" ["pool", "m", "boxes", "deep"] sp_l_thing)
    (c_l_take : Cal P w K mg base CX0 k "_law_take" ["pool", "many"] sp_l_take) (m_len : mg "len" = none) (m_min : mg "min" = none)
    (f : Addr) (cdv : Value) (A : Around) (outer : List Env) (s : Shared) (H : Hp) (E : XK) (hr : Room k (A.deeper (envOfC "_law_thing" (defScope s_l_thing) s.heap.objs.size f cdv))) :
    PSs (cxOf CX0 P w K mg base ["pool", "m", "boxes", "deep", "way", "one", "word"] "_law_thing" (defScope s_l_thing) f cdv A outer s H E).nox (defBody s_l_thing) (t_l_thing K sp_l_thing sp_l_take) := by
  have hu : (cxOf CX0 P w K mg base ["pool", "m", "boxes", "deep", "way", "one", "word"] "_law_thing" (defScope s_l_thing) f cdv A outer s H E).nox.A.units + 64 < cLine := hr.units
  have hu5 : (cxOf CX0 P w K mg base ["pool", "m", "boxes", "deep", "way", "one", "word"] "_law_thing" (defScope s_l_thing) f cdv A outer s H E).nox.A.units + 65 < cLine := room65 hr
  have hu1 : (cxOf CX0 P w K mg base ["pool", "m", "boxes", "deep", "way", "one", "word"] "_law_thing" (defScope s_l_thing) f cdv A outer s H E).nox.A.units + 1 < cLine := room1 hr
  unfold t_l_thing
  exact (pss_cons (ps_set (i := 4) sc_l_thing.nd rfl (by first | exact Or.inl rfl | exact Or.inr rfl) (pe_c c_l_take hr (by rfl) (pa_cons (pv 0) (pa_cons pe_int pa_nil))))
    (pss_cons (ps_if (PW.pt (pw_or (pt_cmpR o_lt (pv 4) pe_int (nomark _)) (pw_or1 (PW.pt (pw_and (pt_cmpR (o_eq hu) (pv 3) pe_int (nomark _)) (pw_and1 (pt_cmpR o_lt (pv 4) pe_int (nomark _)))))))) (pss_one (ps_ret (pe_tup (pa_cons pe_str (pa_cons (pe_ix ix_seq (pe_lst (pa_cons (pe_c c_l_take hr (by rfl) (pa_cons (pv 0) (pa_cons (pv 1) pa_nil))) (pa_cons (pe_c c_l_take hr (by rfl) (pa_cons (pv 0) (pa_cons (pe_callB (o_min rfl) (by rfl) m_min (by decide +kernel) (pa_cons (pv 1) (pa_cons pe_int pa_nil))) pa_nil))) pa_nil))) (pe_c c_l_take hr (by rfl) (pa_cons (pv 0) (pa_cons pe_int pa_nil))) (fun _ _ => rfl)) pa_nil))))) pss_nil)
    (pss_cons (ps_if (PW.pt (pw_or (pt_cmpR o_lt (pv 4) pe_int (nomark _)) (pw_or1 (pt_cmpR (o_eq hu) (pv 3) pe_int (nomark _))))) (pss_one (ps_ret (pe_tup (pa_cons pe_str (pa_cons (pe_ix ix_seq (pv 2) (pe_c c_l_take hr (by rfl) (pa_cons (pv 0) (pa_cons (pe_callB o_len (by rfl) m_len (by decide +kernel) (pa_cons (pv 2) pa_nil)) pa_nil))) (fun _ _ => rfl)) pa_nil))))) pss_nil)
    (pss_cons (ps_set (i := 5) sc_l_thing.nd rfl (by first | exact Or.inl rfl | exact Or.inr rfl) (pe_c c_l_thing hr (by rfl) (pa_cons (pv 0) (pa_cons (pv 1) (pa_cons (pv 2) (pa_cons (pe_op o_sub (pv 3) pe_int) pa_nil))))))
    (pss_cons (ps_set (i := 6) sc_l_thing.nd rfl (by first | exact Or.inl rfl | exact Or.inr rfl) (pe_ix ix_seq (pe_lst (pa_cons pe_str (pa_cons pe_str (pa_cons pe_str (pa_cons pe_str (pa_cons pe_str pa_nil)))))) (pe_c c_l_take hr (by rfl) (pa_cons (pv 0) (pa_cons pe_int pa_nil))) (fun _ _ => rfl)))
    (pss_one (ps_ret (pe_tup (pa_cons (pv 6) (pa_cons (pv 5) (pa_cons (pe_c c_l_thing hr (by rfl) (pa_cons (pv 0) (pa_cons (pv 1) (pa_cons (pv 2) (pa_cons (pe_op o_sub (pv 3) pe_int) pa_nil))))) pa_nil)))))))))))
abbrev s_l_row : Stmt := topS 13
theorem sc_l_row : FnScope ["pool", "m", "boxes", "way", "deep", "things", "k"] ["pool", "m", "boxes"] (defScope s_l_row) := ⟨rfl, rfl, rfl, by decide +kernel, rfl, by decide +kernel, by decide +kernel⟩
def t_l_row (K : PySem.W.Frag) (sp_l_thing : Sp) (sp_l_take : Sp) : TS :=
  (tSeq (tAsg (tCall sp_l_take [] E0 (tCons (tVar 0) (tCons (tC (.int 8)) tNil))) (gName 3))
    (tSeq (tAsg (tOp (rIx K) (tLst (tCons (tC (.int 1)) (tCons (tC (.int 2)) (tCons (tC (.int 2)) (tCons (tC (.int 4)) tNil))))) (tCall sp_l_take [] E0 (tCons (tVar 0) (tCons (tC (.int 4)) tNil)))) (gName 4))
    (tSeq (tIfS (tTest (tOp dLt (tVar 3) (tC (.int 2)))) (tRet (tTup (tCons (tC (.str "set")) (tCons (tOp (rIx K) (tVar 2) (tCall sp_l_take [] E0 (tCons (tVar 0) (tCons (tCB (dLen K) (tCons (tVar 2) tNil)) tNil)))) (tCons (tCall sp_l_thing [] E0 (tCons (tVar 0) (tCons (tVar 1) (tCons (tVar 2) (tCons (tVar 4) tNil))))) tNil))))) tNext)
    (tSeq (tIfS (tTest (tOp dLt (tVar 3) (tC (.int 4)))) (tSeq (tAsg (tLc (iRng1 (tCons (tOp (dAdd K) (tC (.int 1)) (tCall sp_l_take [] E0 (tCons (tVar 0) (tCons (tOp (rIx K) (tLst (tCons (tC (.int 3)) (tCons (tC (.int 5)) tNil))) (tCall sp_l_take [] E0 (tCons (tVar 0) (tCons (tC (.int 2)) tNil)))) tNil)))) tNil)) (gName 6) tYes (tCall sp_l_thing [] E0 (tCons (tVar 0) (tCons (tVar 1) (tCons (tVar 2) (tCons (tVar 4) tNil))))) [6]) (gName 5))
    (tRet (tTup (tCons (tC (.str "pick")) (tCons (tOp (rIx K) (tVar 2) (tCall sp_l_take [] E0 (tCons (tVar 0) (tCons (tCB (dLen K) (tCons (tVar 2) tNil)) tNil)))) (tCons (tVar 5) tNil)))))) tNext)
    (tSeq (tIfS (tTest (tOp (dEq K) (tVar 3) (tC (.int 4)))) (tRet (tTup (tCons (tC (.str "need")) (tCons (tCall sp_l_thing [] E0 (tCons (tVar 0) (tCons (tVar 1) (tCons (tVar 2) (tCons (tVar 4) tNil))))) tNil)))) tNext)
    (tSeq (tIfS (tTest (tOp dLt (tVar 3) (tC (.int 7)))) (tRet (tTup (tCons (tC (.str "skip")) (tCons (tCall sp_l_thing [] E0 (tCons (tVar 0) (tCons (tVar 1) (tCons (tVar 2) (tCons (tVar 4) tNil))))) (tCons (tOp (dAdd K) (tC (.int 1)) (tCall sp_l_take [] E0 (tCons (tVar 0) (tCons (tOp (rIx K) (tLst (tCons (tC (.int 3)) (tCons (tC (.int 30)) tNil))) (tCall sp_l_take [] E0 (tCons (tVar 0) (tCons (tC (.int 2)) tNil)))) tNil)))) tNil))))) tNext)
    (tRet (tTup (tCons (tC (.str "give")) (tCons (tCall sp_l_thing [] E0 (tCons (tVar 0) (tCons (tVar 1) (tCons (tVar 2) (tCons (tVar 4) tNil))))) tNil))))))))))
theorem wk_l_row {P : Program} {w : World} {K : PySem.W.Frag} {mg : Str → Option Value} {base : Heap} {k : Nat} {sp_l_thing : Sp} {sp_l_take : Sp}
    (c_l_thing : Cal P w K mg base CX0 k "_law_thing" ["pool", "m", "boxes", "deep"] sp_l_thing)
    (c_l_take : Cal P w K mg base CX0 k "_law_take" ["pool", "many"] sp_l_take) (m_len : mg "len" = none) (m_range : mg "range" = none)
    (f : Addr) (cdv : Value) (A : Around) (outer : List Env) (s : Shared) (H : Hp) (E : XK) (hr : Room k (A.deeper (envOfC "_law_row" (defScope s_l_row) s.heap.objs.size f cdv))) :
    PSs (cxOf CX0 P w K mg base ["pool", "m", "boxes", "way", "deep", "things", "k"] "_law_row" (defScope s_l_row) f cdv A outer s H E).nox (defBody s_l_row) (t_l_row K sp_l_thing sp_l_take) := by
  have hu : (cxOf CX0 P w K mg base ["pool", "m", "boxes", "way", "deep", "things", "k"] "_law_row" (defScope s_l_row) f cdv A outer s H E).nox.A.units + 64 < cLine := hr.units
  have hu5 : (cxOf CX0 P w K mg base ["pool", "m", "boxes", "way", "deep", "things", "k"] "_law_row" (defScope s_l_row) f cdv A outer s H E).nox.A.units + 65 < cLine := room65 hr
  have hu1 : (cxOf CX0 P w K mg base ["pool", "m", "boxes", "way", "deep", "things", "k"] "_law_row" (defScope s_l_row) f cdv A outer s H E).nox.A.units + 1 < cLine := room1 hr
  unfold t_l_row
  exact (pss_cons (ps_set (i := 3) sc_l_row.nd rfl (by first | exact Or.inl rfl | exact Or.inr rfl) (pe_c c_l_take hr (by rfl) (pa_cons (pv 0) (pa_cons pe_int pa_nil))))
    (pss_cons (ps_set (i := 4) sc_l_row.nd rfl (by first | exact Or.inl rfl | exact Or.inr rfl) (pe_ix ix_seq (pe_lst (pa_cons pe_int (pa_cons pe_int (pa_cons pe_int (pa_cons pe_int pa_nil))))) (pe_c c_l_take hr (by rfl) (pa_cons (pv 0) (pa_cons pe_int pa_nil))) (fun _ _ => rfl)))
    (pss_cons (ps_if (pt_cmpR o_lt (pv 3) pe_int (nomark _)) (pss_one (ps_ret (pe_tup (pa_cons pe_str (pa_cons (pe_ix ix_seq (pv 2) (pe_c c_l_take hr (by rfl) (pa_cons (pv 0) (pa_cons (pe_callB o_len (by rfl) m_len (by decide +kernel) (pa_cons (pv 2) pa_nil)) pa_nil))) (fun _ _ => rfl)) (pa_cons (pe_c c_l_thing hr (by rfl) (pa_cons (pv 0) (pa_cons (pv 1) (pa_cons (pv 2) (pa_cons (pv 4) pa_nil))))) pa_nil)))))) pss_nil)
    (pss_cons (ps_if (pt_cmpR o_lt (pv 3) pe_int (nomark _)) (pss_cons (ps_setLc (i := 5) (own := [("k", 6)]) (g := (gName 6)) (tt := tYes) rfl sc_l_row.nd rfl rfl (sw_true rfl rfl rfl (by decide +kernel)) (pi_range1 (by rfl) m_range (pa_cons (pe_op o_add pe_int (pe_c c_l_take hr (by rfl) (pa_cons (pv 0) (pa_cons (pe_ix ix_seq (pe_lst (pa_cons pe_int (pa_cons pe_int pa_nil))) (pe_c c_l_take hr (by rfl) (pa_cons (pv 0) (pa_cons pe_int pa_nil))) (fun _ _ => rfl)) pa_nil)))) pa_nil)) (blkOk_by (N := ["pool", "m", "boxes", "way", "deep", "things", "k"]) (sc := defScope s_l_row) (by decide +kernel)) (fun _ _ _ _ _ => (pg_name (i := 6) sc_l_row.nd rfl (by first | exact Or.inl rfl | exact Or.inr rfl))) (fun _ _ _ _ _ => pts_nil) (fun _ _ _ _ _ => (pe_c c_l_thing hr (by rfl) (pa_cons (pv 0) (pa_cons (pv 1) (pa_cons (pv 2) (pa_cons (pv 4) pa_nil)))))))
    (pss_one (ps_ret (pe_tup (pa_cons pe_str (pa_cons (pe_ix ix_seq (pv 2) (pe_c c_l_take hr (by rfl) (pa_cons (pv 0) (pa_cons (pe_callB o_len (by rfl) m_len (by decide +kernel) (pa_cons (pv 2) pa_nil)) pa_nil))) (fun _ _ => rfl)) (pa_cons (pv 5) pa_nil))))))) pss_nil)
    (pss_cons (ps_if (pt_cmpR (o_eq hu) (pv 3) pe_int (nomark _)) (pss_one (ps_ret (pe_tup (pa_cons pe_str (pa_cons (pe_c c_l_thing hr (by rfl) (pa_cons (pv 0) (pa_cons (pv 1) (pa_cons (pv 2) (pa_cons (pv 4) pa_nil))))) pa_nil))))) pss_nil)
    (pss_cons (ps_if (pt_cmpR o_lt (pv 3) pe_int (nomark _)) (pss_one (ps_ret (pe_tup (pa_cons pe_str (pa_cons (pe_c c_l_thing hr (by rfl) (pa_cons (pv 0) (pa_cons (pv 1) (pa_cons (pv 2) (pa_cons (pv 4) pa_nil))))) (pa_cons (pe_op o_add pe_int (pe_c c_l_take hr (by rfl) (pa_cons (pv 0) (pa_cons (pe_ix ix_seq (pe_lst (pa_cons pe_int (pa_cons pe_int pa_nil))) (pe_c c_l_take hr (by rfl) (pa_cons (pv 0) (pa_cons pe_int pa_nil))) (fun _ _ => rfl)) pa_nil)))) pa_nil)))))) pss_nil)
    (pss_one (ps_ret (pe_tup (pa_cons pe_str (pa_cons (pe_c c_l_thing hr (by rfl) (pa_cons (pv 0) (pa_cons (pv 1) (pa_cons (pv 2) (pa_cons (pv 4) pa_nil))))) pa_nil)))))))))))
abbrev s_l_sizes : Stmt := topS 14
abbrev s_l_program : Stmt := topS 15
theorem sc_l_program : FnScope ["pool", "sizes", "most", "m", "many", "boxes", "rows", "k"] ["pool", "sizes", "most"] (defScope s_l_program) := ⟨rfl, rfl, rfl, by decide +kernel, rfl, by decide +kernel, by decide +kernel⟩
def t_l_program (K : PySem.W.Frag) (sp_l_take : Sp) (sp_l_thing : Sp) (sp_l_row : Sp) (sp_l_boxes : Sp) : TS :=
  (tSeq (tAsg (tVar 1) (gTup K 2 (gCons (gName 3) (gCons (gName 4) gNil))))
    (tSeq (tAsg (tCall sp_l_boxes [] E0 (tCons (tVar 0) (tCons (tVar 4) tNil))) (gName 5))
    (tSeq (tAsg (tLc (iRng1 (tCons (tCall sp_l_take [] E0 (tCons (tVar 0) (tCons (tOp (dAdd K) (tVar 2) (tC (.int 1))) tNil))) tNil)) (gName 7) tYes (tCall sp_l_row [] E0 (tCons (tVar 0) (tCons (tVar 3) (tCons (tVar 5) tNil)))) [7]) (gName 6))
    (tSeq (tIfS (tTest (tOp dGt (tCall sp_l_take [] E0 (tCons (tVar 0) (tCons (tC (.int 4)) tNil))) (tC (.int 0)))) (tAsg (tOp (dAdd K) (tSl (rSlL K) (tVar 6) tNoPart (tPart (tOp dSub (tVar 2) (tC (.int 1))))) (tLst (tCons (tTup (tCons (tC (.str "give")) (tCons (tCall sp_l_thing [] E0 (tCons (tVar 0) (tCons (tVar 3) (tCons (tVar 5) (tCons (tC (.int 2)) tNil))))) tNil))) tNil))) (gName 6)) tNext)
    (tRet (tTup (tCons (tVar 3) (tCons (tVar 5) (tCons (tVar 6) tNil)))))))))
theorem wk_l_program {P : Program} {w : World} {K : PySem.W.Frag} {mg : Str → Option Value} {base : Heap} {k : Nat} {sp_l_take : Sp} {sp_l_thing : Sp} {sp_l_row : Sp} {sp_l_boxes : Sp}
    (c_l_take : Cal P w K mg base CX0 k "_law_take" ["pool", "many"] sp_l_take)
    (c_l_thing : Cal P w K mg base CX0 k "_law_thing" ["pool", "m", "boxes", "deep"] sp_l_thing)
    (c_l_row : Cal P w K mg base CX0 k "_law_row" ["pool", "m", "boxes"] sp_l_row)
    (c_l_boxes : Cal P w K mg base CX0 k "_law_boxes" ["pool", "many"] sp_l_boxes) (m_range : mg "range" = none)
    (f : Addr) (cdv : Value) (A : Around) (outer : List Env) (s : Shared) (H : Hp) (E : XK) (hr : Room k (A.deeper (envOfC "_law_program" (defScope s_l_program) s.heap.objs.size f cdv))) :
    PSs (cxOf CX0 P w K mg base ["pool", "sizes", "most", "m", "many", "boxes", "rows", "k"] "_law_program" (defScope s_l_program) f cdv A outer s H E).nox (defBody s_l_program) (t_l_program K sp_l_take sp_l_thing sp_l_row sp_l_boxes) := by
  have hu : (cxOf CX0 P w K mg base ["pool", "sizes", "most", "m", "many", "boxes", "rows", "k"] "_law_program" (defScope s_l_program) f cdv A outer s H E).nox.A.units + 64 < cLine := hr.units
  have hu5 : (cxOf CX0 P w K mg base ["pool", "sizes", "most", "m", "many", "boxes", "rows", "k"] "_law_program" (defScope s_l_program) f cdv A outer s H E).nox.A.units + 65 < cLine := room65 hr
  have hu1 : (cxOf CX0 P w K mg base ["pool", "sizes", "most", "m", "many", "boxes", "rows", "k"] "_law_program" (defScope s_l_program) f cdv A outer s H E).nox.A.units + 1 < cLine := room1 hr
  unfold t_l_program
  exact (pss_cons (ps_asg (pv 1) (pg_tup rfl (pgs_cons (pg_name (i := 3) sc_l_program.nd rfl (by first | exact Or.inl rfl | exact Or.inr rfl)) (pgs_cons (pg_name (i := 4) sc_l_program.nd rfl (by first | exact Or.inl rfl | exact Or.inr rfl)) pgs_nil))))
    (pss_cons (ps_set (i := 5) sc_l_program.nd rfl (by first | exact Or.inl rfl | exact Or.inr rfl) (pe_c c_l_boxes hr (by rfl) (pa_cons (pv 0) (pa_cons (pv 4) pa_nil))))
    (pss_cons (ps_setLc (i := 6) (own := [("k", 7)]) (g := (gName 7)) (tt := tYes) rfl sc_l_program.nd rfl rfl (sw_true rfl rfl rfl (by decide +kernel)) (pi_range1 (by rfl) m_range (pa_cons (pe_c c_l_take hr (by rfl) (pa_cons (pv 0) (pa_cons (pe_op o_add (pv 2) pe_int) pa_nil))) pa_nil)) (blkOk_by (N := ["pool", "sizes", "most", "m", "many", "boxes", "rows", "k"]) (sc := defScope s_l_program) (by decide +kernel)) (fun _ _ _ _ _ => (pg_name (i := 7) sc_l_program.nd rfl (by first | exact Or.inl rfl | exact Or.inr rfl))) (fun _ _ _ _ _ => pts_nil) (fun _ _ _ _ _ => (pe_c c_l_row hr (by rfl) (pa_cons (pv 0) (pa_cons (pv 3) (pa_cons (pv 5) pa_nil))))))
    (pss_cons (ps_if (pt_cmpR o_gt (pe_c c_l_take hr (by rfl) (pa_cons (pv 0) (pa_cons pe_int pa_nil))) pe_int (nomark _)) (pss_one (ps_set (i := 6) sc_l_program.nd rfl (by first | exact Or.inl rfl | exact Or.inr rfl) (pe_op o_add (pe_slice sl_list (pv 6) po_none (po_some (pe_op o_sub (pv 2) pe_int))) (pe_lst (pa_cons (pe_tup (pa_cons pe_str (pa_cons (pe_c c_l_thing hr (by rfl) (pa_cons (pv 0) (pa_cons (pv 3) (pa_cons (pv 5) (pa_cons pe_int pa_nil))))) pa_nil))) pa_nil))))) pss_nil)
    (pss_one (ps_ret (pe_tup (pa_cons (pv 3) (pa_cons (pv 5) (pa_cons (pv 6) pa_nil))))))))))
abbrev s_l_near : Stmt := topS 16
abbrev s_l_copy : Stmt := topS 17
theorem sc_l_copy : FnScope ["program", "rows", "row"] ["program"] (defScope s_l_copy) := ⟨rfl, rfl, rfl, by decide +kernel, rfl, by decide +kernel, by decide +kernel⟩
def t_l_copy (K : PySem.W.Frag) : TS :=
  (tSeq (tAsg (tLst tNil) (gName 1))
    (tSeq (tFor (iList K (tOp (rIx K) (tVar 0) (tC (.int 2)))) (gName 2) (tSeq (tIfS (tTest (tOp (dEq K) (tOp (rIx K) (tVar 2) (tC (.int 0))) (tC (.str "pick")))) (tAsg (tTup (tCons (tC (.str "pick")) (tCons (tOp (rIx K) (tVar 2) (tC (.int 1))) (tCons (tCB (dList K) (tCons (tOp (rIx K) (tVar 2) (tC (.int 2))) tNil)) tNil)))) (gName 2)) tNext)
    (tDrop (tBM K "list" rAppend (tVar 1) (tCons (tVar 2) tNil)))))
    (tRet (tTup (tCons (tOp (rIx K) (tVar 0) (tC (.int 0))) (tCons (tCB (dList K) (tCons (tOp (rIx K) (tVar 0) (tC (.int 1))) tNil)) (tCons (tVar 1) tNil)))))))
theorem wk_l_copy {P : Program} {w : World} {K : PySem.W.Frag} {mg : Str → Option Value} {base : Heap} {k : Nat} (m_list : mg "list" = none)
    (f : Addr) (cdv : Value) (A : Around) (outer : List Env) (s : Shared) (H : Hp) (E : XK) (hr : Room k (A.deeper (envOfC "_law_copy" (defScope s_l_copy) s.heap.objs.size f cdv))) :
    PSs (cxOf CX0 P w K mg base ["program", "rows", "row"] "_law_copy" (defScope s_l_copy) f cdv A outer s H E).nox (defBody s_l_copy) (t_l_copy K) := by
  have hu : (cxOf CX0 P w K mg base ["program", "rows", "row"] "_law_copy" (defScope s_l_copy) f cdv A outer s H E).nox.A.units + 64 < cLine := hr.units
  have hu5 : (cxOf CX0 P w K mg base ["program", "rows", "row"] "_law_copy" (defScope s_l_copy) f cdv A outer s H E).nox.A.units + 65 < cLine := room65 hr
  have hu1 : (cxOf CX0 P w K mg base ["program", "rows", "row"] "_law_copy" (defScope s_l_copy) f cdv A outer s H E).nox.A.units + 1 < cLine := room1 hr
  unfold t_l_copy
  exact (pss_cons (ps_set (i := 1) sc_l_copy.nd rfl (by first | exact Or.inl rfl | exact Or.inr rfl) (pe_lst pa_nil))
    (pss_cons (ps_for PassesOwn.never rfl (pi_list (pe_ix ix_seq (pv 0) pe_int (fun _ _ => rfl))) (pg_name (i := 2) sc_l_copy.nd rfl (by first | exact Or.inl rfl | exact Or.inr rfl)) (pss_cons (ps_if (pt_cmpR (o_eq hu) (pe_ix ix_seq (pv 2) pe_int (fun _ _ => rfl)) pe_str (nomark _)) (pss_one (ps_set (i := 2) sc_l_copy.nd rfl (by first | exact Or.inl rfl | exact Or.inr rfl) (pe_tup (pa_cons pe_str (pa_cons (pe_ix ix_seq (pv 2) pe_int (fun _ _ => rfl)) (pa_cons (pe_callTy o_list (by rfl) m_list (by decide +kernel) (pa_cons (pe_ix ix_seq (pv 2) pe_int (fun _ _ => rfl)) pa_nil)) pa_nil)))))) pss_nil)
    (pss_one (ps_expr (pe_bm PySem.F.plainAttrs_list PySem.F.slot_list_append PySem.F.type_list_append mt_append (pv 1) (pa_cons (pv 2) pa_nil))))))
    (pss_one (ps_ret (pe_tup (pa_cons (pe_ix ix_seq (pv 0) pe_int (fun _ _ => rfl)) (pa_cons (pe_callTy o_list (by rfl) m_list (by decide +kernel) (pa_cons (pe_ix ix_seq (pv 0) pe_int (fun _ _ => rfl)) pa_nil)) (pa_cons (pv 1) pa_nil))))))))
abbrev s_l_without : Stmt := topS 18
theorem sc_l_without : FnScope ["program", "i", "m", "boxes", "rows", "found", "r", "row"] ["program", "i"] (defScope s_l_without) := ⟨rfl, rfl, rfl, by decide +kernel, rfl, by decide +kernel, by decide +kernel⟩
def t_l_without (K : PySem.W.Frag) : TS :=
  (tSeq (tAsg (tVar 0) (gTup K 3 (gCons (gName 2) (gCons (gName 3) (gCons (gName 4) gNil)))))
    (tSeq (tAsg (tLst tNil) (gName 5))
    (tSeq (tFor (iEnum K (tCons (tVar 4) tNil)) (gTup K 2 (gCons (gName 6) (gCons (gName 7) gNil))) (tSeq (tIfS (tAnd (tTest (tOp (dEq K) (tOp (rIx K) (tVar 7) (tC (.int 0))) (tC (.str "skip")))) (tTest (tChain dLt dLe (tVar 6) (tVar 1) (tOp (dAdd K) (tVar 6) (tOp (rIx K) (tVar 7) (tC (.int 2))))))) (tAsg (tOp (rIx K) (tLst (tCons (tTup (tCons (tC (.str "skip")) (tCons (tOp (rIx K) (tVar 7) (tC (.int 1))) (tCons (tOp dSub (tOp (rIx K) (tVar 7) (tC (.int 2))) (tC (.int 1))) tNil)))) (tCons (tTup (tCons (tC (.str "set")) (tCons (tOp (rIx K) (tVar 3) (tC (.int 0))) (tCons (tTup (tCons (tC (.str "box")) (tCons (tOp (rIx K) (tVar 3) (tC (.int 0))) tNil))) tNil)))) tNil))) (tCB dInt (tCons (tOp (dEq K) (tOp (rIx K) (tVar 7) (tC (.int 2))) (tC (.int 1))) tNil))) (gName 7)) tNext)
    (tIfS (tTest (tOp (dNe K) (tVar 6) (tVar 1))) (tDrop (tBM K "list" rAppend (tVar 5) (tCons (tVar 7) tNil))) tNext)))
    (tRet (tTup (tCons (tVar 2) (tCons (tCB (dList K) (tCons (tVar 3) tNil)) (tCons (tVar 5) tNil))))))))
theorem wk_l_without {P : Program} {w : World} {K : PySem.W.Frag} {mg : Str → Option Value} {base : Heap} {k : Nat} (m_list : mg "list" = none) (m_enumerate : mg "enumerate" = none) (m_int : mg "int" = none)
    (f : Addr) (cdv : Value) (A : Around) (outer : List Env) (s : Shared) (H : Hp) (E : XK) (hr : Room k (A.deeper (envOfC "_law_without" (defScope s_l_without) s.heap.objs.size f cdv))) :
    PSs (cxOf CX0 P w K mg base ["program", "i", "m", "boxes", "rows", "found", "r", "row"] "_law_without" (defScope s_l_without) f cdv A outer s H E).nox (defBody s_l_without) (t_l_without K) := by
  have hu : (cxOf CX0 P w K mg base ["program", "i", "m", "boxes", "rows", "found", "r", "row"] "_law_without" (defScope s_l_without) f cdv A outer s H E).nox.A.units + 64 < cLine := hr.units
  have hu5 : (cxOf CX0 P w K mg base ["program", "i", "m", "boxes", "rows", "found", "r", "row"] "_law_without" (defScope s_l_without) f cdv A outer s H E).nox.A.units + 65 < cLine := room65 hr
  have hu1 : (cxOf CX0 P w K mg base ["program", "i", "m", "boxes", "rows", "found", "r", "row"] "_law_without" (defScope s_l_without) f cdv A outer s H E).nox.A.units + 1 < cLine := room1 hr
  unfold t_l_without
  exact (pss_cons (ps_asg (pv 0) (pg_tup rfl (pgs_cons (pg_name (i := 2) sc_l_without.nd rfl (by first | exact Or.inl rfl | exact Or.inr rfl)) (pgs_cons (pg_name (i := 3) sc_l_without.nd rfl (by first | exact Or.inl rfl | exact Or.inr rfl)) (pgs_cons (pg_name (i := 4) sc_l_without.nd rfl (by first | exact Or.inl rfl | exact Or.inr rfl)) pgs_nil)))))
    (pss_cons (ps_set (i := 5) sc_l_without.nd rfl (by first | exact Or.inl rfl | exact Or.inr rfl) (pe_lst pa_nil))
    (pss_cons (ps_for PassesOwn.never rfl (pi_enum (by rfl) m_enumerate (pa_cons (pv 4) pa_nil)) (pg_tup rfl (pgs_cons (pg_name (i := 6) sc_l_without.nd rfl (by first | exact Or.inl rfl | exact Or.inr rfl)) (pgs_cons (pg_name (i := 7) sc_l_without.nd rfl (by first | exact Or.inl rfl | exact Or.inr rfl)) pgs_nil))) (pss_cons (ps_if (PW.pt (pw_and (pt_cmpR (o_eq hu) (pe_ix ix_seq (pv 7) pe_int (fun _ _ => rfl)) pe_str (nomark _)) (pw_and1 (pt_chain o_lt o_le (pv 6) (pv 1) (pe_op o_add (pv 6) (pe_ix ix_seq (pv 7) pe_int (fun _ _ => rfl))))))) (pss_one (ps_set (i := 7) sc_l_without.nd rfl (by first | exact Or.inl rfl | exact Or.inr rfl) (pe_ix ix_seq (pe_lst (pa_cons (pe_tup (pa_cons pe_str (pa_cons (pe_ix ix_seq (pv 7) pe_int (fun _ _ => rfl)) (pa_cons (pe_op o_sub (pe_ix ix_seq (pv 7) pe_int (fun _ _ => rfl)) pe_int) pa_nil)))) (pa_cons (pe_tup (pa_cons pe_str (pa_cons (pe_ix ix_seq (pv 3) pe_int (fun _ _ => rfl)) (pa_cons (pe_tup (pa_cons pe_str (pa_cons (pe_ix ix_seq (pv 3) pe_int (fun _ _ => rfl)) pa_nil))) pa_nil)))) pa_nil))) (pe_callTy o_int (by rfl) m_int (by decide +kernel) (pa_cons (pe_cmpR (o_eq hu) (pe_ix ix_seq (pv 7) pe_int (fun _ _ => rfl)) pe_int (nomark _)) pa_nil)) (fun _ _ => rfl)))) pss_nil)
    (pss_one (ps_if (pt_cmpR (o_ne hu) (pv 6) (pv 1) (nomark _)) (pss_one (ps_expr (pe_bm PySem.F.plainAttrs_list PySem.F.slot_list_append PySem.F.type_list_append mt_append (pv 5) (pa_cons (pv 7) pa_nil)))) pss_nil))))
    (pss_one (ps_ret (pe_tup (pa_cons (pv 2) (pa_cons (pe_callTy o_list (by rfl) m_list (by decide +kernel) (pa_cons (pv 3) pa_nil)) (pa_cons (pv 5) pa_nil)))))))))
abbrev s_l_skipping : Stmt := topS 19
theorem sc_l_skipping : FnScope ["pool", "sizes", "most", "m", "boxes", "rows", "found", "row"] ["pool", "sizes", "most"] (defScope s_l_skipping) := ⟨rfl, rfl, rfl, by decide +kernel, rfl, by decide +kernel, by decide +kernel⟩
def t_l_skipping (K : PySem.W.Frag) (sp_l_take : Sp) (sp_l_thing : Sp) (sp_l_program : Sp) : TS :=
  (tSeq (tAsg (tCall sp_l_program [] E0 (tCons (tVar 0) (tCons (tVar 1) (tCons (tVar 2) tNil)))) (gTup K 3 (gCons (gName 3) (gCons (gName 4) (gCons (gName 5) gNil)))))
    (tSeq (tAsg (tLst tNil) (gName 6))
    (tSeq (tFor (iList K (tVar 5)) (gName 7) (tSeq (tIfS (tTest (tOp (dEq K) (tCall sp_l_take [] E0 (tCons (tVar 0) (tCons (tC (.int 3)) tNil))) (tC (.int 0)))) (tAsg (tTup (tCons (tC (.str "skip")) (tCons (tCall sp_l_thing [] E0 (tCons (tVar 0) (tCons (tVar 3) (tCons (tVar 4) (tCons (tC (.int 2)) tNil))))) (tCons (tOp (dAdd K) (tC (.int 1)) (tCall sp_l_take [] E0 (tCons (tVar 0) (tCons (tOp (rIx K) (tLst (tCons (tC (.int 2)) (tCons (tC (.int 5)) (tCons (tC (.int 30)) tNil)))) (tCall sp_l_take [] E0 (tCons (tVar 0) (tCons (tC (.int 3)) tNil)))) tNil)))) tNil)))) (gName 7)) tNext)
    (tDrop (tBM K "list" rAppend (tVar 6) (tCons (tVar 7) tNil)))))
    (tRet (tTup (tCons (tVar 3) (tCons (tVar 4) (tCons (tVar 6) tNil))))))))
theorem wk_l_skipping {P : Program} {w : World} {K : PySem.W.Frag} {mg : Str → Option Value} {base : Heap} {k : Nat} {sp_l_take : Sp} {sp_l_thing : Sp} {sp_l_program : Sp}
    (c_l_take : Cal P w K mg base CX0 k "_law_take" ["pool", "many"] sp_l_take)
    (c_l_thing : Cal P w K mg base CX0 k "_law_thing" ["pool", "m", "boxes", "deep"] sp_l_thing)
    (c_l_program : Cal P w K mg base CX0 k "_law_program" ["pool", "sizes", "most"] sp_l_program)
    (f : Addr) (cdv : Value) (A : Around) (outer : List Env) (s : Shared) (H : Hp) (E : XK) (hr : Room k (A.deeper (envOfC "_law_skipping" (defScope s_l_skipping) s.heap.objs.size f cdv))) :
    PSs (cxOf CX0 P w K mg base ["pool", "sizes", "most", "m", "boxes", "rows", "found", "row"] "_law_skipping" (defScope s_l_skipping) f cdv A outer s H E).nox (defBody s_l_skipping) (t_l_skipping K sp_l_take sp_l_thing sp_l_program) := by
  have hu : (cxOf CX0 P w K mg base ["pool", "sizes", "most", "m", "boxes", "rows", "found", "row"] "_law_skipping" (defScope s_l_skipping) f cdv A outer s H E).nox.A.units + 64 < cLine := hr.units
  have hu5 : (cxOf CX0 P w K mg base ["pool", "sizes", "most", "m", "boxes", "rows", "found", "row"] "_law_skipping" (defScope s_l_skipping) f cdv A outer s H E).nox.A.units + 65 < cLine := room65 hr
  have hu1 : (cxOf CX0 P w K mg base ["pool", "sizes", "most", "m", "boxes", "rows", "found", "row"] "_law_skipping" (defScope s_l_skipping) f cdv A outer s H E).nox.A.units + 1 < cLine := room1 hr
  unfold t_l_skipping
  exact (pss_cons (ps_asg (pe_c c_l_program hr (by rfl) (pa_cons (pv 0) (pa_cons (pv 1) (pa_cons (pv 2) pa_nil)))) (pg_tup rfl (pgs_cons (pg_name (i := 3) sc_l_skipping.nd rfl (by first | exact Or.inl rfl | exact Or.inr rfl)) (pgs_cons (pg_name (i := 4) sc_l_skipping.nd rfl (by first | exact Or.inl rfl | exact Or.inr rfl)) (pgs_cons (pg_name (i := 5) sc_l_skipping.nd rfl (by first | exact Or.inl rfl | exact Or.inr rfl)) pgs_nil)))))
    (pss_cons (ps_set (i := 6) sc_l_skipping.nd rfl (by first | exact Or.inl rfl | exact Or.inr rfl) (pe_lst pa_nil))
    (pss_cons (ps_for PassesOwn.never rfl (pi_list (pv 5)) (pg_name (i := 7) sc_l_skipping.nd rfl (by first | exact Or.inl rfl | exact Or.inr rfl)) (pss_cons (ps_if (pt_cmpR (o_eq hu) (pe_c c_l_take hr (by rfl) (pa_cons (pv 0) (pa_cons pe_int pa_nil))) pe_int (nomark _)) (pss_one (ps_set (i := 7) sc_l_skipping.nd rfl (by first | exact Or.inl rfl | exact Or.inr rfl) (pe_tup (pa_cons pe_str (pa_cons (pe_c c_l_thing hr (by rfl) (pa_cons (pv 0) (pa_cons (pv 3) (pa_cons (pv 4) (pa_cons pe_int pa_nil))))) (pa_cons (pe_op o_add pe_int (pe_c c_l_take hr (by rfl) (pa_cons (pv 0) (pa_cons (pe_ix ix_seq (pe_lst (pa_cons pe_int (pa_cons pe_int (pa_cons pe_int pa_nil)))) (pe_c c_l_take hr (by rfl) (pa_cons (pv 0) (pa_cons pe_int pa_nil))) (fun _ _ => rfl)) pa_nil)))) pa_nil)))))) pss_nil)
    (pss_one (ps_expr (pe_bm PySem.F.plainAttrs_list PySem.F.slot_list_append PySem.F.type_list_append mt_append (pv 6) (pa_cons (pv 7) pa_nil))))))
    (pss_one (ps_ret (pe_tup (pa_cons (pv 3) (pa_cons (pv 4) (pa_cons (pv 6) pa_nil)))))))))
abbrev s_l_is_program : Stmt := topS 20
theorem sc_l_is_program : FnScope ["found", "due", "row"] ["found", "due"] (defScope s_l_is_program) := ⟨rfl, rfl, rfl, by decide +kernel, rfl, by decide +kernel, by decide +kernel⟩
def t_l_is_program (K : PySem.W.Frag) : TS :=
  (tSeq (tIfS (tOr (tNot (tB (tCB (rIsD K) (tCons (tVar 0) (tCons (tC (.ty "tuple")) tNil))))) (tOr (tTest (tOp (dNe K) (tVar 0) (tVar 1))) (tOr (tNot (tB (tCB (rIsD K) (tCons (tOp (rIx K) (tVar 0) (tC (.int 1))) (tCons (tC (.ty "list")) tNil))))) (tNot (tB (tCB (rIsD K) (tCons (tOp (rIx K) (tVar 0) (tC (.int 2))) (tCons (tC (.ty "list")) tNil)))))))) (tRet (tC (.bl false))) tNext)
    (tSeq (tFor (iList K (tOp (rIx K) (tVar 0) (tC (.int 2)))) (gName 2) (tIfS (tOr (tNot (tB (tCB (rIsD K) (tCons (tVar 2) (tCons (tC (.ty "tuple")) tNil))))) (tAnd (tTest (tOp (dEq K) (tOp (rIx K) (tVar 2) (tC (.int 0))) (tC (.str "pick")))) (tNot (tB (tCB (rIsD K) (tCons (tOp (rIx K) (tVar 2) (tC (.int 2))) (tCons (tC (.ty "list")) tNil))))))) (tRet (tC (.bl false))) tNext))
    (tRet (tC (.bl true)))))
theorem wk_l_is_program {P : Program} {w : World} {K : PySem.W.Frag} {mg : Str → Option Value} {base : Heap} {k : Nat} (m_isinstance : mg "isinstance" = none) (m_list : mg "list" = none) (m_tuple : mg "tuple" = none)
    (f : Addr) (cdv : Value) (A : Around) (outer : List Env) (s : Shared) (H : Hp) (E : XK) (hr : Room k (A.deeper (envOfC "_law_is_program" (defScope s_l_is_program) s.heap.objs.size f cdv))) :
    PSs (cxOf CX0 P w K mg base ["found", "due", "row"] "_law_is_program" (defScope s_l_is_program) f cdv A outer s H E).nox (defBody s_l_is_program) (t_l_is_program K) := by
  have hu : (cxOf CX0 P w K mg base ["found", "due", "row"] "_law_is_program" (defScope s_l_is_program) f cdv A outer s H E).nox.A.units + 64 < cLine := hr.units
  have hu5 : (cxOf CX0 P w K mg base ["found", "due", "row"] "_law_is_program" (defScope s_l_is_program) f cdv A outer s H E).nox.A.units + 65 < cLine := room65 hr
  have hu1 : (cxOf CX0 P w K mg base ["found", "due", "row"] "_law_is_program" (defScope s_l_is_program) f cdv A outer s H E).nox.A.units + 1 < cLine := room1 hr
  unfold t_l_is_program
  exact (pss_cons (ps_if (PW.pt (pw_or (pt_not (pt_val (pe_callB call_isD (by rfl) m_isinstance (by decide +kernel) (pa_cons (pv 0) (pa_cons (pe_bltn (by rfl) m_tuple (by decide +kernel) rfl) pa_nil))))) (pw_or (pt_cmpR (o_ne hu) (pv 0) (pv 1) (nomark _)) (pw_or (pt_not (pt_val (pe_callB call_isD (by rfl) m_isinstance (by decide +kernel) (pa_cons (pe_ix ix_seq (pv 0) pe_int (fun _ _ => rfl)) (pa_cons (pe_bltn (by rfl) m_list (by decide +kernel) rfl) pa_nil))))) (pw_or1 (pt_not (pt_val (pe_callB call_isD (by rfl) m_isinstance (by decide +kernel) (pa_cons (pe_ix ix_seq (pv 0) pe_int (fun _ _ => rfl)) (pa_cons (pe_bltn (by rfl) m_list (by decide +kernel) rfl) pa_nil)))))))))) (pss_one (ps_ret pe_bl)) pss_nil)
    (pss_cons (ps_for PassesOwn.never rfl (pi_list (pe_ix ix_seq (pv 0) pe_int (fun _ _ => rfl))) (pg_name (i := 2) sc_l_is_program.nd rfl (by first | exact Or.inl rfl | exact Or.inr rfl)) (pss_one (ps_if (PW.pt (pw_or (pt_not (pt_val (pe_callB call_isD (by rfl) m_isinstance (by decide +kernel) (pa_cons (pv 2) (pa_cons (pe_bltn (by rfl) m_tuple (by decide +kernel) rfl) pa_nil))))) (pw_or1 (PW.pt (pw_and (pt_cmpR (o_eq hu) (pe_ix ix_seq (pv 2) pe_int (fun _ _ => rfl)) pe_str (nomark _)) (pw_and1 (pt_not (pt_val (pe_callB call_isD (by rfl) m_isinstance (by decide +kernel) (pa_cons (pe_ix ix_seq (pv 2) pe_int (fun _ _ => rfl)) (pa_cons (pe_bltn (by rfl) m_list (by decide +kernel) rfl) pa_nil))))))))))) (pss_one (ps_ret pe_bl)) pss_nil)))
    (pss_one (ps_ret pe_bl))))
abbrev s_l_marked : Stmt := topS 21
theorem sc_l_marked : FnScope ["program", "at", "row"] ["program"] (defScope s_l_marked) := ⟨rfl, rfl, rfl, by decide +kernel, rfl, by decide +kernel, by decide +kernel⟩
def t_l_marked (K : PySem.W.Frag) : TS :=
  (tSeq (tDrop (tBM K "list" rAppend (tOp (rIx K) (tVar 0) (tC (.int 1))) (tCons (tC (.str "mark")) tNil)))
    (tSeq (tFor (iEnum K (tCons (tOp (rIx K) (tVar 0) (tC (.int 2))) tNil)) (gTup K 2 (gCons (gName 1) (gCons (gName 2) gNil))) (tIfS (tTest (tOp (dEq K) (tOp (rIx K) (tVar 2) (tC (.int 0))) (tC (.str "pick")))) (tDrop (tBM K "list" rAppend (tOp (rIx K) (tVar 2) (tC (.int 2))) (tCons (tVar 1) tNil))) tNext))
    (tSeq (tDrop (tBM K "list" rAppend (tOp (rIx K) (tVar 0) (tC (.int 2))) (tCons (tC .non) tNil)))
    (tRet (tVar 0)))))
theorem wk_l_marked {P : Program} {w : World} {K : PySem.W.Frag} {mg : Str → Option Value} {base : Heap} {k : Nat} (m_enumerate : mg "enumerate" = none)
    (f : Addr) (cdv : Value) (A : Around) (outer : List Env) (s : Shared) (H : Hp) (E : XK) (hr : Room k (A.deeper (envOfC "_law_marked" (defScope s_l_marked) s.heap.objs.size f cdv))) :
    PSs (cxOf CX0 P w K mg base ["program", "at", "row"] "_law_marked" (defScope s_l_marked) f cdv A outer s H E).nox (defBody s_l_marked) (t_l_marked K) := by
  have hu : (cxOf CX0 P w K mg base ["program", "at", "row"] "_law_marked" (defScope s_l_marked) f cdv A outer s H E).nox.A.units + 64 < cLine := hr.units
  have hu5 : (cxOf CX0 P w K mg base ["program", "at", "row"] "_law_marked" (defScope s_l_marked) f cdv A outer s H E).nox.A.units + 65 < cLine := room65 hr
  have hu1 : (cxOf CX0 P w K mg base ["program", "at", "row"] "_law_marked" (defScope s_l_marked) f cdv A outer s H E).nox.A.units + 1 < cLine := room1 hr
  unfold t_l_marked
  exact (pss_cons (ps_expr (pe_bm PySem.F.plainAttrs_list PySem.F.slot_list_append PySem.F.type_list_append mt_append (pe_ix ix_seq (pv 0) pe_int (fun _ _ => rfl)) (pa_cons pe_str pa_nil)))
    (pss_cons (ps_for PassesOwn.never rfl (pi_enum (by rfl) m_enumerate (pa_cons (pe_ix ix_seq (pv 0) pe_int (fun _ _ => rfl)) pa_nil)) (pg_tup rfl (pgs_cons (pg_name (i := 1) sc_l_marked.nd rfl (by first | exact Or.inl rfl | exact Or.inr rfl)) (pgs_cons (pg_name (i := 2) sc_l_marked.nd rfl (by first | exact Or.inl rfl | exact Or.inr rfl)) pgs_nil))) (pss_one (ps_if (pt_cmpR (o_eq hu) (pe_ix ix_seq (pv 2) pe_int (fun _ _ => rfl)) pe_str (nomark _)) (pss_one (ps_expr (pe_bm PySem.F.plainAttrs_list PySem.F.slot_list_append PySem.F.type_list_append mt_append (pe_ix ix_seq (pv 2) pe_int (fun _ _ => rfl)) (pa_cons (pv 1) pa_nil)))) pss_nil)))
    (pss_cons (ps_expr (pe_bm PySem.F.plainAttrs_list PySem.F.slot_list_append PySem.F.type_list_append mt_append (pe_ix ix_seq (pv 0) pe_int (fun _ _ => rfl)) (pa_cons pe_non pa_nil)))
    (pss_one (ps_ret (pv 0))))))
abbrev s_law : Stmt := topS 22
theorem sc_law : FnScope ["script", "k", "pool", "sizes", "program", "handed", "i", "due", "again", "found"] ["script"] (defScope s_law) := ⟨rfl, rfl, rfl, by decide +kernel, rfl, by decide +kernel, by decide +kernel⟩
def t_law (K : PySem.W.Frag) (sp_l_marked : Sp) (sp_l_copy : Sp) (sp_l_is_program : Sp) (sp_row_out : Sp) (sp_l_without : Sp) (sp_l_skipping : Sp) (sp_l_take : Sp) (sp_l_pool : Sp) : TS :=
  (tSeq (tFor (iRng1 (tCons (tCB (dMax K) (tCons (tC (.int 1)) (tCons (tCB (dMin K) (tCons (tC (.int 10)) (tCons (tCB (dLen K) (tCons (tVar 0) tNil)) tNil))) tNil))) tNil)) (gName 1) (tSeq (tAsg (tCall sp_l_pool [] E0 (tCons (tVar 0) (tCons (tVar 1) tNil))) (gName 2))
    (tSeq (tAsg (tTup (tCons (tOp (dAdd K) (tC (.int 2)) (tCall sp_l_take [] E0 (tCons (tVar 2) (tCons (tC (.int 15)) tNil)))) (tCons (tOp (dAdd K) (tC (.int 1)) (tCall sp_l_take [] E0 (tCons (tVar 2) (tCons (tC (.int 5)) tNil)))) tNil))) (gName 3))
    (tSeq (tAsg (tCall sp_l_skipping [] E0 (tCons (tVar 2) (tCons (tVar 3) (tCons (tOp (rIx K) (tLst (tCons (tC (.int 5)) (tCons (tC (.int 12)) (tCons (tC (.int 30)) tNil)))) (tCall sp_l_take [] E0 (tCons (tVar 2) (tCons (tC (.int 3)) tNil)))) tNil)))) (gName 4))
    (tSeq (tAsg (tCall sp_l_copy [] E0 (tCons (tVar 4) tNil)) (gName 5))
    (tFor (iRng1 (tCons (tCB (dLen K) (tCons (tOp (rIx K) (tVar 4) (tC (.int 2))) tNil)) tNil)) (gName 6) (tSeq (tAsg (tCall sp_l_without [] E0 (tCons (tVar 4) (tCons (tVar 6) tNil))) (gName 7))
    (tFor (iRng1 (tCons (tC (.int 2)) tNil)) (gName 8) (tSeq (tAsg (tCall sp_row_out [] E0 (tCons (tVar 5) (tCons (tVar 6) tNil))) (gName 9))
    (tSeq (tIfS (tOr (tNot (tB (tCall sp_l_is_program [] E0 (tCons (tVar 9) (tCons (tVar 7) tNil))))) (tTest (tOp (dNe K) (tVar 5) (tVar 4)))) (tRet (tC (.bl false))) tNext)
    (tIfS (tOr (tTest (tOp (dNe K) (tCall sp_l_marked [] E0 (tCons (tVar 9) tNil)) (tCall sp_l_marked [] E0 (tCons (tCall sp_l_copy [] E0 (tCons (tVar 7) tNil)) tNil)))) (tTest (tOp (dNe K) (tVar 5) (tVar 4)))) (tRet (tC (.bl false))) tNext)))))))))))
    (tRet (tC (.bl true))))
theorem wk_law {P : Program} {w : World} {K : PySem.W.Frag} {mg : Str → Option Value} {base : Heap} {k : Nat} {sp_l_marked : Sp} {sp_l_copy : Sp} {sp_l_is_program : Sp} {sp_row_out : Sp} {sp_l_without : Sp} {sp_l_skipping : Sp} {sp_l_take : Sp} {sp_l_pool : Sp}
    (c_l_marked : Cal P w K mg base CX0 k "_law_marked" ["program"] sp_l_marked)
    (c_l_copy : Cal P w K mg base CX0 k "_law_copy" ["program"] sp_l_copy)
    (c_l_is_program : Cal P w K mg base CX0 k "_law_is_program" ["found", "due"] sp_l_is_program)
    (c_row_out : Cal P w K mg base CX0 k "row_out" ["program", "i"] sp_row_out)
    (c_l_without : Cal P w K mg base CX0 k "_law_without" ["program", "i"] sp_l_without)
    (c_l_skipping : Cal P w K mg base CX0 k "_law_skipping" ["pool", "sizes", "most"] sp_l_skipping)
    (c_l_take : Cal P w K mg base CX0 k "_law_take" ["pool", "many"] sp_l_take)
    (c_l_pool : Cal P w K mg base CX0 k "_law_pool" ["script", "k"] sp_l_pool) (m_range : mg "range" = none) (m_max : mg "max" = none) (m_min : mg "min" = none) (m_len : mg "len" = none)
    (f : Addr) (cdv : Value) (A : Around) (outer : List Env) (s : Shared) (H : Hp) (E : XK) (hr : Room k (A.deeper (envOfC "law" (defScope s_law) s.heap.objs.size f cdv))) :
    PSs (cxOf CX0 P w K mg base ["script", "k", "pool", "sizes", "program", "handed", "i", "due", "again", "found"] "law" (defScope s_law) f cdv A outer s H E).nox (defBody s_law) (t_law K sp_l_marked sp_l_copy sp_l_is_program sp_row_out sp_l_without sp_l_skipping sp_l_take sp_l_pool) := by
  have hu : (cxOf CX0 P w K mg base ["script", "k", "pool", "sizes", "program", "handed", "i", "due", "again", "found"] "law" (defScope s_law) f cdv A outer s H E).nox.A.units + 64 < cLine := hr.units
  have hu5 : (cxOf CX0 P w K mg base ["script", "k", "pool", "sizes", "program", "handed", "i", "due", "again", "found"] "law" (defScope s_law) f cdv A outer s H E).nox.A.units + 65 < cLine := room65 hr
  have hu1 : (cxOf CX0 P w K mg base ["script", "k", "pool", "sizes", "program", "handed", "i", "due", "again", "found"] "law" (defScope s_law) f cdv A outer s H E).nox.A.units + 1 < cLine := room1 hr
  unfold t_law
  exact (pss_cons (ps_for PassesOwn.never rfl (pi_range1 (by rfl) m_range (pa_cons (pe_callB (o_max rfl) (by rfl) m_max (by decide +kernel) (pa_cons pe_int (pa_cons (pe_callB (o_min rfl) (by rfl) m_min (by decide +kernel) (pa_cons pe_int (pa_cons (pe_callB o_len (by rfl) m_len (by decide +kernel) (pa_cons (pv 0) pa_nil)) pa_nil))) pa_nil))) pa_nil)) (pg_name (i := 1) sc_law.nd rfl (by first | exact Or.inl rfl | exact Or.inr rfl)) (pss_cons (ps_set (i := 2) sc_law.nd rfl (by first | exact Or.inl rfl | exact Or.inr rfl) (pe_c c_l_pool hr (by rfl) (pa_cons (pv 0) (pa_cons (pv 1) pa_nil))))
    (pss_cons (ps_set (i := 3) sc_law.nd rfl (by first | exact Or.inl rfl | exact Or.inr rfl) (pe_tup (pa_cons (pe_op o_add pe_int (pe_c c_l_take hr (by rfl) (pa_cons (pv 2) (pa_cons pe_int pa_nil)))) (pa_cons (pe_op o_add pe_int (pe_c c_l_take hr (by rfl) (pa_cons (pv 2) (pa_cons pe_int pa_nil)))) pa_nil))))
    (pss_cons (ps_set (i := 4) sc_law.nd rfl (by first | exact Or.inl rfl | exact Or.inr rfl) (pe_c c_l_skipping hr (by rfl) (pa_cons (pv 2) (pa_cons (pv 3) (pa_cons (pe_ix ix_seq (pe_lst (pa_cons pe_int (pa_cons pe_int (pa_cons pe_int pa_nil)))) (pe_c c_l_take hr (by rfl) (pa_cons (pv 2) (pa_cons pe_int pa_nil))) (fun _ _ => rfl)) pa_nil)))))
    (pss_cons (ps_set (i := 5) sc_law.nd rfl (by first | exact Or.inl rfl | exact Or.inr rfl) (pe_c c_l_copy hr (by rfl) (pa_cons (pv 4) pa_nil)))
    (pss_one (ps_for PassesOwn.never rfl (pi_range1 (by rfl) m_range (pa_cons (pe_callB o_len (by rfl) m_len (by decide +kernel) (pa_cons (pe_ix ix_seq (pv 4) pe_int (fun _ _ => rfl)) pa_nil)) pa_nil)) (pg_name (i := 6) sc_law.nd rfl (by first | exact Or.inl rfl | exact Or.inr rfl)) (pss_cons (ps_set (i := 7) sc_law.nd rfl (by first | exact Or.inl rfl | exact Or.inr rfl) (pe_c c_l_without hr (by rfl) (pa_cons (pv 4) (pa_cons (pv 6) pa_nil))))
    (pss_one (ps_for PassesOwn.never rfl (pi_range1 (by rfl) m_range (pa_cons pe_int pa_nil)) (pg_name (i := 8) sc_law.nd rfl (by first | exact Or.inl rfl | exact Or.inr rfl)) (pss_cons (ps_set (i := 9) sc_law.nd rfl (by first | exact Or.inl rfl | exact Or.inr rfl) (pe_c c_row_out hr (by rfl) (pa_cons (pv 5) (pa_cons (pv 6) pa_nil))))
    (pss_cons (ps_if (PW.pt (pw_or (pt_not (pt_val (pe_c c_l_is_program hr (by rfl) (pa_cons (pv 9) (pa_cons (pv 7) pa_nil))))) (pw_or1 (pt_cmpR (o_ne hu) (pv 5) (pv 4) (nomark _))))) (pss_one (ps_ret pe_bl)) pss_nil)
    (pss_one (ps_if (PW.pt (pw_or (pt_cmpR (o_ne hu) (pe_c c_l_marked hr (by rfl) (pa_cons (pv 9) pa_nil)) (pe_c c_l_marked hr (by rfl) (pa_cons (pe_c c_l_copy hr (by rfl) (pa_cons (pv 7) pa_nil)) pa_nil)) (nomark _)) (pw_or1 (pt_cmpR (o_ne hu) (pv 5) (pv 4) (nomark _))))) (pss_one (ps_ret pe_bl)) pss_nil))))))))))))))
    (pss_one (ps_ret pe_bl)))
end Sy
end
section
set_option Elab.async false
set_option linter.all false
set_option maxRecDepth 100000
set_option pp.maxSteps 600
open PySem L2 Pk
local macro_rules | `(tactic| walk_at "sh") => `(tactic| first | exact sh_int | exact sh_bool | exact sh_non | exact sh_nil | exact sh_str (by decide +kernel) | assumption)
local macro_rules | `(tactic| walk_at "v1") => `(tactic| first
  | (with_reducible refine wd_int ?_) | (with_reducible refine wd_str ?_) | (with_reducible refine wd_bl ?_) | (with_reducible refine wd_non ?_)
  | ((with_reducible apply wd_var); exact rfl) | ((with_reducible apply wd_varN); exact rfl)
  | ((with_reducible apply wd_ixm); exact rfl)
  | ((with_reducible apply wd_lenM); exact rfl) | ((with_reducible apply wd_lenScript); exact rfl) | ((with_reducible apply wd_ixScript); exact rfl)
  | (with_reducible refine wd_op ?_) | (with_reducible refine wd_un ?_)
  | (with_reducible refine rd_add ?_) | (with_reducible refine rd_sub ?_) | (with_reducible refine rd_lt ?_) | (with_reducible refine rd_le ?_) | (with_reducible refine rd_gt ?_) | (with_reducible refine rd_ge ?_) | (with_reducible refine ru_neg ?_)
  | ((with_reducible refine rd_eq ?ev_h ?ev_k ?_); (case ev_h => walk_at "sh"); (case ev_k => walk_at "sh")) | ((with_reducible refine rd_ne ?ev_h ?ev_k ?_); (case ev_h => walk_at "sh"); (case ev_k => walk_at "sh"))
  | ((with_reducible refine rd_mod ?ev_h ?_); case ev_h => first | decide | assumption | omega) | ((with_reducible refine rd_div ?ev_h ?ev_k ?_); (case ev_h => first | decide | assumption | omega); (case ev_k => first | decide | assumption | omega))
  | ((with_reducible refine rd_pow ?ev_h ?_); case ev_h => exact ⟨by decide, by decide, by decide⟩)
  | ((with_reducible refine rd_mul ?ev_h ?_); case ev_h => first | exact .inr ⟨by decide, by decide⟩ | exact .inl ⟨by decide, by decide⟩ | exact .inl ⟨by omega, by omega⟩ | exact .inr ⟨by omega, by omega⟩)
  | (with_reducible refine rc_lenL ?_) | (with_reducible refine rc_lenT ?_) | (with_reducible refine rc_max2 ?_) | (with_reducible refine rc_min2 ?_) | (with_reducible refine rc_intB ?_) | (with_reducible refine rc_intI ?_) | (with_reducible refine rc_listL ?_) | (with_reducible refine rc_listT ?_) | (with_reducible refine rc_tupleL ?_)
  | ((with_reducible apply rd_ixT); exact rfl)
  | ((with_reducible apply rd_ixL); exact rfl)
  | ((with_reducible refine wd_isi ?ev_h ?_); case ev_h => decide) | ((with_reducible refine wd_isi2 ?ev_h ?ev_k ?_); (case ev_h => decide); (case ev_k => decide))
  | (with_reducible refine wd_tup2 ?_) | (with_reducible refine wd_tup1 ?_) | (with_reducible refine wd_tup3 ?_) | (with_reducible refine wd_tup0 ?_)
  | (with_reducible refine wd_lst0 ?_) | (with_reducible refine wd_lst1 ?_) | (with_reducible refine wd_lst2 ?_) | (with_reducible refine wd_lst3 ?_) | (with_reducible refine wd_lst4 ?_) | (with_reducible refine wd_lst5 ?_) | (with_reducible refine wd_lst6 ?_)
  | ((with_reducible apply wd_callO0); exact rfl) | ((with_reducible apply wd_callO1); exact rfl) | ((with_reducible apply wd_callO2); exact rfl) | ((with_reducible apply wd_callO3); exact rfl)
  | (with_reducible refine wd_call1 ?_) | (with_reducible refine wd_call2 ?_) | (with_reducible refine wd_call3 ?_) | (with_reducible refine wd_call4 ?_) | (with_reducible refine wd_call0 ?_)
  | (with_reducible refine wd_cb1 ?_) | (with_reducible refine wd_cb2 ?_)
  | (with_reducible refine wd_rev ?_) | (with_reducible refine wd_lrg1 ?_) | (with_reducible refine wd_sl ?_) | (with_reducible refine wo_no ?_) | (with_reducible refine wo_some ?_)
  | (with_reducible refine wd_andV ?_) | (with_reducible refine wd_orV ?_) | (with_reducible refine wd_notV ?_) | (with_reducible refine wd_if ?_) | (with_reducible refine wd_chain ?_)
  | (with_reducible refine wt_test ?_) | (with_reducible refine wt_B ?_) | (with_reducible refine wt_not ?_) | (with_reducible refine wt_and ?_) | (with_reducible refine wt_or ?_) | (with_reducible refine wt_yes ?_)
  | (with_reducible refine gj_name ?_) | (with_reducible refine gj_tup rfl ?_) | (with_reducible refine gjs_cons ?_) | (with_reducible refine gjs_nil ?_))
local macro_rules | `(tactic| walk_at "v") => `(tactic| repeat walk_at "v1")
local macro_rules | `(tactic| walk_at "x") => `(tactic| refine ⟨_, rfl, ?_⟩)
local macro_rules | `(tactic| walk_at "vx") => `(tactic| repeat (first | walk_at "v1" | (with_reducible refine ⟨_, rfl, ?_⟩)))
namespace Dk
open PySem PySem.Spec PyProof.Rows L2 Pk Sy
section
variable {K : Kw} {m : Bool} {v : V} {Q : PyData → Prop}
end
section
variable {P : Program} {K : Kw} {mg : Str → Option Value} {base : Heap} {k : Nat}
end
end Dk
end
section
set_option Elab.async false
set_option linter.all false
set_option maxRecDepth 100000
set_option pp.maxSteps 600
open PySem L2 Pk
local macro_rules | `(tactic| walk_at "sh") => `(tactic| first | exact sh_int | exact sh_bool | exact sh_non | exact sh_nil | exact sh_str (by decide +kernel) | assumption)
local macro_rules | `(tactic| walk_at "v1") => `(tactic| first
  | (with_reducible refine wd_int ?_) | (with_reducible refine wd_str ?_) | (with_reducible refine wd_bl ?_) | (with_reducible refine wd_non ?_)
  | ((with_reducible apply wd_var); exact rfl) | ((with_reducible apply wd_varN); exact rfl)
  | ((with_reducible apply wd_ixm); exact rfl)
  | ((with_reducible apply wd_lenM); exact rfl) | ((with_reducible apply wd_lenScript); exact rfl) | ((with_reducible apply wd_ixScript); exact rfl)
  | (with_reducible refine wd_op ?_) | (with_reducible refine wd_un ?_)
  | (with_reducible refine rd_add ?_) | (with_reducible refine rd_sub ?_) | (with_reducible refine rd_lt ?_) | (with_reducible refine rd_le ?_) | (with_reducible refine rd_gt ?_) | (with_reducible refine rd_ge ?_) | (with_reducible refine ru_neg ?_)
  | ((with_reducible refine rd_eq ?ev_h ?ev_k ?_); (case ev_h => walk_at "sh"); (case ev_k => walk_at "sh")) | ((with_reducible refine rd_ne ?ev_h ?ev_k ?_); (case ev_h => walk_at "sh"); (case ev_k => walk_at "sh"))
  | ((with_reducible refine rd_mod ?ev_h ?_); case ev_h => first | decide | assumption | omega) | ((with_reducible refine rd_div ?ev_h ?ev_k ?_); (case ev_h => first | decide | assumption | omega); (case ev_k => first | decide | assumption | omega))
  | ((with_reducible refine rd_pow ?ev_h ?_); case ev_h => exact ⟨by decide, by decide, by decide⟩)
  | ((with_reducible refine rd_mul ?ev_h ?_); case ev_h => first | exact .inr ⟨by decide, by decide⟩ | exact .inl ⟨by decide, by decide⟩ | exact .inl ⟨by omega, by omega⟩ | exact .inr ⟨by omega, by omega⟩)
  | (with_reducible refine rc_lenL ?_) | (with_reducible refine rc_lenT ?_) | (with_reducible refine rc_max2 ?_) | (with_reducible refine rc_min2 ?_) | (with_reducible refine rc_intB ?_) | (with_reducible refine rc_intI ?_) | (with_reducible refine rc_listL ?_) | (with_reducible refine rc_listT ?_) | (with_reducible refine rc_tupleL ?_)
  | ((with_reducible apply rd_ixT); exact rfl)
  | ((with_reducible apply rd_ixL); exact rfl)
  | ((with_reducible refine wd_isi ?ev_h ?_); case ev_h => decide) | ((with_reducible refine wd_isi2 ?ev_h ?ev_k ?_); (case ev_h => decide); (case ev_k => decide))
  | (with_reducible refine wd_tup2 ?_) | (with_reducible refine wd_tup1 ?_) | (with_reducible refine wd_tup3 ?_) | (with_reducible refine wd_tup0 ?_)
  | (with_reducible refine wd_lst0 ?_) | (with_reducible refine wd_lst1 ?_) | (with_reducible refine wd_lst2 ?_) | (with_reducible refine wd_lst3 ?_) | (with_reducible refine wd_lst4 ?_) | (with_reducible refine wd_lst5 ?_) | (with_reducible refine wd_lst6 ?_)
  | ((with_reducible apply wd_callO0); exact rfl) | ((with_reducible apply wd_callO1); exact rfl) | ((with_reducible apply wd_callO2); exact rfl) | ((with_reducible apply wd_callO3); exact rfl)
  | (with_reducible refine wd_call1 ?_) | (with_reducible refine wd_call2 ?_) | (with_reducible refine wd_call3 ?_) | (with_reducible refine wd_call4 ?_) | (with_reducible refine wd_call0 ?_)
  | (with_reducible refine wd_cb1 ?_) | (with_reducible refine wd_cb2 ?_)
  | (with_reducible refine wd_rev ?_) | (with_reducible refine wd_lrg1 ?_) | (with_reducible refine wd_sl ?_) | (with_reducible refine wo_no ?_) | (with_reducible refine wo_some ?_)
  | (with_reducible refine wd_andV ?_) | (with_reducible refine wd_orV ?_) | (with_reducible refine wd_notV ?_) | (with_reducible refine wd_if ?_) | (with_reducible refine wd_chain ?_)
  | (with_reducible refine wt_test ?_) | (with_reducible refine wt_B ?_) | (with_reducible refine wt_not ?_) | (with_reducible refine wt_and ?_) | (with_reducible refine wt_or ?_) | (with_reducible refine wt_yes ?_)
  | (with_reducible refine gj_name ?_) | (with_reducible refine gj_tup rfl ?_) | (with_reducible refine gjs_cons ?_) | (with_reducible refine gjs_nil ?_))
local macro_rules | `(tactic| walk_at "v") => `(tactic| repeat walk_at "v1")
local macro_rules | `(tactic| walk_at "x") => `(tactic| refine ⟨_, rfl, ?_⟩)
local macro_rules | `(tactic| walk_at "vx") => `(tactic| repeat (first | walk_at "v1" | (with_reducible refine ⟨_, rfl, ?_⟩)))
namespace Dk
open PySem PySem.Spec PyProof.Rows L2 Pk Sy
structure MB (m : Nat) (bs : List Str) : Prop where
  m2 : 2 ≤ m
  m16 : m ≤ 16
  bs : BsOk bs
abbrev rwsD (rows : List Rw) : PyData := .list (rows.map Rw.d)
section
variable {K : Kw} {m : Bool} {v : V} {Q : PyData → Prop} {Γ : List Sl}
/-- a box of the boxes, at a drawn place -/
theorem rd_box {bs : List Str} {r : Nat} (h : r < bs.length) (q : ∀ x ∈ bs, Q (.str x)) : RD K m Γ (rIx K) (bsD bs) (.int r) Q := rd_selN r rfl (d := .str bs[r]) (by simp [h]) (q _ (List.getElem_mem h))
theorem rd_letter {r : Nat} (h : r < 26) (q : ltr (97 + r) → Q (.str (one (97 + r)))) : RD K m Γ (rIx K) (.str LET) (.int r) Q := rd_ixS (c := 97 + r) (by rw [let_len]; decide) (by rw [atI_ofNat]; exact let_at h) (q ⟨by omega, by omega⟩)
end
theorem names_any {bs : List Str} {x : Str} : ((bs.map PyData.str).any fun z => PyData.eqv z (.str x)) = decide (x ∈ bs) := by
  induction bs with
  | nil => simp
  | cons b bs ih =>
    rw [List.map_cons, List.any_cons, ih, eqv_str]
    by_cases h : b = x
    · simp [h]
    · have : ¬ x = b := fun z => h z.symm
      simp [h, this]
section
variable {P : Program} {K : Kw} {mg : Str → Option Value} {base : Heap} {k : Nat}
end
end Dk
end
section
set_option Elab.async false
set_option linter.all false
set_option maxRecDepth 100000
set_option pp.maxSteps 600
open PySem L2 Pk
local macro_rules | `(tactic| walk_at "sh") => `(tactic| first | exact sh_int | exact sh_bool | exact sh_non | exact sh_nil | exact sh_str (by decide +kernel) | assumption)
local macro_rules | `(tactic| walk_at "v1") => `(tactic| first
  | (with_reducible refine wd_int ?_) | (with_reducible refine wd_str ?_) | (with_reducible refine wd_bl ?_) | (with_reducible refine wd_non ?_)
  | ((with_reducible apply wd_var); exact rfl) | ((with_reducible apply wd_varN); exact rfl)
  | ((with_reducible apply wd_ixm); exact rfl)
  | ((with_reducible apply wd_lenM); exact rfl) | ((with_reducible apply wd_lenScript); exact rfl) | ((with_reducible apply wd_ixScript); exact rfl)
  | (with_reducible refine wd_op ?_) | (with_reducible refine wd_un ?_)
  | (with_reducible refine rd_add ?_) | (with_reducible refine rd_sub ?_) | (with_reducible refine rd_lt ?_) | (with_reducible refine rd_le ?_) | (with_reducible refine rd_gt ?_) | (with_reducible refine rd_ge ?_) | (with_reducible refine ru_neg ?_)
  | ((with_reducible refine rd_eq ?ev_h ?ev_k ?_); (case ev_h => walk_at "sh"); (case ev_k => walk_at "sh")) | ((with_reducible refine rd_ne ?ev_h ?ev_k ?_); (case ev_h => walk_at "sh"); (case ev_k => walk_at "sh"))
  | ((with_reducible refine rd_mod ?ev_h ?_); case ev_h => first | decide | assumption | omega) | ((with_reducible refine rd_div ?ev_h ?ev_k ?_); (case ev_h => first | decide | assumption | omega); (case ev_k => first | decide | assumption | omega))
  | ((with_reducible refine rd_pow ?ev_h ?_); case ev_h => exact ⟨by decide, by decide, by decide⟩)
  | ((with_reducible refine rd_mul ?ev_h ?_); case ev_h => first | exact .inr ⟨by decide, by decide⟩ | exact .inl ⟨by decide, by decide⟩ | exact .inl ⟨by omega, by omega⟩ | exact .inr ⟨by omega, by omega⟩)
  | (with_reducible refine rc_lenL ?_) | (with_reducible refine rc_lenT ?_) | (with_reducible refine rc_max2 ?_) | (with_reducible refine rc_min2 ?_) | (with_reducible refine rc_intB ?_) | (with_reducible refine rc_intI ?_) | (with_reducible refine rc_listL ?_) | (with_reducible refine rc_listT ?_) | (with_reducible refine rc_tupleL ?_)
  | ((with_reducible apply rd_ixT); exact rfl)
  | ((with_reducible apply rd_ixL); exact rfl)
  | ((with_reducible refine wd_isi ?ev_h ?_); case ev_h => decide) | ((with_reducible refine wd_isi2 ?ev_h ?ev_k ?_); (case ev_h => decide); (case ev_k => decide))
  | (with_reducible refine wd_tup2 ?_) | (with_reducible refine wd_tup1 ?_) | (with_reducible refine wd_tup3 ?_) | (with_reducible refine wd_tup0 ?_)
  | (with_reducible refine wd_lst0 ?_) | (with_reducible refine wd_lst1 ?_) | (with_reducible refine wd_lst2 ?_) | (with_reducible refine wd_lst3 ?_) | (with_reducible refine wd_lst4 ?_) | (with_reducible refine wd_lst5 ?_) | (with_reducible refine wd_lst6 ?_)
  | ((with_reducible apply wd_callO0); exact rfl) | ((with_reducible apply wd_callO1); exact rfl) | ((with_reducible apply wd_callO2); exact rfl) | ((with_reducible apply wd_callO3); exact rfl)
  | (with_reducible refine wd_call1 ?_) | (with_reducible refine wd_call2 ?_) | (with_reducible refine wd_call3 ?_) | (with_reducible refine wd_call4 ?_) | (with_reducible refine wd_call0 ?_)
  | (with_reducible refine wd_cb1 ?_) | (with_reducible refine wd_cb2 ?_)
  | (with_reducible refine wd_rev ?_) | (with_reducible refine wd_lrg1 ?_) | (with_reducible refine wd_sl ?_) | (with_reducible refine wo_no ?_) | (with_reducible refine wo_some ?_)
  | (with_reducible refine wd_andV ?_) | (with_reducible refine wd_orV ?_) | (with_reducible refine wd_notV ?_) | (with_reducible refine wd_if ?_) | (with_reducible refine wd_chain ?_)
  | (with_reducible refine wt_test ?_) | (with_reducible refine wt_B ?_) | (with_reducible refine wt_not ?_) | (with_reducible refine wt_and ?_) | (with_reducible refine wt_or ?_) | (with_reducible refine wt_yes ?_)
  | (with_reducible refine gj_name ?_) | (with_reducible refine gj_tup rfl ?_) | (with_reducible refine gjs_cons ?_) | (with_reducible refine gjs_nil ?_))
local macro_rules | `(tactic| walk_at "v") => `(tactic| repeat walk_at "v1")
local macro_rules | `(tactic| walk_at "x") => `(tactic| refine ⟨_, rfl, ?_⟩)
local macro_rules | `(tactic| walk_at "vx") => `(tactic| repeat (first | walk_at "v1" | (with_reducible refine ⟨_, rfl, ?_⟩)))
namespace Dk
open PySem PySem.Spec PyProof.Rows L2 Pk Sy
section
variable {P : Program} {K : Kw} {mg : Str → Option Value} {base : Heap} {k : Nat}
end
end Dk
end
section
set_option Elab.async false
set_option linter.all false
set_option maxRecDepth 100000
namespace Dk
open PySem PySem.Spec PyProof.Rows L2 Pk
section
variable {K : Kw} {m : Bool} {Γ : List Sl} {Q : PyData → Prop} {te ti : TE}
end
def Th.w : Th → Str
  | .num _ => "number" | .box _ => "box" | .op o _ _ => o.w
theorem op_tab : ∀ o ∈ [Op.plus, .times, .less, .same], ∀ u ∈ [Op.plus, .times, .less, .same], decide (o.w = u.w) = decide (o = u) := by decide +kernel
theorem op_mem (o : Op) : o ∈ [Op.plus, .times, .less, .same] := by cases o <;> simp
theorem Op.eqW (o u : Op) : PyData.eqv (.str o.w) (.str u.w) = decide (o = u) := by rw [eqv_str]; exact op_tab o (op_mem o) u (op_mem u)
end Dk
end
section
set_option Elab.async false
set_option linter.all false
set_option maxRecDepth 100000
set_option pp.maxSteps 600
open PySem L2 Pk
local macro_rules | `(tactic| walk_at "sh") => `(tactic| first | exact sh_int | exact sh_bool | exact sh_non | exact sh_nil | exact sh_str (by decide +kernel) | assumption)
local macro_rules | `(tactic| walk_at "v1") => `(tactic| first
  | (with_reducible refine wd_int ?_) | (with_reducible refine wd_str ?_) | (with_reducible refine wd_bl ?_) | (with_reducible refine wd_non ?_)
  | ((with_reducible apply wd_var); exact rfl) | ((with_reducible apply wd_varN); exact rfl)
  | ((with_reducible apply wd_ixm); exact rfl)
  | ((with_reducible apply wd_lenM); exact rfl) | ((with_reducible apply wd_lenScript); exact rfl) | ((with_reducible apply wd_ixScript); exact rfl)
  | (with_reducible refine wd_op ?_) | (with_reducible refine wd_un ?_)
  | (with_reducible refine rd_add ?_) | (with_reducible refine rd_sub ?_) | (with_reducible refine rd_lt ?_) | (with_reducible refine rd_le ?_) | (with_reducible refine rd_gt ?_) | (with_reducible refine rd_ge ?_) | (with_reducible refine ru_neg ?_)
  | ((with_reducible refine rd_eq ?ev_h ?ev_k ?_); (case ev_h => walk_at "sh"); (case ev_k => walk_at "sh")) | ((with_reducible refine rd_ne ?ev_h ?ev_k ?_); (case ev_h => walk_at "sh"); (case ev_k => walk_at "sh"))
  | ((with_reducible refine rd_mod ?ev_h ?_); case ev_h => first | decide | assumption | omega) | ((with_reducible refine rd_div ?ev_h ?ev_k ?_); (case ev_h => first | decide | assumption | omega); (case ev_k => first | decide | assumption | omega))
  | ((with_reducible refine rd_pow ?ev_h ?_); case ev_h => exact ⟨by decide, by decide, by decide⟩)
  | ((with_reducible refine rd_mul ?ev_h ?_); case ev_h => first | exact .inr ⟨by decide, by decide⟩ | exact .inl ⟨by decide, by decide⟩ | exact .inl ⟨by omega, by omega⟩ | exact .inr ⟨by omega, by omega⟩)
  | (with_reducible refine rc_lenL ?_) | (with_reducible refine rc_lenT ?_) | (with_reducible refine rc_max2 ?_) | (with_reducible refine rc_min2 ?_) | (with_reducible refine rc_intB ?_) | (with_reducible refine rc_intI ?_) | (with_reducible refine rc_listL ?_) | (with_reducible refine rc_listT ?_) | (with_reducible refine rc_tupleL ?_)
  | ((with_reducible apply rd_ixT); exact rfl)
  | ((with_reducible apply rd_ixL); exact rfl)
  | ((with_reducible refine wd_isi ?ev_h ?_); case ev_h => decide) | ((with_reducible refine wd_isi2 ?ev_h ?ev_k ?_); (case ev_h => decide); (case ev_k => decide))
  | (with_reducible refine wd_tup2 ?_) | (with_reducible refine wd_tup1 ?_) | (with_reducible refine wd_tup3 ?_) | (with_reducible refine wd_tup0 ?_)
  | (with_reducible refine wd_lst0 ?_) | (with_reducible refine wd_lst1 ?_) | (with_reducible refine wd_lst2 ?_) | (with_reducible refine wd_lst3 ?_) | (with_reducible refine wd_lst4 ?_) | (with_reducible refine wd_lst5 ?_) | (with_reducible refine wd_lst6 ?_)
  | ((with_reducible apply wd_callO0); exact rfl) | ((with_reducible apply wd_callO1); exact rfl) | ((with_reducible apply wd_callO2); exact rfl) | ((with_reducible apply wd_callO3); exact rfl)
  | (with_reducible refine wd_call1 ?_) | (with_reducible refine wd_call2 ?_) | (with_reducible refine wd_call3 ?_) | (with_reducible refine wd_call4 ?_) | (with_reducible refine wd_call0 ?_)
  | (with_reducible refine wd_cb1 ?_) | (with_reducible refine wd_cb2 ?_)
  | (with_reducible refine wd_rev ?_) | (with_reducible refine wd_lrg1 ?_) | (with_reducible refine wd_sl ?_) | (with_reducible refine wo_no ?_) | (with_reducible refine wo_some ?_)
  | (with_reducible refine wd_andV ?_) | (with_reducible refine wd_orV ?_) | (with_reducible refine wd_notV ?_) | (with_reducible refine wd_if ?_) | (with_reducible refine wd_chain ?_)
  | (with_reducible refine wt_test ?_) | (with_reducible refine wt_B ?_) | (with_reducible refine wt_not ?_) | (with_reducible refine wt_and ?_) | (with_reducible refine wt_or ?_) | (with_reducible refine wt_yes ?_)
  | (with_reducible refine gj_name ?_) | (with_reducible refine gj_tup rfl ?_) | (with_reducible refine gjs_cons ?_) | (with_reducible refine gjs_nil ?_))
local macro_rules | `(tactic| walk_at "v") => `(tactic| repeat walk_at "v1")
local macro_rules | `(tactic| walk_at "x") => `(tactic| refine ⟨_, rfl, ?_⟩)
local macro_rules | `(tactic| walk_at "vx") => `(tactic| repeat (first | walk_at "v1" | (with_reducible refine ⟨_, rfl, ?_⟩)))
namespace Dk
open PySem PySem.Spec PyProof.Rows L2 Pk Sy Pz
theorem Pg.Ok.mb {p : Pg} (h : p.Ok) : MB p.m p.bs := ⟨h.m2, h.m16, h.bs⟩
section
variable {K : Kw} {m : Bool} {Γ : List Sl} {Q : PyData → Prop}
theorem rd_pgB {p : Pg} (q : Q (bsD p.bs)) : RD K m Γ (rIx K) p.d (.int 1) Q := rd_ixT rfl q
theorem rd_pgR {p : Pg} (q : Q (rwsD p.rows)) : RD K m Γ (rIx K) p.d (.int 2) Q := rd_ixT rfl q
end
section
variable {P : Program} {K : Kw} {mg : Str → Option Value} {base : Heap} {k : Nat}
end
end Dk
end
section
set_option Elab.async false
set_option linter.all false
set_option maxRecDepth 100000
namespace Dk
open PySem PySem.Spec PyProof.Rows L2 Pk
inductive Wy where
  | place (row : Nat) (st : List Nat)
  | gives (n : Nat)
  | nothing
  deriving DecidableEq
def Wy.d : Wy → PyData
  | .place row st => .tuple [.int row, stD st]
  | .gives n => .tuple [.str "gives", .int n]
  | .nothing => .tuple [.str "nothing"]
def Wy.isPl : Wy → Bool
  | .place _ _ => true | _ => false
def poe (p : Pg) (row : Nat) (st : List Nat) : Wy := if p.rows.length ≤ row then .nothing else .place row st
def put (bs : List Str) (st : List Nat) (x : Str) (n : Nat) : List Nat := st.set (bs.idxOf x) n
theorem put_ok {m : Nat} {bs : List Str} {st : List Nat} {x : Str} {n : Nat} (h : StOk m bs st) (hn : n < m) : StOk m bs (put bs st x n) := ⟨by simp [put, h.len], fun k hk => by
  rcases List.mem_or_eq_of_mem_set hk with z | z
  · exact h.lt k z
  · rw [z]; exact hn⟩
def tv (p : Pg) (st : List Nat) (t : Th) : Nat := t.v p.m p.bs st
def nxt (p : Pg) (row : Nat) (st : List Nat) : Rw → List Wy
  | .set x t => [poe p (row + 1) (put p.bs st x (tv p st t))]
  | .pick x ts => ts.map fun t => poe p (row + 1) (put p.bs st x (tv p st t))
  | .need t => if tv p st t = 0 then [.nothing] else [poe p (row + 1) st]
  | .skip t k => [poe p (row + 1 + if tv p st t = 0 then 0 else k) st]
  | .give t => [.gives (tv p st t)]
def ways (p : Pg) (row : Nat) (st : List Nat) : List Wy := match p.rows[row]? with
  | some r => nxt p row st r
  | none => []
def isPickAt (p : Pg) (row : Nat) : Bool := match p.rows[row]? with
  | some r => r.isPick
  | none => false
theorem ways_at {p : Pg} {row : Nat} {st : List Nat} {r : Rw} (h : p.rows[row]? = some r) : ways p row st = nxt p row st r := by unfold ways; rw [h]
/-- a way of the program -/
def WyOk (p : Pg) : Wy → Prop
  | .place row st => row < p.rows.length ∧ StOk p.m p.bs st
  | .gives n => n < p.m
  | .nothing => True
theorem poe_ok {p : Pg} {row : Nat} {st : List Nat} (h : StOk p.m p.bs st) : WyOk p (poe p row st) := by
  unfold poe
  split
  · exact True.intro
  · exact ⟨by omega, h⟩
/-- further on than row -/
def past (row : Nat) : Wy → Prop
  | .place r _ => row < r
  | _ => True
theorem poe_past {p : Pg} {row k : Nat} {st : List Nat} (h : row < k) : past row (poe p k st) := by
  unfold poe
  split
  · exact True.intro
  · exact h
theorem tv_lt {p : Pg} (hp : p.Ok) {st : List Nat} (hs : StOk p.m p.bs st) {n : Nat} {t : Th} (ht : t.Ok p.m p.bs n) : tv p st t < p.m := Th.v_lt hp.m2 hs ht
theorem nxt_ok {p : Pg} (hp : p.Ok) {row : Nat} {st : List Nat} (hs : StOk p.m p.bs st) {r : Rw} (hr : r.Ok p.m p.bs) : ∀ w ∈ nxt p row st r, WyOk p w ∧ past row w := fun w hw => by
  cases r with
  | set x t =>
    simp only [nxt, List.mem_singleton] at hw
    rw [hw]
    exact ⟨poe_ok (put_ok hs (tv_lt hp hs hr.2)), poe_past (by omega)⟩
  | pick x ts =>
    simp only [nxt] at hw
    obtain ⟨t, ht, rfl⟩ := List.mem_map.mp hw
    exact ⟨poe_ok (put_ok hs (tv_lt hp hs (hr.2.2.2 t ht))), poe_past (by omega)⟩
  | need t =>
    simp only [nxt] at hw
    split at hw
    · simp at hw; rw [hw]; exact ⟨True.intro, True.intro⟩
    · simp at hw; rw [hw]; exact ⟨poe_ok hs, poe_past (by omega)⟩
  | skip t k =>
    simp only [nxt, List.mem_singleton] at hw
    rw [hw]
    exact ⟨poe_ok hs, poe_past (by omega)⟩
  | give t =>
    simp only [nxt, List.mem_singleton] at hw
    rw [hw]
    exact ⟨tv_lt hp hs hr, True.intro⟩
theorem ways_ok {p : Pg} (hp : p.Ok) {row : Nat} {st : List Nat} (hs : StOk p.m p.bs st) : ∀ w ∈ ways p row st, WyOk p w ∧ past row w := fun w hw => by
  cases h : p.rows[row]? with
  | none => unfold ways at hw; rw [h] at hw; cases hw
  | some r => rw [ways_at h] at hw; exact nxt_ok hp hs (hp.rows r (List.mem_of_getElem? h)) w hw
/-- the run from a way that makes just these choices comes to this end -/
inductive Goes (p : Pg) : Wy → List Nat → Wy → Prop
  | fin {e : Wy} : e.isPl = false → Goes p e [] e
  | step {row : Nat} {st cs : List Nat} {w e : Wy} : isPickAt p row = false → ways p row st = [w] → Goes p w cs e → Goes p (.place row st) cs e
  | pick {row c : Nat} {st cs : List Nat} {w e : Wy} : isPickAt p row = true → (ways p row st)[c]? = some w → Goes p w cs e → Goes p (.place row st) (c :: cs) e
theorem Goes.end {p : Pg} {w e : Wy} {cs : List Nat} (h : Goes p w cs e) : e.isPl = false := by
  induction h with
  | fin h => exact h
  | step _ _ _ ih => exact ih
  | pick _ _ _ ih => exact ih
/-- its row; an end has the bound -/
def Wy.rowN : Wy → Nat
  | .place r _ => r | _ => 30
theorem past_le {p : Pg} (hp : p.Ok) {row : Nat} (hr : row < p.rows.length) {w : Wy} (h : past row w) : row + 1 ≤ w.rowN := by
  have := hp.r30
  cases w with
  | place r s => exact h
  | gives n => show row + 1 ≤ 30; omega
  | nothing => show row + 1 ≤ 30; omega
theorem Goes.len {p : Pg} (hp : p.Ok) {w e : Wy} {cs : List Nat} (h : Goes p w cs e) : WyOk p w → cs.length + w.rowN ≤ 30 := by
  have h30 := hp.r30
  induction h with
  | fin h =>
    intro hw
    rename_i e
    clear hw
    cases e with
    | place r s => cases h
    | gives n => exact Nat.le_refl _
    | nothing => exact Nat.le_refl _
  | step h1 h2 h3 ih =>
    intro hw
    rename_i row st cs w e
    have hm := ways_ok hp hw.2 w (by rw [h2]; exact List.mem_singleton.mpr rfl)
    have := ih hm.1
    have := past_le hp hw.1 hm.2
    show cs.length + row ≤ 30
    omega
  | pick h1 h2 h3 ih =>
    intro hw
    rename_i row c st cs w e
    have hm := ways_ok hp hw.2 w (List.mem_of_getElem? h2)
    have := ih hm.1
    have := past_le hp hw.1 hm.2
    show (c :: cs).length + row ≤ 30
    rw [List.length_cons]
    omega
theorem Wy.sh {w : Wy} : SeqAt.shaped w.d = true := by
  refine sh_of (n := 2) ?_ (by decide)
  cases w with
  | place row st =>
    intro x hx
    simp at hx
    rcases hx with rfl | rfl
    · exact dep_int
    · intro y hy
      obtain ⟨n, _, rfl⟩ := List.mem_map.mp hy
      exact dep_int
  | gives n =>
    intro x hx
    simp at hx
    rcases hx with rfl | rfl
    · exact dep_str (ok_w (by simp))
    · exact dep_int
  | nothing =>
    intro x hx
    simp at hx
    subst hx
    exact dep_str (ok_w (by simp))
theorem st_nb (st : List Nat) : NB (stD st) := .tup fun y hy => by
  obtain ⟨n, _, rfl⟩ := List.mem_map.mp hy
  exact .int _
theorem Wy.nb (w : Wy) : NB w.d := by
  cases w with
  | place row st =>
    refine .tup fun x hx => ?_
    simp at hx
    rcases hx with rfl | rfl
    · exact .int _
    · exact st_nb st
  | gives n =>
    refine .tup fun x hx => ?_
    simp at hx
    rcases hx with rfl | rfl
    · exact .str _
    · exact .int _
  | nothing =>
    refine .tup fun x hx => ?_
    simp at hx
    subst hx
    exact .str _
theorem Wy.lf (w : Wy) : Pk.lf w.d = true := by
  cases w with
  | place row st =>
    show Pk.lfA [.int row, stD st] = true
    simp only [Pk.lfA, st_lf, Bool.and_true]
    rfl
  | gives n => rfl
  | nothing => rfl
abbrev natsD (ns : List Nat) : PyData := .list (ns.map fun (n : Nat) => PyData.int n)
inductive Kd where
  | set | pick | need | skip | give
  deriving DecidableEq
def Kd.w : Kd → Str
  | .set => "set" | .pick => "pick" | .need => "need" | .skip => "skip" | .give => "give"
theorem kd_tab : ∀ o ∈ [Kd.set, .pick, .need, .skip, .give], ∀ u ∈ [Kd.set, .pick, .need, .skip, .give], decide (o.w = u.w) = decide (o = u) := by decide +kernel
theorem kd_mem (o : Kd) : o ∈ [Kd.set, .pick, .need, .skip, .give] := by cases o <;> simp
theorem Kd.eqW (o u : Kd) : PyData.eqv (.str o.w) (.str u.w) = decide (o = u) := by rw [eqv_str]; exact kd_tab o (kd_mem o) u (kd_mem u)
theorem kd_okt : ∀ o ∈ [Kd.set, .pick, .need, .skip, .give], PyData.strOk o.w = true := by decide +kernel
theorem Kd.ok (o : Kd) : PyData.strOk o.w = true := kd_okt o (kd_mem o)
def Rw.kd : Rw → Kd
  | .set _ _ => .set | .pick _ _ => .pick | .need _ => .need | .skip _ _ => .skip | .give _ => .give
section
variable {K : Kw} {m : Bool} {Γ : List Sl} {Q : PyData → Prop}
theorem rd_w {a b : Kd} (q : Q (.bool (decide (a = b)))) : RD K m Γ (dEq K) (.str a.w) (.str b.w) Q := rd_eq (sh_str a.ok) (sh_str b.ok) (by rw [Kd.eqW]; exact q)
theorem rd_rk {r : Rw} (q : Q (.str r.kd.w)) : RD K m Γ (rIx K) r.d (.int 0) Q := by cases r <;> exact rd_ixT rfl q
theorem rd_row {p : Pg} {row : Nat} {r : Rw} (h : p.rows[row]? = some r) (q : Q r.d) : RD K m Γ (rIx K) (.list (p.rows.map Rw.d)) (.int row) Q := rd_selN row rfl (by rw [List.getElem?_map, h]; rfl) q
end
/-- rows that are no picks, gone on -/
inductive Stp (p : Pg) : Wy → Wy → Prop
  | rfl {w : Wy} : Stp p w w
  | step {row : Nat} {st : List Nat} {w z : Wy} : isPickAt p row = false → ways p row st = [w] → Stp p w z → Stp p (.place row st) z
/-- a run with the places that it comes to -/
inductive Tr (p : Pg) : Wy → List Nat → List Wy → Wy → Prop
  | fin {w : Wy} : w.isPl = false → Tr p w [] [] w
  | step {r : Nat} {s : List Nat} {w : Wy} {cs : List Nat} {ws : List Wy} {e : Wy} : isPickAt p r = false → ways p r s = [w] → Tr p w cs ws e → Tr p (.place r s) cs (.place r s :: ws) e
  | pick {r : Nat} {s : List Nat} {c : Nat} {w : Wy} {cs : List Nat} {ws : List Wy} {e : Wy} : isPickAt p r = true → (ways p r s)[c]? = some w → Tr p w cs ws e → Tr p (.place r s) (c :: cs) (.place r s :: ws) e
end Dk
end
section
set_option Elab.async false
set_option linter.all false
set_option maxRecDepth 100000
set_option pp.maxSteps 600
open PySem L2 Pk
local macro_rules | `(tactic| walk_at "sh") => `(tactic| first | exact sh_int | exact sh_bool | exact sh_non | exact sh_nil | exact sh_str (by decide +kernel) | assumption)
local macro_rules | `(tactic| walk_at "v1") => `(tactic| first
  | (with_reducible refine wd_int ?_) | (with_reducible refine wd_str ?_) | (with_reducible refine wd_bl ?_) | (with_reducible refine wd_non ?_)
  | ((with_reducible apply wd_var); exact rfl) | ((with_reducible apply wd_varN); exact rfl)
  | ((with_reducible apply wd_ixm); exact rfl)
  | ((with_reducible apply wd_lenM); exact rfl) | ((with_reducible apply wd_lenScript); exact rfl) | ((with_reducible apply wd_ixScript); exact rfl)
  | (with_reducible refine wd_op ?_) | (with_reducible refine wd_un ?_)
  | (with_reducible refine rd_add ?_) | (with_reducible refine rd_sub ?_) | (with_reducible refine rd_lt ?_) | (with_reducible refine rd_le ?_) | (with_reducible refine rd_gt ?_) | (with_reducible refine rd_ge ?_) | (with_reducible refine ru_neg ?_)
  | ((with_reducible refine rd_eq ?ev_h ?ev_k ?_); (case ev_h => walk_at "sh"); (case ev_k => walk_at "sh")) | ((with_reducible refine rd_ne ?ev_h ?ev_k ?_); (case ev_h => walk_at "sh"); (case ev_k => walk_at "sh"))
  | ((with_reducible refine rd_mod ?ev_h ?_); case ev_h => first | decide | assumption | omega) | ((with_reducible refine rd_div ?ev_h ?ev_k ?_); (case ev_h => first | decide | assumption | omega); (case ev_k => first | decide | assumption | omega))
  | ((with_reducible refine rd_pow ?ev_h ?_); case ev_h => exact ⟨by decide, by decide, by decide⟩)
  | ((with_reducible refine rd_mul ?ev_h ?_); case ev_h => first | exact .inr ⟨by decide, by decide⟩ | exact .inl ⟨by decide, by decide⟩ | exact .inl ⟨by omega, by omega⟩ | exact .inr ⟨by omega, by omega⟩)
  | (with_reducible refine rc_lenL ?_) | (with_reducible refine rc_lenT ?_) | (with_reducible refine rc_max2 ?_) | (with_reducible refine rc_min2 ?_) | (with_reducible refine rc_intB ?_) | (with_reducible refine rc_intI ?_) | (with_reducible refine rc_listL ?_) | (with_reducible refine rc_listT ?_) | (with_reducible refine rc_tupleL ?_)
  | ((with_reducible apply rd_ixT); exact rfl)
  | ((with_reducible apply rd_ixL); exact rfl)
  | ((with_reducible refine wd_isi ?ev_h ?_); case ev_h => decide) | ((with_reducible refine wd_isi2 ?ev_h ?ev_k ?_); (case ev_h => decide); (case ev_k => decide))
  | (with_reducible refine wd_tup2 ?_) | (with_reducible refine wd_tup1 ?_) | (with_reducible refine wd_tup3 ?_) | (with_reducible refine wd_tup0 ?_)
  | (with_reducible refine wd_lst0 ?_) | (with_reducible refine wd_lst1 ?_) | (with_reducible refine wd_lst2 ?_) | (with_reducible refine wd_lst3 ?_) | (with_reducible refine wd_lst4 ?_) | (with_reducible refine wd_lst5 ?_) | (with_reducible refine wd_lst6 ?_)
  | ((with_reducible apply wd_callO0); exact rfl) | ((with_reducible apply wd_callO1); exact rfl) | ((with_reducible apply wd_callO2); exact rfl) | ((with_reducible apply wd_callO3); exact rfl)
  | (with_reducible refine wd_call1 ?_) | (with_reducible refine wd_call2 ?_) | (with_reducible refine wd_call3 ?_) | (with_reducible refine wd_call4 ?_) | (with_reducible refine wd_call0 ?_)
  | (with_reducible refine wd_cb1 ?_) | (with_reducible refine wd_cb2 ?_)
  | (with_reducible refine wd_rev ?_) | (with_reducible refine wd_lrg1 ?_) | (with_reducible refine wd_sl ?_) | (with_reducible refine wo_no ?_) | (with_reducible refine wo_some ?_)
  | (with_reducible refine wd_andV ?_) | (with_reducible refine wd_orV ?_) | (with_reducible refine wd_notV ?_) | (with_reducible refine wd_if ?_) | (with_reducible refine wd_chain ?_)
  | (with_reducible refine wt_test ?_) | (with_reducible refine wt_B ?_) | (with_reducible refine wt_not ?_) | (with_reducible refine wt_and ?_) | (with_reducible refine wt_or ?_) | (with_reducible refine wt_yes ?_)
  | (with_reducible refine gj_name ?_) | (with_reducible refine gj_tup rfl ?_) | (with_reducible refine gjs_cons ?_) | (with_reducible refine gjs_nil ?_))
local macro_rules | `(tactic| walk_at "v") => `(tactic| repeat walk_at "v1")
local macro_rules | `(tactic| walk_at "x") => `(tactic| refine ⟨_, rfl, ?_⟩)
local macro_rules | `(tactic| walk_at "vx") => `(tactic| repeat (first | walk_at "v1" | (with_reducible refine ⟨_, rfl, ?_⟩)))
namespace Dk
open PySem PySem.Spec PyProof.Rows L2 Pk Sy Pz
section
variable {P : Program} {K : Kw} {mg : Str → Option Value} {base : Heap} {k : Nat}
end
end Dk
end
section
set_option Elab.async false
set_option linter.all false
set_option maxRecDepth 100000
set_option pp.maxSteps 1000
namespace Pk
open PySem PySem.Spec PyProof.Rows L2
end Pk
end
section
set_option Elab.async false
set_option linter.all false
set_option maxRecDepth 100000
set_option pp.maxSteps 600
open PySem L2 Pk
local macro_rules | `(tactic| walk_at "sh") => `(tactic| first | exact sh_int | exact sh_bool | exact sh_non | exact sh_nil | exact sh_str (by decide +kernel) | assumption)
local macro_rules | `(tactic| walk_at "v1") => `(tactic| first
  | (with_reducible refine wd_int ?_) | (with_reducible refine wd_str ?_) | (with_reducible refine wd_bl ?_) | (with_reducible refine wd_non ?_)
  | ((with_reducible apply wd_var); exact rfl) | ((with_reducible apply wd_varN); exact rfl)
  | ((with_reducible apply wd_ixm); exact rfl)
  | ((with_reducible apply wd_lenM); exact rfl) | ((with_reducible apply wd_lenScript); exact rfl) | ((with_reducible apply wd_ixScript); exact rfl)
  | (with_reducible refine wd_op ?_) | (with_reducible refine wd_un ?_)
  | (with_reducible refine rd_add ?_) | (with_reducible refine rd_sub ?_) | (with_reducible refine rd_lt ?_) | (with_reducible refine rd_le ?_) | (with_reducible refine rd_gt ?_) | (with_reducible refine rd_ge ?_) | (with_reducible refine ru_neg ?_)
  | ((with_reducible refine rd_eq ?ev_h ?ev_k ?_); (case ev_h => walk_at "sh"); (case ev_k => walk_at "sh")) | ((with_reducible refine rd_ne ?ev_h ?ev_k ?_); (case ev_h => walk_at "sh"); (case ev_k => walk_at "sh"))
  | ((with_reducible refine rd_mod ?ev_h ?_); case ev_h => first | decide | assumption | omega) | ((with_reducible refine rd_div ?ev_h ?ev_k ?_); (case ev_h => first | decide | assumption | omega); (case ev_k => first | decide | assumption | omega))
  | ((with_reducible refine rd_pow ?ev_h ?_); case ev_h => exact ⟨by decide, by decide, by decide⟩)
  | ((with_reducible refine rd_mul ?ev_h ?_); case ev_h => first | exact .inr ⟨by decide, by decide⟩ | exact .inl ⟨by decide, by decide⟩ | exact .inl ⟨by omega, by omega⟩ | exact .inr ⟨by omega, by omega⟩)
  | (with_reducible refine rc_lenL ?_) | (with_reducible refine rc_lenT ?_) | (with_reducible refine rc_max2 ?_) | (with_reducible refine rc_min2 ?_) | (with_reducible refine rc_intB ?_) | (with_reducible refine rc_intI ?_) | (with_reducible refine rc_listL ?_) | (with_reducible refine rc_listT ?_) | (with_reducible refine rc_tupleL ?_)
  | ((with_reducible apply rd_ixT); exact rfl)
  | ((with_reducible apply rd_ixL); exact rfl)
  | ((with_reducible refine wd_isi ?ev_h ?_); case ev_h => decide) | ((with_reducible refine wd_isi2 ?ev_h ?ev_k ?_); (case ev_h => decide); (case ev_k => decide))
  | (with_reducible refine wd_tup2 ?_) | (with_reducible refine wd_tup1 ?_) | (with_reducible refine wd_tup3 ?_) | (with_reducible refine wd_tup0 ?_)
  | (with_reducible refine wd_lst0 ?_) | (with_reducible refine wd_lst1 ?_) | (with_reducible refine wd_lst2 ?_) | (with_reducible refine wd_lst3 ?_) | (with_reducible refine wd_lst4 ?_) | (with_reducible refine wd_lst5 ?_) | (with_reducible refine wd_lst6 ?_)
  | ((with_reducible apply wd_callO0); exact rfl) | ((with_reducible apply wd_callO1); exact rfl) | ((with_reducible apply wd_callO2); exact rfl) | ((with_reducible apply wd_callO3); exact rfl)
  | (with_reducible refine wd_call1 ?_) | (with_reducible refine wd_call2 ?_) | (with_reducible refine wd_call3 ?_) | (with_reducible refine wd_call4 ?_) | (with_reducible refine wd_call0 ?_)
  | (with_reducible refine wd_cb1 ?_) | (with_reducible refine wd_cb2 ?_)
  | (with_reducible refine wd_rev ?_) | (with_reducible refine wd_lrg1 ?_) | (with_reducible refine wd_sl ?_) | (with_reducible refine wo_no ?_) | (with_reducible refine wo_some ?_)
  | (with_reducible refine wd_andV ?_) | (with_reducible refine wd_orV ?_) | (with_reducible refine wd_notV ?_) | (with_reducible refine wd_if ?_) | (with_reducible refine wd_chain ?_)
  | (with_reducible refine wt_test ?_) | (with_reducible refine wt_B ?_) | (with_reducible refine wt_not ?_) | (with_reducible refine wt_and ?_) | (with_reducible refine wt_or ?_) | (with_reducible refine wt_yes ?_)
  | (with_reducible refine gj_name ?_) | (with_reducible refine gj_tup rfl ?_) | (with_reducible refine gjs_cons ?_) | (with_reducible refine gjs_nil ?_))
local macro_rules | `(tactic| walk_at "v") => `(tactic| repeat walk_at "v1")
local macro_rules | `(tactic| walk_at "x") => `(tactic| refine ⟨_, rfl, ?_⟩)
local macro_rules | `(tactic| walk_at "vx") => `(tactic| repeat (first | walk_at "v1" | (with_reducible refine ⟨_, rfl, ?_⟩)))
namespace Dk
open PySem PySem.Spec PyProof.Rows L2 Pk Sy
def PoP (n : Nat) (ns : List Int) : Prop := ∃ a f s : Int, ns = [a, f, s] ∧ 0 ≤ s ∧ s ≤ n
abbrev Pool (K : Kw) (n : Nat) : Own := OwnL K (PoP n)
def MXP : Nat := 10000000
def cst (n : Nat) : Nat := 3 * 2 ^ n - 2
def SzOk (m many : Nat) : Prop := 2 ≤ m ∧ m ≤ 16 ∧ 1 ≤ many ∧ many ≤ 5 ∧ m ^ many ≤ 2000000
def T_ppool (K : Kw) : List Sl → (Sl → Prop) → Prop := fun Γ Q => ∃ v ns k, Γ = [.ex v (ScriptO K ns), .dat false (.int k)] ∧ 0 ≤ k ∧ k < 1000 ∧ ∀ l a f s, PoP 60000 [a, f, s] → Q (.ml false l [.int a, .int f, .int s])
def T_ptake (K : Kw) : List Sl → (List Sl → Sl → Prop) → Prop := fun Γ Q => ∃ v, ∃ n many : Nat, Γ = [.ex v (Pool K n), .dat false (.int many)] ∧ n < MXP ∧ 0 < many ∧ many < 1000000 ∧ ∀ r : Nat, r < many → Q [.ex v (Pool K (n + 1)), .dat false (.int many)] (.dat true (.int r))
def T_pboxes (K : Kw) : List Sl → (List Sl → Sl → Prop) → Prop := fun Γ Q => ∃ v, ∃ n many : Nat, Γ = [.ex v (Pool K n), .dat false (.int many)] ∧ n + 80 ≤ MXP ∧ 1 ≤ many ∧ many ≤ 5 ∧ ∀ l bs n', n' ≤ n + 80 → BsOk bs → bs.length = many → Q [.ex v (Pool K n'), .dat false (.int many)] (.ml false l (bs.map PyData.str))
def T_pthing (N : Nat) (K : Kw) : List Sl → (List Sl → Sl → Prop) → Prop := fun Γ Q => ∃ v, ∃ n m : Nat, ∃ bs, ∃ deep : Nat, Γ = [.ex v (Pool K n), .dat false (.int m), .dat false (bsD bs), .dat false (.int deep)] ∧ MB m bs ∧ 1 ≤ deep ∧ deep ≤ N ∧ n + cst N ≤ MXP ∧ ∀ (t : Th) n', t.Ok m bs deep → n' ≤ n + cst N → Q [.ex v (Pool K n'), .dat false (.int m), .dat false (bsD bs), .dat false (.int deep)] (.dat true t.d)
def T_prow (K : Kw) : List Sl → (List Sl → Sl → Prop) → Prop := fun Γ Q => ∃ v, ∃ n m : Nat, ∃ bs, Γ = [.ex v (Pool K n), .dat false (.int m), .dat false (bsD bs)] ∧ MB m bs ∧ n + 240 ≤ MXP ∧ ∀ (r : Rw) n', r.Ok m bs → n' ≤ n + 240 → Q [.ex v (Pool K n'), .dat false (.int m), .dat false (bsD bs)] (.dat false r.d)
def T_pprogram (K : Kw) : List Sl → (List Sl → Sl → Prop) → Prop := fun Γ Q => ∃ v, ∃ n m many most : Nat, Γ = [.ex v (Pool K n), .dat false (.tuple [.int m, .int many]), .dat false (.int most)] ∧ SzOk m many ∧ 1 ≤ most ∧ most ≤ 30 ∧ n + 7400 ≤ MXP ∧ ∀ (p : Pg) n', p.Ok → p.m = m → p.bs.length = many → p.rows.length ≤ most → n' ≤ n + 7400 → Q [.ex v (Pool K n'), .dat false (.tuple [.int m, .int many]), .dat false (.int most)] (.dat false p.d)
section
variable {K : Kw} {m : Bool} {v : V} {Φ : Own} {Γ Γr : List Sl} {t ta : TE} {EE : XK} {Q Q' : PyData → List Sl → Prop}
theorem wdg_mono (h : WDg K m Γ t Q) (k : ∀ d Γ', Q d Γ' → Q' d Γ') : WDg K m Γ t Q' := fun X hK F H σ E C c => h X hK F H σ E C fun v F' H' d Γ' l E' r q => c v F' H' d Γ' l E' r (k d Γ' q)
theorem same1 {Φ' : Own} : SameEx (.ex v Φ :: Γr) (.ex v Φ' :: Γr) := ⟨rfl, fun i => by
  cases i with
  | zero => exact .inr ⟨v, Φ, Φ', rfl, rfl⟩
  | succ i => exact .inl rfl⟩
theorem gtake (h : WDg K false (.ex v Φ :: Γr) ta fun d Γ1 => ∃ n many : Nat, d = .int many ∧ Γ1 = .ex v (Pool K n) :: Γr ∧ n < MXP ∧ 0 < many ∧ many < 1000000 ∧ ∀ r : Nat, r < many → Q (.int r) (.ex v (Pool K (n + 1)) :: Γr)) : WDg K m (.ex v Φ :: Γr) (tCall (spD K (T_ptake K)) [] EE (tCons (tVar 0) (tCons ta tNil))) Q :=
  wdg_callD (i := 0) (v := v) rfl (wag_cons (wdg_mono h fun d Γ1 ⟨n, many, e, e1, hn, h0, h1, q⟩ => wag_nil (by
    subst e; subst e1
    exact ⟨Pool K n, rfl, v, n, many, rfl, hn, h0, h1, fun r hr => ⟨Pool K (n + 1), rfl, asD_new (Q := fun d => Q d _) (q r hr)⟩⟩)))
theorem gtake_c {n many : Nat} (hn : n < MXP) (h0 : 0 < many) (h1 : many < 1000000) (q : ∀ r : Nat, r < many → Q (.int r) (.ex v (Pool K (n + 1)) :: Γr)) : WDg K m (.ex v (Pool K n) :: Γr) (tCall (spD K (T_ptake K)) [] EE (tCons (tVar 0) (tCons (tC (.int (many : Int))) tNil))) Q :=
  gtake (wdg_of (wd_int ⟨n, many, rfl, rfl, hn, h0, h1, q⟩))
theorem gtake_w {n many : Nat} (hn : n < MXP) (h0 : 0 < many) (h1 : many < 1000000) (h : WD K false (.ex v (Pool K n) :: Γr) ta fun d => d = .int many) (q : ∀ r : Nat, r < many → Q (.int r) (.ex v (Pool K (n + 1)) :: Γr)) : WDg K m (.ex v (Pool K n) :: Γr) (tCall (spD K (T_ptake K)) [] EE (tCons (tVar 0) (tCons ta tNil))) Q :=
  gtake (wdg_of (h.mono fun d e => ⟨n, many, e, rfl, hn, h0, h1, q⟩))
theorem gthingN {N : Nat} {tm tb td : TE} {n : Nat} (hn : n + cst N ≤ MXP) (h : WD K false (.ex v (Pool K n) :: Γr) tm fun a => WD K false (.ex v (Pool K n) :: Γr) tb fun b => WD K false (.ex v (Pool K n) :: Γr) td fun c => ∃ (mm deep : Nat) (bs : List Str), a = .int mm ∧ b = bsD bs ∧ c = .int deep ∧ MB mm bs ∧ 1 ≤ deep ∧ deep ≤ N ∧ ∀ (t : Th) n', t.Ok mm bs deep → n' ≤ n + cst N → Q t.d (.ex v (Pool K n') :: Γr)) : WDg K m (.ex v (Pool K n) :: Γr) (tCall (spD K (T_pthing N K)) [] EE (tCons (tVar 0) (tCons tm (tCons tb (tCons td tNil))))) Q :=
  wdg_callD (i := 0) (v := v) rfl (wag_d (h.mono fun a h2 => wag_d (h2.mono fun b h3 => wag_d (h3.mono fun c ⟨mm, deep, bs, e1, e2, e3, hm, h1, h4, q⟩ => wag_nil (by
    subst e1; subst e2; subst e3
    exact ⟨Pool K n, rfl, v, n, mm, bs, deep, rfl, hm, h1, h4, hn, fun t n' ht hn' => ⟨Pool K n', rfl, asD_new (Q := fun d => Q d _) (q t n' ht hn')⟩⟩)))))
theorem grow {n : Nat} {tm tb : TE} (hn : n + 240 ≤ MXP) (h : WD K false (.ex v (Pool K n) :: Γr) tm fun a => WD K false (.ex v (Pool K n) :: Γr) tb fun b => ∃ (mm : Nat) (bs : List Str), a = .int mm ∧ b = bsD bs ∧ MB mm bs ∧ ∀ (r : Rw) n', r.Ok mm bs → n' ≤ n + 240 → Q r.d (.ex v (Pool K n') :: Γr)) : WDg K false (.ex v (Pool K n) :: Γr) (tCall (spD K (T_prow K)) [] EE (tCons (tVar 0) (tCons tm (tCons tb tNil)))) Q :=
  wdg_callD (i := 0) (v := v) rfl (wag_d (h.mono fun a h2 => wag_d (h2.mono fun b ⟨mm, bs, e1, e2, hm, q⟩ => wag_nil (by
    subst e1; subst e2
    exact ⟨Pool K n, rfl, v, n, mm, bs, rfl, hm, hn, fun r n' hr hn' => ⟨Pool K n', rfl, asD_dat (Q := fun d => Q d _) (q r n' hr hn')⟩⟩))))
end
/-- one letter put in the place of another -/
theorem put_name {x : Str} {n c : Nat} (hx : NameOk x) (hn : n < x.length) (hc : ltr c) : NameOk (cutS x none (some (n : Int)) ++ one c ++ cutS x (some ((n : Int) + 1)) none) ∧ (cutS x none (some (n : Int))).length + (one c).length ≤ 100000 ∧ (cutS x none (some (n : Int)) ++ one c).length + (cutS x (some ((n : Int) + 1)) none).length ≤ 100000 := by
  have e1 : (cutS x none (some (n : Int))).cps.toList = x.cps.toList.take n := by
    unfold cutS
    have h0 : ¬ ((n : Int) < 0) := by omega
    have h1 : min n x.length = n := by omega
    simp [HT.sIx, h0, h1]
  have hl : x.cps.toList.length = x.length := (str_len x).symm
  have e2 : (cutS x (some ((n : Int) + 1)) none).cps.toList = x.cps.toList.drop (n + 1) := by
    unfold cutS
    have h0 : ¬ ((n : Int) + 1 < 0) := by omega
    have h2 : ((n : Int) + 1).toNat = n + 1 := by omega
    have h1 : min (n + 1) x.length = n + 1 := by omega
    simp [HT.sIx, h0, h1, h2]
    exact List.take_of_length_le (by rw [List.length_drop, hl]; exact Nat.le_refl _)
  have e3 : (cutS x none (some (n : Int)) ++ one c ++ cutS x (some ((n : Int) + 1)) none).cps.toList = (x.cps.toList.take n ++ [c]) ++ x.cps.toList.drop (n + 1) := by
    rw [app_cps, app_cps, e1, e2]; rfl
  have e4 : (cutS x none (some (n : Int)) ++ one c).cps.toList = x.cps.toList.take n ++ [c] := by
    rw [app_cps, e1]; rfl
  obtain ⟨a, b, d⟩ := hx
  refine ⟨⟨?_, ?_, fun y hy => ?_⟩, ?_, ?_⟩
  · rw [str_len, e3, List.length_append, List.length_append, List.length_take, List.length_drop, hl]; simp only [List.length_cons, List.length_nil]; omega
  · rw [str_len, e3, List.length_append, List.length_append, List.length_take, List.length_drop, hl]; simp only [List.length_cons, List.length_nil]; omega
  · rw [e3] at hy
    rcases List.mem_append.mp hy with z | z
    · rcases List.mem_append.mp z with z | z
      · exact d y (List.mem_of_mem_take z)
      · simp at z; subst z; exact hc
    · exact d y (List.mem_of_mem_drop z)
  · rw [str_len, e1, one_len, List.length_take, hl]; omega
  · rw [str_len, e4, str_len, e2, List.length_append, List.length_take, List.length_drop, hl]; simp only [List.length_cons, List.length_nil]; omega
theorem Th.ok_numP {m n deep : Nat} {bs : List Str} (h : n < m) (hd : 1 ≤ deep) : (Th.num n).Ok m bs deep := by
  obtain ⟨j, rfl⟩ := Nat.exists_eq_add_of_le hd
  rw [Nat.add_comm]
  exact h
theorem Th.ok_boxP {m deep : Nat} {bs : List Str} {x : Str} (h : x ∈ bs) (hd : 1 ≤ deep) : (Th.box x).Ok m bs deep := by
  obtain ⟨j, rfl⟩ := Nat.exists_eq_add_of_le hd
  rw [Nat.add_comm]
  exact h
theorem cst_up (n : Nat) : 2 + 2 * cst n ≤ cst (n + 1) ∧ 4 ≤ cst (n + 1) := by
  have h : 2 ^ (n + 1) = 2 * 2 ^ n := by rw [Nat.pow_succ, Nat.mul_comm]
  have h1 : 0 < 2 ^ n := Nat.two_pow_pos n
  unfold cst
  omega
def words8 : List Str := ["need", "skip", "if", "give", "a", "b", "set", "pick"]
theorem words8_nm : ∀ x ∈ words8, NameOk x := by
  have h : ∀ x ∈ words8, 1 ≤ x.length ∧ x.length ≤ 8 ∧ (x.cps.toList.all fun c => decide (97 ≤ c ∧ c ≤ 122)) = true := by decide +kernel
  intro x hx
  obtain ⟨h1, h2, h3⟩ := h x hx
  refine ⟨h1, h2, fun c hc => ?_⟩
  have h4 : decide (97 ≤ c ∧ c ≤ 122) = true := List.all_eq_true.mp h3 c hc
  have h5 : 97 ≤ c ∧ c ≤ 122 := of_decide_eq_true h4
  exact h5
section
variable {P : Program} {K : Kw} {mg : Str → Option Value} {base : Heap} {k : Nat}
theorem ok_ppool (D : Def K mg "_law_pool" s_l_pool ["script", "k"]) (m_len : mg "len" = none) : Cal P K.w K mg base CX0 (k + 1) "_law_pool" ["script", "k"] (spG K (T_ppool K)) := by
  refine cal_g D sc_l_pool (fun Γ Qr ⟨v, ns, k, e, _⟩ => by subst e; exact ⟨rfl, noMl_ex (noMl_dat noMl_nil)⟩) fun f cdv A outer s H E hr => ⟨_, wk_l_pool m_len f cdv A outer s H E hr, ?_⟩
  rintro Γ Qr ⟨v, ns, k, rfl, h0, h1, q⟩
  show SJ K [.ex v (ScriptO K ns), .dat false (.int k), .no] (t_l_pool K) _
  unfold t_l_pool
  refine sj_seq (sj_set false ?_)
  walk_at "v"
  refine sj_cut (fun Γ' => ∃ c, Γ' = [.ex v (ScriptO K ns), .dat false (.int k), .dat false (.int c)]) (sj_if ?_) ?_
  · walk_at "v"
    walk_at "x"
    refine iteD (fun hlt => ?_) (fun hge => sj_next ⟨0, rfl⟩)
    refine sj_set false ?_
    walk_at "v"
    have hk : k.toNat < ns.length := by omega
    exact ⟨k, ns[k.toNat], rfl, atI_of (n := k.toNat) (by omega) (by simp [hk]), _, rfl⟩
  rintro _ ⟨c, rfl⟩
  refine sj_seq (sj_if ?_)
  walk_at "v"
  walk_at "x"
  refine iteD (fun hge => ?_) (fun hlt => sj_next ?_)
  · refine sj_ret (wx_lst3 false ?_)
    walk_at "v"
    exact fun l => ⟨keep_ex (keep_dat keep_nil), q l _ _ _ ⟨_, _, _, rfl, by decide, by decide⟩⟩
  · refine sj_ret (wx_lst3 false ?_)
    walk_at "v"
    exact fun l => ⟨keep_ex (keep_dat keep_nil), q l _ _ _ ⟨_, _, _, rfl, by omega, by omega⟩⟩
theorem ok_ptake (D : Def K mg "_law_take" s_l_take ["pool", "many"]) : Cal P K.w K mg base CX0 (k + 1) "_law_take" ["pool", "many"] (spD K (T_ptake K)) := by
  refine cal_gD D sc_l_take (fun Γ Qr ⟨v, n, many, e, _⟩ => by subst e; exact ⟨rfl, noMl_ex (noMl_dat noMl_nil)⟩) fun f cdv A outer s H E hr => ⟨_, wk_l_take f cdv A outer s H E hr, ?_⟩
  rintro Γ Qr ⟨v, n, many, rfl, hn, h0, h1, q⟩
  unfold MXP at hn
  have h2 : (many : Int) < 1073741824 := by omega
  have h0' : (0 : Int) < many := by omega
  show SJ K [.ex v (Pool K n), .dat false (.int many), .no, .no, .no] (t_l_take K) _
  unfold t_l_take
  refine sj_open 0 (v := v) (PL := PoP n) rfl fun l ns e hp => ?_
  subst e
  obtain ⟨a, f, s, rfl, hs0, hs1⟩ := hp
  have modN : ∀ i : Int, ∃ r : Nat, r < many ∧ i % (many : Int) = (r : Int) := fun i => ⟨(i % (many : Int)).toNat, by have := Int.emod_lt_of_pos i h0'; have := Int.emod_nonneg i (b := (many : Int)) (by omega); omega, by have := Int.emod_nonneg i (b := (many : Int)) (by omega); omega⟩
  show SJ K [.ml false l [.int a, .int f, .int s], .dat false (.int many), .no, .no, .no] _ _
  refine sj_seq (sj_if ?_)
  walk_at "v"
  refine ⟨1, .int f, rfl, rfl, ?_⟩
  walk_at "v"
  refine ⟨_, rfl, ?_⟩
  rw [eqv_int]
  refine iteD (fun hpos => ?_) (fun hz => ?_)
  · refine sj_seq (sj_set false ?_)
    walk_at "v"
    refine ⟨0, .int a, rfl, rfl, ?_⟩
    walk_at "v"
    obtain ⟨r, hr, er⟩ := modN a
    rw [er]
    show SJ K [.ml false l [.int a, .int f, .int s], .dat false (.int many), .dat false (.int r), .no, .no] _ _
    refine sj_seq (sj_setI rfl (wd_op (wd_ixm (i := 0) (m := false) (l := l) (ds := [.int a, .int f, .int s]) rfl (wd_int ⟨0, .int a, rfl, rfl, wd_var rfl (rd_div h0' h2 (wd_int ⟨0, 0, rfl, rfl, ?_⟩))⟩))))
    show SJ K [.ml false l ([a / many, f, s].map PyData.int), .dat false (.int many), .dat false (.int r), .no, .no] _ _
    refine sj_close 0 (l := l) (m := false) (ns := [a / many, f, s]) (PoP (n + 1)) rfl ⟨_, _, _, rfl, hs0, by omega⟩ ?_
    refine sj_retD true (wd_lf ?_)
    walk_at "v"
    exact ⟨rfl, _, same1, keep_ex (keep_dat keep_nil), q r hr⟩
  · refine sj_next ?_
    refine sj_seq (sj_setI rfl ?_)
    walk_at "v"
    refine ⟨2, .int s, rfl, rfl, ?_⟩
    walk_at "v"
    refine ⟨2, 2, rfl, rfl, ?_⟩
    show SJ K [.ml false l [.int a, .int f, .int (s + 1)], .dat false (.int many), .no, .no, .no] _ _
    generalize hs : s + 1 = u
    have hu0 : 1 ≤ u := by omega
    have hu1 : u ≤ 10000000 := by omega
    refine sj_seq (sj_set false ?_)
    walk_at "v"
    refine ⟨2, .int u, rfl, rfl, ?_⟩
    show SJ K [.ml false l [.int a, .int f, .int u], .dat false (.int many), .no, .dat false (.int u), .no] _ _
    refine sj_seq (sj_set false ?_)
    walk_at "v"
    refine ⟨0, .int a, rfl, rfl, ?_⟩
    walk_at "v"
    generalize ht : a % 9999999533 + 1021 = t
    have ht0 : 0 ≤ t := by omega
    have ht1 : t < 10000000554 := by omega
    walk_at "v"
    generalize hx : t * (47 * u + 79) = x
    have hx0 : 0 ≤ x := by rw [← hx]; exact Int.mul_nonneg ht0 (by omega)
    have hx1 : x ≤ 10000000554 * 470000079 := by rw [← hx]; exact Int.mul_le_mul (by omega) (by omega) (by omega) (by omega)
    show SJ K [.ml false l [.int a, .int f, .int u], .dat false (.int many), .no, .dat false (.int u), .dat false (.int x)] _ _
    refine sj_seq (sj_set false ?_)
    walk_at "v"
    generalize hy : 3593 * u * u = y
    have hy0 : 0 ≤ y := by rw [← hy]; exact Int.mul_nonneg (by omega) (by omega)
    have hy1 : y ≤ 35930000000 * 10000000 := by rw [← hy]; exact Int.mul_le_mul (by omega) (by omega) (by omega) (by omega)
    generalize hz' : x + y = z
    have hz0 : 0 ≤ z := by omega
    have hz1 : z < 18446744073709551616 := by omega
    show SJ K [.ml false l [.int a, .int f, .int u], .dat false (.int many), .no, .dat false (.int u), .dat false (.int z)] _ _
    refine sj_seq (sj_set false ?_)
    walk_at "v"
    generalize hw : z * z % 99999999571 = w
    have hw0 : 0 ≤ w := by omega
    have hw1 : w < 99999999571 := by omega
    show SJ K [.ml false l ([a, f, u].map PyData.int), .dat false (.int many), .no, .dat false (.int u), .dat false (.int w)] _ _
    refine sj_close 0 (l := l) (m := false) (ns := [a, f, u]) (PoP (n + 1)) rfl ⟨_, _, _, rfl, by omega, by omega⟩ ?_
    refine sj_retD true (wd_lf ?_)
    walk_at "v"
    generalize w * (w + 61) % 99999999863 / 109 = g
    obtain ⟨r, hr, er⟩ := modN g
    rw [er]
    exact ⟨rfl, _, same1, keep_ex (keep_dat keep_nil), q r hr⟩
end
end Dk
end
section
set_option Elab.async false
set_option linter.all false
set_option maxRecDepth 100000
set_option pp.maxSteps 600
open PySem L2 Pk
local macro_rules | `(tactic| walk_at "sh") => `(tactic| first | exact sh_int | exact sh_bool | exact sh_non | exact sh_nil | exact sh_str (by decide +kernel) | assumption)
local macro_rules | `(tactic| walk_at "v1") => `(tactic| first
  | (with_reducible refine wd_int ?_) | (with_reducible refine wd_str ?_) | (with_reducible refine wd_bl ?_) | (with_reducible refine wd_non ?_)
  | ((with_reducible apply wd_var); exact rfl) | ((with_reducible apply wd_varN); exact rfl)
  | ((with_reducible apply wd_ixm); exact rfl)
  | ((with_reducible apply wd_lenM); exact rfl) | ((with_reducible apply wd_lenScript); exact rfl) | ((with_reducible apply wd_ixScript); exact rfl)
  | (with_reducible refine wd_op ?_) | (with_reducible refine wd_un ?_)
  | (with_reducible refine rd_add ?_) | (with_reducible refine rd_sub ?_) | (with_reducible refine rd_lt ?_) | (with_reducible refine rd_le ?_) | (with_reducible refine rd_gt ?_) | (with_reducible refine rd_ge ?_) | (with_reducible refine ru_neg ?_)
  | ((with_reducible refine rd_eq ?ev_h ?ev_k ?_); (case ev_h => walk_at "sh"); (case ev_k => walk_at "sh")) | ((with_reducible refine rd_ne ?ev_h ?ev_k ?_); (case ev_h => walk_at "sh"); (case ev_k => walk_at "sh"))
  | ((with_reducible refine rd_mod ?ev_h ?_); case ev_h => first | decide | assumption | omega) | ((with_reducible refine rd_div ?ev_h ?ev_k ?_); (case ev_h => first | decide | assumption | omega); (case ev_k => first | decide | assumption | omega))
  | ((with_reducible refine rd_pow ?ev_h ?_); case ev_h => exact ⟨by decide, by decide, by decide⟩)
  | ((with_reducible refine rd_mul ?ev_h ?_); case ev_h => first | exact .inr ⟨by decide, by decide⟩ | exact .inl ⟨by decide, by decide⟩ | exact .inl ⟨by omega, by omega⟩ | exact .inr ⟨by omega, by omega⟩)
  | (with_reducible refine rc_lenL ?_) | (with_reducible refine rc_lenT ?_) | (with_reducible refine rc_max2 ?_) | (with_reducible refine rc_min2 ?_) | (with_reducible refine rc_intB ?_) | (with_reducible refine rc_intI ?_) | (with_reducible refine rc_listL ?_) | (with_reducible refine rc_listT ?_) | (with_reducible refine rc_tupleL ?_)
  | ((with_reducible apply rd_ixT); exact rfl)
  | ((with_reducible apply rd_ixL); exact rfl)
  | ((with_reducible refine wd_isi ?ev_h ?_); case ev_h => decide) | ((with_reducible refine wd_isi2 ?ev_h ?ev_k ?_); (case ev_h => decide); (case ev_k => decide))
  | (with_reducible refine wd_tup2 ?_) | (with_reducible refine wd_tup1 ?_) | (with_reducible refine wd_tup3 ?_) | (with_reducible refine wd_tup0 ?_)
  | (with_reducible refine wd_lst0 ?_) | (with_reducible refine wd_lst1 ?_) | (with_reducible refine wd_lst2 ?_) | (with_reducible refine wd_lst3 ?_) | (with_reducible refine wd_lst4 ?_) | (with_reducible refine wd_lst5 ?_) | (with_reducible refine wd_lst6 ?_)
  | ((with_reducible apply wd_callO0); exact rfl) | ((with_reducible apply wd_callO1); exact rfl) | ((with_reducible apply wd_callO2); exact rfl) | ((with_reducible apply wd_callO3); exact rfl)
  | (with_reducible refine wd_call1 ?_) | (with_reducible refine wd_call2 ?_) | (with_reducible refine wd_call3 ?_) | (with_reducible refine wd_call4 ?_) | (with_reducible refine wd_call0 ?_)
  | (with_reducible refine wd_cb1 ?_) | (with_reducible refine wd_cb2 ?_)
  | (with_reducible refine wd_rev ?_) | (with_reducible refine wd_lrg1 ?_) | (with_reducible refine wd_sl ?_) | (with_reducible refine wo_no ?_) | (with_reducible refine wo_some ?_)
  | (with_reducible refine wd_andV ?_) | (with_reducible refine wd_orV ?_) | (with_reducible refine wd_notV ?_) | (with_reducible refine wd_if ?_) | (with_reducible refine wd_chain ?_)
  | (with_reducible refine wt_test ?_) | (with_reducible refine wt_B ?_) | (with_reducible refine wt_not ?_) | (with_reducible refine wt_and ?_) | (with_reducible refine wt_or ?_) | (with_reducible refine wt_yes ?_)
  | (with_reducible refine gj_name ?_) | (with_reducible refine gj_tup rfl ?_) | (with_reducible refine gjs_cons ?_) | (with_reducible refine gjs_nil ?_))
local macro_rules | `(tactic| walk_at "v") => `(tactic| repeat walk_at "v1")
local macro_rules | `(tactic| walk_at "x") => `(tactic| refine ⟨_, rfl, ?_⟩)
local macro_rules | `(tactic| walk_at "vx") => `(tactic| repeat (first | walk_at "v1" | (with_reducible refine ⟨_, rfl, ?_⟩)))
namespace Dk
open PySem PySem.Spec PyProof.Rows L2 Pk Sy
section
variable {P : Program} {K : Kw} {mg : Str → Option Value} {base : Heap} {k : Nat}
theorem ok_pboxes (D : Def K mg "_law_boxes" s_l_boxes ["pool", "many"]) (c_take : Cal P K.w K mg base CX0 k "_law_take" ["pool", "many"] (spD K (T_ptake K))) (m_range : mg "range" = none) (m_len : mg "len" = none) : Cal P K.w K mg base CX0 (k + 1) "_law_boxes" ["pool", "many"] (spD K (T_pboxes K)) := by
  refine cal_gD D sc_l_boxes (fun Γ Qr ⟨v, n, many, e, _⟩ => by subst e; exact ⟨rfl, noMl_ex (noMl_dat noMl_nil)⟩) fun f cdv A outer s H E hr => ⟨_, wk_l_boxes c_take m_range m_len f cdv A outer s H E hr, ?_⟩
  rintro Γ Qr ⟨v, n0, many, rfl, hn0, hm1, hm5, q⟩
  have hMX : MXP = 10000000 := rfl
  show SJ K [.ex v (Pool K n0), .dat false (.int many), .no, .no, .no, .no, .no, .no, .no, .no] (t_l_boxes K _) _
  unfold t_l_boxes
  refine sj_seq (sj_set false ?_)
  walk_at "v"
  refine sj_seq (sj_setX (wx_lst0 false fun l => ?_))
  show SJ K [.ex v (Pool K n0), .dat false (.int many), .dat false (.str LET), .ml false l (([] : List Str).map PyData.str), .no, .no, .no, .no, .no, .no] _ _
  refine sj_cut (fun Γ' => ∃ (n : Nat) (bs : List Str) (s4 s5 s7 s8 s9 : Sl), n ≤ n0 + 80 ∧ BsOk bs ∧ bs.length = many ∧ Γ' = [.ex v (Pool K n), .dat false (.int many), .dat false (.str LET), .ml false l (bs.map PyData.str), s4, s5, .no, s7, s8, s9]) ?_ ?_
  · refine sj_for false (wi_rng (wd_var rfl ⟨many, rfl, ⟨by omega, by omega⟩, fun i Γ' => ∃ (n : Nat) (bs : List Str) (s4 s5 s7 s8 s9 : Sl), n ≤ n0 + 16 * i ∧ bs.length = i ∧ bs.Nodup ∧ (∀ x ∈ bs, NameOk x) ∧ Γ' = [.ex v (Pool K n), .dat false (.int many), .dat false (.str LET), .ml false l (bs.map PyData.str), s4, s5, .no, s7, s8, s9], ⟨n0, [], .no, .no, .no, .no, .no, Nat.le_refl _, rfl, List.nodup_nil, fun _ z => (by cases z), rfl⟩, ?_, ?_⟩))
    · rintro i d Γ' hd ⟨n1, bs, s4, s5, s7, s8, s9, hn1, hlen, hnd, hnm, rfl⟩
      obtain ⟨hin, rfl⟩ := rangeD_of hd
      subst hlen
      have hb4 : bs.length ≤ 4 := by omega
      refine gj_name ?_
      rw [Int.zero_add]
      show SJ K [.ex v (Pool K n1), .dat false (.int many), .dat false (.str LET), .ml false l (bs.map PyData.str), .dat false (.int bs.length), s5, .no, s7, s8, s9] _ _
      -- name
      refine sj_seq (sj_setGD false (wdg_join (wdg_ofX (wxg_lcG (mi := false) false gwn (wig_rng (wdg_op (wdg_of (wd_int (gtake_c (many := 8) (by omega) (by decide) (by decide) fun r8 hr8 => rd_add ?_)))))))))
      refine ⟨_, rfl, ⟨by omega, by omega⟩, fun j acc Γ' => ∃ cs : List Nat, acc = cs.map (fun c => PyData.str (one c)) ∧ cs.length = j ∧ (∀ c ∈ cs, ltr c) ∧ Γ' = [.ex v (Pool K (n1 + 1 + j)), .dat false (.int many), .dat false (.str LET), .ml false l (bs.map PyData.str), .dat false (.int bs.length), s5, .no, s7, s8, s9], by rw [rangeD_len]; omega, fun j acc Γ' ⟨cs, _, _, _, e⟩ => by subst e; exact ⟨rfl, fun i hi => by simp at hi; subst hi; rfl⟩, ⟨[], rfl, rfl, fun _ z => (by cases z), rfl⟩, fun j d acc Γ' hj hal ⟨cs, ea, hcl, hcs, eΓ⟩ => ?_, fun acc Γ' hal ⟨cs, ea, hcl, hcs, eΓ⟩ la => ?_⟩
      · subst ea; subst eΓ
        have hjl := (rangeD_of hj).1
        refine gj_name (wdg_op (wdg_of (wd_var rfl (gtake_c (many := 26) (by omega) (by decide) (by decide) fun r26 hr26 => rd_letter hr26 fun hl => ?_))))
        refine ⟨cs ++ [97 + r26], by rw [List.map_append]; rfl, by simp [hcl], fun c hc => ?_, rfl⟩
        rcases List.mem_append.mp hc with z | z
        · exact hcs c z
        · simp at z; subst z; exact hl
      subst ea; subst eΓ
      rw [rangeD_len] at hcl hal
      have hz : ((cs.map one).map (·.length)).sum + (cs.map one).length * ("" : Str).length ≤ 16777216 := by
        rw [join_sum]
        have : ("" : Str).length = 0 := by decide +kernel
        rw [this]
        omega
      refine ⟨_, toD_ml, cs.map one, by simp, hz, ?_⟩
      have hnm0 : NameOk (Txt.join "" (cs.map one)) := join_name (by omega) (by omega) hcs
      obtain ⟨nm0, en0⟩ : ∃ nm0, Txt.join "" (cs.map one) = nm0 := ⟨_, rfl⟩
      rw [en0] at hnm0 ⊢
      obtain ⟨n2, en2⟩ : ∃ n2, n1 + 1 + (1 + (r8 : Int) - 0).toNat = n2 := ⟨_, rfl⟩
      have hn2 : n2 ≤ n1 + 9 := by omega
      rw [rangeD_len]
      have e9 : n1 + 1 + (1 + (r8 : Int)).toNat = n2 := by omega
      rw [e9]
      show SJ K [.ex v (Pool K n2), .dat false (.int many), .dat false (.str LET), .ml false l (bs.map PyData.str), .dat false (.int bs.length), .dat false (.str nm0), .no, s7, s8, s9] _ _
      refine sj_seq (sj_setGD false (gtake_c (many := 4) (by omega) (by decide) (by decide) fun w hw => ?_))
      show SJ K [.ex v (Pool K (n2 + 1)), .dat false (.int many), .dat false (.str LET), .ml false l (bs.map PyData.str), .dat false (.int bs.length), .dat false (.str nm0), .no, .dat false (.int w), s8, s9] _ _
      refine sj_cut (fun Γ' => ∃ (n : Nat) (nm : Str) (s8 : Sl), n ≤ n2 + 3 ∧ NameOk nm ∧ Γ' = [.ex v (Pool K n), .dat false (.int many), .dat false (.str LET), .ml false l (bs.map PyData.str), .dat false (.int bs.length), .dat false (.str nm), .no, .dat false (.int w), s8, s9]) (sj_if (wt_thaw ?_)) ?_
      · show WT K [.ex v (Pool K (n2 + 1)), .dat false (.int many), .dat false (.str LET), .dat false (bsD bs), .dat false (.int bs.length), .dat false (.str nm0), .no, .dat false (.int w), s8.frz, s9.frz] _ _
        have no : ∃ (n : Nat) (nm : Str) (s8' : Sl), n ≤ n2 + 3 ∧ NameOk nm ∧ [Sl.ex v (Pool K (n2 + 1)), .dat false (.int many), .dat false (.str LET), .ml false l (bs.map PyData.str), .dat false (.int bs.length), .dat false (.str nm0), .no, .dat false (.int w), s8, s9] = [.ex v (Pool K n), .dat false (.int many), .dat false (.str LET), .ml false l (bs.map PyData.str), .dat false (.int bs.length), .dat false (.str nm), .no, .dat false (.int w), s8', s9] := ⟨_, nm0, s8, by omega, hnm0, rfl⟩
        refine wt_and ?_
        walk_at "v"
        refine ⟨_, rfl, ?_⟩
        refine iteB (fun _ => ?_) (fun _ => iteF' rfl (sj_next no))
        walk_at "v"
        refine rd_ne (bs_sh hnm) sh_nil ⟨_, rfl, ?_⟩
        rw [eqv_nil]
        refine iteB (fun hne => ?_) (fun _ => sj_next no)
        obtain ⟨bs', x, rfl⟩ : ∃ bs' x, bs = bs' ++ [x] := by
          have : bs ≠ [] := fun z => by rw [z] at hne; simp at hne
          exact ⟨bs.dropLast, bs.getLast this, (List.dropLast_concat_getLast this).symm⟩
        have hx : NameOk x := hnm x (by simp)
        have hx1 := hx.1
        have hx8 := hx.2.1
        have lastD : ∀ {Γ : List Sl} {Q : PyData → Prop}, Γ[3]? = some (.ml false l ((bs' ++ [x]).map PyData.str)) → Q (.str x) → WD K false Γ (tOp (rIx K) (tVar 3) (tUn dNeg (tC (.int 1)))) Q := fun {Γ Q} hi q => wd_ixm (m := false) (l := l) (ds := (bs' ++ [x]).map PyData.str) hi (wd_un (wd_int (ru_neg ⟨-1, .str x, rfl, by rw [List.map_append]; exact atI_lastD, q⟩)))
        refine sj_seq (sj_setGD false (gtake_w (many := x.length) (by omega) (by omega) (by omega) (wd_cb1 (lastD rfl (rc_lenS (by omega) rfl))) fun r7 hr7 => ?_))
        show SJ K [.ex v (Pool K (n2 + 2)), .dat false (.int many), .dat false (.str LET), .ml false l ((bs' ++ [x]).map PyData.str), .dat false (.int (bs' ++ [x]).length), .dat false (.str nm0), .no, .dat false (.int w), .dat false (.int r7), s9] _ _
        refine sj_setGD false (wdg_op (wdg_op (wdg_of (wd_slS (lastD rfl ⟨_, rfl, by omega, wo_no (wo_some (wd_var rfl ⟨_, rfl, ?_⟩))⟩)))))
        refine wdg_op (wdg_of (wd_var rfl (gtake_c (many := 26) (by omega) (by decide) (by decide) fun r26 hr26 => rd_letter hr26 fun hl => ?_)))
        obtain ⟨p1, p2, p3⟩ := put_name hx hr7 hl
        refine rd_addS p2 (wdg_of (wd_slS (lastD rfl ⟨_, rfl, by omega, wo_some (wd_op (wd_var rfl (wd_int (rd_add ⟨_, rfl, wo_no ?_⟩))))⟩)))
        exact rd_addS p3 ⟨_, _, _, by omega, p1, rfl⟩
      rintro _ ⟨n3, nm1, s8', hn3, hnm1, rfl⟩
      refine sj_cut (fun Γ' => ∃ (n : Nat) (nm : Str), n ≤ n3 + 1 ∧ NameOk nm ∧ Γ' = [.ex v (Pool K n), .dat false (.int many), .dat false (.str LET), .ml false l (bs.map PyData.str), .dat false (.int bs.length), .dat false (.str nm), .no, .dat false (.int w), s8', s9]) (sj_if ?_) ?_
      · walk_at "v"
        refine ⟨_, rfl, ?_⟩
        refine iteB (fun _ => ?_) (fun _ => sj_next ⟨n3, nm1, by omega, hnm1, rfl⟩)
        refine sj_setGD false (wdg_op (wdg_of (wd_lst (wa_d (wd_str (wa_d (wd_str (wa_d (wd_str (wa_d (wd_str (wa_d (wd_str (wa_d (wd_str (wa_d (wd_str (wa_d (wd_str (wa_nil ⟨_, rfl, le_lit rfl, ?_⟩))))))))))))))))))))
        refine gtake_c (many := 8) (by omega) (by decide) (by decide) fun r8 hr8 => ?_
        refine rd_sel (by omega) (by simp; omega) fun d hd => ?_
        have hd' : d ∈ words8.map PyData.str := by simpa [words8] using hd
        obtain ⟨y, hy, rfl⟩ := List.mem_map.mp hd'
        exact ⟨_, y, by omega, words8_nm y hy, rfl⟩
      rintro _ ⟨n4, nm2, hn4, hnm2, rfl⟩
      refine sj_seq (sj_set false ?_)
      walk_at "v"
      show SJ K [.ex v (Pool K n4), .dat false (.int many), .dat false (.str LET), .ml false l (bs.map PyData.str), .dat false (.int bs.length), .dat false (.str nm2), .no, .dat false (.int w), s8', .dat false (.int 0)] _ _
      refine sj_cut (fun Γ' => ∃ nm s9, NameOk nm ∧ nm ∉ bs ∧ Γ' = [.ex v (Pool K n4), .dat false (.int many), .dat false (.str LET), .ml false l (bs.map PyData.str), .dat false (.int bs.length), .dat false (.str nm), .no, .dat false (.int w), s8', s9]) ?_ ?_
      · refine sj_while (fun n Γ' => ∃ nm t, NameOk nm ∧ n + t = bs.length + 1 ∧ (∀ i, i + 1 < t → rep8 i ∈ bs) ∧ (0 < t → nm = rep8 (t - 1)) ∧ Γ' = [.ex v (Pool K n4), .dat false (.int many), .dat false (.str LET), .ml false l (bs.map PyData.str), .dat false (.int bs.length), .dat false (.str nm), .no, .dat false (.int w), s8', .dat false (.int (t : Nat))]) (bs.length + 1) ⟨nm2, 0, hnm2, rfl, fun i h => by omega, fun h => by omega, rfl⟩ ?_
        rintro n Γ' ⟨nm, t, hn, hnt, hrep, hlast, rfl⟩
        refine wt_thaw ?_
        show WT K [.ex v (Pool K n4), .dat false (.int many), .dat false (.str LET), .dat false (bsD bs), .dat false (.int bs.length), .dat false (.str nm), .no, .dat false (.int w), s8'.frz, .dat false (.int (t : Nat))] _ _
        walk_at "v"
        refine rd_in (sh_str hn.strOk) (bs_sh hnm) ⟨_, rfl, ?_⟩
        rw [names_any]
        refine iteD (fun hmem => ?_) (fun hno => ⟨nm, _, hn, hno, rfl⟩)
        have hrep' : ∀ i, i < t → rep8 i ∈ bs := fun i hi => by
          by_cases h : i + 1 < t
          · exact hrep i h
          · have : i = t - 1 := by omega
            rw [this, ← hlast (by omega)]
            exact hmem
        have ht := rep_le hrep'
        refine sj_seq (sj_set false ?_)
        walk_at "v"
        refine rd_letter (r := t) (by omega) fun hl => ?_
        walk_at "v"
        refine rd_mulS (mulOk8 _) ?_
        rw [mul8]
        show SJ K [.ex v (Pool K n4), .dat false (.int many), .dat false (.str LET), .ml false l (bs.map PyData.str), .dat false (.int bs.length), .dat false (.str (rep8 t)), .no, .dat false (.int w), s8', .dat false (.int (t : Nat))] _ _
        refine sj_set false ?_
        walk_at "v"
        exact ⟨n - 1, by omega, rep8 t, t + 1, rep8_name (by omega), by omega, fun i h => hrep' i (by omega), fun _ => rfl, rfl⟩
      rintro _ ⟨nm, s9', hn, hno, rfl⟩
      refine sj_app (i := 3) (l := l) (ds := bs.map PyData.str) rfl (by rw [List.length_map]; omega) ?_
      walk_at "v"
      refine ⟨n4, bs ++ [nm], _, _, _, _, _, by omega, by simp, ?_, fun x hx => ?_, by rw [List.map_append]; rfl⟩
      · refine List.nodup_append.mpr ⟨hnd, by simp, fun a ha b hb => ?_⟩
        simp at hb
        rw [hb]
        exact fun z => hno (z ▸ ha)
      · rcases List.mem_append.mp hx with z | z
        · exact hnm x z
        · simp at z; rw [z]; exact hn
    · rintro Γ' ⟨n, bs, s4, s5, s7, s8, s9, hn, hlen, hnd, hnm, rfl⟩
      rw [rangeD_len] at hlen hn
      exact ⟨n, bs, _, _, _, _, _, by omega, ⟨by omega, by omega, hnd, hnm⟩, by omega, rfl⟩
  · rintro _ ⟨n, bs, s4, s5, s7, s8, s9, hn, hb, hl, rfl⟩
    exact sj_retM (i := 3) (l := l) (ds := bs.map PyData.str) rfl ⟨_, same1, keep_ex (keep_dat keep_nil), q l bs n hn hb hl⟩
theorem ok_pthing (D : Def K mg "_law_thing" s_l_thing ["pool", "m", "boxes", "deep"]) (c_take : Cal P K.w K mg base CX0 k "_law_take" ["pool", "many"] (spD K (T_ptake K))) (m_len : mg "len" = none) (m_min : mg "min" = none) : ∀ n, Cal P K.w K mg base CX0 (k + n) "_law_thing" ["pool", "m", "boxes", "deep"] (spD K (T_pthing n K))
  | 0 => by
    refine (cal_no D).imp fun vs H Q E h => ?_
    obtain ⟨_, _, _, _, _, _, _, _, _, ⟨v, n, m, bs, deep, _, _, h1, h0, _⟩, _⟩ := h
    omega
  | N + 1 => by
    have ih := ok_pthing D c_take m_len m_min N
    refine cal_gD D sc_l_thing (fun Γ Qr ⟨v, n, m, bs, deep, e, _⟩ => by subst e; exact ⟨rfl, noMl_ex (noMl_dat (noMl_dat (noMl_dat noMl_nil)))⟩) fun f cdv A outer s H E hr => ⟨_, wk_l_thing ih (c_take.mono (by omega)) m_len m_min f cdv A outer s H E hr, ?_⟩
    rintro Γ Qr ⟨v, n0, m, bs, deep, rfl, hmb, hd1, hdn, hn0, q⟩
    obtain ⟨hc1, hc4⟩ := cst_up N
    have hl0 := hmb.bs.len0
    have hl5 := hmb.bs.len5
    have hm2 := hmb.m2
    have hm16 := hmb.m16
    have kp : ∀ {n : Nat} {Γ'}, Keep [.ex v (Pool K n), .dat false (.int m), .dat false (bsD bs), .dat false (.int deep)] (.ex v (Pool K n) :: .dat false (.int m) :: .dat false (bsD bs) :: .dat false (.int deep) :: Γ') := fun {n Γ'} => keep_ex (keep_dat (keep_dat (keep_dat keep_nil)))
    show SJ K [.ex v (Pool K n0), .dat false (.int m), .dat false (bsD bs), .dat false (.int deep), .no, .no, .no] (t_l_thing K _ _) _
    unfold t_l_thing
    refine sj_seq (sj_setGD false (gtake_c (many := 8) (by omega) (by decide) (by decide) fun w hw8 => ?_))
    show SJ K [.ex v (Pool K (n0 + 1)), .dat false (.int m), .dat false (bsD bs), .dat false (.int deep), .dat false (.int w), .no, .no] _ _
    have e1 : PyData.eqv (.int (deep : Int)) (.int 1) = decide (deep = 1) := by rw [eqv_int]; exact decide_eq_decide.mpr (by omega)
    refine sj_cut (fun Γ' => Γ' = [.ex v (Pool K (n0 + 1)), .dat false (.int m), .dat false (bsD bs), .dat false (.int deep), .dat false (.int w), .no, .no]) (sj_if ?_) ?_
    · have leaf : ∀ P : Po, (∀ (t : Th) n', t.Ok m bs deep → n' ≤ n0 + 4 → P.rt (.dat true t.d) [.ex v (Pool K n'), .dat false (.int m), .dat false (bsD bs), .dat false (.int deep), .dat false (.int w), .no, .no]) → SJ K [.ex v (Pool K (n0 + 1)), .dat false (.int m), .dat false (bsD bs), .dat false (.int deep), .dat false (.int w), .no, .no] (tRet (tTup (tCons (tC (.str "number")) (tCons (tOp (rIx K) (tLst (tCons (tCall (spD K (T_ptake K)) [] E0 (tCons (tVar 0) (tCons (tVar 1) tNil))) (tCons (tCall (spD K (T_ptake K)) [] E0 (tCons (tVar 0) (tCons (tCB (dMin K) (tCons (tVar 1) (tCons (tC (.int 3)) tNil))) tNil))) tNil))) (tCall (spD K (T_ptake K)) [] E0 (tCons (tVar 0) (tCons (tC (.int 2)) tNil)))) tNil)))) P := fun P hP => by
        refine sj_retGD true (wdg_lf (wdg_tup (wag_d (wd_str (wag_cons (wdg_op (wdg_lst (wag_cons (gtake_w (many := m) (by omega) (by omega) (by omega) (wd_var rfl rfl) fun r1 hr1 => ?_)))))))))
        refine wag_cons (gtake_w (many := min m 3) (by omega) (by omega) (by omega) (wd_cb2 (wd_var rfl (wd_int (rc_min2 (by congr 1; omega))))) fun r2 hr2 => wag_nil ⟨le_lit rfl, ?_⟩)
        refine gtake_c (many := 2) (by omega) (by decide) (by decide) fun r3 hr3 => ?_
        refine rd_sel (by omega) (by simp; omega) fun d hd => wag_nil ⟨le_lit rfl, ?_⟩
        have key : ∃ n' : Nat, n' < m ∧ d = .int n' := by
          simp at hd
          rcases hd with z | z
          · exact ⟨r1, hr1, z⟩
          · exact ⟨r2, by omega, z⟩
        obtain ⟨n', hn', rfl⟩ := key
        exact ⟨rfl, hP (.num n') _ (Th.ok_numP hn' hd1) (by omega)⟩
      have fin : ∀ (t : Th) n', t.Ok m bs deep → n' ≤ n0 + 4 → (retD [Sl.ex v (Pool K n0), .dat false (.int m), .dat false (bsD bs), .dat false (.int deep)] Qr).rt (.dat true t.d) [.ex v (Pool K n'), .dat false (.int m), .dat false (bsD bs), .dat false (.int deep), .dat false (.int w), .no, .no] := fun t n' ht hn' => ⟨_, same1, kp, q t n' ht (by omega)⟩
      refine wt_or (wt_test (wd_op (wd_var rfl (wd_int (rd_lt ⟨_, rfl, iteD (fun _ => iteT' rfl (leaf _ fin)) (fun h1 => ?_)⟩)))))
      refine wt_and (wt_test (wd_op (wd_var rfl (wd_int (rd_eq sh_int sh_int ⟨_, rfl, ?_⟩)))))
      rw [e1]
      refine iteD (fun hd => ?_) (fun hd => iteF' rfl (sj_next rfl))
      exact wt_test (wd_op (wd_var rfl (wd_int (rd_lt ⟨_, rfl, iteD (fun _ => leaf _ fin) (fun h2 => sj_next rfl)⟩))))
    rintro _ rfl
    refine sj_cut (fun Γ' => 2 ≤ deep ∧ Γ' = [.ex v (Pool K (n0 + 1)), .dat false (.int m), .dat false (bsD bs), .dat false (.int deep), .dat false (.int w), .no, .no]) (sj_if ?_) ?_
    · have leaf : ∀ P : Po, (∀ (t : Th) n', t.Ok m bs deep → n' ≤ n0 + 4 → P.rt (.dat true t.d) [.ex v (Pool K n'), .dat false (.int m), .dat false (bsD bs), .dat false (.int deep), .dat false (.int w), .no, .no]) → SJ K [.ex v (Pool K (n0 + 1)), .dat false (.int m), .dat false (bsD bs), .dat false (.int deep), .dat false (.int w), .no, .no] (tRet (tTup (tCons (tC (.str "box")) (tCons (tOp (rIx K) (tVar 2) (tCall (spD K (T_ptake K)) [] E0 (tCons (tVar 0) (tCons (tCB (dLen K) (tCons (tVar 2) tNil)) tNil)))) tNil)))) P := fun P hP => by
        refine sj_retGD true (wdg_lf (wdg_tup (wag_d (wd_str (wag_cons (wdg_op (wdg_of (wd_var rfl (gtake_w (many := bs.length) (by omega) (by omega) (by omega) (wd_cb1 (wd_var rfl (rc_lenL (by rw [List.length_map])))) fun r2 hr2 => rd_box hr2 fun y hy => wag_nil ⟨le_lit rfl, ?_⟩)))))))))
        exact ⟨rfl, hP (.box y) _ (Th.ok_boxP hy hd1) (by omega)⟩
      have fin : ∀ (t : Th) n', t.Ok m bs deep → n' ≤ n0 + 4 → (retD [Sl.ex v (Pool K n0), .dat false (.int m), .dat false (bsD bs), .dat false (.int deep)] Qr).rt (.dat true t.d) [.ex v (Pool K n'), .dat false (.int m), .dat false (bsD bs), .dat false (.int deep), .dat false (.int w), .no, .no] := fun t n' ht hn' => ⟨_, same1, kp, q t n' ht (by omega)⟩
      refine wt_or (wt_test (wd_op (wd_var rfl (wd_int (rd_lt ⟨_, rfl, iteD (fun _ => iteT' rfl (leaf _ fin)) (fun h1 => ?_)⟩)))))
      refine wt_test (wd_op (wd_var rfl (wd_int (rd_eq sh_int sh_int ⟨_, rfl, ?_⟩))))
      rw [e1]
      exact iteD (fun _ => leaf _ fin) (fun h2 => sj_next ⟨by omega, rfl⟩)
    rintro _ ⟨hd2, rfl⟩
    have hdd : ((deep : Int) - 1) = ((deep - 1 : Nat) : Int) := by omega
    refine sj_seq (sj_setGD true (gthingN (by omega) (wd_var rfl (wd_var rfl (wd_op (wd_var rfl (wd_int (rd_sub ⟨m, deep - 1, bs, rfl, rfl, by rw [hdd], hmb, by omega, by omega, fun t1 n1 ht1 hn1 => ?_⟩))))))))
    show SJ K [.ex v (Pool K n1), .dat false (.int m), .dat false (bsD bs), .dat false (.int deep), .dat false (.int w), .dat true t1.d, .no] _ _
    refine sj_seq (sj_setGD false (wdg_op (wdg_of (wd_lst5 (wd_str (wd_str (wd_str (wd_str (wd_str (gtake_c (many := 5) (by omega) (by decide) (by decide) fun r5 hr5 => ?_))))))))))
    refine rd_sel (by omega) (by simp; omega) fun d hd => ?_
    have hkk : ∃ o : Op, d = .str o.w := by
      simp at hd
      rcases hd with z | z | z | z
      · exact ⟨.plus, z⟩
      · exact ⟨.times, z⟩
      · exact ⟨.less, z⟩
      · exact ⟨.same, z⟩
    obtain ⟨o, rfl⟩ := hkk
    show SJ K [.ex v (Pool K (n1 + 1)), .dat false (.int m), .dat false (bsD bs), .dat false (.int deep), .dat false (.int w), .dat true t1.d, .dat false (.str o.w)] _ _
    refine sj_retGD true (wdg_lf (wdg_tup (wag_d (wd_var rfl (wag_d (wd_varN rfl (wag_cons (gthingN (by omega) (wd_var rfl (wd_var rfl (wd_op (wd_var rfl (wd_int (rd_sub ⟨m, deep - 1, bs, rfl, rfl, by rw [hdd], hmb, by omega, by omega, fun t2 n2 ht2 hn2 => wag_nil ⟨le_lit rfl, ?_⟩⟩))))))))))))))
    have okk : (Th.op o t1 t2).Ok m bs deep := by
      obtain ⟨j, rfl⟩ := Nat.exists_eq_add_of_le hd1
      have e : 1 + j - 1 = j := by omega
      rw [e] at ht1 ht2
      rw [Nat.add_comm]
      exact ⟨ht1, ht2⟩
    exact ⟨Th.lf (.op o t1 t2), _, same1, kp, q (.op o t1 t2) n2 okk (by omega)⟩
end
end Dk
end
section
set_option Elab.async false
set_option linter.all false
set_option maxRecDepth 100000
set_option pp.maxSteps 600
open PySem L2 Pk
local macro_rules | `(tactic| walk_at "sh") => `(tactic| first | exact sh_int | exact sh_bool | exact sh_non | exact sh_nil | exact sh_str (by decide +kernel) | assumption)
local macro_rules | `(tactic| walk_at "v1") => `(tactic| first
  | (with_reducible refine wd_int ?_) | (with_reducible refine wd_str ?_) | (with_reducible refine wd_bl ?_) | (with_reducible refine wd_non ?_)
  | ((with_reducible apply wd_var); exact rfl) | ((with_reducible apply wd_varN); exact rfl)
  | ((with_reducible apply wd_ixm); exact rfl)
  | ((with_reducible apply wd_lenM); exact rfl) | ((with_reducible apply wd_lenScript); exact rfl) | ((with_reducible apply wd_ixScript); exact rfl)
  | (with_reducible refine wd_op ?_) | (with_reducible refine wd_un ?_)
  | (with_reducible refine rd_add ?_) | (with_reducible refine rd_sub ?_) | (with_reducible refine rd_lt ?_) | (with_reducible refine rd_le ?_) | (with_reducible refine rd_gt ?_) | (with_reducible refine rd_ge ?_) | (with_reducible refine ru_neg ?_)
  | ((with_reducible refine rd_eq ?ev_h ?ev_k ?_); (case ev_h => walk_at "sh"); (case ev_k => walk_at "sh")) | ((with_reducible refine rd_ne ?ev_h ?ev_k ?_); (case ev_h => walk_at "sh"); (case ev_k => walk_at "sh"))
  | ((with_reducible refine rd_mod ?ev_h ?_); case ev_h => first | decide | assumption | omega) | ((with_reducible refine rd_div ?ev_h ?ev_k ?_); (case ev_h => first | decide | assumption | omega); (case ev_k => first | decide | assumption | omega))
  | ((with_reducible refine rd_pow ?ev_h ?_); case ev_h => exact ⟨by decide, by decide, by decide⟩)
  | ((with_reducible refine rd_mul ?ev_h ?_); case ev_h => first | exact .inr ⟨by decide, by decide⟩ | exact .inl ⟨by decide, by decide⟩ | exact .inl ⟨by omega, by omega⟩ | exact .inr ⟨by omega, by omega⟩)
  | (with_reducible refine rc_lenL ?_) | (with_reducible refine rc_lenT ?_) | (with_reducible refine rc_max2 ?_) | (with_reducible refine rc_min2 ?_) | (with_reducible refine rc_intB ?_) | (with_reducible refine rc_intI ?_) | (with_reducible refine rc_listL ?_) | (with_reducible refine rc_listT ?_) | (with_reducible refine rc_tupleL ?_)
  | ((with_reducible apply rd_ixT); exact rfl)
  | ((with_reducible apply rd_ixL); exact rfl)
  | ((with_reducible refine wd_isi ?ev_h ?_); case ev_h => decide) | ((with_reducible refine wd_isi2 ?ev_h ?ev_k ?_); (case ev_h => decide); (case ev_k => decide))
  | (with_reducible refine wd_tup2 ?_) | (with_reducible refine wd_tup1 ?_) | (with_reducible refine wd_tup3 ?_) | (with_reducible refine wd_tup0 ?_)
  | (with_reducible refine wd_lst0 ?_) | (with_reducible refine wd_lst1 ?_) | (with_reducible refine wd_lst2 ?_) | (with_reducible refine wd_lst3 ?_) | (with_reducible refine wd_lst4 ?_) | (with_reducible refine wd_lst5 ?_) | (with_reducible refine wd_lst6 ?_)
  | ((with_reducible apply wd_callO0); exact rfl) | ((with_reducible apply wd_callO1); exact rfl) | ((with_reducible apply wd_callO2); exact rfl) | ((with_reducible apply wd_callO3); exact rfl)
  | (with_reducible refine wd_call1 ?_) | (with_reducible refine wd_call2 ?_) | (with_reducible refine wd_call3 ?_) | (with_reducible refine wd_call4 ?_) | (with_reducible refine wd_call0 ?_)
  | (with_reducible refine wd_cb1 ?_) | (with_reducible refine wd_cb2 ?_)
  | (with_reducible refine wd_rev ?_) | (with_reducible refine wd_lrg1 ?_) | (with_reducible refine wd_sl ?_) | (with_reducible refine wo_no ?_) | (with_reducible refine wo_some ?_)
  | (with_reducible refine wd_andV ?_) | (with_reducible refine wd_orV ?_) | (with_reducible refine wd_notV ?_) | (with_reducible refine wd_if ?_) | (with_reducible refine wd_chain ?_)
  | (with_reducible refine wt_test ?_) | (with_reducible refine wt_B ?_) | (with_reducible refine wt_not ?_) | (with_reducible refine wt_and ?_) | (with_reducible refine wt_or ?_) | (with_reducible refine wt_yes ?_)
  | (with_reducible refine gj_name ?_) | (with_reducible refine gj_tup rfl ?_) | (with_reducible refine gjs_cons ?_) | (with_reducible refine gjs_nil ?_))
local macro_rules | `(tactic| walk_at "v") => `(tactic| repeat walk_at "v1")
local macro_rules | `(tactic| walk_at "x") => `(tactic| refine ⟨_, rfl, ?_⟩)
local macro_rules | `(tactic| walk_at "vx") => `(tactic| repeat (first | walk_at "v1" | (with_reducible refine ⟨_, rfl, ?_⟩)))
namespace Dk
open PySem PySem.Spec PyProof.Rows L2 Pk Sy
theorem cut_takeP {α : Type} (xs : List α) (n : Nat) : Pk.cutD xs none (some (n : Int)) = xs.take n := by
  unfold Pk.cutD
  have h0 : ¬ ((n : Int) < 0) := by omega
  simp [HT.sIx, h0]
theorem cut_dropP {α : Type} (xs : List α) (n : Nat) : Pk.cutD xs (some (n : Int)) none = xs.drop n := by
  unfold Pk.cutD
  have h0 : ¬ ((n : Int) < 0) := by omega
  simp [HT.sIx, h0]
  rcases Nat.le_total n xs.length with h | h
  · rw [Nat.min_eq_left h, List.take_of_length_le (by simp)]
  · rw [Nat.min_eq_right h, List.drop_of_length_le h, List.drop_of_length_le (Nat.le_refl _)]
    simp
theorem cut_mapP {α β : Type} (f : α → β) (xs : List α) (lo hi : Option Int) : Pk.cutD (xs.map f) lo hi = (Pk.cutD xs lo hi).map f := by
  unfold Pk.cutD
  rw [List.length_map, ← List.map_drop, ← List.map_take]
theorem rws_snoc {rows : List Rw} {r : Rw} : rwsD (rows ++ [r]) = .list (rows.map Rw.d ++ [r.d]) := by rw [rwsD, List.map_append]; rfl
section
variable {P : Program} {K : Kw} {mg : Str → Option Value} {base : Heap} {k : Nat}
theorem gthing {m : Bool} {v : V} {Γr : List Sl} {EE : XK} {Q : PyData → List Sl → Prop} {tm tb td : TE} {n : Nat} (hn : n + 46 ≤ MXP) (h : WD K false (.ex v (Pool K n) :: Γr) tm fun a => WD K false (.ex v (Pool K n) :: Γr) tb fun b => WD K false (.ex v (Pool K n) :: Γr) td fun c => ∃ (mm deep : Nat) (bs : List Str), a = .int mm ∧ b = bsD bs ∧ c = .int deep ∧ MB mm bs ∧ 1 ≤ deep ∧ deep ≤ 4 ∧ ∀ (t : Th) n', t.Ok mm bs 4 → n' ≤ n + 46 → Q t.d (.ex v (Pool K n') :: Γr)) : WDg K m (.ex v (Pool K n) :: Γr) (tCall (spD K (T_pthing 4 K)) [] EE (tCons (tVar 0) (tCons tm (tCons tb (tCons td tNil))))) Q :=
  gthingN hn (h.mono fun a h2 => h2.mono fun b h3 => h3.mono fun c ⟨mm, deep, bs, e1, e2, e3, hm, h1, h4, q⟩ => ⟨mm, deep, bs, e1, e2, e3, hm, h1, h4, fun t n' ht hn' => q t n' (ht.mono h4) hn'⟩)
theorem ok_prow (D : Def K mg "_law_row" s_l_row ["pool", "m", "boxes"]) (c_thing : Cal P K.w K mg base CX0 k "_law_thing" ["pool", "m", "boxes", "deep"] (spD K (T_pthing 4 K))) (c_take : Cal P K.w K mg base CX0 k "_law_take" ["pool", "many"] (spD K (T_ptake K))) (m_len : mg "len" = none) (m_range : mg "range" = none) : Cal P K.w K mg base CX0 (k + 1) "_law_row" ["pool", "m", "boxes"] (spD K (T_prow K)) := by
  refine cal_gD D sc_l_row (fun Γ Qr ⟨v, n, m, bs, e, _⟩ => by subst e; exact ⟨rfl, noMl_ex (noMl_dat (noMl_dat noMl_nil))⟩) fun f cdv A outer s H E hr => ⟨_, wk_l_row c_thing c_take m_len m_range f cdv A outer s H E hr, ?_⟩
  rintro Γ Qr ⟨v, n0, m, bs, rfl, hmb, hn0, q⟩
  have hMX : MXP = 10000000 := rfl
  have hl0 := hmb.bs.len0
  have hl5 := hmb.bs.len5
  have kp : ∀ {n : Nat} {Γ'}, Keep [.ex v (Pool K n), .dat false (.int m), .dat false (bsD bs)] (.ex v (Pool K n) :: .dat false (.int m) :: .dat false (bsD bs) :: Γ') := fun {n Γ'} => keep_ex (keep_dat (keep_dat keep_nil))
  show SJ K [.ex v (Pool K n0), .dat false (.int m), .dat false (bsD bs), .no, .no, .no, .no] (t_l_row K _ _) _
  unfold t_l_row
  have box : ∀ {n : Nat} {Γr : List Sl} {Q : PyData → List Sl → Prop}, n < MXP → Γr[1]? = some (.dat false (bsD bs)) → (∀ x ∈ bs, Q (.str x) (.ex v (Pool K (n + 1)) :: Γr)) → WDg K false (.ex v (Pool K n) :: Γr) (tOp (rIx K) (tVar 2) (tCall (spD K (T_ptake K)) [] E0 (tCons (tVar 0) (tCons (tCB (dLen K) (tCons (tVar 2) tNil)) tNil)))) Q := fun {n Γr Q} hn hi q =>
    wdg_op (wdg_of (wd_var hi (gtake_w (many := bs.length) hn (by omega) (by omega) (wd_cb1 (wd_var hi (rc_lenL (by rw [List.length_map])))) fun r2 hr2 => rd_box hr2 q)))
  refine sj_seq (sj_setGD false (gtake_c (many := 8) (by omega) (by decide) (by decide) fun w hw => ?_))
  refine sj_seq (sj_setGD false (wdg_op (wdg_of (wd_lst4 (wd_int (wd_int (wd_int (wd_int (gtake_c (many := 4) (by omega) (by decide) (by decide) fun r4 hr4 => rd_sel (by omega) (by simp; omega) fun d hd => ?_)))))))))
  obtain ⟨deep, hd1, hd4, rfl⟩ : ∃ n : Nat, 1 ≤ n ∧ n ≤ 4 ∧ d = .int n := by
    simp at hd
    rcases hd with z | z | z
    · exact ⟨1, by decide, by decide, z⟩
    · exact ⟨2, by decide, by decide, z⟩
    · exact ⟨4, by decide, by decide, z⟩
  show SJ K [.ex v (Pool K (n0 + 2)), .dat false (.int m), .dat false (bsD bs), .dat false (.int w), .dat false (.int deep), .no, .no] _ _
  refine sj_seq (sj_if (wt_test (wd_op (wd_var rfl (wd_int (rd_lt ⟨_, rfl, iteD (fun _ => ?_) (fun h1 => sj_next ?_)⟩))))))
  · refine sj_retGD false (wdg_tup (wag_d (wd_str (wag_cons (box (by omega) rfl fun x hx => wag_cons (gthing (by omega) (wd_var rfl (wd_var rfl (wd_var rfl ⟨m, deep, bs, rfl, rfl, rfl, hmb, hd1, hd4, fun t n' ht hn' => wag_nil ⟨le_lit rfl, ?_⟩⟩)))))))))
    exact ⟨_, same1, kp, q (.set x t) n' ⟨hx, ht⟩ (by omega)⟩
  refine sj_seq (sj_if (wt_test (wd_op (wd_var rfl (wd_int (rd_lt ⟨_, rfl, iteD (fun _ => ?_) (fun h1 => sj_next ?_)⟩))))))
  · refine sj_seq (sj_setG (wxg_lcG (mi := false) false gwn (wig_rng (wdg_op (wdg_of (wd_int (gtake (wdg_op (wdg_of (wd_lst2 (wd_int (wd_int (gtake_c (many := 2) (by omega) (by decide) (by decide) fun r2 hr2 => rd_sel (by omega) (by simp; omega) fun d hd => ?_)))))))))))))
    obtain ⟨wd, hw1, hw5, rfl⟩ : ∃ n : Nat, 1 ≤ n ∧ n ≤ 5 ∧ d = .int n := by
      simp at hd
      rcases hd with z | z
      · exact ⟨3, by decide, by decide, z⟩
      · exact ⟨5, by decide, by decide, z⟩
    refine ⟨n0 + 3, wd, rfl, rfl, by omega, by omega, by omega, fun r5 hr5 => rd_add ⟨_, rfl, ⟨by omega, by omega⟩, fun j acc Γ' => ∃ (ts : List Th) (n : Nat), acc = ts.map Th.d ∧ ts.length = j ∧ (∀ t ∈ ts, t.Ok m bs 4) ∧ n ≤ n0 + 4 + 46 * j ∧ Γ' = [.ex v (Pool K n), .dat false (.int m), .dat false (bsD bs), .dat false (.int w), .dat false (.int deep), .no, .no], by rw [rangeD_len]; omega, fun j acc Γ' ⟨ts, n, _, _, _, _, e⟩ => by subst e; exact ⟨rfl, fun i hi => by simp at hi; subst hi; rfl⟩, ⟨[], n0 + 4, rfl, rfl, fun _ z => (by cases z), by omega, rfl⟩, fun j d acc Γ' hj hal ⟨ts, n, ea, htl, hts, hn, eΓ⟩ => ?_, fun acc Γ' hal ⟨ts, n, ea, htl, hts, hn, eΓ⟩ la => ?_⟩⟩
    · subst ea; subst eΓ
      have hjl := (rangeD_of hj).1
      refine gj_name (gthing (by omega) (wd_var rfl (wd_var rfl (wd_var rfl ⟨m, deep, bs, rfl, rfl, rfl, hmb, hd1, hd4, fun t n' ht hn' => ?_⟩))))
      refine ⟨ts ++ [t], n', by rw [List.map_append]; rfl, by simp [htl], fun z hz => ?_, by omega, rfl⟩
      rcases List.mem_append.mp hz with h | h
      · exact hts z h
      · rw [List.mem_singleton.mp h]; exact ht
    subst ea; subst eΓ
    rw [rangeD_len] at htl hal
    show SJ K [.ex v (Pool K n), .dat false (.int m), .dat false (bsD bs), .dat false (.int w), .dat false (.int deep), .ml false la (ts.map Th.d), .no] _ _
    refine sj_frz 5 (l := la) (m := false) (ds := ts.map Th.d) rfl ?_
    rw [rangeD_len] at hn
    refine sj_retGD false (wdg_tup (wag_d (wd_str (wag_cons (box (by omega) rfl fun x hx => wag_d (wd_var rfl (wag_nil ⟨le_lit rfl, ?_⟩)))))))
    exact ⟨_, same1, kp, q (.pick x ts) _ ⟨hx, by omega, by omega, hts⟩ (by omega)⟩
  refine sj_seq (sj_if ?_)
  walk_at "v"
  refine ⟨_, rfl, iteB (fun _ => ?_) (fun _ => sj_next ?_)⟩
  · refine sj_retGD false (wdg_tup (wag_d (wd_str (wag_cons (gthing (by omega) (wd_var rfl (wd_var rfl (wd_var rfl ⟨m, deep, bs, rfl, rfl, rfl, hmb, hd1, hd4, fun t n' ht hn' => wag_nil ⟨le_lit rfl, ?_⟩⟩))))))))
    exact ⟨_, same1, kp, q (.need t) n' ht (by omega)⟩
  refine sj_seq (sj_if (wt_test (wd_op (wd_var rfl (wd_int (rd_lt ⟨_, rfl, iteD (fun _ => ?_) (fun h1 => sj_next ?_)⟩))))))
  · refine sj_retGD false (wdg_tup (wag_d (wd_str (wag_cons (gthing (by omega) (wd_var rfl (wd_var rfl (wd_var rfl ⟨m, deep, bs, rfl, rfl, rfl, hmb, hd1, hd4, fun t n' ht hn' => wag_cons (wdg_op (wdg_of (wd_int (gtake (wdg_op (wdg_of (wd_lst2 (wd_int (wd_int (gtake_c (many := 2) (by omega) (by decide) (by decide) fun r2 hr2 => rd_sel (by omega) (by simp; omega) fun d hd => ?_))))))))))⟩))))))))
    obtain ⟨wd, hw1, hw5, rfl⟩ : ∃ n : Nat, 1 ≤ n ∧ n ≤ 30 ∧ d = .int n := by
      simp at hd
      rcases hd with z | z
      · exact ⟨3, by decide, by decide, z⟩
      · exact ⟨30, by decide, by decide, z⟩
    refine ⟨n' + 1, wd, rfl, rfl, by omega, by omega, by omega, fun r5 hr5 => rd_add (wag_nil ⟨le_lit rfl, ?_⟩)⟩
    have e : (1 : Int) + (r5 : Int) = ((1 + r5 : Nat) : Int) := by omega
    rw [e]
    exact ⟨_, same1, kp, q (.skip t (1 + r5)) _ ⟨ht, by omega, by omega⟩ (by omega)⟩
  refine sj_retGD false (wdg_tup (wag_d (wd_str (wag_cons (gthing (by omega) (wd_var rfl (wd_var rfl (wd_var rfl ⟨m, deep, bs, rfl, rfl, rfl, hmb, hd1, hd4, fun t n' ht hn' => wag_nil ⟨le_lit rfl, ?_⟩⟩))))))))
  exact ⟨_, same1, kp, q (.give t) n' ht (by omega)⟩
theorem ok_pprogram (D : Def K mg "_law_program" s_l_program ["pool", "sizes", "most"]) (c_take : Cal P K.w K mg base CX0 k "_law_take" ["pool", "many"] (spD K (T_ptake K))) (c_thing : Cal P K.w K mg base CX0 k "_law_thing" ["pool", "m", "boxes", "deep"] (spD K (T_pthing 4 K))) (c_row : Cal P K.w K mg base CX0 k "_law_row" ["pool", "m", "boxes"] (spD K (T_prow K))) (c_boxes : Cal P K.w K mg base CX0 k "_law_boxes" ["pool", "many"] (spD K (T_pboxes K))) (m_range : mg "range" = none) : Cal P K.w K mg base CX0 (k + 1) "_law_program" ["pool", "sizes", "most"] (spD K (T_pprogram K)) := by
  refine cal_gD D sc_l_program (fun Γ Qr ⟨v, n, m, many, most, e, _⟩ => by subst e; exact ⟨rfl, noMl_ex (noMl_dat (noMl_dat noMl_nil))⟩) fun f cdv A outer s H E hr => ⟨_, wk_l_program c_take c_thing c_row c_boxes m_range f cdv A outer s H E hr, ?_⟩
  rintro Γ Qr ⟨v, n0, m, many, most, rfl, ⟨hm2, hm16, hy1, hy5, _⟩, hmo1, hmo30, hn0, q⟩
  have hMX : MXP = 10000000 := rfl
  show SJ K [.ex v (Pool K n0), .dat false (.tuple [.int m, .int many]), .dat false (.int most), .no, .no, .no, .no, .no] (t_l_program K _ _ _ _) _
  unfold t_l_program
  refine sj_seq (sj_asg false (wd_var rfl (gj_tup rfl (gjs_cons (gj_name (gjs_cons (gj_name (gjs_nil ?_))))))))
  show SJ K [.ex v (Pool K n0), .dat false (.tuple [.int m, .int many]), .dat false (.int most), .dat false (.int m), .dat false (.int many), .no, .no, .no] _ _
  refine sj_seq (sj_setG (wxg_callD (i := 0) (v := v) rfl (wag_d (wd_var rfl (wag_nil ⟨Pool K n0, rfl, v, n0, many, rfl, by omega, hy1, hy5, fun l bs n1 hn1 hb hbl => ⟨Pool K n1, rfl, ?_⟩⟩)))))
  show SJ K [.ex v (Pool K n1), .dat false (.tuple [.int m, .int many]), .dat false (.int most), .dat false (.int m), .dat false (.int many), .ml false l (bs.map PyData.str), .no, .no] _ _
  refine sj_frz 5 (l := l) (m := false) (ds := bs.map PyData.str) rfl ?_
  show SJ K [.ex v (Pool K n1), .dat false (.tuple [.int m, .int many]), .dat false (.int most), .dat false (.int m), .dat false (.int many), .dat false (bsD bs), .no, .no] _ _
  have hmb : MB m bs := ⟨hm2, hm16, hb⟩
  refine sj_seq (sj_setG (wxg_lcG (mi := false) false gwn (wig_rng (gtake_w (many := most + 1) (by omega) (by omega) (by omega) (wd_op (wd_var rfl (wd_int (rd_add (by congr 1))))) fun r hr => ?_))))
  refine ⟨_, rfl, ⟨by omega, by omega⟩, fun j acc Γ' => ∃ (rows : List Rw) (n : Nat), acc = rows.map Rw.d ∧ rows.length = j ∧ (∀ t ∈ rows, t.Ok m bs) ∧ n ≤ n1 + 1 + 240 * j ∧ Γ' = [.ex v (Pool K n), .dat false (.tuple [.int m, .int many]), .dat false (.int most), .dat false (.int m), .dat false (.int many), .dat false (bsD bs), .no, .no], by rw [rangeD_len]; omega, fun j acc Γ' ⟨ts, n, _, _, _, _, e⟩ => by subst e; exact ⟨rfl, fun i hi => by simp at hi; subst hi; rfl⟩, ⟨[], n1 + 1, rfl, rfl, fun _ z => (by cases z), by omega, rfl⟩, fun j d acc Γ' hj hal ⟨rows, n, ea, htl, hts, hn, eΓ⟩ => ?_, fun acc Γ' hal ⟨rows, n, ea, htl, hts, hn, eΓ⟩ la => ?_⟩
  · subst ea; subst eΓ
    have hjl := (rangeD_of hj).1
    refine gj_name (grow (by omega) (wd_var rfl (wd_var rfl ⟨m, bs, rfl, rfl, hmb, fun t n' ht hn' => ?_⟩)))
    refine ⟨rows ++ [t], n', by rw [List.map_append]; rfl, by simp [htl], fun z hz => ?_, by omega, rfl⟩
    rcases List.mem_append.mp hz with h | h
    · exact hts z h
    · rw [List.mem_singleton.mp h]; exact ht
  subst ea; subst eΓ
  rw [rangeD_len] at htl hal hn
  show SJ K [.ex v (Pool K n), .dat false (.tuple [.int m, .int many]), .dat false (.int most), .dat false (.int m), .dat false (.int many), .dat false (bsD bs), .ml false la (rows.map Rw.d), .no] _ _
  refine sj_frz 6 (l := la) (m := false) (ds := rows.map Rw.d) rfl ?_
  show SJ K [.ex v (Pool K n), .dat false (.tuple [.int m, .int many]), .dat false (.int most), .dat false (.int m), .dat false (.int many), .dat false (bsD bs), .dat false (rwsD rows), .no] _ _
  refine sj_cut (fun Γ' => ∃ (rows : List Rw) (n : Nat), rows.length ≤ most ∧ (∀ t ∈ rows, t.Ok m bs) ∧ n ≤ n0 + 7400 ∧ Γ' = [.ex v (Pool K n), .dat false (.tuple [.int m, .int many]), .dat false (.int most), .dat false (.int m), .dat false (.int many), .dat false (bsD bs), .dat false (rwsD rows), .no]) (sj_ifG (wtg_test (wdg_op (gtake_c (many := 4) (by omega) (by decide) (by decide) fun r4 hr4 => wdg_of (wd_int (rd_gt ⟨_, rfl, iteD (fun _ => ?_) (fun _ => sj_next ⟨rows, n + 1, by omega, hts, by omega, rfl⟩)⟩)))))) ?_
  · refine sj_setGD false (wdg_op (wdg_of (wd_sl (wd_var rfl ⟨_, rfl, wo_no (wo_some (wd_op (wd_var rfl (wd_int (rd_sub ⟨_, rfl, ?_⟩)))))⟩))))
    refine wdg_lst (wag_cons (wdg_tup (wag_d (wd_str (wag_cons (gthing (by omega) (wd_var rfl (wd_var rfl (wd_int ⟨m, 2, bs, rfl, rfl, rfl, hmb, by decide, by decide, fun t n' ht hn' => wag_nil ⟨le_lit rfl, wag_nil ⟨le_lit rfl, ?_⟩⟩⟩)))))))))
    have e1 : (most : Int) - 1 = ((most - 1 : Nat) : Int) := by omega
    rw [e1, cut_takeP, ← List.map_take]
    refine rd_cat (by simp; omega) ⟨rows.take (most - 1) ++ [.give t], n', by simp; omega, fun z hz => ?_, by omega, by rw [rws_snoc]; rfl⟩
    rcases List.mem_append.mp hz with h | h
    · exact hts z (List.mem_of_mem_take h)
    · rw [List.mem_singleton.mp h]; exact ht
  rintro _ ⟨rows', n', hrl, hrok, hn', rfl⟩
  refine sj_retD false (wd_tup3 (wd_var rfl (wd_var rfl (wd_var rfl ?_))))
  exact ⟨_, same1, keep_ex (keep_dat (keep_dat keep_nil)), q ⟨m, bs, rows'⟩ n' ⟨hm2, hm16, hb, by show rows'.length ≤ 30; omega, hrok⟩ rfl hbl hrl hn'⟩
end
end Dk
end
section
set_option Elab.async false
set_option linter.all false
set_option maxRecDepth 100000
set_option pp.maxSteps 600
open PySem L2 Pk
local macro_rules | `(tactic| walk_at "sh") => `(tactic| first | exact sh_int | exact sh_bool | exact sh_non | exact sh_nil | exact sh_str (by decide +kernel) | assumption)
local macro_rules | `(tactic| walk_at "v1") => `(tactic| first
  | (with_reducible refine wd_int ?_) | (with_reducible refine wd_str ?_) | (with_reducible refine wd_bl ?_) | (with_reducible refine wd_non ?_)
  | ((with_reducible apply wd_var); exact rfl) | ((with_reducible apply wd_varN); exact rfl)
  | ((with_reducible apply wd_ixm); exact rfl)
  | ((with_reducible apply wd_lenM); exact rfl) | ((with_reducible apply wd_lenScript); exact rfl) | ((with_reducible apply wd_ixScript); exact rfl)
  | (with_reducible refine wd_op ?_) | (with_reducible refine wd_un ?_)
  | (with_reducible refine rd_add ?_) | (with_reducible refine rd_sub ?_) | (with_reducible refine rd_lt ?_) | (with_reducible refine rd_le ?_) | (with_reducible refine rd_gt ?_) | (with_reducible refine rd_ge ?_) | (with_reducible refine ru_neg ?_)
  | ((with_reducible refine rd_eq ?ev_h ?ev_k ?_); (case ev_h => walk_at "sh"); (case ev_k => walk_at "sh")) | ((with_reducible refine rd_ne ?ev_h ?ev_k ?_); (case ev_h => walk_at "sh"); (case ev_k => walk_at "sh"))
  | ((with_reducible refine rd_mod ?ev_h ?_); case ev_h => first | decide | assumption | omega) | ((with_reducible refine rd_div ?ev_h ?ev_k ?_); (case ev_h => first | decide | assumption | omega); (case ev_k => first | decide | assumption | omega))
  | ((with_reducible refine rd_pow ?ev_h ?_); case ev_h => exact ⟨by decide, by decide, by decide⟩)
  | ((with_reducible refine rd_mul ?ev_h ?_); case ev_h => first | exact .inr ⟨by decide, by decide⟩ | exact .inl ⟨by decide, by decide⟩ | exact .inl ⟨by omega, by omega⟩ | exact .inr ⟨by omega, by omega⟩)
  | (with_reducible refine rc_lenL ?_) | (with_reducible refine rc_lenT ?_) | (with_reducible refine rc_max2 ?_) | (with_reducible refine rc_min2 ?_) | (with_reducible refine rc_intB ?_) | (with_reducible refine rc_intI ?_) | (with_reducible refine rc_listL ?_) | (with_reducible refine rc_listT ?_) | (with_reducible refine rc_tupleL ?_)
  | ((with_reducible apply rd_ixT); exact rfl)
  | ((with_reducible apply rd_ixL); exact rfl)
  | ((with_reducible refine wd_isi ?ev_h ?_); case ev_h => decide) | ((with_reducible refine wd_isi2 ?ev_h ?ev_k ?_); (case ev_h => decide); (case ev_k => decide))
  | (with_reducible refine wd_tup2 ?_) | (with_reducible refine wd_tup1 ?_) | (with_reducible refine wd_tup3 ?_) | (with_reducible refine wd_tup0 ?_)
  | (with_reducible refine wd_lst0 ?_) | (with_reducible refine wd_lst1 ?_) | (with_reducible refine wd_lst2 ?_) | (with_reducible refine wd_lst3 ?_) | (with_reducible refine wd_lst4 ?_) | (with_reducible refine wd_lst5 ?_) | (with_reducible refine wd_lst6 ?_)
  | ((with_reducible apply wd_callO0); exact rfl) | ((with_reducible apply wd_callO1); exact rfl) | ((with_reducible apply wd_callO2); exact rfl) | ((with_reducible apply wd_callO3); exact rfl)
  | (with_reducible refine wd_call1 ?_) | (with_reducible refine wd_call2 ?_) | (with_reducible refine wd_call3 ?_) | (with_reducible refine wd_call4 ?_) | (with_reducible refine wd_call0 ?_)
  | (with_reducible refine wd_cb1 ?_) | (with_reducible refine wd_cb2 ?_)
  | (with_reducible refine wd_rev ?_) | (with_reducible refine wd_lrg1 ?_) | (with_reducible refine wd_sl ?_) | (with_reducible refine wo_no ?_) | (with_reducible refine wo_some ?_)
  | (with_reducible refine wd_andV ?_) | (with_reducible refine wd_orV ?_) | (with_reducible refine wd_notV ?_) | (with_reducible refine wd_if ?_) | (with_reducible refine wd_chain ?_)
  | (with_reducible refine wt_test ?_) | (with_reducible refine wt_B ?_) | (with_reducible refine wt_not ?_) | (with_reducible refine wt_and ?_) | (with_reducible refine wt_or ?_) | (with_reducible refine wt_yes ?_)
  | (with_reducible refine gj_name ?_) | (with_reducible refine gj_tup rfl ?_) | (with_reducible refine gjs_cons ?_) | (with_reducible refine gjs_nil ?_))
local macro_rules | `(tactic| walk_at "v") => `(tactic| repeat walk_at "v1")
local macro_rules | `(tactic| walk_at "x") => `(tactic| refine ⟨_, rfl, ?_⟩)
local macro_rules | `(tactic| walk_at "vx") => `(tactic| repeat (first | walk_at "v1" | (with_reducible refine ⟨_, rfl, ?_⟩)))
namespace Dk
open PySem PySem.Spec PyProof.Rows L2 Pk Sy
section
variable {P : Program} {K : Kw} {mg : Str → Option Value} {base : Heap} {k : Nat}
end
end Dk
end
section
set_option Elab.async false
set_option linter.all false
set_option maxRecDepth 100000
namespace Dk
/-- what comes next, told as the law tells it: a place behind the last row, too -/
def lnx (p : Pg) (row : Nat) (st : List Nat) : Rw → List Wy
  | .set x t => [.place (row + 1) (put p.bs st x (tv p st t))]
  | .pick x ts => ts.map fun t => .place (row + 1) (put p.bs st x (tv p st t))
  | .need t => if tv p st t = 0 then [.nothing] else [.place (row + 1) st]
  | .skip t k => [.place (min (row + 1 + if tv p st t = 0 then 0 else k) p.rows.length) st]
  | .give t => [.gives (tv p st t)]
def lways (p : Pg) (row : Nat) (st : List Nat) : List Wy := match p.rows[row]? with
  | some r => lnx p row st r
  | none => [.nothing]
def plc : Wy → Option (Nat × List Nat)
  | .place r s => some (r, s)
  | _ => none
def behind (p : Pg) (row : Nat) (st : List Nat) : List (Nat × List Nat) := (lways p row st).filterMap plc
abbrev Sts := List (List (List Nat))
def gt (nss : Sts) (r : Nat) : List (List Nat) := nss.getD r []
/-- what holds of all stages -/
structure Sg (p : Pg) (st : List Nat) (n : Nat) (nss : Sts) : Prop where
  len : nss.length = p.rows.length + 1
  nd : ∀ r, (gt nss r).Nodup
  ok : ∀ r, ∀ s ∈ gt nss r, StOk p.m p.bs s
  cl : ∀ r, r < n → ∀ s ∈ gt nss r, ∀ b ∈ behind p r s, b.2 ∈ gt nss b.1
  st : st ∈ gt nss 0
/-- in the midst of a row's stores: those of hs are done -/
structure Mid (p : Pg) (st : List Nat) (row : Nat) (old nss : Sts) (hs : List (List Nat)) : Prop where
  len : nss.length = p.rows.length + 1
  nd : ∀ r, (gt nss r).Nodup
  ok : ∀ r, ∀ s ∈ gt nss r, StOk p.m p.bs s
  lo : ∀ r, r ≤ row → gt nss r = gt old r
  up : ∀ r, ∀ s ∈ gt old r, s ∈ gt nss r
  cl : ∀ s ∈ hs, ∀ b ∈ behind p row s, b.2 ∈ gt nss b.1
end Dk
end
section
set_option Elab.async false
set_option linter.all false
set_option maxRecDepth 100000
namespace Dk
open PySem PySem.Spec PyProof.Rows L2 Pk
def addC (k : Nat) (r : List Nat × Wy) : List Nat × Wy := (k :: r.1, r.2)
/-- the runs of many ways, the first one's choice k -/
def fan (f : Wy → List (List Nat × Wy)) : Nat → List Wy → List (List Nat × Wy)
  | _, [] => []
  | k, w :: ws => (f w).map (addC k) ++ fan f (k + 1) ws
def runs (p : Pg) : Nat → Wy → List (List Nat × Wy)
  | 0, w => [([], w)]
  | n + 1, .place row st => if isPickAt p row = true then fan (runs p n) 0 (ways p row st) else (ways p row st).flatMap (runs p n)
  | _ + 1, e => [([], e)]
def size (p : Pg) : Nat → Wy → Nat
  | 0, _ => 1
  | n + 1, .place row st => 1 + ((ways p row st).map (size p n)).sum
  | _ + 1, _ => 1
/-- what waits: choices so far, the way, fuel -/
structure Wt where
  cs : List Nat
  w : Wy
  n : Nat
def Wt.d (t : Wt) : PyData := .tuple [natsD t.cs, t.w.d]
def preC (cs : List Nat) (r : List Nat × Wy) : List Nat × Wy := (cs ++ r.1, r.2)
def Wt.all (p : Pg) (t : Wt) : List (List Nat × Wy) := (runs p t.n t.w).map (preC t.cs)
/-- what waits is fit: fuel enough, ways of the program, low in the pile -/
structure WtOk (p : Pg) (i : Nat) (t : Wt) : Prop where
  fuel : 30 ≤ t.n + t.w.rowN
  ok : WyOk p t.w
  low : i ≤ 4 * t.w.rowN
  len : t.cs.length ≤ t.w.rowN
end Dk
end
section
set_option Elab.async false
set_option linter.all false
set_option maxRecDepth 100000
namespace Dk
open PySem PySem.Spec PyProof.Rows L2 Pk
def sizeL : List Rw → Nat
  | [] => 1
  | .pick _ ts :: rs => ts.length * sizeL rs
  | _ :: rs => sizeL rs
/-- rows that go on to the next -/
inductive Ne : Rw → Prop
  | set (x : Str) (t : Th) : Ne (.set x t)
  | pick (x : Str) (ts : List Th) : Ne (.pick x ts)
  | need (n : Nat) (h : n ≠ 0) : Ne (.need (.num n))
  | skip (k : Nat) : Ne (.skip (.num 0) k)
end Dk
end
section
set_option Elab.async false
set_option linter.all false
set_option maxRecDepth 100000
namespace Dk
theorem nd_lt : ∀ (N : Nat) (l : List Nat), l.Nodup → (∀ x ∈ l, x < N) → l.length ≤ N
  | 0, l, _, h => by
    cases l with
    | nil => exact Nat.le_refl _
    | cons a l => exact absurd (h a List.mem_cons_self) (Nat.not_lt_zero _)
  | N + 1, l, nd, h => by
    have h1 := nd_lt N (l.erase N) (nd.erase _) fun x hx => by
      have := h x (List.mem_of_mem_erase hx)
      have hne : x ≠ N := fun e => by
        rw [e] at hx
        exact (List.Nodup.mem_erase_iff nd).mp hx |>.1 rfl
      omega
    have h2 : l.length ≤ (l.erase N).length + 1 := by
      rw [List.length_erase]
      split <;> omega
    omega
def wt (p : Pg) (r : Nat) : Nat := sizeL (p.rows.drop r)
end Dk
end
section
set_option Elab.async false
set_option linter.all false
set_option maxRecDepth 100000
namespace Dk
open PySem PySem.Spec PyProof.Rows L2 Pk
theorem dval_pos {p : NestedKey × PyData} {r : NDs} {k : NestedKey} (e : p.1 = k) : dval (p :: r) k = some p.2 := by simp [dval, List.find?_cons, e]
theorem dval_neg {p : NestedKey × PyData} {r : NDs} {k : NestedKey} (e : ¬ p.1 = k) : dval (p :: r) k = dval r k := by simp [dval, List.find?_cons, e]
theorem dval_map (k : NestedKey) (d : PyData) (k' : NestedKey) : ∀ ds : NDs, dval (ds.map fun x => if x.1 = k then (x.1, d) else x) k' = if k' = k then (dval ds k).map (fun _ => d) else dval ds k'
  | [] => by simp [dval]
  | (a, v) :: ds => by
    rw [List.map_cons]
    by_cases h : a = k
    · subst h
      rw [if_pos rfl]
      by_cases e : k' = a
      · subst e
        rw [dval_pos rfl, if_pos rfl, dval_pos rfl]; rfl
      · rw [dval_neg (Ne.symm e), if_neg e, dval_neg (Ne.symm e), dval_map a d k' ds, if_neg e]
    · rw [if_neg h, dval_neg (r := ds) h]
      by_cases e : a = k'
      · subst e
        rw [dval_pos rfl, if_neg h, dval_pos rfl]
      · rw [dval_neg e, dval_map k d k' ds, dval_neg e]
theorem dval_app {k k' : NestedKey} {d : PyData} : ∀ ds : NDs, dval ds k = none → dval (ds ++ [(k, d)]) k' = if k' = k then some d else dval ds k'
  | [], _ => by
    by_cases e : k' = k
    · rw [if_pos e, e]; exact dval_pos rfl
    · rw [if_neg e]; exact dval_neg (Ne.symm e)
  | (a, v) :: ds, h => by
    by_cases ha : a = k
    · rw [dval_pos ha] at h; cases h
    · rw [dval_neg ha] at h
      rw [List.cons_append]
      by_cases e : a = k'
      · subst e
        rw [dval_pos rfl, dval_pos rfl, if_neg ha]
      · rw [dval_neg e, dval_neg e, dval_app ds h]
theorem dval_put (ds : NDs) (k : NestedKey) (d : PyData) (k' : NestedKey) : dval (dput ds k d) k' = if k' = k then some d else dval ds k' := by
  unfold dput
  cases h : dval ds k with
  | none =>
    rw [if_neg (by simp)]
    exact dval_app ds h
  | some v =>
    rw [if_pos (show (some v).isSome = true from rfl), dval_map, h]
    rfl
theorem dput_len (ds : NDs) (k : NestedKey) (d : PyData) : (dput ds k d).length ≤ ds.length + 1 := by
  unfold dput
  split <;> simp
def stKs (st : List Nat) : List NestedKey := st.map fun (n : Nat) => .num n
abbrev stK (st : List Nat) : NestedKey := .tup (stKs st)
theorem stK_inj {a b : List Nat} (h : stK a = stK b) : a = b := by
  have h' : stKs a = stKs b := by injection h
  unfold stKs at h'
  exact (List.map_inj_right (fun x y e => by injection e with e; omega)).mp h'
def wyKs : Wy → List NestedKey
  | .place r s => [.num r, stK s]
  | .gives n => [.text "gives", .num n]
  | .nothing => [.text "nothing"]
abbrev wyK (w : Wy) : NestedKey := .tup (wyKs w)
theorem wyK_inj {a b : Wy} (h : wyK a = wyK b) : a = b := by
  have h' : wyKs a = wyKs b := by injection h
  cases a with
  | place r s =>
    cases b with
    | place r' s' =>
      simp only [wyKs, List.cons.injEq, NestedKey.num.injEq, and_true] at h'
      have e1 : r = r' := by omega
      rw [e1, stK_inj h'.2]
    | gives n => simp [wyKs] at h'
    | nothing => simp [wyKs] at h'
  | gives n =>
    cases b with
    | place r' s' => simp [wyKs] at h'
    | gives n' =>
      simp only [wyKs, List.cons.injEq, NestedKey.num.injEq, and_true, true_and] at h'
      have : n = n' := by omega
      rw [this]
    | nothing => simp [wyKs] at h'
  | nothing =>
    cases b with
    | place r' s' => simp [wyKs] at h'
    | gives n' => simp [wyKs] at h'
    | nothing => rfl
abbrev Cn := List (Wy × Nat)
def cval (l : Cn) (w : Wy) : Option Nat := (l.find? fun x => decide (x.1 = w)).map (·.2)
def cput (l : Cn) (w : Wy) (n : Nat) : Cn := if (cval l w).isSome then l.map (fun x => if x.1 = w then (x.1, n) else x) else l ++ [(w, n)]
def cadd (l : Cn) (x : Wy × Nat) : Cn := cput l x.1 ((cval l x.1).getD 0 + x.2)
def cD (l : Cn) : NDs := l.map fun x => (wyK x.1, .int x.2)
def cnt (p : Pg) : Nat → Wy → Cn
  | 0, _ => []
  | n + 1, .place r s => (lways p r s).foldl (fun acc w => (cnt p n w).foldl cadd acc) []
  | _ + 1, e => [(e, 1)]
/-- the ends' counts from a place -/
def cn (p : Pg) (w : Wy) : Cn := cnt p 32 w
def LwOk (p : Pg) : Wy → Prop
  | .place r s => r ≤ p.rows.length ∧ StOk p.m p.bs s
  | .gives n => n < p.m
  | .nothing => True
/-- the ends are ends, each once -/
structure CnOk (p : Pg) (l : Cn) : Prop where
  nd : (l.map (·.1)).Nodup
  e : ∀ x ∈ l, x.1.isPl = false ∧ LwOk p x.1
theorem CnOk.keys {p : Pg} {l : Cn} (h : CnOk p l) : ∀ w ∈ l.map (·.1), w.isPl = false ∧ LwOk p w := fun w hw => by
  obtain ⟨x, hx, rfl⟩ := List.mem_map.mp hw
  exact h.e x hx
def wcode (m : Nat) : Wy → Nat
  | .gives n => n
  | _ => m
theorem CnOk.len {p : Pg} {l : Cn} (h : CnOk p l) : l.length ≤ p.m + 1 := by
  have h1 : ((l.map (·.1)).map (wcode p.m)).Nodup := by
    refine List.pairwise_map.mpr (h.nd.imp_of_mem fun {a b} ha hb hne e => hne ?_)
    have oa := h.keys a ha
    have ob := h.keys b hb
    cases a with
    | place r s => cases oa.1
    | gives n =>
      cases b with
      | place r s => cases ob.1
      | gives n' => have e' : n = n' := e; rw [e']
      | nothing => have e' : n = p.m := e; have : n < p.m := oa.2; omega
    | nothing =>
      cases b with
      | place r s => cases ob.1
      | gives n' => have e' : p.m = n' := e; have : n' < p.m := ob.2; omega
      | nothing => rfl
  have h2 := nd_lt (p.m + 1) _ h1 fun x hx => by
    obtain ⟨w, hw, rfl⟩ := List.mem_map.mp hx
    have ow := h.keys w hw
    cases w with
    | place r s => cases ow.1
    | gives n => have : n < p.m := ow.2; show n < p.m + 1; omega
    | nothing => show p.m < p.m + 1; omega
  simpa using h2
end Dk
end
section
set_option Elab.async false
set_option linter.all false
set_option maxRecDepth 100000
namespace Dk
open PySem PySem.Spec PyProof.Rows L2 Pk
/-- what is told of places from a row on -/
def Cts (p : Pg) (nss : Sts) (n top : Nat) (ds : NDs) : Prop := ∀ r, n ≤ r → r < top → ∀ s ∈ gt nss r, dval ds (wyK (.place r s)) = some (dictN (cD (cn p (.place r s))))
theorem Cts.put {p : Pg} {nss : Sts} {n top : Nat} {ds : NDs} (h : Cts p nss n top ds) (r : Nat) (s : List Nat) : Cts p nss n top (dput ds (wyK (.place r s)) (dictN (cD (cn p (.place r s))))) := fun r' h1 h2 s' hs => by
  rw [dval_put]
  by_cases e : wyK (.place r' s') = wyK (.place r s)
  · rw [if_pos e]
    have e' := wyK_inj e
    rw [e']
  · rw [if_neg e]
    exact h r' h1 h2 s' hs
instance : Inhabited Wy := ⟨.nothing⟩
def gv : Wy → Option Nat
  | .gives n => some n
  | _ => none
/-- the answers of some ends -/
def gvs (l : Cn) : List Nat := (l.map (·.1)).filterMap gv
/-- rising, each of the answers once -/
def Rising (l : Cn) (ns : List Nat) : Prop := ns.Perm (gvs l) ∧ ns.Pairwise (· ≤ ·)
theorem Rising.eq {l : Cn} {a b : List Nat} (ha : Rising l a) (hb : Rising l b) : a = b :=
  List.Perm.eq_of_pairwise (fun x y _ _ h1 h2 => Nat.le_antisymm h1 h2) ha.2 hb.2 (ha.1.trans hb.1.symm)
end Dk
end
section
set_option Elab.async false
set_option linter.all false
set_option maxRecDepth 100000
namespace Dk
open PySem PySem.Spec PyProof.Rows L2 Pk
def total (l : Cn) : Nat := (l.map (·.2)).sum
def cget (l : Cn) (e : Wy) : Nat := (cval l e).getD 0
/-- how many runs behind a way, all, or to one end -/
def nbl (o : Option Wy) (l : Cn) : Nat := match o with
  | none => total l
  | some e => cget l e
def nb (p : Pg) (o : Option Wy) (w : Wy) : Nat := nbl o (cn p w)
end Dk
end
section
set_option Elab.async false
set_option linter.all false
set_option maxRecDepth 100000
namespace Dk
open PySem PySem.Spec PyProof.Rows L2 Pk
end Dk
end
section
set_option Elab.async false
set_option linter.all false
set_option maxRecDepth 100000
namespace Dk
open PySem PySem.Spec PyProof.Rows L2 Pk
def Apart (a b : List Nat) : Prop := ∃ (pre : List Nat) (x y : Nat) (u v : List Nat), a = pre ++ x :: u ∧ b = pre ++ y :: v ∧ x < y
theorem Apart.cons {a b : List Nat} (h : Apart a b) (k : Nat) : Apart (k :: a) (k :: b) := by
  obtain ⟨pre, x, y, u, v, rfl, rfl, h⟩ := h
  exact ⟨k :: pre, x, y, u, v, rfl, rfl, h⟩
end Dk
end
section
set_option Elab.async false
set_option linter.all false
set_option maxRecDepth 100000
namespace Dk
open PySem PySem.Spec PyProof.Rows L2 Pk
def shiftR (at_ k : Nat) : Rw → Rw
  | .skip t j => if k < at_ ∧ at_ ≤ k + j then .skip t (j + 1) else .skip t j
  | r => r
structure Ins (p q : Pg) (at_ : Nat) (r : Rw) : Prop where
  m : q.m = p.m
  bs : q.bs = p.bs
  len : q.rows.length = p.rows.length + 1
  le : at_ ≤ p.rows.length
  lo : ∀ j r0, j < at_ → p.rows[j]? = some r0 → q.rows[j]? = some (shiftR at_ j r0)
  mid : q.rows[at_]? = some r
  hi : ∀ j, at_ ≤ j → q.rows[j + 1]? = p.rows[j]?
/-- with a row ahead -/
def hd1 (p : Pg) (r : Rw) : Pg := ⟨p.m, p.bs, r :: p.rows⟩
def Rw.Nr (m : Nat) (bs : List Str) : Rw → Prop
  | .skip t k => t.Ok m bs 4 ∧ 1 ≤ k ∧ k ≤ 31
  | r => r.Ok m bs
structure Pg.Nr (p : Pg) : Prop where
  mb : 2 ≤ p.m ∧ p.m ≤ 16 ∧ BsOk p.bs
  r31 : p.rows.length ≤ 31
  rows : ∀ r ∈ p.rows, r.Nr p.m p.bs
end Dk
end
section
set_option Elab.async false
set_option linter.all false
set_option maxRecDepth 100000
namespace Dk
open PySem PySem.Spec PyProof.Rows L2 Pk
def Wy.need (p : Pg) : Wy → Nat
  | .place row _ => p.rows.length - row
  | _ => 0
end Dk
end
section
set_option Elab.async false
set_option linter.all false
set_option maxRecDepth 100000
namespace Dk
open PySem PySem.Spec PyProof.Rows L2 Pk
def tl (o : Option Wy) (rs : List (List Nat × Wy)) : Nat := match o with
  | none => rs.length
  | some e => (rs.filter fun r => decide (r.2 = e)).length
def Pos (l : Cn) : Prop := ∀ x ∈ l, 1 ≤ x.2
end Dk
end
section
set_option Elab.async false
set_option linter.all false
set_option maxRecDepth 100000
namespace Dk
open PySem PySem.Spec PyProof.Rows L2 Pk
end Dk
end
section
set_option Elab.async false
set_option linter.all false
set_option maxRecDepth 100000
set_option pp.maxSteps 1000
namespace Dk
open PySem PySem.Spec PyProof.Rows L2 Pk
def allst (m : Nat) : Nat → List (List Nat)
  | 0 => [[]]
  | n + 1 => (allst m n).flatMap fun s => (List.range m).map fun x => s ++ [x]
/-- the stores of a program -/
abbrev pSt (p : Pg) : List (List Nat) := allst p.m p.bs.length
def eK : Wy → Key
  | .gives n => .inl (n : Int)
  | _ => .inl (-1)
def Ends (c : Cn) : Prop := ∀ x ∈ c, x.1.isPl = false
def fdC (c : Cn) : FDs := c.map fun x => (eK x.1, .int x.2)
end Dk
end
section
set_option Elab.async false
set_option linter.all false
set_option maxRecDepth 100000
set_option pp.maxSteps 1000
namespace Pk
open PySem PySem.Spec PyProof.Rows L2
variable {K : Kw} {m : Bool} {Γ : List Sl} {te ti ta tb tk : TE} {Q : PyData → Prop}
end Pk
end
section
set_option Elab.async false
set_option linter.all false
set_option maxRecDepth 100000
set_option pp.maxSteps 600
open PySem L2 Pk
local macro_rules | `(tactic| walk_at "sh") => `(tactic| first | exact sh_int | exact sh_bool | exact sh_non | exact sh_nil | exact sh_str (by decide +kernel) | assumption)
local macro_rules | `(tactic| walk_at "v1") => `(tactic| first
  | (with_reducible refine wd_int ?_) | (with_reducible refine wd_str ?_) | (with_reducible refine wd_bl ?_) | (with_reducible refine wd_non ?_)
  | ((with_reducible apply wd_var); exact rfl) | ((with_reducible apply wd_varN); exact rfl)
  | ((with_reducible apply wd_ixm); exact rfl)
  | ((with_reducible apply wd_lenM); exact rfl) | ((with_reducible apply wd_lenScript); exact rfl) | ((with_reducible apply wd_ixScript); exact rfl)
  | (with_reducible refine wd_op ?_) | (with_reducible refine wd_un ?_)
  | (with_reducible refine rd_add ?_) | (with_reducible refine rd_sub ?_) | (with_reducible refine rd_lt ?_) | (with_reducible refine rd_le ?_) | (with_reducible refine rd_gt ?_) | (with_reducible refine rd_ge ?_) | (with_reducible refine ru_neg ?_)
  | ((with_reducible refine rd_eq ?ev_h ?ev_k ?_); (case ev_h => walk_at "sh"); (case ev_k => walk_at "sh")) | ((with_reducible refine rd_ne ?ev_h ?ev_k ?_); (case ev_h => walk_at "sh"); (case ev_k => walk_at "sh"))
  | ((with_reducible refine rd_mod ?ev_h ?_); case ev_h => first | decide | assumption | omega) | ((with_reducible refine rd_div ?ev_h ?ev_k ?_); (case ev_h => first | decide | assumption | omega); (case ev_k => first | decide | assumption | omega))
  | ((with_reducible refine rd_pow ?ev_h ?_); case ev_h => exact ⟨by decide, by decide, by decide⟩)
  | ((with_reducible refine rd_mul ?ev_h ?_); case ev_h => first | exact .inr ⟨by decide, by decide⟩ | exact .inl ⟨by decide, by decide⟩ | exact .inl ⟨by omega, by omega⟩ | exact .inr ⟨by omega, by omega⟩)
  | (with_reducible refine rc_lenL ?_) | (with_reducible refine rc_lenT ?_) | (with_reducible refine rc_max2 ?_) | (with_reducible refine rc_min2 ?_) | (with_reducible refine rc_intB ?_) | (with_reducible refine rc_intI ?_) | (with_reducible refine rc_listL ?_) | (with_reducible refine rc_listT ?_) | (with_reducible refine rc_tupleL ?_)
  | ((with_reducible apply rd_ixT); exact rfl)
  | ((with_reducible apply rd_ixL); exact rfl)
  | ((with_reducible refine wd_isi ?ev_h ?_); case ev_h => decide) | ((with_reducible refine wd_isi2 ?ev_h ?ev_k ?_); (case ev_h => decide); (case ev_k => decide))
  | (with_reducible refine wd_tup2 ?_) | (with_reducible refine wd_tup1 ?_) | (with_reducible refine wd_tup3 ?_) | (with_reducible refine wd_tup0 ?_)
  | (with_reducible refine wd_lst0 ?_) | (with_reducible refine wd_lst1 ?_) | (with_reducible refine wd_lst2 ?_) | (with_reducible refine wd_lst3 ?_) | (with_reducible refine wd_lst4 ?_) | (with_reducible refine wd_lst5 ?_) | (with_reducible refine wd_lst6 ?_)
  | ((with_reducible apply wd_callO0); exact rfl) | ((with_reducible apply wd_callO1); exact rfl) | ((with_reducible apply wd_callO2); exact rfl) | ((with_reducible apply wd_callO3); exact rfl)
  | (with_reducible refine wd_call1 ?_) | (with_reducible refine wd_call2 ?_) | (with_reducible refine wd_call3 ?_) | (with_reducible refine wd_call4 ?_) | (with_reducible refine wd_call0 ?_)
  | (with_reducible refine wd_cb1 ?_) | (with_reducible refine wd_cb2 ?_)
  | (with_reducible refine wd_rev ?_) | (with_reducible refine wd_lrg1 ?_) | (with_reducible refine wd_sl ?_) | (with_reducible refine wo_no ?_) | (with_reducible refine wo_some ?_)
  | (with_reducible refine wd_andV ?_) | (with_reducible refine wd_orV ?_) | (with_reducible refine wd_notV ?_) | (with_reducible refine wd_if ?_) | (with_reducible refine wd_chain ?_)
  | (with_reducible refine wt_test ?_) | (with_reducible refine wt_B ?_) | (with_reducible refine wt_not ?_) | (with_reducible refine wt_and ?_) | (with_reducible refine wt_or ?_) | (with_reducible refine wt_yes ?_)
  | (with_reducible refine gj_name ?_) | (with_reducible refine gj_tup rfl ?_) | (with_reducible refine gjs_cons ?_) | (with_reducible refine gjs_nil ?_))
local macro_rules | `(tactic| walk_at "v") => `(tactic| repeat walk_at "v1")
local macro_rules | `(tactic| walk_at "x") => `(tactic| refine ⟨_, rfl, ?_⟩)
local macro_rules | `(tactic| walk_at "vx") => `(tactic| repeat (first | walk_at "v1" | (with_reducible refine ⟨_, rfl, ?_⟩)))
namespace Dk
open PySem PySem.Spec PyProof.Rows L2 Pk Sy
def SzP (p : Pg) : Prop := p.m ^ p.bs.length ≤ 1300
section
variable {P : Program} {K : Kw} {mg : Str → Option Value} {base : Heap} {k : Nat}
end
end Dk
end
section
set_option Elab.async false
set_option linter.all false
set_option maxRecDepth 100000
set_option pp.maxSteps 600
open PySem L2 Pk
local macro_rules | `(tactic| walk_at "sh") => `(tactic| first | exact sh_int | exact sh_bool | exact sh_non | exact sh_nil | exact sh_str (by decide +kernel) | assumption)
local macro_rules | `(tactic| walk_at "v1") => `(tactic| first
  | (with_reducible refine wd_int ?_) | (with_reducible refine wd_str ?_) | (with_reducible refine wd_bl ?_) | (with_reducible refine wd_non ?_)
  | ((with_reducible apply wd_var); exact rfl) | ((with_reducible apply wd_varN); exact rfl)
  | ((with_reducible apply wd_ixm); exact rfl)
  | ((with_reducible apply wd_lenM); exact rfl) | ((with_reducible apply wd_lenScript); exact rfl) | ((with_reducible apply wd_ixScript); exact rfl)
  | (with_reducible refine wd_op ?_) | (with_reducible refine wd_un ?_)
  | (with_reducible refine rd_add ?_) | (with_reducible refine rd_sub ?_) | (with_reducible refine rd_lt ?_) | (with_reducible refine rd_le ?_) | (with_reducible refine rd_gt ?_) | (with_reducible refine rd_ge ?_) | (with_reducible refine ru_neg ?_)
  | ((with_reducible refine rd_eq ?ev_h ?ev_k ?_); (case ev_h => walk_at "sh"); (case ev_k => walk_at "sh")) | ((with_reducible refine rd_ne ?ev_h ?ev_k ?_); (case ev_h => walk_at "sh"); (case ev_k => walk_at "sh"))
  | ((with_reducible refine rd_mod ?ev_h ?_); case ev_h => first | decide | assumption | omega) | ((with_reducible refine rd_div ?ev_h ?ev_k ?_); (case ev_h => first | decide | assumption | omega); (case ev_k => first | decide | assumption | omega))
  | ((with_reducible refine rd_pow ?ev_h ?_); case ev_h => exact ⟨by decide, by decide, by decide⟩)
  | ((with_reducible refine rd_mul ?ev_h ?_); case ev_h => first | exact .inr ⟨by decide, by decide⟩ | exact .inl ⟨by decide, by decide⟩ | exact .inl ⟨by omega, by omega⟩ | exact .inr ⟨by omega, by omega⟩)
  | (with_reducible refine rc_lenL ?_) | (with_reducible refine rc_lenT ?_) | (with_reducible refine rc_max2 ?_) | (with_reducible refine rc_min2 ?_) | (with_reducible refine rc_intB ?_) | (with_reducible refine rc_intI ?_) | (with_reducible refine rc_listL ?_) | (with_reducible refine rc_listT ?_) | (with_reducible refine rc_tupleL ?_)
  | ((with_reducible apply rd_ixT); exact rfl)
  | ((with_reducible apply rd_ixL); exact rfl)
  | ((with_reducible refine wd_isi ?ev_h ?_); case ev_h => decide) | ((with_reducible refine wd_isi2 ?ev_h ?ev_k ?_); (case ev_h => decide); (case ev_k => decide))
  | (with_reducible refine wd_tup2 ?_) | (with_reducible refine wd_tup1 ?_) | (with_reducible refine wd_tup3 ?_) | (with_reducible refine wd_tup0 ?_)
  | (with_reducible refine wd_lst0 ?_) | (with_reducible refine wd_lst1 ?_) | (with_reducible refine wd_lst2 ?_) | (with_reducible refine wd_lst3 ?_) | (with_reducible refine wd_lst4 ?_) | (with_reducible refine wd_lst5 ?_) | (with_reducible refine wd_lst6 ?_)
  | ((with_reducible apply wd_callO0); exact rfl) | ((with_reducible apply wd_callO1); exact rfl) | ((with_reducible apply wd_callO2); exact rfl) | ((with_reducible apply wd_callO3); exact rfl)
  | (with_reducible refine wd_call1 ?_) | (with_reducible refine wd_call2 ?_) | (with_reducible refine wd_call3 ?_) | (with_reducible refine wd_call4 ?_) | (with_reducible refine wd_call0 ?_)
  | (with_reducible refine wd_cb1 ?_) | (with_reducible refine wd_cb2 ?_)
  | (with_reducible refine wd_rev ?_) | (with_reducible refine wd_lrg1 ?_) | (with_reducible refine wd_sl ?_) | (with_reducible refine wo_no ?_) | (with_reducible refine wo_some ?_)
  | (with_reducible refine wd_andV ?_) | (with_reducible refine wd_orV ?_) | (with_reducible refine wd_notV ?_) | (with_reducible refine wd_if ?_) | (with_reducible refine wd_chain ?_)
  | (with_reducible refine wt_test ?_) | (with_reducible refine wt_B ?_) | (with_reducible refine wt_not ?_) | (with_reducible refine wt_and ?_) | (with_reducible refine wt_or ?_) | (with_reducible refine wt_yes ?_)
  | (with_reducible refine gj_name ?_) | (with_reducible refine gj_tup rfl ?_) | (with_reducible refine gjs_cons ?_) | (with_reducible refine gjs_nil ?_))
local macro_rules | `(tactic| walk_at "v") => `(tactic| repeat walk_at "v1")
local macro_rules | `(tactic| walk_at "x") => `(tactic| refine ⟨_, rfl, ?_⟩)
local macro_rules | `(tactic| walk_at "vx") => `(tactic| repeat (first | walk_at "v1" | (with_reducible refine ⟨_, rfl, ?_⟩)))
namespace Dk
open PySem PySem.Spec PyProof.Rows L2 Pk Sy
section
variable {P : Program} {K : Kw} {mg : Str → Option Value} {base : Heap} {k : Nat}
end
end Dk
end
section
set_option Elab.async false
set_option linter.all false
set_option maxRecDepth 100000
set_option pp.maxSteps 600
open PySem L2 Pk
local macro_rules | `(tactic| walk_at "sh") => `(tactic| first | exact sh_int | exact sh_bool | exact sh_non | exact sh_nil | exact sh_str (by decide +kernel) | assumption)
local macro_rules | `(tactic| walk_at "v1") => `(tactic| first
  | (with_reducible refine wd_int ?_) | (with_reducible refine wd_str ?_) | (with_reducible refine wd_bl ?_) | (with_reducible refine wd_non ?_)
  | ((with_reducible apply wd_var); exact rfl) | ((with_reducible apply wd_varN); exact rfl)
  | ((with_reducible apply wd_ixm); exact rfl)
  | ((with_reducible apply wd_lenM); exact rfl) | ((with_reducible apply wd_lenScript); exact rfl) | ((with_reducible apply wd_ixScript); exact rfl)
  | (with_reducible refine wd_op ?_) | (with_reducible refine wd_un ?_)
  | (with_reducible refine rd_add ?_) | (with_reducible refine rd_sub ?_) | (with_reducible refine rd_lt ?_) | (with_reducible refine rd_le ?_) | (with_reducible refine rd_gt ?_) | (with_reducible refine rd_ge ?_) | (with_reducible refine ru_neg ?_)
  | ((with_reducible refine rd_eq ?ev_h ?ev_k ?_); (case ev_h => walk_at "sh"); (case ev_k => walk_at "sh")) | ((with_reducible refine rd_ne ?ev_h ?ev_k ?_); (case ev_h => walk_at "sh"); (case ev_k => walk_at "sh"))
  | ((with_reducible refine rd_mod ?ev_h ?_); case ev_h => first | decide | assumption | omega) | ((with_reducible refine rd_div ?ev_h ?ev_k ?_); (case ev_h => first | decide | assumption | omega); (case ev_k => first | decide | assumption | omega))
  | ((with_reducible refine rd_pow ?ev_h ?_); case ev_h => exact ⟨by decide, by decide, by decide⟩)
  | ((with_reducible refine rd_mul ?ev_h ?_); case ev_h => first | exact .inr ⟨by decide, by decide⟩ | exact .inl ⟨by decide, by decide⟩ | exact .inl ⟨by omega, by omega⟩ | exact .inr ⟨by omega, by omega⟩)
  | (with_reducible refine rc_lenL ?_) | (with_reducible refine rc_lenT ?_) | (with_reducible refine rc_max2 ?_) | (with_reducible refine rc_min2 ?_) | (with_reducible refine rc_intB ?_) | (with_reducible refine rc_intI ?_) | (with_reducible refine rc_listL ?_) | (with_reducible refine rc_listT ?_) | (with_reducible refine rc_tupleL ?_)
  | ((with_reducible apply rd_ixT); exact rfl)
  | ((with_reducible apply rd_ixL); exact rfl)
  | ((with_reducible refine wd_isi ?ev_h ?_); case ev_h => decide) | ((with_reducible refine wd_isi2 ?ev_h ?ev_k ?_); (case ev_h => decide); (case ev_k => decide))
  | (with_reducible refine wd_tup2 ?_) | (with_reducible refine wd_tup1 ?_) | (with_reducible refine wd_tup3 ?_) | (with_reducible refine wd_tup0 ?_)
  | (with_reducible refine wd_lst0 ?_) | (with_reducible refine wd_lst1 ?_) | (with_reducible refine wd_lst2 ?_) | (with_reducible refine wd_lst3 ?_) | (with_reducible refine wd_lst4 ?_) | (with_reducible refine wd_lst5 ?_) | (with_reducible refine wd_lst6 ?_)
  | ((with_reducible apply wd_callO0); exact rfl) | ((with_reducible apply wd_callO1); exact rfl) | ((with_reducible apply wd_callO2); exact rfl) | ((with_reducible apply wd_callO3); exact rfl)
  | (with_reducible refine wd_call1 ?_) | (with_reducible refine wd_call2 ?_) | (with_reducible refine wd_call3 ?_) | (with_reducible refine wd_call4 ?_) | (with_reducible refine wd_call0 ?_)
  | (with_reducible refine wd_cb1 ?_) | (with_reducible refine wd_cb2 ?_)
  | (with_reducible refine wd_rev ?_) | (with_reducible refine wd_lrg1 ?_) | (with_reducible refine wd_sl ?_) | (with_reducible refine wo_no ?_) | (with_reducible refine wo_some ?_)
  | (with_reducible refine wd_andV ?_) | (with_reducible refine wd_orV ?_) | (with_reducible refine wd_notV ?_) | (with_reducible refine wd_if ?_) | (with_reducible refine wd_chain ?_)
  | (with_reducible refine wt_test ?_) | (with_reducible refine wt_B ?_) | (with_reducible refine wt_not ?_) | (with_reducible refine wt_and ?_) | (with_reducible refine wt_or ?_) | (with_reducible refine wt_yes ?_)
  | (with_reducible refine gj_name ?_) | (with_reducible refine gj_tup rfl ?_) | (with_reducible refine gjs_cons ?_) | (with_reducible refine gjs_nil ?_))
local macro_rules | `(tactic| walk_at "v") => `(tactic| repeat walk_at "v1")
local macro_rules | `(tactic| walk_at "x") => `(tactic| refine ⟨_, rfl, ?_⟩)
local macro_rules | `(tactic| walk_at "vx") => `(tactic| repeat (first | walk_at "v1" | (with_reducible refine ⟨_, rfl, ?_⟩)))
namespace Dk
open PySem PySem.Spec PyProof.Rows L2 Pk Sy
section
variable {P : Program} {K : Kw} {mg : Str → Option Value} {base : Heap} {k : Nat}
end
end Dk
end
section
set_option Elab.async false
set_option linter.all false
set_option maxRecDepth 100000
set_option pp.maxSteps 600
open PySem L2 Pk
local macro_rules | `(tactic| walk_at "sh") => `(tactic| first | exact sh_int | exact sh_bool | exact sh_non | exact sh_nil | exact sh_str (by decide +kernel) | assumption)
local macro_rules | `(tactic| walk_at "v1") => `(tactic| first
  | (with_reducible refine wd_int ?_) | (with_reducible refine wd_str ?_) | (with_reducible refine wd_bl ?_) | (with_reducible refine wd_non ?_)
  | ((with_reducible apply wd_var); exact rfl) | ((with_reducible apply wd_varN); exact rfl)
  | ((with_reducible apply wd_ixm); exact rfl)
  | ((with_reducible apply wd_lenM); exact rfl) | ((with_reducible apply wd_lenScript); exact rfl) | ((with_reducible apply wd_ixScript); exact rfl)
  | (with_reducible refine wd_op ?_) | (with_reducible refine wd_un ?_)
  | (with_reducible refine rd_add ?_) | (with_reducible refine rd_sub ?_) | (with_reducible refine rd_lt ?_) | (with_reducible refine rd_le ?_) | (with_reducible refine rd_gt ?_) | (with_reducible refine rd_ge ?_) | (with_reducible refine ru_neg ?_)
  | ((with_reducible refine rd_eq ?ev_h ?ev_k ?_); (case ev_h => walk_at "sh"); (case ev_k => walk_at "sh")) | ((with_reducible refine rd_ne ?ev_h ?ev_k ?_); (case ev_h => walk_at "sh"); (case ev_k => walk_at "sh"))
  | ((with_reducible refine rd_mod ?ev_h ?_); case ev_h => first | decide | assumption | omega) | ((with_reducible refine rd_div ?ev_h ?ev_k ?_); (case ev_h => first | decide | assumption | omega); (case ev_k => first | decide | assumption | omega))
  | ((with_reducible refine rd_pow ?ev_h ?_); case ev_h => exact ⟨by decide, by decide, by decide⟩)
  | ((with_reducible refine rd_mul ?ev_h ?_); case ev_h => first | exact .inr ⟨by decide, by decide⟩ | exact .inl ⟨by decide, by decide⟩ | exact .inl ⟨by omega, by omega⟩ | exact .inr ⟨by omega, by omega⟩)
  | (with_reducible refine rc_lenL ?_) | (with_reducible refine rc_lenT ?_) | (with_reducible refine rc_max2 ?_) | (with_reducible refine rc_min2 ?_) | (with_reducible refine rc_intB ?_) | (with_reducible refine rc_intI ?_) | (with_reducible refine rc_listL ?_) | (with_reducible refine rc_listT ?_) | (with_reducible refine rc_tupleL ?_)
  | ((with_reducible apply rd_ixT); exact rfl)
  | ((with_reducible apply rd_ixL); exact rfl)
  | ((with_reducible refine wd_isi ?ev_h ?_); case ev_h => decide) | ((with_reducible refine wd_isi2 ?ev_h ?ev_k ?_); (case ev_h => decide); (case ev_k => decide))
  | (with_reducible refine wd_tup2 ?_) | (with_reducible refine wd_tup1 ?_) | (with_reducible refine wd_tup3 ?_) | (with_reducible refine wd_tup0 ?_)
  | (with_reducible refine wd_lst0 ?_) | (with_reducible refine wd_lst1 ?_) | (with_reducible refine wd_lst2 ?_) | (with_reducible refine wd_lst3 ?_) | (with_reducible refine wd_lst4 ?_) | (with_reducible refine wd_lst5 ?_) | (with_reducible refine wd_lst6 ?_)
  | ((with_reducible apply wd_callO0); exact rfl) | ((with_reducible apply wd_callO1); exact rfl) | ((with_reducible apply wd_callO2); exact rfl) | ((with_reducible apply wd_callO3); exact rfl)
  | (with_reducible refine wd_call1 ?_) | (with_reducible refine wd_call2 ?_) | (with_reducible refine wd_call3 ?_) | (with_reducible refine wd_call4 ?_) | (with_reducible refine wd_call0 ?_)
  | (with_reducible refine wd_cb1 ?_) | (with_reducible refine wd_cb2 ?_)
  | (with_reducible refine wd_rev ?_) | (with_reducible refine wd_lrg1 ?_) | (with_reducible refine wd_sl ?_) | (with_reducible refine wo_no ?_) | (with_reducible refine wo_some ?_)
  | (with_reducible refine wd_andV ?_) | (with_reducible refine wd_orV ?_) | (with_reducible refine wd_notV ?_) | (with_reducible refine wd_if ?_) | (with_reducible refine wd_chain ?_)
  | (with_reducible refine wt_test ?_) | (with_reducible refine wt_B ?_) | (with_reducible refine wt_not ?_) | (with_reducible refine wt_and ?_) | (with_reducible refine wt_or ?_) | (with_reducible refine wt_yes ?_)
  | (with_reducible refine gj_name ?_) | (with_reducible refine gj_tup rfl ?_) | (with_reducible refine gjs_cons ?_) | (with_reducible refine gjs_nil ?_))
local macro_rules | `(tactic| walk_at "v") => `(tactic| repeat walk_at "v1")
local macro_rules | `(tactic| walk_at "x") => `(tactic| refine ⟨_, rfl, ?_⟩)
local macro_rules | `(tactic| walk_at "vx") => `(tactic| repeat (first | walk_at "v1" | (with_reducible refine ⟨_, rfl, ?_⟩)))
namespace Dk
open PySem PySem.Spec PyProof.Rows L2 Pk Sy
/-- a row of the law's dicts, the first stores told -/
def LR (p : Pg) (nss : List NDs) (row : Nat) (l : List (List Nat)) : Prop := ∃ ds, nss[row]? = some ds ∧ ds.length ≤ l.length ∧ ∀ s ∈ l, dval ds (stK s) = some (dictF (fdC (cn p (.place row s))))
theorem LR.put {p : Pg} {nss : List NDs} {row : Nat} {l : List (List Nat)} {ds : NDs} {s : List Nat} (hr : nss[row]? = some ds) (hl : ds.length ≤ l.length) (h : ∀ s ∈ l, dval ds (stK s) = some (dictF (fdC (cn p (.place row s))))) : LR p (nss.set row (dput ds (stK s) (dictF (fdC (cn p (.place row s)))))) row (l ++ [s]) := by
  have hrl := (List.getElem?_eq_some_iff.mp hr).1
  refine ⟨_, List.getElem?_set_self hrl, ?_, fun s' hs' => ?_⟩
  · have := dput_len ds (stK s) (dictF (fdC (cn p (.place row s))))
    rw [List.length_append]
    simp only [List.length_cons, List.length_nil]
    omega
  · rw [dval_put]
    by_cases e : stK s' = stK s
    · rw [if_pos e, stK_inj e]
    · rw [if_neg e]
      rcases List.mem_append.mp hs' with z | z
      · exact h s' z
      · exact absurd (by rw [List.mem_singleton.mp z]) e
section
variable {P : Program} {K : Kw} {mg : Str → Option Value} {base : Heap} {k : Nat}
end
end Dk
end
section
set_option Elab.async false
set_option linter.all false
set_option maxRecDepth 100000
set_option pp.maxSteps 600
open PySem L2 Pk
local macro_rules | `(tactic| walk_at "sh") => `(tactic| first | exact sh_int | exact sh_bool | exact sh_non | exact sh_nil | exact sh_str (by decide +kernel) | assumption)
local macro_rules | `(tactic| walk_at "v1") => `(tactic| first
  | (with_reducible refine wd_int ?_) | (with_reducible refine wd_str ?_) | (with_reducible refine wd_bl ?_) | (with_reducible refine wd_non ?_)
  | ((with_reducible apply wd_var); exact rfl) | ((with_reducible apply wd_varN); exact rfl)
  | ((with_reducible apply wd_ixm); exact rfl)
  | ((with_reducible apply wd_lenM); exact rfl) | ((with_reducible apply wd_lenScript); exact rfl) | ((with_reducible apply wd_ixScript); exact rfl)
  | (with_reducible refine wd_op ?_) | (with_reducible refine wd_un ?_)
  | (with_reducible refine rd_add ?_) | (with_reducible refine rd_sub ?_) | (with_reducible refine rd_lt ?_) | (with_reducible refine rd_le ?_) | (with_reducible refine rd_gt ?_) | (with_reducible refine rd_ge ?_) | (with_reducible refine ru_neg ?_)
  | ((with_reducible refine rd_eq ?ev_h ?ev_k ?_); (case ev_h => walk_at "sh"); (case ev_k => walk_at "sh")) | ((with_reducible refine rd_ne ?ev_h ?ev_k ?_); (case ev_h => walk_at "sh"); (case ev_k => walk_at "sh"))
  | ((with_reducible refine rd_mod ?ev_h ?_); case ev_h => first | decide | assumption | omega) | ((with_reducible refine rd_div ?ev_h ?ev_k ?_); (case ev_h => first | decide | assumption | omega); (case ev_k => first | decide | assumption | omega))
  | ((with_reducible refine rd_pow ?ev_h ?_); case ev_h => exact ⟨by decide, by decide, by decide⟩)
  | ((with_reducible refine rd_mul ?ev_h ?_); case ev_h => first | exact .inr ⟨by decide, by decide⟩ | exact .inl ⟨by decide, by decide⟩ | exact .inl ⟨by omega, by omega⟩ | exact .inr ⟨by omega, by omega⟩)
  | (with_reducible refine rc_lenL ?_) | (with_reducible refine rc_lenT ?_) | (with_reducible refine rc_max2 ?_) | (with_reducible refine rc_min2 ?_) | (with_reducible refine rc_intB ?_) | (with_reducible refine rc_intI ?_) | (with_reducible refine rc_listL ?_) | (with_reducible refine rc_listT ?_) | (with_reducible refine rc_tupleL ?_)
  | ((with_reducible apply rd_ixT); exact rfl)
  | ((with_reducible apply rd_ixL); exact rfl)
  | ((with_reducible refine wd_isi ?ev_h ?_); case ev_h => decide) | ((with_reducible refine wd_isi2 ?ev_h ?ev_k ?_); (case ev_h => decide); (case ev_k => decide))
  | (with_reducible refine wd_tup2 ?_) | (with_reducible refine wd_tup1 ?_) | (with_reducible refine wd_tup3 ?_) | (with_reducible refine wd_tup0 ?_)
  | (with_reducible refine wd_lst0 ?_) | (with_reducible refine wd_lst1 ?_) | (with_reducible refine wd_lst2 ?_) | (with_reducible refine wd_lst3 ?_) | (with_reducible refine wd_lst4 ?_) | (with_reducible refine wd_lst5 ?_) | (with_reducible refine wd_lst6 ?_)
  | ((with_reducible apply wd_callO0); exact rfl) | ((with_reducible apply wd_callO1); exact rfl) | ((with_reducible apply wd_callO2); exact rfl) | ((with_reducible apply wd_callO3); exact rfl)
  | (with_reducible refine wd_call1 ?_) | (with_reducible refine wd_call2 ?_) | (with_reducible refine wd_call3 ?_) | (with_reducible refine wd_call4 ?_) | (with_reducible refine wd_call0 ?_)
  | (with_reducible refine wd_cb1 ?_) | (with_reducible refine wd_cb2 ?_)
  | (with_reducible refine wd_rev ?_) | (with_reducible refine wd_lrg1 ?_) | (with_reducible refine wd_sl ?_) | (with_reducible refine wo_no ?_) | (with_reducible refine wo_some ?_)
  | (with_reducible refine wd_andV ?_) | (with_reducible refine wd_orV ?_) | (with_reducible refine wd_notV ?_) | (with_reducible refine wd_if ?_) | (with_reducible refine wd_chain ?_)
  | (with_reducible refine wt_test ?_) | (with_reducible refine wt_B ?_) | (with_reducible refine wt_not ?_) | (with_reducible refine wt_and ?_) | (with_reducible refine wt_or ?_) | (with_reducible refine wt_yes ?_)
  | (with_reducible refine gj_name ?_) | (with_reducible refine gj_tup rfl ?_) | (with_reducible refine gjs_cons ?_) | (with_reducible refine gjs_nil ?_))
local macro_rules | `(tactic| walk_at "v") => `(tactic| repeat walk_at "v1")
local macro_rules | `(tactic| walk_at "x") => `(tactic| refine ⟨_, rfl, ?_⟩)
local macro_rules | `(tactic| walk_at "vx") => `(tactic| repeat (first | walk_at "v1" | (with_reducible refine ⟨_, rfl, ?_⟩)))
namespace Dk
open PySem PySem.Spec PyProof.Rows L2 Pk Sy
/-- they tell alike -/
structure FitQ (p q : Pg) : Prop where
  hp : p.Ok
  hq : q.Ok
  m : q.m = p.m
  bs : q.bs = p.bs
  z : SzP p
theorem FitQ.zq {p q : Pg} (h : FitQ p q) : SzP q := by unfold SzP; rw [h.m, h.bs]; exact h.z
theorem FitQ.st {p q : Pg} (h : FitQ p q) : pSt q = pSt p := by unfold pSt; rw [h.m, h.bs]
theorem FitQ.symm {p q : Pg} (h : FitQ p q) : FitQ q p := ⟨h.hq, h.hp, h.m.symm, h.bs.symm, h.zq⟩
section
variable {P : Program} {K : Kw} {mg : Str → Option Value} {base : Heap} {k : Nat}
end
end Dk
end
section
set_option Elab.async false
set_option linter.all false
set_option maxRecDepth 100000
set_option pp.maxSteps 600
open PySem L2 Pk
local macro_rules | `(tactic| walk_at "sh") => `(tactic| first | exact sh_int | exact sh_bool | exact sh_non | exact sh_nil | exact sh_str (by decide +kernel) | assumption)
local macro_rules | `(tactic| walk_at "v1") => `(tactic| first
  | (with_reducible refine wd_int ?_) | (with_reducible refine wd_str ?_) | (with_reducible refine wd_bl ?_) | (with_reducible refine wd_non ?_)
  | ((with_reducible apply wd_var); exact rfl) | ((with_reducible apply wd_varN); exact rfl)
  | ((with_reducible apply wd_ixm); exact rfl)
  | ((with_reducible apply wd_lenM); exact rfl) | ((with_reducible apply wd_lenScript); exact rfl) | ((with_reducible apply wd_ixScript); exact rfl)
  | (with_reducible refine wd_op ?_) | (with_reducible refine wd_un ?_)
  | (with_reducible refine rd_add ?_) | (with_reducible refine rd_sub ?_) | (with_reducible refine rd_lt ?_) | (with_reducible refine rd_le ?_) | (with_reducible refine rd_gt ?_) | (with_reducible refine rd_ge ?_) | (with_reducible refine ru_neg ?_)
  | ((with_reducible refine rd_eq ?ev_h ?ev_k ?_); (case ev_h => walk_at "sh"); (case ev_k => walk_at "sh")) | ((with_reducible refine rd_ne ?ev_h ?ev_k ?_); (case ev_h => walk_at "sh"); (case ev_k => walk_at "sh"))
  | ((with_reducible refine rd_mod ?ev_h ?_); case ev_h => first | decide | assumption | omega) | ((with_reducible refine rd_div ?ev_h ?ev_k ?_); (case ev_h => first | decide | assumption | omega); (case ev_k => first | decide | assumption | omega))
  | ((with_reducible refine rd_pow ?ev_h ?_); case ev_h => exact ⟨by decide, by decide, by decide⟩)
  | ((with_reducible refine rd_mul ?ev_h ?_); case ev_h => first | exact .inr ⟨by decide, by decide⟩ | exact .inl ⟨by decide, by decide⟩ | exact .inl ⟨by omega, by omega⟩ | exact .inr ⟨by omega, by omega⟩)
  | (with_reducible refine rc_lenL ?_) | (with_reducible refine rc_lenT ?_) | (with_reducible refine rc_max2 ?_) | (with_reducible refine rc_min2 ?_) | (with_reducible refine rc_intB ?_) | (with_reducible refine rc_intI ?_) | (with_reducible refine rc_listL ?_) | (with_reducible refine rc_listT ?_) | (with_reducible refine rc_tupleL ?_)
  | ((with_reducible apply rd_ixT); exact rfl)
  | ((with_reducible apply rd_ixL); exact rfl)
  | ((with_reducible refine wd_isi ?ev_h ?_); case ev_h => decide) | ((with_reducible refine wd_isi2 ?ev_h ?ev_k ?_); (case ev_h => decide); (case ev_k => decide))
  | (with_reducible refine wd_tup2 ?_) | (with_reducible refine wd_tup1 ?_) | (with_reducible refine wd_tup3 ?_) | (with_reducible refine wd_tup0 ?_)
  | (with_reducible refine wd_lst0 ?_) | (with_reducible refine wd_lst1 ?_) | (with_reducible refine wd_lst2 ?_) | (with_reducible refine wd_lst3 ?_) | (with_reducible refine wd_lst4 ?_) | (with_reducible refine wd_lst5 ?_) | (with_reducible refine wd_lst6 ?_)
  | ((with_reducible apply wd_callO0); exact rfl) | ((with_reducible apply wd_callO1); exact rfl) | ((with_reducible apply wd_callO2); exact rfl) | ((with_reducible apply wd_callO3); exact rfl)
  | (with_reducible refine wd_call1 ?_) | (with_reducible refine wd_call2 ?_) | (with_reducible refine wd_call3 ?_) | (with_reducible refine wd_call4 ?_) | (with_reducible refine wd_call0 ?_)
  | (with_reducible refine wd_cb1 ?_) | (with_reducible refine wd_cb2 ?_)
  | (with_reducible refine wd_rev ?_) | (with_reducible refine wd_lrg1 ?_) | (with_reducible refine wd_sl ?_) | (with_reducible refine wo_no ?_) | (with_reducible refine wo_some ?_)
  | (with_reducible refine wd_andV ?_) | (with_reducible refine wd_orV ?_) | (with_reducible refine wd_notV ?_) | (with_reducible refine wd_if ?_) | (with_reducible refine wd_chain ?_)
  | (with_reducible refine wt_test ?_) | (with_reducible refine wt_B ?_) | (with_reducible refine wt_not ?_) | (with_reducible refine wt_and ?_) | (with_reducible refine wt_or ?_) | (with_reducible refine wt_yes ?_)
  | (with_reducible refine gj_name ?_) | (with_reducible refine gj_tup rfl ?_) | (with_reducible refine gjs_cons ?_) | (with_reducible refine gjs_nil ?_))
local macro_rules | `(tactic| walk_at "v") => `(tactic| repeat walk_at "v1")
local macro_rules | `(tactic| walk_at "x") => `(tactic| refine ⟨_, rfl, ?_⟩)
local macro_rules | `(tactic| walk_at "vx") => `(tactic| repeat (first | walk_at "v1" | (with_reducible refine ⟨_, rfl, ?_⟩)))
namespace Dk
open PySem PySem.Spec PyProof.Rows L2 Pk Sy
def T_pskip (K : Kw) : List Sl → (List Sl → Sl → Prop) → Prop := fun Γ Q => ∃ v, ∃ n m many most : Nat, Γ = [.ex v (Pool K n), .dat false (.tuple [.int m, .int many]), .dat false (.int most)] ∧ SzOk m many ∧ 1 ≤ most ∧ most ≤ 30 ∧ n + 10000 ≤ MXP ∧ ∀ (p : Pg) n', p.Ok → p.m = m → p.bs.length = many → p.rows.length ≤ most → n' ≤ n + 10000 → Q [.ex v (Pool K n'), .dat false (.tuple [.int m, .int many]), .dat false (.int most)] (.dat false p.d)
section
variable {P : Program} {K : Kw} {mg : Str → Option Value} {base : Heap} {k : Nat}
theorem ok_pskip (D : Def K mg "_law_skipping" s_l_skipping ["pool", "sizes", "most"]) (c_take : Cal P K.w K mg base CX0 k "_law_take" ["pool", "many"] (spD K (T_ptake K))) (c_thing : Cal P K.w K mg base CX0 k "_law_thing" ["pool", "m", "boxes", "deep"] (spD K (T_pthing 4 K))) (c_program : Cal P K.w K mg base CX0 k "_law_program" ["pool", "sizes", "most"] (spD K (T_pprogram K))) : Cal P K.w K mg base CX0 (k + 1) "_law_skipping" ["pool", "sizes", "most"] (spD K (T_pskip K)) := by
  refine cal_gD D sc_l_skipping (fun Γ Qr ⟨v, n, m, many, most, e, _⟩ => by subst e; exact ⟨rfl, noMl_ex (noMl_dat (noMl_dat noMl_nil))⟩) fun f cdv A outer s H E hr => ⟨_, wk_l_skipping c_take c_thing c_program f cdv A outer s H E hr, ?_⟩
  rintro Γ Qr ⟨v, n0, m, many, most, rfl, hs, hmo1, hmo28, hn0, q⟩
  have hMX : MXP = 10000000 := rfl
  show SJ K [.ex v (Pool K n0), .dat false (.tuple [.int m, .int many]), .dat false (.int most), .no, .no, .no, .no, .no] (t_l_skipping K _ _ _) _
  unfold t_l_skipping
  refine sj_seq (sj_asgG false (wdg_callD (i := 0) (v := v) rfl (wag_d (wd_var rfl (wag_d (wd_var rfl (wag_nil ⟨Pool K n0, rfl, v, n0, m, many, most, rfl, hs, hmo1, by omega, by omega, fun p n1 hp hm hb hr hn1 => ⟨Pool K n1, rfl, asD_dat (Q := fun d => _) ?_⟩⟩)))))))
  obtain ⟨pm, bs, rows⟩ := p
  have hm' : pm = m := hm
  subst hm'
  have hb' : bs.length = many := hb
  have hrl : rows.length ≤ most := hr
  have hrok : ∀ r ∈ rows, r.Ok pm bs := hp.rows
  have hmb : MB pm bs := ⟨hp.m2, hp.m16, hp.bs⟩
  refine gj_tup (n := 3) (ds := [.int pm, bsD bs, rwsD rows]) rfl (gjs_cons (gj_name (gjs_cons (gj_name (gjs_cons (gj_name (gjs_nil ?_)))))))
  refine sj_seq (sj_setX (wx_lst0 false fun l => ?_))
  show SJ K [.ex v (Pool K n1), .dat false (.tuple [.int pm, .int many]), .dat false (.int most), .dat false (.int pm), .dat false (bsD bs), .dat false (rwsD rows), .ml false l (([] : List Rw).map Rw.d), .no] _ _
  refine sj_cut (fun Γ' => ∃ (rs : List Rw) (n : Nat) (s7 : Sl), rs.length = rows.length ∧ (∀ r ∈ rs, r.Ok pm bs) ∧ n ≤ n1 + 50 * 30 ∧ Γ' = [.ex v (Pool K n), .dat false (.tuple [.int pm, .int many]), .dat false (.int most), .dat false (.int pm), .dat false (bsD bs), .dat false (rwsD rows), .ml false l (rs.map Rw.d), s7]) ?_ ?_
  · refine sj_for false (wi_list (wd_var rfl ⟨_, rfl, fun i Γ' => ∃ (rs : List Rw) (n : Nat) (s7 : Sl), rs.length = i ∧ (∀ r ∈ rs, r.Ok pm bs) ∧ n ≤ n1 + 50 * i ∧ Γ' = [.ex v (Pool K n), .dat false (.tuple [.int pm, .int many]), .dat false (.int most), .dat false (.int pm), .dat false (bsD bs), .dat false (rwsD rows), .ml false l (rs.map Rw.d), s7], ⟨[], n1, .no, rfl, fun _ z => (by cases z), Nat.le_refl _, rfl⟩, ?_, ?_⟩))
    · rintro i d Γ' hd ⟨rs, n2, s7, hrsl, hrs, hn2, rfl⟩
      rw [List.getElem?_map] at hd
      cases hr : rows[i]? with
      | none => rw [hr] at hd; cases hd
      | some r =>
        rw [hr] at hd
        cases hd
        have hil : i < rows.length := (List.getElem?_eq_some_iff.mp hr).1
        refine gj_name ?_
        refine sj_cut (fun Γ' => ∃ (r' : Rw) (n3 : Nat), r'.Ok pm bs ∧ n3 ≤ n2 + 50 ∧ Γ' = [.ex v (Pool K n3), .dat false (.tuple [.int pm, .int many]), .dat false (.int most), .dat false (.int pm), .dat false (bsD bs), .dat false (rwsD rows), .ml false l (rs.map Rw.d), .dat false r'.d]) (sj_ifG (wtg_test (wdg_op (gtake_c (many := 3) (by omega) (by decide) (by decide) fun r3 hr3 => wdg_of (wd_int (rd_eq sh_int sh_int ⟨_, rfl, iteB (fun _ => ?_) (fun _ => sj_next ⟨r, n2 + 1, hrok r (List.mem_of_getElem? hr), by omega, rfl⟩)⟩)))))) ?_
        · refine sj_setGD false (wdg_tup (wag_d (wd_str (wag_cons (gthing (by omega) (wd_var rfl (wd_var rfl (wd_int ⟨pm, 2, bs, rfl, rfl, rfl, hmb, by decide, by decide, fun t n3 ht hn3 => ?_⟩))))))))
          refine wag_cons (wdg_op (wdg_of (wd_int (gtake (wdg_op (wdg_of (wd_lst3 (wd_int (wd_int (wd_int (gtake_c (many := 3) (by omega) (by decide) (by decide) fun r4 hr4 => rd_sel (by omega) (by simp; omega) fun d hd => ?_)))))))))))
          obtain ⟨wd, hw1, hw30, rfl⟩ : ∃ n : Nat, 1 ≤ n ∧ n ≤ 30 ∧ d = .int n := by
            simp at hd
            rcases hd with z | z | z
            · exact ⟨2, by decide, by decide, z⟩
            · exact ⟨5, by decide, by decide, z⟩
            · exact ⟨30, by decide, by decide, z⟩
          refine ⟨n3 + 1, wd, rfl, rfl, by omega, by omega, by omega, fun r5 hr5 => rd_add (wag_nil ⟨le_lit rfl, ?_⟩)⟩
          have e : (1 : Int) + (r5 : Int) = ((1 + r5 : Nat) : Int) := by omega
          rw [e]
          exact ⟨.skip t (1 + r5), _, ⟨ht, by omega, by omega⟩, by omega, rfl⟩
        rintro _ ⟨r', n3, hr', hn3, rfl⟩
        refine sj_app (i := 6) (l := l) (ds := rs.map Rw.d) rfl (by rw [List.length_map]; omega) (wd_var (d := r'.d) rfl ?_)
        refine ⟨rs ++ [r'], n3, _, by simp [hrsl], fun z hz => ?_, by omega, by rw [List.map_append]; rfl⟩
        rcases List.mem_append.mp hz with h | h
        · exact hrs z h
        · rw [List.mem_singleton.mp h]; exact hr'
    · rintro Γ' ⟨rs, n2, s7, hrsl, hrs, hn2, rfl⟩
      rw [List.length_map] at hrsl hn2
      exact ⟨rs, n2, s7, hrsl, hrs, by omega, rfl⟩
  rintro _ ⟨rs, n2, s7, hrsl, hrs, hn2, rfl⟩
  refine sj_frz 6 (l := l) (m := false) (ds := rs.map Rw.d) rfl ?_
  exact sj_retD false (wd_tup3 (wd_var rfl (wd_var rfl (wd_var rfl ⟨_, same1, keep_ex (keep_dat (keep_dat keep_nil)), q ⟨pm, bs, rs⟩ n2 ⟨hmb.m2, hmb.m16, hmb.bs, by show rs.length ≤ 30; omega, hrs⟩ rfl hb' (by show rs.length ≤ most; omega) (by omega)⟩))))
end
end Dk
end
section
set_option Elab.async false
set_option linter.all false
set_option maxRecDepth 100000
set_option pp.maxSteps 600
open PySem L2 Pk
local macro_rules | `(tactic| walk_at "sh") => `(tactic| first | exact sh_int | exact sh_bool | exact sh_non | exact sh_nil | exact sh_str (by decide +kernel) | assumption)
local macro_rules | `(tactic| walk_at "v1") => `(tactic| first
  | (with_reducible refine wd_int ?_) | (with_reducible refine wd_str ?_) | (with_reducible refine wd_bl ?_) | (with_reducible refine wd_non ?_)
  | ((with_reducible apply wd_var); exact rfl) | ((with_reducible apply wd_varN); exact rfl)
  | ((with_reducible apply wd_ixm); exact rfl)
  | ((with_reducible apply wd_lenM); exact rfl) | ((with_reducible apply wd_lenScript); exact rfl) | ((with_reducible apply wd_ixScript); exact rfl)
  | (with_reducible refine wd_op ?_) | (with_reducible refine wd_un ?_)
  | (with_reducible refine rd_add ?_) | (with_reducible refine rd_sub ?_) | (with_reducible refine rd_lt ?_) | (with_reducible refine rd_le ?_) | (with_reducible refine rd_gt ?_) | (with_reducible refine rd_ge ?_) | (with_reducible refine ru_neg ?_)
  | ((with_reducible refine rd_eq ?ev_h ?ev_k ?_); (case ev_h => walk_at "sh"); (case ev_k => walk_at "sh")) | ((with_reducible refine rd_ne ?ev_h ?ev_k ?_); (case ev_h => walk_at "sh"); (case ev_k => walk_at "sh"))
  | ((with_reducible refine rd_mod ?ev_h ?_); case ev_h => first | decide | assumption | omega) | ((with_reducible refine rd_div ?ev_h ?ev_k ?_); (case ev_h => first | decide | assumption | omega); (case ev_k => first | decide | assumption | omega))
  | ((with_reducible refine rd_pow ?ev_h ?_); case ev_h => exact ⟨by decide, by decide, by decide⟩)
  | ((with_reducible refine rd_mul ?ev_h ?_); case ev_h => first | exact .inr ⟨by decide, by decide⟩ | exact .inl ⟨by decide, by decide⟩ | exact .inl ⟨by omega, by omega⟩ | exact .inr ⟨by omega, by omega⟩)
  | (with_reducible refine rc_lenL ?_) | (with_reducible refine rc_lenT ?_) | (with_reducible refine rc_max2 ?_) | (with_reducible refine rc_min2 ?_) | (with_reducible refine rc_intB ?_) | (with_reducible refine rc_intI ?_) | (with_reducible refine rc_listL ?_) | (with_reducible refine rc_listT ?_) | (with_reducible refine rc_tupleL ?_)
  | ((with_reducible apply rd_ixT); exact rfl)
  | ((with_reducible apply rd_ixL); exact rfl)
  | ((with_reducible refine wd_isi ?ev_h ?_); case ev_h => decide) | ((with_reducible refine wd_isi2 ?ev_h ?ev_k ?_); (case ev_h => decide); (case ev_k => decide))
  | (with_reducible refine wd_tup2 ?_) | (with_reducible refine wd_tup1 ?_) | (with_reducible refine wd_tup3 ?_) | (with_reducible refine wd_tup0 ?_)
  | (with_reducible refine wd_lst0 ?_) | (with_reducible refine wd_lst1 ?_) | (with_reducible refine wd_lst2 ?_) | (with_reducible refine wd_lst3 ?_) | (with_reducible refine wd_lst4 ?_) | (with_reducible refine wd_lst5 ?_) | (with_reducible refine wd_lst6 ?_)
  | ((with_reducible apply wd_callO0); exact rfl) | ((with_reducible apply wd_callO1); exact rfl) | ((with_reducible apply wd_callO2); exact rfl) | ((with_reducible apply wd_callO3); exact rfl)
  | (with_reducible refine wd_call1 ?_) | (with_reducible refine wd_call2 ?_) | (with_reducible refine wd_call3 ?_) | (with_reducible refine wd_call4 ?_) | (with_reducible refine wd_call0 ?_)
  | (with_reducible refine wd_cb1 ?_) | (with_reducible refine wd_cb2 ?_)
  | (with_reducible refine wd_rev ?_) | (with_reducible refine wd_lrg1 ?_) | (with_reducible refine wd_sl ?_) | (with_reducible refine wo_no ?_) | (with_reducible refine wo_some ?_)
  | (with_reducible refine wd_andV ?_) | (with_reducible refine wd_orV ?_) | (with_reducible refine wd_notV ?_) | (with_reducible refine wd_if ?_) | (with_reducible refine wd_chain ?_)
  | (with_reducible refine wt_test ?_) | (with_reducible refine wt_B ?_) | (with_reducible refine wt_not ?_) | (with_reducible refine wt_and ?_) | (with_reducible refine wt_or ?_) | (with_reducible refine wt_yes ?_)
  | (with_reducible refine gj_name ?_) | (with_reducible refine gj_tup rfl ?_) | (with_reducible refine gjs_cons ?_) | (with_reducible refine gjs_nil ?_))
local macro_rules | `(tactic| walk_at "v") => `(tactic| repeat walk_at "v1")
local macro_rules | `(tactic| walk_at "x") => `(tactic| refine ⟨_, rfl, ?_⟩)
local macro_rules | `(tactic| walk_at "vx") => `(tactic| repeat (first | walk_at "v1" | (with_reducible refine ⟨_, rfl, ?_⟩)))
namespace Dk
open PySem PySem.Spec PyProof.Rows L2 Pk Sy
section
variable {P : Program} {K : Kw} {mg : Str → Option Value} {base : Heap} {k : Nat}
end
end Dk
end
section
set_option Elab.async false
set_option linter.all false
set_option maxRecDepth 100000
set_option pp.maxSteps 600
open PySem L2 Pk
local macro_rules | `(tactic| walk_at "sh") => `(tactic| first | exact sh_int | exact sh_bool | exact sh_non | exact sh_nil | exact sh_str (by decide +kernel) | assumption)
local macro_rules | `(tactic| walk_at "v1") => `(tactic| first
  | (with_reducible refine wd_int ?_) | (with_reducible refine wd_str ?_) | (with_reducible refine wd_bl ?_) | (with_reducible refine wd_non ?_)
  | ((with_reducible apply wd_var); exact rfl) | ((with_reducible apply wd_varN); exact rfl)
  | ((with_reducible apply wd_ixm); exact rfl)
  | ((with_reducible apply wd_lenM); exact rfl) | ((with_reducible apply wd_lenScript); exact rfl) | ((with_reducible apply wd_ixScript); exact rfl)
  | (with_reducible refine wd_op ?_) | (with_reducible refine wd_un ?_)
  | (with_reducible refine rd_add ?_) | (with_reducible refine rd_sub ?_) | (with_reducible refine rd_lt ?_) | (with_reducible refine rd_le ?_) | (with_reducible refine rd_gt ?_) | (with_reducible refine rd_ge ?_) | (with_reducible refine ru_neg ?_)
  | ((with_reducible refine rd_eq ?ev_h ?ev_k ?_); (case ev_h => walk_at "sh"); (case ev_k => walk_at "sh")) | ((with_reducible refine rd_ne ?ev_h ?ev_k ?_); (case ev_h => walk_at "sh"); (case ev_k => walk_at "sh"))
  | ((with_reducible refine rd_mod ?ev_h ?_); case ev_h => first | decide | assumption | omega) | ((with_reducible refine rd_div ?ev_h ?ev_k ?_); (case ev_h => first | decide | assumption | omega); (case ev_k => first | decide | assumption | omega))
  | ((with_reducible refine rd_pow ?ev_h ?_); case ev_h => exact ⟨by decide, by decide, by decide⟩)
  | ((with_reducible refine rd_mul ?ev_h ?_); case ev_h => first | exact .inr ⟨by decide, by decide⟩ | exact .inl ⟨by decide, by decide⟩ | exact .inl ⟨by omega, by omega⟩ | exact .inr ⟨by omega, by omega⟩)
  | (with_reducible refine rc_lenL ?_) | (with_reducible refine rc_lenT ?_) | (with_reducible refine rc_max2 ?_) | (with_reducible refine rc_min2 ?_) | (with_reducible refine rc_intB ?_) | (with_reducible refine rc_intI ?_) | (with_reducible refine rc_listL ?_) | (with_reducible refine rc_listT ?_) | (with_reducible refine rc_tupleL ?_)
  | ((with_reducible apply rd_ixT); exact rfl)
  | ((with_reducible apply rd_ixL); exact rfl)
  | ((with_reducible refine wd_isi ?ev_h ?_); case ev_h => decide) | ((with_reducible refine wd_isi2 ?ev_h ?ev_k ?_); (case ev_h => decide); (case ev_k => decide))
  | (with_reducible refine wd_tup2 ?_) | (with_reducible refine wd_tup1 ?_) | (with_reducible refine wd_tup3 ?_) | (with_reducible refine wd_tup0 ?_)
  | (with_reducible refine wd_lst0 ?_) | (with_reducible refine wd_lst1 ?_) | (with_reducible refine wd_lst2 ?_) | (with_reducible refine wd_lst3 ?_) | (with_reducible refine wd_lst4 ?_) | (with_reducible refine wd_lst5 ?_) | (with_reducible refine wd_lst6 ?_)
  | ((with_reducible apply wd_callO0); exact rfl) | ((with_reducible apply wd_callO1); exact rfl) | ((with_reducible apply wd_callO2); exact rfl) | ((with_reducible apply wd_callO3); exact rfl)
  | (with_reducible refine wd_call1 ?_) | (with_reducible refine wd_call2 ?_) | (with_reducible refine wd_call3 ?_) | (with_reducible refine wd_call4 ?_) | (with_reducible refine wd_call0 ?_)
  | (with_reducible refine wd_cb1 ?_) | (with_reducible refine wd_cb2 ?_)
  | (with_reducible refine wd_rev ?_) | (with_reducible refine wd_lrg1 ?_) | (with_reducible refine wd_sl ?_) | (with_reducible refine wo_no ?_) | (with_reducible refine wo_some ?_)
  | (with_reducible refine wd_andV ?_) | (with_reducible refine wd_orV ?_) | (with_reducible refine wd_notV ?_) | (with_reducible refine wd_if ?_) | (with_reducible refine wd_chain ?_)
  | (with_reducible refine wt_test ?_) | (with_reducible refine wt_B ?_) | (with_reducible refine wt_not ?_) | (with_reducible refine wt_and ?_) | (with_reducible refine wt_or ?_) | (with_reducible refine wt_yes ?_)
  | (with_reducible refine gj_name ?_) | (with_reducible refine gj_tup rfl ?_) | (with_reducible refine gjs_cons ?_) | (with_reducible refine gjs_nil ?_))
local macro_rules | `(tactic| walk_at "v") => `(tactic| repeat walk_at "v1")
local macro_rules | `(tactic| walk_at "x") => `(tactic| refine ⟨_, rfl, ?_⟩)
local macro_rules | `(tactic| walk_at "vx") => `(tactic| repeat (first | walk_at "v1" | (with_reducible refine ⟨_, rfl, ?_⟩)))
namespace Dk
open PySem PySem.Spec PyProof.Rows L2 Pk Sy
/-- a row ahead of one that is taken out -/
def rbo (p : Pg) (i r : Nat) : Rw → Rw
  | .skip t n => if r + n < i then .skip t n else if n = 1 then .set (p.bs.headD "") (.box (p.bs.headD "")) else .skip t (n - 1)
  | x => x
def rwAt (p : Pg) (r : Nat) : Rw := p.rows.getD r (.give (.num 0))
def rout (p : Pg) (i : Nat) : Pg := ⟨p.m, p.bs, (List.range i).map (fun r => rbo p i r (rwAt p r)) ++ p.rows.drop (i + 1)⟩
theorem rwAt_get {p : Pg} {r : Nat} (h : r < p.rows.length) : p.rows[r]? = some (rwAt p r) := by
  unfold rwAt
  rw [List.getD_eq_getElem?_getD, List.getElem?_eq_getElem h]
  rfl
theorem headD_mem {bs : List Str} (h : 1 ≤ bs.length) : bs[0]? = some (bs.headD "") ∧ bs.headD "" ∈ bs := by
  cases bs with
  | nil => simp at h
  | cons b bs => exact ⟨rfl, List.mem_cons_self⟩
theorem rbo_ok {p : Pg} (hp : p.Ok) {i r : Nat} {x : Rw} (h : x.Ok p.m p.bs) : (rbo p i r x).Ok p.m p.bs := by
  cases x with
  | skip t n =>
    show (if r + n < i then Rw.skip t n else if n = 1 then .set (p.bs.headD "") (.box (p.bs.headD "")) else .skip t (n - 1)).Ok p.m p.bs
    obtain ⟨h1, h2, h3⟩ := h
    split
    · exact ⟨h1, h2, h3⟩
    · split
      · have hb := (headD_mem hp.bs.len0).2
        exact ⟨hb, hb⟩
      · exact ⟨h1, by omega, by omega⟩
  | set x t => exact h
  | pick x ts => exact h
  | need t => exact h
  | give t => exact h
theorem rout_len {p : Pg} {i : Nat} (h : i < p.rows.length) : (rout p i).rows.length = p.rows.length - 1 := by
  unfold rout
  simp
  omega
theorem rout_ok {p : Pg} (hp : p.Ok) {i : Nat} (h : i < p.rows.length) : (rout p i).Ok := ⟨hp.m2, hp.m16, hp.bs, by have := rout_len h; have := hp.r30; omega, fun x hx => by
  rcases List.mem_append.mp hx with z | z
  · obtain ⟨r, hr, rfl⟩ := List.mem_map.mp z
    have hr' := List.mem_range.mp hr
    exact rbo_ok hp (hp.rows _ (List.mem_of_getElem? (rwAt_get (by omega))))
  · exact hp.rows x (List.mem_of_mem_drop z)⟩
def wpart (p : Pg) (i j : Nat) : List Rw := (List.range (min j i)).map (fun r => rbo p i r (rwAt p r)) ++ (p.rows.drop (i + 1)).take (j - (i + 1))
theorem wpart_lt {p : Pg} {i j : Nat} (h : j < i) : wpart p i (j + 1) = wpart p i j ++ [rbo p i j (rwAt p j)] := by
  unfold wpart
  have e1 : min (j + 1) i = j + 1 := by omega
  have e2 : min j i = j := by omega
  have e3 : j + 1 - (i + 1) = 0 := by omega
  have e4 : j - (i + 1) = 0 := by omega
  rw [e1, e2, e3, e4, List.range_succ, List.map_append]
  simp
theorem wpart_eq {p : Pg} {i : Nat} : wpart p i (i + 1) = wpart p i i := by
  unfold wpart
  have e1 : min (i + 1) i = i := by omega
  have e3 : i + 1 - (i + 1) = 0 := by omega
  have e4 : i - (i + 1) = 0 := by omega
  rw [e1, e3, e4, Nat.min_self]
theorem wpart_gt {p : Pg} {i j : Nat} (h : i < j) (hj : j < p.rows.length) : wpart p i (j + 1) = wpart p i j ++ [rwAt p j] := by
  unfold wpart
  have e1 : min (j + 1) i = i := by omega
  have e2 : min j i = i := by omega
  have e3 : j + 1 - (i + 1) = j - (i + 1) + 1 := by omega
  have hl : j - (i + 1) < (p.rows.drop (i + 1)).length := by rw [List.length_drop]; omega
  have e5 : (p.rows.drop (i + 1))[j - (i + 1)] = rwAt p j := by
    rw [List.getElem_drop]
    have := rwAt_get hj
    have e6 : i + 1 + (j - (i + 1)) = j := by omega
    have e7 := (List.getElem?_eq_some_iff.mp this).2
    simp only [e6]
    exact e7
  rw [e1, e2, e3, List.take_succ_eq_append_getElem hl, e5, List.append_assoc]
theorem wpart_end {p : Pg} {i : Nat} (h : i < p.rows.length) : wpart p i p.rows.length = (rout p i).rows := by
  show (List.range (min p.rows.length i)).map _ ++ (p.rows.drop (i + 1)).take (p.rows.length - (i + 1)) = (List.range i).map (fun r => rbo p i r (rwAt p r)) ++ p.rows.drop (i + 1)
  rw [Nat.min_eq_right (by omega), List.take_of_length_le (by simp)]
theorem wpart_len (p : Pg) (i j : Nat) : (wpart p i j).length ≤ j + p.rows.length := by
  unfold wpart
  simp
  omega
def T_rbo (K : Kw) : List Sl → (Sl → Prop) → Prop := fun Γ Q => ∃ p : Pg, ∃ r i : Nat, Γ = [.dat false p.d, .dat false (.int r), .dat false (.int i)] ∧ p.Ok ∧ r < p.rows.length ∧ Q (.dat false (rbo p i r (rwAt p r)).d)
def T_rout (K : Kw) : List Sl → (Sl → Prop) → Prop := fun Γ Q => ∃ p : Pg, ∃ i : Nat, Γ = [.dat false p.d, .dat false (.int i)] ∧ p.Ok ∧ i < p.rows.length ∧ Q (.dat false (rout p i).d)
section
variable {P : Program} {K : Kw} {mg : Str → Option Value} {base : Heap} {k : Nat}
theorem ok_rbo (D : Def K mg "row_behind_out" s_row_behind_out ["program", "r", "i"]) : Cal P K.w K mg base CX0 (k + 1) "row_behind_out" ["program", "r", "i"] (spG K (T_rbo K)) := by
  refine cal_g D sc_row_behind_out (fun Γ Qr ⟨p, r, i, e, _⟩ => by subst e; exact ⟨rfl, noMl_dat (noMl_dat (noMl_dat noMl_nil))⟩) fun f cdv A outer s H E hr => ⟨_, wk_row_behind_out f cdv A outer s H E hr, ?_⟩
  rintro Γ Qr ⟨p, r, i, rfl, hp, hr, q⟩
  have kp : ∀ {Γ'}, Keep [.dat false p.d, .dat false (.int r), .dat false (.int i)] (.dat false p.d :: .dat false (.int r) :: .dat false (.int i) :: Γ') := fun {Γ'} => keep_dat (keep_dat (keep_dat keep_nil))
  have hg := rwAt_get hr
  have hok := hp.rows _ (List.mem_of_getElem? hg)
  obtain ⟨hh1, _⟩ := headD_mem hp.bs.len0
  obtain ⟨x, hx⟩ : ∃ x, rwAt p r = x := ⟨_, rfl⟩
  rw [hx] at hg hok q
  show SJ K [.dat false p.d, .dat false (.int r), .dat false (.int i), .no] (t_row_behind_out K) _
  unfold t_row_behind_out
  refine sj_seq (sj_set false (wd_op (wd_op (wd_var rfl (wd_int (rd_pgR (wd_var rfl (rd_row hg ?_))))))))
  show SJ K [.dat false p.d, .dat false (.int r), .dat false (.int i), .dat false x.d] _ _
  refine sj_seq (sj_if (wt_or (wt_test (wd_op (wd_op (wd_var rfl (wd_int (rd_rk (wd_str (rd_ne (sh_str x.kd.ok) (sh_str (Kd.ok .skip)) ⟨_, rfl, ?_⟩))))))))))
  rw [show PyData.eqv (.str x.kd.w) (.str "skip") = decide (x.kd = .skip) from Kd.eqW x.kd .skip]
  have whole : rbo p i r x = x → ∀ Z : Po, Z.rt = (retP [.dat false p.d, .dat false (.int r), .dat false (.int i)] Qr).rt → SJ K [.dat false p.d, .dat false (.int r), .dat false (.int i), .dat false x.d] (tRet (tVar 3)) Z := fun e Z hZ => sj_retD false (wd_var (d := x.d) rfl (by rw [hZ]; rw [e] at q; exact ⟨kp, q⟩))
  cases x with
  | set x t => exact iteT' rfl (iteT' rfl (whole rfl _ rfl))
  | need t => exact iteT' rfl (iteT' rfl (whole rfl _ rfl))
  | pick x t => exact iteT' rfl (iteT' rfl (whole rfl _ rfl))
  | give t => exact iteT' rfl (iteT' rfl (whole rfl _ rfl))
  | skip t n =>
    obtain ⟨_, hn1, _⟩ := hok
    refine iteF' rfl (wt_test (wd_op (wd_var rfl (wd_op (wd_var rfl (wd_op (wd_var rfl (wd_int (rd_ixT (d := .int n) rfl (rd_add (rd_gt ⟨_, rfl, iteD (fun hgt => ?_) (fun hle => sj_next ?_)⟩)))))))))))
    · exact whole (if_pos (by omega)) _ rfl
    have hno : ¬ r + n < i := by omega
    have e0 : rbo p i r (.skip t n) = if n = 1 then .set (p.bs.headD "") (.box (p.bs.headD "")) else .skip t (n - 1) := if_neg hno
    rw [e0] at q
    refine sj_seq (sj_if (wt_test (wd_op (wd_op (wd_var rfl (wd_int (rd_ixT (d := .int n) rfl (wd_int (rd_eq sh_int sh_int ⟨_, rfl, ?_⟩)))))))))
    rw [eqv_int]
    refine iteD (fun h1 => ?_) (fun h1 => sj_next ?_)
    · rw [if_pos (by omega)] at q
      exact sj_retD false (wd_tup3 (wd_str (wd_op (wd_op (wd_var rfl (wd_int (rd_pgB (wd_int (rd_selN 0 rfl (d := .str (p.bs.headD "")) (by rw [List.getElem?_map, hh1]; rfl) (wd_tup2 (wd_str (wd_op (wd_op (wd_var rfl (wd_int (rd_pgB (wd_int (rd_selN 0 rfl (d := .str (p.bs.headD "")) (by rw [List.getElem?_map, hh1]; rfl) ⟨kp, q⟩))))))))))))))))))
    · rw [if_neg (by omega)] at q
      refine sj_retD false (wd_tup3 (wd_op (wd_var rfl (wd_int (rd_ixT (d := .str "skip") rfl (wd_op (wd_var rfl (wd_int (rd_ixT (d := t.d) rfl (wd_op (wd_op (wd_var rfl (wd_int (rd_ixT (d := .int n) rfl (wd_int (rd_sub ?_))))))))))))))))
      have e1 : (n : Int) - 1 = ((n - 1 : Nat) : Int) := by omega
      rw [e1]
      exact ⟨kp, q⟩
theorem ok_without (D : Def K mg "_law_without" s_l_without ["program", "i"]) (m_list : mg "list" = none) (m_enumerate : mg "enumerate" = none) (m_int : mg "int" = none) : Cal P K.w K mg base CX0 (k + 1) "_law_without" ["program", "i"] (spG K (T_rout K)) := by
  refine cal_g D sc_l_without (fun Γ Qr ⟨p, i, e, _⟩ => by subst e; exact ⟨rfl, noMl_dat (noMl_dat noMl_nil)⟩) fun f cdv A outer s H E hr => ⟨_, wk_l_without m_list m_enumerate m_int f cdv A outer s H E hr, ?_⟩
  rintro Γ Qr ⟨p, i, rfl, hp, hi, q⟩
  have h30 := hp.r30
  obtain ⟨hh1, _⟩ := headD_mem hp.bs.len0
  obtain ⟨pd, epd⟩ : ∃ pd, pd = p.d := ⟨_, rfl⟩
  rw [← epd]
  show SJ K [.dat false pd, .dat false (.int i), .no, .no, .no, .no, .no, .no] (t_l_without K) _
  unfold t_l_without
  refine sj_seq (sj_asg false (wd_var rfl ?_))
  rw [epd]
  refine gj_tup (n := 3) (ds := [.int p.m, bsD p.bs, rwsD p.rows]) rfl (gjs_cons (gj_name (gjs_cons (gj_name (gjs_cons (gj_name (gjs_nil ?_)))))))
  rw [← epd]
  refine sj_seq (sj_setX (wx_lst0 false fun l => ?_))
  show SJ K [.dat false pd, .dat false (.int i), .dat false (.int p.m), .dat false (bsD p.bs), .dat false (rwsD p.rows), .ml false l [], .no, .no] _ _
  refine sj_cut (fun Γ' => ∃ s6 s7, Γ' = [.dat false pd, .dat false (.int i), .dat false (.int p.m), .dat false (bsD p.bs), .dat false (rwsD p.rows), .ml false l ((rout p i).rows.map Rw.d), s6, s7]) ?_ ?_
  · refine sj_for false (wi_enum (wa_d (wd_var rfl (wa_nil ⟨_, rfl, fun j Γ' => ∃ s6 s7, Γ' = [.dat false pd, .dat false (.int i), .dat false (.int p.m), .dat false (bsD p.bs), .dat false (rwsD p.rows), .ml false l ((wpart p i j).map Rw.d), s6, s7], ⟨.no, .no, ?_⟩, ?_, ?_⟩))))
    · have e0 : wpart p i 0 = [] := by unfold wpart; simp
      rw [e0]
      rfl
    · rintro j d Γ' hd ⟨s6, s7, rfl⟩
      obtain ⟨x0, hx0, rfl⟩ := enumD_of hd
      rw [List.getElem?_map] at hx0
      have hj : j < p.rows.length := by
        cases hr : p.rows[j]? with
        | none => rw [hr] at hx0; cases hx0
        | some r => exact (List.getElem?_eq_some_iff.mp hr).1
      have hg := rwAt_get hj
      rw [hg] at hx0
      cases hx0
      have hok := hp.rows _ (List.mem_of_getElem? hg)
      have hwl := wpart_len p i j
      refine gj_tup (n := 2) (ds := [.int j, (rwAt p j).d]) rfl (gjs_cons (gj_name (gjs_cons (gj_name (gjs_nil ?_)))))
      obtain ⟨y, hy⟩ : ∃ y, y = if j < i then rbo p i j (rwAt p j) else rwAt p j := ⟨_, rfl⟩
      refine sj_cut (fun Γ' => Γ' = [.dat false pd, .dat false (.int i), .dat false (.int p.m), .dat false (bsD p.bs), .dat false (rwsD p.rows), .ml false l ((wpart p i j).map Rw.d), .dat false (.int j), .dat false y.d]) ?_ ?_
      · obtain ⟨x, hx⟩ : ∃ x, rwAt p j = x := ⟨_, rfl⟩
        rw [hx] at hy hok ⊢
        show SJ K [.dat false pd, .dat false (.int i), .dat false (.int p.m), .dat false (bsD p.bs), .dat false (rwsD p.rows), .ml false l ((wpart p i j).map Rw.d), .dat false (.int j), .dat false x.d] _ _
        have same : y = x → ∀ Z : Po, (Z.nx = fun Γ' => Γ' = [.dat false pd, .dat false (.int i), .dat false (.int p.m), .dat false (bsD p.bs), .dat false (rwsD p.rows), .ml false l ((wpart p i j).map Rw.d), .dat false (.int j), .dat false y.d]) → SJ K [.dat false pd, .dat false (.int i), .dat false (.int p.m), .dat false (bsD p.bs), .dat false (rwsD p.rows), .ml false l ((wpart p i j).map Rw.d), .dat false (.int j), .dat false x.d] tNext Z := fun e Z hZ => sj_next (by rw [hZ, e])
        refine sj_if (wt_and (wt_test (wd_op (wd_op (wd_var rfl (wd_int (rd_rk (wd_str (rd_w (b := .skip) ⟨_, rfl, ?_⟩)))))))))
        cases x with
        | set x t => exact iteF' rfl (iteF' rfl (same (by rw [hy]; split <;> rfl) _ rfl))
        | pick x t => exact iteF' rfl (iteF' rfl (same (by rw [hy]; split <;> rfl) _ rfl))
        | need t => exact iteF' rfl (iteF' rfl (same (by rw [hy]; split <;> rfl) _ rfl))
        | give t => exact iteF' rfl (iteF' rfl (same (by rw [hy]; split <;> rfl) _ rfl))
        | skip t n =>
          obtain ⟨_, hn1, _⟩ := hok
          refine iteT' rfl (wt_test (wd_chain (wd_var (d := .int (j : Int)) rfl (wd_var (d := .int (i : Int)) rfl (rd_lt ⟨_, rfl, iteD (fun hlt => ?_) (fun hge => ⟨_, rfl, iteF' rfl (same (by rw [hy, if_neg (by omega)]) _ rfl)⟩)⟩)))))
          refine wd_op (wd_var (d := .int (j : Int)) rfl (wd_op (wd_var rfl (wd_int (rd_ixT (d := .int n) rfl (rd_add (rd_le ⟨_, rfl, _, rfl, iteD (fun hle => ?_) (fun hgt => same (by rw [hy, if_pos (by omega)]; exact if_pos (by omega)) _ rfl)⟩)))))))
          have ey : y = if n = 1 then .set (p.bs.headD "") (.box (p.bs.headD "")) else .skip t (n - 1) := by
            rw [hy, if_pos (by omega)]
            exact if_neg (by omega)
          have en : (n : Int) - 1 = ((n - 1 : Nat) : Int) := by omega
          refine sj_set false (wd_op (wd_lst2 (wd_tup3 (wd_str (wd_op (wd_var rfl (wd_int (rd_ixT (d := t.d) rfl (wd_op (wd_op (wd_var rfl (wd_int (rd_ixT (d := .int n) rfl (wd_int (rd_sub ?_)))))))))))))))
          rw [en]
          refine wd_tup3 (wd_str (wd_op (wd_var rfl (wd_int (rd_selN 0 rfl (d := .str (p.bs.headD "")) (by rw [List.getElem?_map, hh1]; rfl) (wd_tup2 (wd_str (wd_op (wd_var rfl (wd_int (rd_selN 0 rfl (d := .str (p.bs.headD "")) (by rw [List.getElem?_map, hh1]; rfl) (wd_cb1 (wd_op (wd_op (wd_var rfl (wd_int (rd_ixT (d := .int n) rfl (wd_int (rd_eq sh_int sh_int (rc_intB ?_))))))))))))))))))))
          rw [eqv_int]
          by_cases h1 : n = 1
          · rw [if_pos h1] at ey
            rw [if_pos (decide_eq_true (by omega))]
            refine rd_selN 1 rfl (d := y.d) (by rw [ey]; rfl) rfl
          · rw [if_neg h1] at ey
            rw [if_neg (by simp; omega)]
            refine rd_selN 0 rfl (d := y.d) (by rw [ey]; rfl) rfl
      rintro _ rfl
      refine sj_if (wt_test (wd_op (wd_var (d := .int (j : Int)) rfl (wd_var (d := .int (i : Int)) rfl (rd_ne sh_int sh_int ⟨_, rfl, ?_⟩)))))
      rw [eqv_int]
      by_cases hji : j = i
      · refine iteF' (by simp [hji]) (sj_next ⟨.dat false (.int j), .dat false y.d, ?_⟩)
        rw [hji, wpart_eq]
      · refine iteT' (by simp; omega) (sj_app (i := 5) (l := l) (ds := (wpart p i j).map Rw.d) rfl (by rw [List.length_map]; omega) (wd_var (d := y.d) rfl ⟨.dat false (.int j), .dat false y.d, ?_⟩))
        have e : wpart p i (j + 1) = wpart p i j ++ [y] := by
          by_cases hlt : j < i
          · rw [wpart_lt hlt, hy, if_pos hlt]
          · rw [wpart_gt (by omega) hj, hy, if_neg hlt]
        rw [e, List.map_append]
        rfl
    · rintro Γ' ⟨s6, s7, rfl⟩
      rw [enumD_len, List.length_map, wpart_end hi]
      exact ⟨s6, s7, rfl⟩
  rintro _ ⟨s6, s7, rfl⟩
  refine sj_frz 5 (l := l) (m := false) (ds := (rout p i).rows.map Rw.d) rfl ?_
  exact sj_retD false (wd_tup3 (wd_var rfl (wd_cb1 (wd_var rfl (rc_listL (wd_var rfl ⟨keep_dat (keep_dat keep_nil), q⟩))))))
end
end Dk
end
section
set_option Elab.async false
set_option linter.all false
set_option maxRecDepth 100000
set_option pp.maxSteps 600
open PySem L2 Pk
local macro_rules | `(tactic| walk_at "sh") => `(tactic| first | exact sh_int | exact sh_bool | exact sh_non | exact sh_nil | exact sh_str (by decide +kernel) | assumption)
local macro_rules | `(tactic| walk_at "v1") => `(tactic| first
  | (with_reducible refine wd_int ?_) | (with_reducible refine wd_str ?_) | (with_reducible refine wd_bl ?_) | (with_reducible refine wd_non ?_)
  | ((with_reducible apply wd_var); exact rfl) | ((with_reducible apply wd_varN); exact rfl)
  | ((with_reducible apply wd_ixm); exact rfl)
  | ((with_reducible apply wd_lenM); exact rfl) | ((with_reducible apply wd_lenScript); exact rfl) | ((with_reducible apply wd_ixScript); exact rfl)
  | (with_reducible refine wd_op ?_) | (with_reducible refine wd_un ?_)
  | (with_reducible refine rd_add ?_) | (with_reducible refine rd_sub ?_) | (with_reducible refine rd_lt ?_) | (with_reducible refine rd_le ?_) | (with_reducible refine rd_gt ?_) | (with_reducible refine rd_ge ?_) | (with_reducible refine ru_neg ?_)
  | ((with_reducible refine rd_eq ?ev_h ?ev_k ?_); (case ev_h => walk_at "sh"); (case ev_k => walk_at "sh")) | ((with_reducible refine rd_ne ?ev_h ?ev_k ?_); (case ev_h => walk_at "sh"); (case ev_k => walk_at "sh"))
  | ((with_reducible refine rd_mod ?ev_h ?_); case ev_h => first | decide | assumption | omega) | ((with_reducible refine rd_div ?ev_h ?ev_k ?_); (case ev_h => first | decide | assumption | omega); (case ev_k => first | decide | assumption | omega))
  | ((with_reducible refine rd_pow ?ev_h ?_); case ev_h => exact ⟨by decide, by decide, by decide⟩)
  | ((with_reducible refine rd_mul ?ev_h ?_); case ev_h => first | exact .inr ⟨by decide, by decide⟩ | exact .inl ⟨by decide, by decide⟩ | exact .inl ⟨by omega, by omega⟩ | exact .inr ⟨by omega, by omega⟩)
  | (with_reducible refine rc_lenL ?_) | (with_reducible refine rc_lenT ?_) | (with_reducible refine rc_max2 ?_) | (with_reducible refine rc_min2 ?_) | (with_reducible refine rc_intB ?_) | (with_reducible refine rc_intI ?_) | (with_reducible refine rc_listL ?_) | (with_reducible refine rc_listT ?_) | (with_reducible refine rc_tupleL ?_)
  | ((with_reducible apply rd_ixT); exact rfl)
  | ((with_reducible apply rd_ixL); exact rfl)
  | ((with_reducible refine wd_isi ?ev_h ?_); case ev_h => decide) | ((with_reducible refine wd_isi2 ?ev_h ?ev_k ?_); (case ev_h => decide); (case ev_k => decide))
  | (with_reducible refine wd_tup2 ?_) | (with_reducible refine wd_tup1 ?_) | (with_reducible refine wd_tup3 ?_) | (with_reducible refine wd_tup0 ?_)
  | (with_reducible refine wd_lst0 ?_) | (with_reducible refine wd_lst1 ?_) | (with_reducible refine wd_lst2 ?_) | (with_reducible refine wd_lst3 ?_) | (with_reducible refine wd_lst4 ?_) | (with_reducible refine wd_lst5 ?_) | (with_reducible refine wd_lst6 ?_)
  | ((with_reducible apply wd_callO0); exact rfl) | ((with_reducible apply wd_callO1); exact rfl) | ((with_reducible apply wd_callO2); exact rfl) | ((with_reducible apply wd_callO3); exact rfl)
  | (with_reducible refine wd_call1 ?_) | (with_reducible refine wd_call2 ?_) | (with_reducible refine wd_call3 ?_) | (with_reducible refine wd_call4 ?_) | (with_reducible refine wd_call0 ?_)
  | (with_reducible refine wd_cb1 ?_) | (with_reducible refine wd_cb2 ?_)
  | (with_reducible refine wd_rev ?_) | (with_reducible refine wd_lrg1 ?_) | (with_reducible refine wd_sl ?_) | (with_reducible refine wo_no ?_) | (with_reducible refine wo_some ?_)
  | (with_reducible refine wd_andV ?_) | (with_reducible refine wd_orV ?_) | (with_reducible refine wd_notV ?_) | (with_reducible refine wd_if ?_) | (with_reducible refine wd_chain ?_)
  | (with_reducible refine wt_test ?_) | (with_reducible refine wt_B ?_) | (with_reducible refine wt_not ?_) | (with_reducible refine wt_and ?_) | (with_reducible refine wt_or ?_) | (with_reducible refine wt_yes ?_)
  | (with_reducible refine gj_name ?_) | (with_reducible refine gj_tup rfl ?_) | (with_reducible refine gjs_cons ?_) | (with_reducible refine gjs_nil ?_))
local macro_rules | `(tactic| walk_at "v") => `(tactic| repeat walk_at "v1")
local macro_rules | `(tactic| walk_at "x") => `(tactic| refine ⟨_, rfl, ?_⟩)
local macro_rules | `(tactic| walk_at "vx") => `(tactic| repeat (first | walk_at "v1" | (with_reducible refine ⟨_, rfl, ?_⟩)))
namespace Dk
open PySem PySem.Spec PyProof.Rows L2 Pk Sy
def isPk : Rw → Bool
  | .pick _ _ => true
  | _ => false
/-- a row, its list at a -/
def rwA : Rw → Addr → PyData
  | .pick x ts, a => .tuple [.str "pick", .str x, listAt a (ts.map Th.d)]
  | r, _ => r.d
def rwsA (ra : List (Rw × Addr)) : List PyData := ra.map fun x => rwA x.1 x.2
def pgA (m : Nat) (bs : List Str) (ra : List (Rw × Addr)) (lb lr : Addr) : PyData := .tuple [.int m, listAt lb (bs.map PyData.str), listAt lr (rwsA ra)]
theorem ths_lf (ts : List Th) : lfA (ts.map Th.d) = true := lfA_of fun d hd => by
  obtain ⟨t, _, rfl⟩ := List.mem_map.mp hd
  exact Th.lf t
theorem bs_lf (bs : List Str) : lfA (bs.map PyData.str) = true := lfA_of fun d hd => by
  obtain ⟨t, _, rfl⟩ := List.mem_map.mp hd
  simp [lf]
theorem rw_lf {r : Rw} (h : isPk r = false) : lf r.d = true := by
  cases r with
  | pick x ts => cases h
  | set x t => simp [Rw.d, lf, lfA, Th.lf t]
  | need t => simp [Rw.d, lf, lfA, Th.lf t]
  | skip t n => simp [Rw.d, lf, lfA, Th.lf t]
  | give t => simp [Rw.d, lf, lfA, Th.lf t]
theorem rwA_no {r : Rw} (h : isPk r = false) (a : Addr) : rwA r a = r.d := by
  cases r with
  | pick x ts => cases h
  | _ => rfl
theorem rwA_pl (r : Rw) (a : Addr) : pl (rwA r a) = r.d := by
  cases h : isPk r with
  | false => rw [rwA_no h, pl_lf _ (rw_lf h)]
  | true =>
    cases r with
    | pick x ts =>
      show pl (.tuple [.str "pick", .str x, listAt a (ts.map Th.d)]) = _
      rw [pl_tup, plA_map]
      simp only [List.map_cons, List.map_nil]
      rw [pl_at, plA_lf _ (ths_lf ts)]
      rfl
    | _ => cases h
theorem rwA_ad (r : Rw) (a : Addr) : ad (rwA r a) = if isPk r then [a] else [] := by
  cases h : isPk r with
  | false => rw [rwA_no h, ad_lf _ (rw_lf h)]; rfl
  | true =>
    cases r with
    | pick x ts =>
      show ad (.tuple [.str "pick", .str x, listAt a (ts.map Th.d)]) = _
      rw [ad_tup, adA_cons, adA_cons, adA_cons, adA_nil, ad_at, adA_lf _ (ths_lf ts)]
      simp [Pk.ad]
    | _ => cases h
theorem rwA_npl (r : Rw) (a : Addr) : npl (rwA r a) = true := by
  cases h : isPk r with
  | false => rw [rwA_no h]; exact npl_lf _ (rw_lf h)
  | true =>
    cases r with
    | pick x ts =>
      show npl (.tuple [.str "pick", .str x, listAt a (ts.map Th.d)]) = _
      rw [npl_tup, nplA_all]
      simp only [List.all_cons, List.all_nil, npl_at, nplA_lf _ (ths_lf ts)]
      simp [npl]
    | _ => cases h
theorem rwsA_pl (ra : List (Rw × Addr)) : plA (rwsA ra) = (ra.map Prod.fst).map Rw.d := by
  rw [plA_map, rwsA, List.map_map, List.map_map]
  exact List.map_congr_left fun x _ => rwA_pl x.1 x.2
theorem rwsA_npl (ra : List (Rw × Addr)) : nplA (rwsA ra) = true := by
  rw [nplA_all, List.all_eq_true]
  intro d hd
  obtain ⟨x, _, rfl⟩ := List.mem_map.mp hd
  exact rwA_npl x.1 x.2
theorem pgA_pl (m : Nat) (bs : List Str) (ra : List (Rw × Addr)) (lb lr : Addr) : pl (pgA m bs ra lb lr) = (Pg.mk m bs (ra.map Prod.fst)).d := by
  unfold pgA
  rw [pl_tup, plA_map]
  simp only [List.map_cons, List.map_nil]
  rw [pl_at, pl_at, plA_lf _ (bs_lf bs), rwsA_pl, pl_lf _ (by simp [lf])]
  rfl
theorem pgA_ad (m : Nat) (bs : List Str) (ra : List (Rw × Addr)) (lb lr : Addr) : ad (pgA m bs ra lb lr) = lb :: lr :: adA (rwsA ra) := by
  unfold pgA
  rw [ad_tup, adA_cons, adA_cons, adA_cons, adA_nil, ad_at, ad_at, adA_lf _ (bs_lf bs)]
  simp [Pk.ad]
theorem pgA_npl (m : Nat) (bs : List Str) (ra : List (Rw × Addr)) (lb lr : Addr) : npl (pgA m bs ra lb lr) = true := by
  unfold pgA
  rw [npl_tup, nplA_all]
  simp only [List.all_cons, List.all_nil, npl_at, nplA_lf _ (bs_lf bs), rwsA_npl]
  simp [npl]
theorem nd_rows : ∀ {ra : List (Rw × Addr)}, (adA (rwsA ra)).Nodup → ∀ {i j : Nat} {x y : Rw × Addr}, i < j → ra[i]? = some x → ra[j]? = some y → isPk x.1 = true → isPk y.1 = true → x.2 ≠ y.2
  | [], _, i, j, x, y, _, h, _, _, _ => by simp at h
  | z :: ra, nd, i, j, x, y, lt, hx, hy, px, py => by
    rw [show rwsA (z :: ra) = rwA z.1 z.2 :: rwsA ra from rfl, adA_cons] at nd
    obtain ⟨_, nd2, dj⟩ := List.nodup_append.mp nd
    cases j with
    | zero => omega
    | succ j =>
      simp only [List.getElem?_cons_succ] at hy
      cases i with
      | zero =>
        simp only [List.getElem?_cons_zero, Option.some.injEq] at hx
        subst hx
        refine dj _ (by rw [rwA_ad, px]; simp) _ (mem_adA (d := rwA y.1 y.2) (List.mem_map.mpr ⟨y, List.mem_of_getElem? hy, rfl⟩) (by rw [rwA_ad, py]; simp))
      | succ i =>
        simp only [List.getElem?_cons_succ] at hx
        exact nd_rows nd2 (by omega) hx hy px py
theorem nd_rows' {ra : List (Rw × Addr)} (nd : (adA (rwsA ra)).Nodup) {i j : Nat} {x y : Rw × Addr} (ne : i ≠ j) (hx : ra[i]? = some x) (hy : ra[j]? = some y) (px : isPk x.1 = true) (py : isPk y.1 = true) : x.2 ≠ y.2 := by
  rcases Nat.lt_or_gt_of_ne ne with h | h
  · exact nd_rows nd h hx hy px py
  · exact fun e => nd_rows nd h hy hx py px e.symm
theorem pk_mem {ra : List (Rw × Addr)} {j : Nat} {x : Rw × Addr} (h : ra[j]? = some x) (p : isPk x.1 = true) : x.2 ∈ adA (rwsA ra) := mem_adA (d := rwA x.1 x.2) (List.mem_map.mpr ⟨x, List.mem_of_getElem? h, rfl⟩) (by rw [rwA_ad, p]; simp)

def mkR : Rw → Nat → PyData
  | .pick x ts, j => .tuple [.str "pick", .str x, .list (ts.map Th.d ++ [.int j])]
  | r, _ => r.d
def mkRs (rows : List Rw) : List PyData := rows.zipIdx.map fun x => mkR x.1 x.2
def mrkD (m : Nat) (bs : List Str) (rows : List Rw) : PyData := .tuple [.int m, .list (bs.map PyData.str ++ [.str "mark"]), .list (mkRs rows ++ [.none])]
def mkA : Rw → Addr → Nat → PyData
  | .pick x ts, a, j => .tuple [.str "pick", .str x, listAt a (ts.map Th.d ++ [.int j])]
  | r, _, _ => r.d
/-- the rows, the first n marked -/
def rwN (ra : List (Rw × Addr)) (n : Nat) : List PyData := ra.zipIdx.map fun x => if x.2 < n then mkA x.1.1 x.1.2 x.2 else rwA x.1.1 x.1.2
theorem rwN_get {ra : List (Rw × Addr)} {n j : Nat} : (rwN ra n)[j]? = (ra[j]?).map fun x => if j < n then mkA x.1 x.2 j else rwA x.1 x.2 := by
  unfold rwN
  rw [List.getElem?_map, List.getElem?_zipIdx]
  cases ra[j]? <;> simp
theorem rwN_0 (ra : List (Rw × Addr)) : rwN ra 0 = rwsA ra := by
  apply List.ext_getElem?
  intro j
  rw [rwN_get, rwsA, List.getElem?_map]
  cases ra[j]? <;> simp
theorem mkl_lf (ts : List Th) (j : Nat) : lfA (ts.map Th.d ++ [.int j]) = true := lfA_of fun d hd => by
  rcases List.mem_append.mp hd with z | z
  · obtain ⟨t, _, rfl⟩ := List.mem_map.mp z
    exact Th.lf t
  · rw [List.mem_singleton.mp z]
    simp [lf]
theorem mkA_no {r : Rw} (h : isPk r = false) (a : Addr) (j : Nat) : mkA r a j = r.d := by
  cases r with
  | pick x ts => cases h
  | _ => rfl
theorem mkA_npl (r : Rw) (a : Addr) (j : Nat) : npl (mkA r a j) = true := by
  cases h : isPk r with
  | false => rw [mkA_no h]; exact npl_lf _ (rw_lf h)
  | true =>
    cases r with
    | pick x ts =>
      show npl (.tuple [.str "pick", .str x, listAt a (ts.map Th.d ++ [.int j])]) = _
      rw [npl_tup, nplA_all]
      simp only [List.all_cons, List.all_nil, npl_at, nplA_lf _ (mkl_lf ts j)]
      simp [npl]
    | _ => cases h
theorem mkA_pl (r : Rw) (a : Addr) (j : Nat) : pl (mkA r a j) = mkR r j := by
  cases h : isPk r with
  | false =>
    rw [mkA_no h, pl_lf _ (rw_lf h)]
    cases r with
    | pick x ts => cases h
    | _ => rfl
  | true =>
    cases r with
    | pick x ts =>
      show pl (.tuple [.str "pick", .str x, listAt a (ts.map Th.d ++ [.int j])]) = _
      rw [pl_tup, plA_map]
      simp only [List.map_cons, List.map_nil]
      rw [pl_at, plA_lf _ (mkl_lf ts j)]
      rfl
    | _ => cases h
theorem mA_rw {f : List PyData → List PyData} {r : Rw} {a b : Addr} : mA a f (rwA r b) = if isPk r = true ∧ b = a then (match r with | .pick x ts => .tuple [.str "pick", .str x, listAt b (f (ts.map Th.d))] | r => r.d) else rwA r b := by
  cases r with
  | pick x ts =>
    show mA a f (.tuple [.str "pick", .str x, listAt b (ts.map Th.d)]) = _
    rw [mA_tup, mAs_map]
    simp only [List.map_cons, List.map_nil]
    rw [mA_at, mAs_lf _ (ths_lf ts)]
    by_cases e : b = a
    · simp [isPk, e, mA]
    · simp [isPk, e, mA, rwA]
  | set x t => rw [rwA_no rfl, mA_lf _ (rw_lf rfl)]; simp [isPk]
  | need t => rw [rwA_no rfl, mA_lf _ (rw_lf rfl)]; simp [isPk]
  | skip t n => rw [rwA_no rfl, mA_lf _ (rw_lf rfl)]; simp [isPk]
  | give t => rw [rwA_no rfl, mA_lf _ (rw_lf rfl)]; simp [isPk]
theorem mA_mk {f : List PyData → List PyData} {r : Rw} {a b : Addr} {j : Nat} (h : isPk r = true → b ≠ a) : mA a f (mkA r b j) = mkA r b j := by
  cases r with
  | pick x ts =>
    show mA a f (.tuple [.str "pick", .str x, listAt b (ts.map Th.d ++ [.int j])]) = _
    rw [mA_tup, mAs_map]
    simp only [List.map_cons, List.map_nil]
    rw [mA_at, mAs_lf _ (mkl_lf ts j), if_neg (h rfl)]
    simp [mA, mkA]
  | set x t => rw [mkA_no rfl, mA_lf _ (rw_lf rfl)]
  | need t => rw [mkA_no rfl, mA_lf _ (rw_lf rfl)]
  | skip t n => rw [mkA_no rfl, mA_lf _ (rw_lf rfl)]
  | give t => rw [mkA_no rfl, mA_lf _ (rw_lf rfl)]
theorem rwN_skip {ra : List (Rw × Addr)} {n : Nat} {x : Rw × Addr} (h : ra[n]? = some x) (hp : isPk x.1 = false) : rwN ra (n + 1) = rwN ra n := by
  apply List.ext_getElem?
  intro j
  rw [rwN_get, rwN_get]
  by_cases e : j = n
  · subst e
    rw [h]
    simp [mkA_no hp, rwA_no hp]
  · cases ra[j]? with
    | none => rfl
    | some y =>
      by_cases l : j < n
      · simp [l, Nat.lt_succ_of_lt l]
      · have : ¬ j < n + 1 := by omega
        simp [l, this]
theorem rwN_mark {ra : List (Rw × Addr)} {n : Nat} {x : Rw × Addr} (nd : (adA (rwsA ra)).Nodup) (h : ra[n]? = some x) (hp : isPk x.1 = true) : mAs x.2 (· ++ [.int (n : Int)]) (rwN ra n) = rwN ra (n + 1) := by
  rw [mAs_map]
  apply List.ext_getElem?
  intro j
  rw [List.getElem?_map, rwN_get, rwN_get]
  cases hj : ra[j]? with
  | none => rfl
  | some y =>
    simp only [Option.map_some]
    congr 1
    by_cases e : j = n
    · subst e
      rw [h] at hj
      cases hj
      rw [if_neg (Nat.lt_irrefl j), if_pos (Nat.lt_succ_self j), mA_rw, if_pos ⟨hp, rfl⟩]
      obtain ⟨r, a⟩ := x
      cases r with
      | pick x ts => rfl
      | _ => cases hp
    · by_cases l : j < n
      · rw [if_pos l, if_pos (by omega), mA_mk fun py => nd_rows' nd e hj h py hp]
      · rw [if_neg l, if_neg (by omega), mA_rw, if_neg fun z => nd_rows' nd e hj h z.1 hp z.2]
theorem rwN_npl (ra : List (Rw × Addr)) (n : Nat) : nplA (rwN ra n) = true := by
  rw [nplA_all, List.all_eq_true]
  intro d hd
  obtain ⟨x, _, rfl⟩ := List.mem_map.mp hd
  show npl (if _ then _ else _) = true
  split
  · exact mkA_npl _ _ _
  · exact rwA_npl _ _
theorem rwN_end {ra : List (Rw × Addr)} : plA (rwN ra ra.length) = mkRs (ra.map Prod.fst) := by
  rw [plA_map]
  apply List.ext_getElem?
  intro j
  rw [List.getElem?_map, rwN_get, mkRs, List.getElem?_map, List.getElem?_zipIdx, List.getElem?_map]
  cases hj : ra[j]? with
  | none => rfl
  | some y =>
    have hl : j < ra.length := (List.getElem?_eq_some_iff.mp hj).1
    simp only [Option.map_some]
    rw [if_pos hl, mkA_pl]
    simp
theorem rwN_len (ra : List (Rw × Addr)) (n : Nat) : (rwN ra n).length = ra.length := by simp [rwN]
/-- the program while it is marked -/
def pgN (m : Nat) (B : List PyData) (R : List PyData) (lb lr : Addr) : PyData := .tuple [.int m, listAt lb B, listAt lr R]
theorem pgN_row {m : Nat} {bs : List PyData} {R : List PyData} {lb lr a : Addr} {f : List PyData → List PyData} (hb : lfA bs = true) (h1 : lb ≠ a) (h2 : lr ≠ a) : mA a f (pgN m bs R lb lr) = pgN m bs (mAs a f R) lb lr := by
  unfold pgN
  rw [mA_tup, mAs_map]
  simp only [List.map_cons, List.map_nil]
  rw [mA_at, mA_at, if_neg h1, if_neg h2, mAs_lf _ hb]
  simp [mA]
theorem mrk_dep {m : Nat} {bs : List Str} {rows : List Rw} (hp : (Pg.mk m bs rows).Ok) : Pk.dep 9 (mrkD m bs rows) := by
  have hb : ∀ x ∈ bs, NameOk x := hp.bs.nm
  intro x hx
  simp only [List.mem_cons, List.not_mem_nil, or_false] at hx
  rcases hx with rfl | rfl | rfl
  · exact dep_int
  · intro y hy
    rcases List.mem_append.mp hy with z | z
    · obtain ⟨b, hb', rfl⟩ := List.mem_map.mp z
      exact dep_str (hb b hb').strOk
    · rw [List.mem_singleton.mp z]
      exact dep_str (by decide +kernel)
  · intro y hy
    rcases List.mem_append.mp hy with z | z
    · obtain ⟨⟨r, j⟩, hr, rfl⟩ := List.mem_map.mp z
      have hm : r ∈ rows := by
        obtain ⟨i, hi⟩ := List.getElem?_of_mem hr
        rw [List.getElem?_zipIdx] at hi
        cases hq : rows[i]? with
        | none => rw [hq] at hi; cases hi
        | some r' =>
          rw [hq] at hi
          cases hi
          exact List.mem_of_getElem? hq
      have hok := hp.rows r hm
      show Pk.dep 7 (mkR r j)
      cases r with
      | pick x ts =>
        intro w hw
        simp only [List.mem_cons, List.not_mem_nil, or_false] at hw
        rcases hw with rfl | rfl | rfl
        · exact dep_str (ok_w (by simp))
        · exact dep_str (hb x hok.1).strOk
        · intro u hu
          rcases List.mem_append.mp hu with z | z
          · obtain ⟨t, ht, rfl⟩ := List.mem_map.mp z
            exact dep_up (Th.dep hb (hok.2.2.2 t ht)) (by decide)
          · rw [List.mem_singleton.mp z]
            exact dep_int
      | set x t => exact dep_up (Rw.dep hb hok) (by decide)
      | need t => exact dep_up (Rw.dep hb hok) (by decide)
      | skip t n => exact dep_up (Rw.dep hb hok) (by decide)
      | give t => exact dep_up (Rw.dep hb hok) (by decide)
    · rw [List.mem_singleton.mp z]
      exact True.intro
theorem mrk_nb (m : Nat) (bs : List Str) (rows : List Rw) : NB (mrkD m bs rows) := by
  have hp := Pg.nb (Pg.mk m bs rows)
  refine .tup fun x hx => ?_
  simp only [List.mem_cons, List.not_mem_nil, or_false] at hx
  rcases hx with rfl | rfl | rfl
  · exact .int _
  · refine .lst fun y hy => ?_
    rcases List.mem_append.mp hy with z | z
    · obtain ⟨b, hb', rfl⟩ := List.mem_map.mp z
      exact .str _
    · rw [List.mem_singleton.mp z]
      exact .str _
  · refine .lst fun y hy => ?_
    rcases List.mem_append.mp hy with z | z
    · obtain ⟨⟨r, j⟩, hr, rfl⟩ := List.mem_map.mp z
      show NB (mkR r j)
      cases r with
      | pick x ts =>
        refine .tup fun w hw => ?_
        simp only [List.mem_cons, List.not_mem_nil, or_false] at hw
        rcases hw with rfl | rfl | rfl
        · exact .str _
        · exact .str _
        · refine .lst fun u hu => ?_
          rcases List.mem_append.mp hu with z | z
          · obtain ⟨t, ht, rfl⟩ := List.mem_map.mp z
            exact Th.nb t
          · rw [List.mem_singleton.mp z]
            exact .int _
      | set x t => exact Rw.nb (.set x t)
      | need t => exact Rw.nb (.need t)
      | skip t n => exact Rw.nb (.skip t n)
      | give t => exact Rw.nb (.give t)
    · rw [List.mem_singleton.mp z]
      exact .non
def T_copiedA (K : Kw) : List Sl → (Sl → Prop) → Prop := fun Γ Q => ∃ r : Rw, Γ = [.dat false r.d] ∧ ∀ a, Q (.dat true (rwA r a))
def T_progofA (K : Kw) : List Sl → (Sl → Prop) → Prop := fun Γ Q => ∃ p : Pg, ∃ rows : List Rw, Γ = [.dat false p.d, .dat false (rwsD rows)] ∧ rows.length ≤ 1000 ∧ ∀ ra lb lr v, ra.map Prod.fst = rows → (ad (pgA p.m p.bs ra lb lr)).Nodup → Q (.ex v (AtO K (pgA p.m p.bs ra lb lr)))
def T_routA (K : Kw) : List Sl → (Sl → Prop) → Prop := fun Γ Q => ∃ p : Pg, ∃ i : Nat, Γ = [.dat false p.d, .dat false (.int i)] ∧ p.Ok ∧ i < p.rows.length ∧ ∀ ra lb lr v, ra.map Prod.fst = (rout p i).rows → (ad (pgA p.m p.bs ra lb lr)).Nodup → Q (.ex v (AtO K (pgA p.m p.bs ra lb lr)))
def T_pcopyA (K : Kw) : List Sl → (Sl → Prop) → Prop := fun Γ Q => ∃ p : Pg, Γ = [.dat false p.d] ∧ p.Ok ∧ ∀ ra lb lr v, ra.map Prod.fst = p.rows → (ad (pgA p.m p.bs ra lb lr)).Nodup → Q (.ex v (AtO K (pgA p.m p.bs ra lb lr)))
def T_marked (K : Kw) : List Sl → (List Sl → Sl → Prop) → Prop := fun Γ Q => ∃ v m bs ra lb lr, Γ = [.ex v (AtO K (pgA m bs ra lb lr))] ∧ bs.length ≤ 1000 ∧ ra.length ≤ 1000 ∧ (∀ x ∈ ra, ∀ y ts, x.1 = .pick y ts → ts.length ≤ 1000) ∧ (ad (pgA m bs ra lb lr)).Nodup ∧ ∀ d, pl d = mrkD m bs (ra.map Prod.fst) → Q [.ex v (NilO K)] (.ex v (AtO K d))
def T_isprog (K : Kw) : List Sl → (Sl → Prop) → Prop := fun Γ Q => ∃ p : Pg, Γ = [.dat false p.d, .dat false p.d] ∧ p.Ok ∧ Q (.dat true (.bool true))
section
variable {P : Program} {K : Kw} {mg : Str → Option Value} {base : Heap} {k : Nat}
theorem ok_copiedA (D : Def K mg "copied_row" s_copied_row ["row"]) (m_list : mg "list" = none) : Cal P K.w K mg base CX0 (k + 1) "copied_row" ["row"] (spG K (T_copiedA K)) := by
  refine cal_g D sc_copied_row (fun Γ Qr ⟨r, e, _⟩ => by subst e; exact ⟨rfl, noMl_dat noMl_nil⟩) fun f cdv A outer s H E hr => ⟨_, wk_copied_row m_list f cdv A outer s H E hr, ?_⟩
  rintro Γ Qr ⟨r, rfl, q⟩
  show SJ K [.dat false r.d] (t_copied_row K) _
  unfold t_copied_row
  refine sj_seq (sj_if (wt_test (wd_op (wd_op (wd_var rfl (wd_int (rd_rk (wd_str (rd_w (b := .pick) ⟨_, rfl, ?_⟩)))))))))
  have no : isPk r = false → SJ K [.dat false r.d] (tRet (tVar 0)) (retP [.dat false r.d] Qr) := fun h => sj_retD true (wd_lf (wd_var rfl ⟨rw_lf h, keep_dat keep_nil, by have := q 0; rw [rwA_no h] at this; exact this⟩))
  cases r with
  | pick x ts => exact iteT' rfl (sj_retD true (wd_tup3 (wd_lf (wd_op (wd_var rfl (wd_int (rd_ixT (d := .str "pick") rfl ⟨rfl, wd_lf (wd_op (wd_var rfl (wd_int (rd_ixT (d := .str x) rfl ⟨rfl, wd_at (wx_listN (wd_op (wd_var rfl (wd_int (rd_ixT (d := .list (ts.map Th.d)) rfl ⟨_, rfl, ths_lf ts, fun l => ⟨l, _, rfl, fun _ _ => ⟨keep_dat keep_nil, q l⟩⟩⟩)))))⟩))))⟩)))))))
  | set x t => exact iteF' rfl (sj_next (no rfl))
  | need t => exact iteF' rfl (sj_next (no rfl))
  | skip t n => exact iteF' rfl (sj_next (no rfl))
  | give t => exact iteF' rfl (sj_next (no rfl))
theorem ok_progofA (D : Def K mg "program_of" s_program_of ["program", "rows"]) (c_copied : Cal P K.w K mg base CX0 k "copied_row" ["row"] (spG K (T_copiedA K))) (m_list : mg "list" = none) : Cal P K.w K mg base CX0 (k + 1) "program_of" ["program", "rows"] (spG K (T_progofA K)) := by
  refine cal_t D sc_program_of (fun Γ Qr ⟨p, rows, e, _⟩ => by subst e; exact ⟨rfl, noMl_dat (noMl_dat noMl_nil)⟩) fun f cdv A outer s H E hr => ⟨_, wk_program_of c_copied m_list f cdv A outer s H E hr, ?_⟩
  rintro Γ Qr ⟨p, rows, rfl, hl, q⟩
  show SJt K [.dat false p.d, .dat false (rwsD rows), .no] (t_program_of K _) _
  unfold t_program_of
  refine sjt_retAt (wd_tup (wa_dF rfl (wd_lf (wd_op (wd_var rfl (wd_int (rd_ixT (d := .int p.m) rfl ⟨rfl, wa_dF rfl (wd_at (wx_listN (wd_op (wd_var rfl (wd_int (rd_pgB ⟨_, rfl, bs_lf p.bs, fun lb => ⟨lb, _, rfl, fun _ _ => wa_dF rfl (wd_at (wx_lcA true (wipeOk_no rfl wipeOk_nil) gwn rfl (wi_list (wd_var rfl ⟨_, rfl, fun i acc => ∃ ra : List (Rw × Addr), acc = rwsA ra ∧ ra.map Prod.fst = rows.take i, by rw [List.length_map]; omega, ⟨[], rfl, rfl⟩, ?_, ?_⟩)) rfl)) ⟩⟩))))) )⟩)))))))
  · rintro i d acc hd _ ⟨ra, rfl, hra⟩
    rw [List.getElem?_map] at hd
    cases hr : rows[i]? with
    | none => rw [hr] at hd; cases hd
    | some r =>
      rw [hr] at hd
      cases hd
      refine gj_name ⟨rfl, rfl, wt_yes (iteT' rfl (wd_call1 (wd_var rfl ⟨r, rfl, fun a => asD_new ⟨?_, ra ++ [(r, a)], by simp [rwsA], ?_⟩⟩)))⟩
      · rw [rwA_ad]; split <;> simp
      · rw [List.map_append, hra, List.take_add_one, hr]; rfl
  · rintro acc _ ⟨ra, rfl, hra⟩ nd _ lr
    rw [List.length_map, List.take_length] at hra
    refine ⟨lr, _, rfl, fun n1 _ => wa_nil fun _ _ n2 _ _ _ => ⟨_, rfl, le_lit rfl, pgA_npl p.m p.bs ra lb lr, fun v => ⟨keep_dat (keep_dat keep_nil), q ra lb lr v hra ?_⟩⟩⟩
    rw [pgA_ad]
    have n3 : lb ∉ adAg [.d (listAt lr (rwsA ra))] := n2 lb (by rw [ad_at]; exact List.mem_cons_self)
    refine List.nodup_cons.mpr ⟨fun z => n3 ?_, List.nodup_cons.mpr ⟨n1, nd⟩⟩
    show lb ∈ ad (listAt lr (rwsA ra)) ++ []
    rw [ad_at, List.append_nil]
    exact z
theorem ok_routA (D : Def K mg "row_out" s_row_out ["program", "i"]) (c_progof : Cal P K.w K mg base CX0 k "program_of" ["program", "rows"] (spG K (T_progofA K))) (c_rbo : Cal P K.w K mg base CX0 k "row_behind_out" ["program", "r", "i"] (spG K (T_rbo K))) (m_range : mg "range" = none) (m_len : mg "len" = none) (m_isinstance : mg "isinstance" = none) (m_bool : mg "bool" = none) (m_int : mg "int" = none) : Cal P K.w K mg base CX0 (k + 1) "row_out" ["program", "i"] (spG K (T_routA K)) := by
  refine cal_g D sc_row_out (fun Γ Qr ⟨p, i, e, _⟩ => by subst e; exact ⟨rfl, noMl_dat (noMl_dat noMl_nil)⟩) fun f cdv A outer s H E hr => ⟨_, wk_row_out c_progof c_rbo m_range m_len m_isinstance m_bool m_int f cdv A outer s H E hr, ?_⟩
  rintro Γ Qr ⟨p, i, rfl, hp, hi, q⟩
  have h30 := hp.r30
  show SJ K [.dat false p.d, .dat false (.int i), .no, .no] (t_row_out K _ _) _
  unfold t_row_out
  refine sj_seq (sj_set false (wd_op (wd_var rfl (wd_int (rd_pgR ?_)))))
  refine sj_seq (sj_if (wt_or (wt_not (wt_B (wd_isi (by decide) (wd_var (d := .int (i : Int)) rfl ⟨_, rfl, iteF' rfl ?_⟩))))))
  refine wt_or (wt_B (wd_isi (by decide) (wd_var (d := .int (i : Int)) rfl ⟨_, rfl, iteF' rfl ?_⟩)))
  refine wt_not (wt_test (wd_chain (wd_int (wd_var (d := .int (i : Int)) rfl (rd_le ⟨_, rfl, iteT' (decide_eq_true (by omega)) (wd_cb1 (wd_var rfl (rc_lenL (rd_lt ⟨_, rfl, _, rfl, ?_⟩))))⟩)))))
  rw [List.length_map]
  rw [decide_eq_true (show (i : Int) < (p.rows.length : Int) by omega)]
  refine iteF' rfl (sj_next ?_)
  refine sj_ret (wx_call2 (wd_var rfl (wd_op (wd_lcMa (mi := false) (α := Nat) (fun r => PyData.int (0 + ((r : Nat) : Int))) (fun r => (rbo p i r (rwAt p r)).d) (wipeOk_no rfl wipeOk_nil) gwn (wi_rng (wd_var (d := .int (i : Int)) rfl ⟨_, rfl, ⟨by omega, by omega⟩, List.range i, rfl, by rw [List.length_range]; omega, fun j r hr => gj_name ⟨rfl, ?_⟩, ?_⟩))))))
  · have hr' : r < i := by
      have := List.mem_of_getElem? hr
      exact List.mem_range.mp this
    rw [Int.zero_add]
    exact wd_call3 (wd_var rfl (wd_var rfl (wd_var (d := .int (i : Int)) rfl ⟨p, r, i, rfl, hp, by omega, asD_dat rfl⟩)))
  refine wd_sl (wd_var rfl ⟨_, rfl, wo_some (wd_op (wd_var (d := .int (i : Int)) rfl (wd_int (rd_add ⟨_, rfl, wo_no ?_⟩))))⟩)
  have e1 : (i : Int) + 1 = ((i + 1 : Nat) : Int) := by omega
  rw [e1, cut_mapP, cut_dropP]
  have e2 : PyData.list ((List.range i).map (fun r => (rbo p i r (rwAt p r)).d) ++ (p.rows.drop (i + 1)).map Rw.d) = rwsD (rout p i).rows := by
    show _ = rwsD ((List.range i).map (fun r => rbo p i r (rwAt p r)) ++ p.rows.drop (i + 1))
    rw [rwsD, List.map_append, List.map_map]
    rfl
  refine rd_cat (by simp; omega) ?_
  rw [e2]
  have hl := rout_len hi
  exact ⟨p, (rout p i).rows, rfl, by omega, fun ra lb lr v hra nd => ⟨keep_dat (keep_dat keep_nil), q ra lb lr v hra nd⟩⟩
theorem ok_pcopyA (D : Def K mg "_law_copy" s_l_copy ["program"]) (m_list : mg "list" = none) : Cal P K.w K mg base CX0 (k + 1) "_law_copy" ["program"] (spG K (T_pcopyA K)) := by
  refine cal_t D sc_l_copy (fun Γ Qr ⟨p, e, _⟩ => by subst e; exact ⟨rfl, noMl_dat noMl_nil⟩) fun f cdv A outer s H E hr => ⟨_, wk_l_copy m_list f cdv A outer s H E hr, ?_⟩
  rintro Γ Qr ⟨p, rfl, hp, q⟩
  have h30 := hp.r30
  show SJt K [.dat false p.d, .no, .no] (t_l_copy K) _
  unfold t_l_copy
  refine sjt_seq (fun X hK _ => (sj_setX (wx_lst0 true fun l => ?_) : SJ K _ _ _) X hK)
  show SJt K [.dat false p.d, .ml true l [], .no] _ _
  refine sjt_cut (fun Γ' => ∃ ra s2, (adA (rwsA ra)).Nodup ∧ ra.map Prod.fst = p.rows ∧ Γ' = [.dat false p.d, .ml true l (rwsA ra), s2]) (fun X hK _ => (?_ : SJ K _ _ _) X hK) ?_
  · refine sj_for false (wi_list (wd_op (wd_var rfl (wd_int (rd_pgR ⟨_, rfl, fun i Γ' => ∃ ra s2, (adA (rwsA ra)).Nodup ∧ ra.map Prod.fst = p.rows.take i ∧ Γ' = [.dat false p.d, .ml true l (rwsA ra), s2], ⟨[], .no, by simp [rwsA, adA], rfl, rfl⟩, ?_, ?_⟩)))))
    · rintro i d Γ' hd ⟨ra, s2, nd, hra, rfl⟩
      rw [List.getElem?_map] at hd
      cases hr : p.rows[i]? with
      | none => rw [hr] at hd; cases hd
      | some r =>
        rw [hr] at hd
        cases hd
        have hil : i < p.rows.length := (List.getElem?_eq_some_iff.mp hr).1
        have hlen : ra.length ≤ i := by
          have := congrArg List.length hra
          rw [List.length_map, List.length_take] at this
          omega
        have tk : ∀ a, (ra ++ [(r, a)]).map Prod.fst = p.rows.take (i + 1) := fun a => by
          rw [List.map_append, hra, List.take_add_one, hr]; rfl
        refine gj_name ?_
        refine sj_cut (fun Γ' => ∃ a m, (adA (rwsA (ra ++ [(r, a)]))).Nodup ∧ (isPk r = true → m = true) ∧ Γ' = [.dat false p.d, .ml true l (rwsA ra), .dat m (rwA r a)]) (sj_if (wt_test (wd_op (wd_op (wd_var rfl (wd_int (rd_rk (wd_str (rd_w (b := .pick) ⟨_, rfl, ?_⟩))))))))) ?_
        · have no : isPk r = false → ∃ a m, (adA (rwsA (ra ++ [(r, a)]))).Nodup ∧ (isPk r = true → m = true) ∧ [Sl.dat false p.d, .ml true l (rwsA ra), .dat false r.d] = [.dat false p.d, .ml true l (rwsA ra), .dat m (rwA r a)] := fun h => ⟨0, false, by
              rw [show rwsA (ra ++ [(r, 0)]) = rwsA ra ++ [rwA r 0] by simp [rwsA], adA_append, adA_cons, rwA_ad, h]
              simpa [adA] using nd, fun z => (by rw [h] at z; cases z), by rw [rwA_no h]⟩
          cases r with
          | set x t => exact iteF' rfl (sj_next (no rfl))
          | need t => exact iteF' rfl (sj_next (no rfl))
          | skip t n => exact iteF' rfl (sj_next (no rfl))
          | give t => exact iteF' rfl (sj_next (no rfl))
          | pick x ts =>
            refine iteT' rfl (sj_set true (wd_tup3 (wd_str (wd_lf (wd_op (wd_var rfl (wd_int (rd_ixT (d := .str x) rfl ⟨rfl, wd_at (wx_listN (wd_op (wd_var rfl (wd_int (rd_ixT (d := .list (ts.map Th.d)) rfl ⟨_, rfl, ths_lf ts, fun a => ⟨a, _, rfl, fun _ n2 => ?_⟩⟩)))))⟩))))))))
            refine ⟨a, true, ?_, fun _ => rfl, rfl⟩
            rw [show rwsA (ra ++ [(Rw.pick x ts, a)]) = rwsA ra ++ [rwA (.pick x ts) a] by simp [rwsA], adA_append, adA_cons, rwA_ad]
            refine List.nodup_append.mpr ⟨nd, by simp [isPk, adA], fun b hb c hc e => ?_⟩
            have hc' : c = a := by simpa [isPk, adA] using hc
            rw [hc'] at e
            subst e
            exact n2 (List.mem_flatMap.mpr ⟨.ml true l (rwsA ra), by simp, List.mem_cons_of_mem _ hb⟩)
        rintro _ ⟨a, m, nd2, hm, rfl⟩
        have fin : [Sl.dat false p.d, .ml true l (rwsA ra ++ [rwA r a]), .dat m (rwA r a)] = [.dat false p.d, .ml true l (rwsA (ra ++ [(r, a)])), .dat m (rwA r a)] := by simp [rwsA]
        refine sj_app (i := 1) (l := l) (ds := rwsA ra) rfl (by rw [rwsA, List.length_map]; omega) ?_
        cases m with
        | true => exact wd_var (d := rwA r a) rfl ⟨_, _, nd2, tk a, fin⟩
        | false =>
          have h : isPk r = false := by
            cases h : isPk r with
            | false => rfl
            | true => exact absurd (hm h) (by decide)
          exact wd_lf (wd_var (d := rwA r a) rfl ⟨by rw [rwA_no h]; exact rw_lf h, _, _, nd2, tk a, fin⟩)
    · rintro Γ' ⟨ra, s2, nd, hra, rfl⟩
      rw [List.length_map, List.take_length] at hra
      exact ⟨ra, s2, nd, hra, rfl⟩
  rintro _ ⟨ra, s2, nd, hra, rfl⟩
  refine sjt_frzA 1 (l := l) (m := true) (ds := rwsA ra) rfl fun n1 => ?_
  refine sjt_retAt (wd_tup3 (wd_lf (wd_op (wd_var rfl (wd_int (rd_ixT (d := .int p.m) rfl ⟨rfl, wd_at (wx_listN (wd_op (wd_var rfl (wd_int (rd_pgB ⟨_, rfl, bs_lf p.bs, fun lb => ⟨lb, _, rfl, fun _ n2 => wd_var (d := listAt l (rwsA ra)) rfl ?_⟩⟩)))))⟩))))) )
  refine ⟨pgA_npl p.m p.bs ra lb l, fun v => ⟨keep_dat keep_nil, q ra lb l v hra ?_⟩⟩
  rw [pgA_ad]
  refine List.nodup_cons.mpr ⟨fun z => n2 ?_, List.nodup_cons.mpr ⟨n1, nd⟩⟩
  exact List.mem_flatMap.mpr ⟨.dat true (listAt l (rwsA ra)), by simp, by
    show lb ∈ ad (listAt l (rwsA ra))
    rw [ad_at]
    exact z⟩
theorem ok_isprogL (D : Def K mg "_law_is_program" s_l_is_program ["found", "due"]) (m_isinstance : mg "isinstance" = none) (m_list : mg "list" = none) (m_tuple : mg "tuple" = none) : Cal P K.w K mg base CX0 (k + 1) "_law_is_program" ["found", "due"] (spG K (T_isprog K)) := by
  refine cal_g D sc_l_is_program (fun Γ Qr ⟨p, e, _⟩ => by subst e; exact ⟨rfl, noMl_dat (noMl_dat noMl_nil)⟩) fun f cdv A outer s H E hr => ⟨_, wk_l_is_program m_isinstance m_list m_tuple f cdv A outer s H E hr, ?_⟩
  rintro Γ Qr ⟨p, rfl, hp, q⟩
  have h30 := hp.r30
  show SJ K [.dat false p.d, .dat false p.d, .no] (t_l_is_program K) _
  unfold t_l_is_program
  refine sj_seq (sj_if (wt_or (wt_not (wt_B (wd_isi (by decide) (wd_var (d := p.d) rfl ⟨_, rfl, iteF' rfl ?_⟩))))))
  refine wt_or (wt_test (wd_op (wd_var rfl (wd_var rfl (rd_neSelf (Pg.sh hp) p.nb ⟨_, rfl, iteF' rfl ?_⟩)))))
  refine wt_or (wt_not (wt_B (wd_isi (by decide) (wd_op (wd_var rfl (wd_int (rd_pgB ⟨_, rfl, iteF' rfl ?_⟩)))))))
  refine wt_not (wt_B (wd_isi (by decide) (wd_op (wd_var rfl (wd_int (rd_pgR ⟨_, rfl, iteF' rfl (sj_next ?_)⟩))))))
  refine sj_cut (fun Γ' => ∃ s2, Γ' = [.dat false p.d, .dat false p.d, s2]) ?_ ?_
  · refine sj_for false (wi_list (wd_op (wd_var rfl (wd_int (rd_pgR ⟨_, rfl, fun i Γ' => ∃ s2, Γ' = [.dat false p.d, .dat false p.d, s2], ⟨.no, rfl⟩, ?_, fun Γ' h => h⟩)))))
    rintro i d Γ' hd ⟨s2, rfl⟩
    rw [List.getElem?_map] at hd
    cases hr : p.rows[i]? with
    | none => rw [hr] at hd; cases hd
    | some r =>
      rw [hr] at hd
      cases hd
      refine gj_name (sj_if (wt_or (wt_not (wt_B (wd_isi (by decide) (wd_var (d := r.d) rfl ⟨_, rfl, iteF' (by cases r <;> rfl) ?_⟩))))))
      refine wt_and (wt_test (wd_op (wd_op (wd_var rfl (wd_int (rd_rk (wd_str (rd_w (b := .pick) ⟨_, rfl, ?_⟩))))))))
      cases r with
      | set x t => exact iteF' rfl (iteF' rfl (sj_next ⟨_, rfl⟩))
      | need t => exact iteF' rfl (iteF' rfl (sj_next ⟨_, rfl⟩))
      | skip t n => exact iteF' rfl (iteF' rfl (sj_next ⟨_, rfl⟩))
      | give t => exact iteF' rfl (iteF' rfl (sj_next ⟨_, rfl⟩))
      | pick x ts => exact iteT' rfl (wt_not (wt_B (wd_isi (by decide) (wd_op (wd_var rfl (wd_int (rd_ixT (d := .list (ts.map Th.d)) rfl ⟨_, rfl, iteF' rfl (sj_next ⟨_, rfl⟩)⟩)))))))
  rintro _ ⟨s2, rfl⟩
  exact sj_retD true (wd_bl ⟨keep_dat (keep_dat keep_nil), q⟩)
theorem ok_marked (D : Def K mg "_law_marked" s_l_marked ["program"]) (m_enumerate : mg "enumerate" = none) : Cal P K.w K mg base CX0 (k + 1) "_law_marked" ["program"] (spD K (T_marked K)) := by
  refine cal_gD D sc_l_marked (fun Γ Qr ⟨v, m, bs, ra, lb, lr, e, _⟩ => by subst e; exact ⟨rfl, noMl_ex noMl_nil⟩) fun f cdv A outer s H E hr => ⟨_, wk_l_marked m_enumerate f cdv A outer s H E hr, ?_⟩
  rintro Γ Qr ⟨v, m, bs, ra, lb, lr, rfl, hbl, hrl, hts, nd, q⟩
  rw [pgA_ad] at nd
  obtain ⟨nd1, nd2⟩ := List.nodup_cons.mp nd
  obtain ⟨nd3, nd4⟩ := List.nodup_cons.mp nd2
  have e0 : pgA m bs ra lb lr = pgN m (bs.map PyData.str) (rwN ra 0) lb lr := by rw [rwN_0]; rfl
  have nbr : lb ≠ lr := fun e => nd1 (by rw [e]; exact List.mem_cons_self)
  let B : List PyData := bs.map PyData.str ++ [.str "mark"]
  have hB : lfA B = true := lfA_of fun d hd => by
    rcases List.mem_append.mp hd with z | z
    · obtain ⟨b, _, rfl⟩ := List.mem_map.mp z
      simp [lf]
    · rw [List.mem_singleton.mp z]; simp [lf]
  rw [e0]
  show SJ K [.ex v (AtO K (pgN m (bs.map PyData.str) (rwN ra 0) lb lr)), .no, .no] (t_l_marked K) _
  unfold t_l_marked
  refine sj_seq (sj_atApp (i := 0) (v := v) (a := lb) (es := bs.map PyData.str) rfl (.tup (d := listAt lb (bs.map PyData.str)) (by simp) .here) (fun _ e => nomatch e) (by rw [List.length_map]; omega) (ra_thaw (wd_op (wd_var rfl (wd_int (rd_ixT (d := listAt lb (bs.map PyData.str)) rfl ⟨_, rfl⟩))))) (wd_str ⟨by simp [npl], by simp [Pk.ad], ?_⟩))
  have e1 : mA lb (· ++ [.str "mark"]) (pgN m (bs.map PyData.str) (rwN ra 0) lb lr) = pgN m B (rwN ra 0) lb lr := by
    unfold pgN
    rw [mA_tup, mAs_map]
    simp only [List.map_cons, List.map_nil]
    rw [mA_at, mA_at, if_pos rfl, if_neg (Ne.symm nbr), mAs_lf _ (bs_lf bs), rwN_0, mAs_map]
    have e2 : (rwsA ra).map (mA lb (· ++ [.str "mark"])) = rwsA ra := by
      unfold rwsA
      rw [List.map_map]
      refine List.map_congr_left fun x hx => ?_
      show mA lb _ (rwA x.1 x.2) = _
      obtain ⟨j, hj⟩ := List.getElem?_of_mem hx
      rw [mA_rw, if_neg fun z => nd1 (List.mem_cons_of_mem _ (by rw [← z.2]; exact pk_mem hj z.1))]
    rw [e2]
    simp [mA, B]
  rw [e1]
  show SJ K [.ex v (AtO K (pgN m B (rwN ra 0) lb lr)), .no, .no] _ _
  have ocR : ∀ {n : Nat}, Oc lr (rwN ra n) (pgN m B (rwN ra n) lb lr) := fun {n} => .tup (d := listAt lr (rwN ra n)) (by simp) .here
  have raR : ∀ {n : Nat} {s1 s2 : Sl}, RA K [.ex v (AtO K (pgN m B (rwN ra n) lb lr)), s1, s2] (tOp (rIx K) (tVar 0) (tC (.int 2))) lr := fun {n s1 s2} => ra_thaw (wd_op (wd_var rfl (wd_int (rd_ixT (d := listAt lr (rwN ra n)) rfl ⟨_, rfl⟩))))
  refine sj_cut (fun Γ' => ∃ s1 s2, Γ' = [.ex v (AtO K (pgN m B (rwN ra ra.length) lb lr)), s1, s2]) ?_ ?_
  · refine sj_forEnAt (i := 0) (v := v) (l := lr) rfl ocR (rwN_npl ra 0) raR fun xs => ?_
    refine ⟨fun n Γ' => ∃ s1 s2, Γ' = [.ex v (AtP K (pgN m B (rwN ra n) lb lr) (some (lr, xs))), s1, s2], ⟨_, _, rfl⟩, ?_, ?_⟩
    · rintro n _ ⟨s1, s2, rfl⟩
      refine ⟨_, rfl, fun e => ⟨s1, s2, ?_⟩⟩
      rw [e, rwN_len]
      rfl
    · rintro n y _ hy ⟨s1, s2, rfl⟩
      rw [rwN_get] at hy
      cases hg : ra[n]? with
      | none => rw [hg] at hy; cases hy
      | some x =>
        rw [hg] at hy
        simp only [Option.map_some, Option.some.injEq, Nat.not_lt_zero, if_false] at hy
        subst hy
        obtain ⟨r, a⟩ := x
        refine gw_tupl rfl (gws_consW (gw_dat (by simp [lf]) (gws_consW (gw_wk fun v2 => gws_nilW ?_))))
        show SJ K [.ex v (AtP K (pgN m B (rwN ra n) lb lr) (some (lr, xs))), .dat false (.int (n : Int)), .ex v2 (WkO K (rwA r a))] _ _
        cases hp : isPk r with
        | true =>
          cases r with
          | pick x ts =>
            have hpx : isPk (Rw.pick x ts, a).1 = true := rfl
            have hal := pk_mem hg hpx
            have hlr : lr ≠ a := fun e => nd3 (by rw [e]; exact hal)
            have hlb : lb ≠ a := fun e => nd1 (List.mem_cons_of_mem _ (by rw [e]; exact hal))
            refine sj_if (wt_test (wd_op (wd_wkIx (j := 2) (v := v2) (ds := [.str "pick", .str x, listAt a (ts.map Th.d)]) (d := .str "pick") rfl rfl (by simp [lf]) (wd_str (rd_w (a := .pick) (b := .pick) ⟨_, rfl, iteT' rfl ?_⟩)))))
            have hoc : Oc a (ts.map Th.d) (pgN m B (rwN ra n) lb lr) := .tup (d := listAt lr (rwN ra n)) (by simp) (.lst (d := rwA (.pick x ts) a) (by
              refine List.mem_of_getElem? (i := n) ?_
              rw [rwN_get, hg]
              simp) (.tup (d := listAt a (ts.map Th.d)) (by simp) .here))
            have htl := hts _ (List.mem_of_getElem? hg) x ts rfl
            refine sj_atApp (i := 0) (v := v) (a := a) rfl hoc (fun q e => by cases e; exact hlr) (by rw [List.length_map]; omega) (ra_wkIx (j := 2) (v := v2) (ds := [.str "pick", .str x, listAt a (ts.map Th.d)]) (es := ts.map Th.d) rfl rfl) (wd_var (d := .int (n : Int)) rfl ⟨by simp [npl], by simp [Pk.ad], ?_⟩)
            refine ⟨.dat false (.int (n : Int)), .ex v2 (WkO K (rwA (.pick x ts) a)), ?_⟩
            rw [pgN_row hB hlb hlr, rwN_mark nd4 hg hpx]
            rfl
          | _ => cases hp
        | false =>
          have hne : r.kd ≠ .pick := fun e => by cases r <;> first | (cases e; done) | (cases hp; done)
          have key : ∀ ds : List PyData, r.d = .tuple (.str r.kd.w :: ds) → SJ K [.ex v (AtP K (pgN m B (rwN ra n) lb lr) (some (lr, xs))), .dat false (.int (n : Int)), .ex v2 (WkO K (rwA r a))] (tIfS (tTest (tOp (dEq K) (tOp (rIx K) (tVar 2) (tC (.int 0))) (tC (.str "pick")))) (tDrop (tBM K "list" rAppend (tOp (rIx K) (tVar 2) (tC (.int 2))) (tCons (tVar 1) tNil))) tNext) { nx := fun Γ' => ∃ s1 s2, Γ' = [.ex v (AtP K (pgN m B (rwN ra (n + 1)) lb lr) (some (lr, xs))), s1, s2], rt := (retD [.ex v (AtO K (pgA m bs ra lb lr))] Qr).rt, bk := fun _ => False, ct := fun Γ' => ∃ s1 s2, Γ' = [.ex v (AtP K (pgN m B (rwN ra (n + 1)) lb lr) (some (lr, xs))), s1, s2] } := fun ds e => by
            rw [rwA_no hp, e]
            refine sj_if (wt_test (wd_op (wd_wkIx (j := 2) (v := v2) (ds := .str r.kd.w :: ds) (d := .str r.kd.w) rfl (atI_of (n := 0) rfl rfl) (by simp [lf]) (wd_str (rd_w (a := r.kd) (b := .pick) ⟨_, rfl, iteF' (decide_eq_false hne) (sj_next ?_)⟩)))))
            exact ⟨_, _, by rw [rwN_skip hg hp]⟩
          rw [e0] at key
          cases r with
          | pick x ts => cases hp
          | set x t => exact key _ rfl
          | need t => exact key _ rfl
          | skip t j => exact key _ rfl
          | give t => exact key _ rfl
  rintro _ ⟨s1, s2, rfl⟩
  refine sj_seq (sj_atApp (i := 0) (v := v) (a := lr) rfl ocR (fun _ e => nomatch e) (by rw [rwN_len]; omega) raR (wd_non ⟨by simp [npl], by simp [Pk.ad], ?_⟩))
  refine sj_retExN (i := 0) (v := v) (K := K) rfl ⟨[.ex v (NilO K)], ⟨rfl, fun i => ?_⟩, keep_ex keep_nil, q _ ?_⟩
  · cases i with
    | zero => exact .inr ⟨_, _, _, rfl, rfl⟩
    | succ i => exact .inl rfl
  · unfold pgN
    rw [mA_tup, mAs_map]
    simp only [List.map_cons, List.map_nil]
    rw [mA_at, mA_at, if_neg nbr, if_pos rfl, pl_tup, plA_map]
    simp only [List.map_cons, List.map_nil]
    rw [pl_at, pl_at, mAs_lf _ hB, plA_lf _ hB]
    have e3 : mAs lr (· ++ [PyData.none]) (rwN ra ra.length) = rwN ra ra.length := by
      rw [mAs_map]
      apply List.ext_getElem?
      intro j
      rw [List.getElem?_map, rwN_get]
      cases hj : ra[j]? with
      | none => rfl
      | some x =>
        have hl : j < ra.length := (List.getElem?_eq_some_iff.mp hj).1
        simp only [Option.map_some]
        rw [if_pos hl, mA_mk fun hp e => nd3 (by rw [← e]; exact pk_mem hj hp)]
    rw [e3]
    have e4 : plA (rwN ra ra.length ++ [PyData.none]) = mkRs (ra.map Prod.fst) ++ [.none] := by
      rw [← rwN_end, plA_map, plA_map, List.map_append]
      rfl
    rw [e4]
    simp [mA, pl, mrkD, B]
end
end Dk
end
section
set_option Elab.async false
set_option linter.all false
set_option maxRecDepth 100000
set_option pp.maxSteps 600
open PySem L2 Pk
local macro_rules | `(tactic| walk_at "sh") => `(tactic| first | exact sh_int | exact sh_bool | exact sh_non | exact sh_nil | exact sh_str (by decide +kernel) | assumption)
local macro_rules | `(tactic| walk_at "v1") => `(tactic| first
  | (with_reducible refine wd_int ?_) | (with_reducible refine wd_str ?_) | (with_reducible refine wd_bl ?_) | (with_reducible refine wd_non ?_)
  | ((with_reducible apply wd_var); exact rfl) | ((with_reducible apply wd_varN); exact rfl)
  | ((with_reducible apply wd_ixm); exact rfl)
  | ((with_reducible apply wd_lenM); exact rfl) | ((with_reducible apply wd_lenScript); exact rfl) | ((with_reducible apply wd_ixScript); exact rfl)
  | (with_reducible refine wd_op ?_) | (with_reducible refine wd_un ?_)
  | (with_reducible refine rd_add ?_) | (with_reducible refine rd_sub ?_) | (with_reducible refine rd_lt ?_) | (with_reducible refine rd_le ?_) | (with_reducible refine rd_gt ?_) | (with_reducible refine rd_ge ?_) | (with_reducible refine ru_neg ?_)
  | ((with_reducible refine rd_eq ?ev_h ?ev_k ?_); (case ev_h => walk_at "sh"); (case ev_k => walk_at "sh")) | ((with_reducible refine rd_ne ?ev_h ?ev_k ?_); (case ev_h => walk_at "sh"); (case ev_k => walk_at "sh"))
  | ((with_reducible refine rd_mod ?ev_h ?_); case ev_h => first | decide | assumption | omega) | ((with_reducible refine rd_div ?ev_h ?ev_k ?_); (case ev_h => first | decide | assumption | omega); (case ev_k => first | decide | assumption | omega))
  | ((with_reducible refine rd_pow ?ev_h ?_); case ev_h => exact ⟨by decide, by decide, by decide⟩)
  | ((with_reducible refine rd_mul ?ev_h ?_); case ev_h => first | exact .inr ⟨by decide, by decide⟩ | exact .inl ⟨by decide, by decide⟩ | exact .inl ⟨by omega, by omega⟩ | exact .inr ⟨by omega, by omega⟩)
  | (with_reducible refine rc_lenL ?_) | (with_reducible refine rc_lenT ?_) | (with_reducible refine rc_max2 ?_) | (with_reducible refine rc_min2 ?_) | (with_reducible refine rc_intB ?_) | (with_reducible refine rc_intI ?_) | (with_reducible refine rc_listL ?_) | (with_reducible refine rc_listT ?_) | (with_reducible refine rc_tupleL ?_)
  | ((with_reducible apply rd_ixT); exact rfl)
  | ((with_reducible apply rd_ixL); exact rfl)
  | ((with_reducible refine wd_isi ?ev_h ?_); case ev_h => decide) | ((with_reducible refine wd_isi2 ?ev_h ?ev_k ?_); (case ev_h => decide); (case ev_k => decide))
  | (with_reducible refine wd_tup2 ?_) | (with_reducible refine wd_tup1 ?_) | (with_reducible refine wd_tup3 ?_) | (with_reducible refine wd_tup0 ?_)
  | (with_reducible refine wd_lst0 ?_) | (with_reducible refine wd_lst1 ?_) | (with_reducible refine wd_lst2 ?_) | (with_reducible refine wd_lst3 ?_) | (with_reducible refine wd_lst4 ?_) | (with_reducible refine wd_lst5 ?_) | (with_reducible refine wd_lst6 ?_)
  | ((with_reducible apply wd_callO0); exact rfl) | ((with_reducible apply wd_callO1); exact rfl) | ((with_reducible apply wd_callO2); exact rfl) | ((with_reducible apply wd_callO3); exact rfl)
  | (with_reducible refine wd_call1 ?_) | (with_reducible refine wd_call2 ?_) | (with_reducible refine wd_call3 ?_) | (with_reducible refine wd_call4 ?_) | (with_reducible refine wd_call0 ?_)
  | (with_reducible refine wd_cb1 ?_) | (with_reducible refine wd_cb2 ?_)
  | (with_reducible refine wd_rev ?_) | (with_reducible refine wd_lrg1 ?_) | (with_reducible refine wd_sl ?_) | (with_reducible refine wo_no ?_) | (with_reducible refine wo_some ?_)
  | (with_reducible refine wd_andV ?_) | (with_reducible refine wd_orV ?_) | (with_reducible refine wd_notV ?_) | (with_reducible refine wd_if ?_) | (with_reducible refine wd_chain ?_)
  | (with_reducible refine wt_test ?_) | (with_reducible refine wt_B ?_) | (with_reducible refine wt_not ?_) | (with_reducible refine wt_and ?_) | (with_reducible refine wt_or ?_) | (with_reducible refine wt_yes ?_)
  | (with_reducible refine gj_name ?_) | (with_reducible refine gj_tup rfl ?_) | (with_reducible refine gjs_cons ?_) | (with_reducible refine gjs_nil ?_))
local macro_rules | `(tactic| walk_at "v") => `(tactic| repeat walk_at "v1")
local macro_rules | `(tactic| walk_at "x") => `(tactic| refine ⟨_, rfl, ?_⟩)
local macro_rules | `(tactic| walk_at "vx") => `(tactic| repeat (first | walk_at "v1" | (with_reducible refine ⟨_, rfl, ?_⟩)))
namespace Dk
open PySem PySem.Spec PyProof.Rows L2 Pk Sy
theorem mrk_sh {m : Nat} {bs : List Str} {rows : List Rw} (hp : (Pg.mk m bs rows).Ok) : SeqAt.shaped (mrkD m bs rows) = true := sh_of (n := 9) (dep_up (mrk_dep hp) (by decide)) (by decide)
theorem szFree {r1 r2 : Nat} (h1 : r1 < 15) (h2 : r2 < 5) : SzOk (2 + r1) (1 + r2) := by
  refine ⟨by omega, by omega, by omega, by omega, ?_⟩
  calc (2 + r1) ^ (1 + r2) ≤ 16 ^ (1 + r2) := Nat.pow_le_pow_left (by omega) _
    _ ≤ 16 ^ 5 := Nat.pow_le_pow_right (by decide) (by omega)
    _ ≤ 2000000 := by decide
section
variable {K : Kw} {m : Bool} {v : V} {Γ : List Sl} {Q : PyData → List Sl → Prop} {EE : XK}
theorem gtakeI {i n many : Nat} (hi : Γ[i]? = some (.ex v (Pool K n))) (hn : n < MXP) (h0 : 0 < many) (h1 : many < 1000000) (q : ∀ r : Nat, r < many → Q (.int r) (Γ.set i (.ex v (Pool K (n + 1))))) : WDg K m Γ (tCall (spD K (T_ptake K)) [] EE (tCons (tVar i) (tCons (tC (.int (many : Int))) tNil))) Q :=
  wdg_callD (i := i) (v := v) hi (wag_d (wd_int (wag_nil ⟨Pool K n, hi, v, n, many, rfl, hn, h0, h1, fun r hr => ⟨Pool K (n + 1), rfl, asD_new (Q := fun d => Q d _) (q r hr)⟩⟩)))
end
section
variable {P : Program} {K : Kw} {mg : Str → Option Value} {base : Heap} {k : Nat}
theorem ok_law {f0 : Addr} {fd0 : FuncData} (F0 : Fun K "law" "law" s_law f0 fd0) (c_marked : Cal P K.w K mg base CX0 k "_law_marked" ["program"] (spD K (T_marked K))) (c_copy : Cal P K.w K mg base CX0 k "_law_copy" ["program"] (spG K (T_pcopyA K))) (c_isprog : Cal P K.w K mg base CX0 k "_law_is_program" ["found", "due"] (spG K (T_isprog K))) (c_rout : Cal P K.w K mg base CX0 k "row_out" ["program", "i"] (spG K (T_routA K))) (c_without : Cal P K.w K mg base CX0 k "_law_without" ["program", "i"] (spG K (T_rout K))) (c_skip : Cal P K.w K mg base CX0 k "_law_skipping" ["pool", "sizes", "most"] (spD K (T_pskip K))) (c_take : Cal P K.w K mg base CX0 k "_law_take" ["pool", "many"] (spD K (T_ptake K))) (c_pool : Cal P K.w K mg base CX0 k "_law_pool" ["script", "k"] (spG K (T_ppool K))) (m_range : mg "range" = none) (m_max : mg "max" = none) (m_min : mg "min" = none) (m_len : mg "len" = none) : FnOk P K.w K mg base CX0 (k + 1) f0 fd0 ["script"] (spG K (T_law K)) := by
  refine fnOk_g F0 sc_law (fun Γ Qr ⟨v, ns, e, _⟩ => by subst e; exact ⟨rfl, noMl_ex noMl_nil⟩) fun f cdv A outer s H E hr => ⟨_, wk_law c_marked c_copy c_isprog c_rout c_without c_skip c_take c_pool m_range m_max m_min m_len f cdv A outer s H E hr, ?_⟩
  rintro Γ Qr ⟨v, ns, rfl, hns, q⟩
  have hMX : MXP = 10000000 := rfl
  show SJ K [.ex v (ScriptO K ns), .no, .no, .no, .no, .no, .no, .no, .no, .no] (t_law K _ _ _ _ _ _ _ _) _
  unfold t_law
  refine sj_cut (fun Γ' => ∃ s1 s2 s3 s4 s5 s6 s7 s8 s9, Γ' = [.ex v (ScriptO K ns), s1, s2, s3, s4, s5, s6, s7, s8, s9]) ?_ ?_
  · refine sj_for false (wi_rng (wd_cb2 (wd_int (wd_cb2 (wd_int (wd_lenScript (v := v) rfl (rc_min2 (rc_max2 ?_))))))))
    have hk : max (1 : Int) (min 10 (ns.length : Int)) = ((max 1 (min 10 ns.length) : Nat) : Int) := by omega
    rw [hk]
    generalize hn : max 1 (min 10 ns.length) = n
    refine ⟨_, rfl, ⟨by omega, by omega⟩, fun i Γ' => ∃ s1 s2 s3 s4 s5 s6 s7 s8 s9, Γ' = [.ex v (ScriptO K ns), s1, s2, s3, s4, s5, s6, s7, s8, s9], ⟨.no, .no, .no, .no, .no, .no, .no, .no, .no, rfl⟩, ?_, fun Γ' h => h⟩
    rintro i d Γ' hd ⟨s1, s2, s3, s4, s5, s6, s7, s8, s9, rfl⟩
    obtain ⟨hi, rfl⟩ := rangeD_of hd
    obtain ⟨kk, hkk⟩ : ∃ kk : Int, kk = 0 + (i : Int) := ⟨_, rfl⟩
    rw [← hkk]
    refine gj_name (sj_seq (sj_setX (wx_callO1 (i := 0) (v := v) rfl (wd_var rfl ⟨v, ns, _, rfl, by omega, by omega, fun l a f s hs => ?_⟩))))
    refine sj_close 2 (l := l) (m := false) (ns := [a, f, s]) (PoP 60000) rfl hs ?_
    obtain ⟨u, hu⟩ : ∃ u : V, u = .ref l := ⟨_, rfl⟩
    rw [← hu]
    show SJ K [.ex v (ScriptO K ns), .dat false (.int kk), .ex u (Pool K 60000), s3, s4, s5, s6, s7, s8, s9] _ _
    refine sj_seq (sj_setGD false (wdg_tup (wag_cons (wdg_op (wdg_of (wd_int (gtakeI (many := 15) rfl (by omega) (by decide) (by decide) fun r1 hr1 => rd_add (wag_cons (wdg_op (wdg_of (wd_int (gtakeI (many := 5) rfl (by omega) (by decide) (by decide) fun r2 hr2 => rd_add (wag_nil ⟨le_lit rfl, ?_⟩)))))))))))))
    have e1 : (2 : Int) + (r1 : Int) = ((2 + r1 : Nat) : Int) := by omega
    have e2 : (1 : Int) + (r2 : Int) = ((1 + r2 : Nat) : Int) := by omega
    rw [e1, e2]
    have hsz := szFree hr1 hr2
    generalize 2 + r1 = m at hsz
    generalize 1 + r2 = many at hsz
    show SJ K [.ex v (ScriptO K ns), .dat false (.int kk), .ex u (Pool K 60002), .dat false (.tuple [.int m, .int many]), s4, s5, s6, s7, s8, s9] _ _
    refine sj_seq (sj_setGD false (wdg_callD (i := 2) (v := u) rfl (wag_d (wd_var rfl (wag_cons (wdg_op (wdg_of (wd_lst3 (wd_int (wd_int (wd_int (gtakeI (many := 3) rfl (by omega) (by decide) (by decide) fun r4 hr4 => rd_sel (by omega) (by simp; omega) fun d hd => wag_nil ?_))))))))))) )
    obtain ⟨most, hm1, hm30, rfl⟩ : ∃ n : Nat, 1 ≤ n ∧ n ≤ 30 ∧ d = .int n := by
      simp at hd
      rcases hd with z | z | z
      · exact ⟨5, by decide, by decide, z⟩
      · exact ⟨12, by decide, by decide, z⟩
      · exact ⟨30, by decide, by decide, z⟩
    refine ⟨Pool K 60003, rfl, u, 60003, m, many, most, rfl, hsz, hm1, hm30, by omega, fun p n' hp hm hb hr hn' => ⟨Pool K n', rfl, asD_dat (Q := fun d => _) ?_⟩⟩
    have h30 := hp.r30
    show SJ K [.ex v (ScriptO K ns), .dat false (.int kk), .ex u (Pool K n'), .dat false (.tuple [.int m, .int many]), .dat false p.d, s5, s6, s7, s8, s9] _ _
    refine sj_seq (sj_setX (wx_call1 (wd_var rfl ⟨p, rfl, hp, fun ra lb lr v5 hra _ => ?_⟩)))
    refine sj_frzE 5 (v := v5) (Φ := AtO K (pgA p.m p.bs ra lb lr)) (d := pgA p.m p.bs ra lb lr) rfl rfl ?_
    refine sj_plV 5 (m := false) (d := pgA p.m p.bs ra lb lr) rfl ?_
    rw [pgA_pl, hra]
    show SJ K [.ex v (ScriptO K ns), .dat false (.int kk), .ex u (Pool K n'), .dat false (.tuple [.int m, .int many]), .dat false p.d, .dat false p.d, s6, s7, s8, s9] _ _
    refine sj_for false (wi_rng (wd_cb1 (wd_op (wd_var rfl (wd_int (rd_pgR (rc_lenL ⟨_, rfl, ⟨by rw [List.length_map]; omega, by rw [List.length_map]; omega⟩, fun j Γ' => ∃ s6 s7 s8 s9, Γ' = [.ex v (ScriptO K ns), .dat false (.int kk), .ex u (Pool K n'), .dat false (.tuple [.int m, .int many]), .dat false p.d, .dat false p.d, s6, s7, s8, s9], ⟨s6, s7, s8, s9, rfl⟩, ?_, ?_⟩)))))))
    · rintro j d Γ' hd ⟨s6, s7, s8, s9, rfl⟩
      obtain ⟨hj, rfl⟩ := rangeD_of hd
      rw [List.length_map] at hj
      have hj' : j < p.rows.length := by omega
      rw [Int.zero_add]
      have hro := rout_ok hp hj'
      refine gj_name (sj_seq (sj_set false (wd_call2 (wd_var rfl (wd_var (d := .int (j : Int)) rfl ⟨p, j, rfl, hp, hj', asD_dat ?_⟩)))))
      show SJ K [.ex v (ScriptO K ns), .dat false (.int kk), .ex u (Pool K n'), .dat false (.tuple [.int m, .int many]), .dat false p.d, .dat false p.d, .dat false (.int (j : Int)), .dat false (rout p j).d, s8, s9] _ _
      refine sj_for false (wi_rng (wd_int ⟨_, rfl, ⟨by omega, by omega⟩, fun z Γ' => ∃ s8 s9, Γ' = [.ex v (ScriptO K ns), .dat false (.int kk), .ex u (Pool K n'), .dat false (.tuple [.int m, .int many]), .dat false p.d, .dat false p.d, .dat false (.int (j : Int)), .dat false (rout p j).d, s8, s9], ⟨s8, s9, rfl⟩, ?_, ?_⟩))
      · rintro z d Γ' hd ⟨s8, s9, rfl⟩
        obtain ⟨hz, rfl⟩ := rangeD_of hd
        refine gj_name (sj_seq (sj_setX (wx_call2 (wd_var rfl (wd_var (d := .int (j : Int)) rfl ⟨p, j, rfl, hp, hj', fun ra2 lb2 lr2 v9 hra2 nd2 => ?_⟩)))))
        show SJ K [.ex v (ScriptO K ns), .dat false (.int kk), .ex u (Pool K n'), .dat false (.tuple [.int m, .int many]), .dat false p.d, .dat false p.d, .dat false (.int (j : Int)), .dat false (rout p j).d, .dat false (.int (0 + (z : Int))), .ex v9 (AtO K (pgA p.m p.bs ra2 lb2 lr2))] _ _
        have epg : (Pg.mk p.m p.bs (ra2.map Prod.fst)).d = (rout p j).d := by rw [hra2]; rfl
        refine sj_seq (sj_if (wt_thaw (wt_or (wt_not (wt_B (wd_call2 (wd_pl (wd_var rfl (wd_var rfl ?_)))))))))
        rw [pgA_pl, epg]
        refine ⟨rout p j, rfl, hro, asD_new ⟨_, rfl, iteF' rfl ?_⟩⟩
        refine wt_test (wd_op (wd_var rfl (wd_var rfl (rd_neSelf (Pg.sh hp) p.nb ⟨_, rfl, iteF' rfl (sj_next ?_)⟩))))
        have len5 := hp.bs.len5
        have hrl : (rout p j).rows.length ≤ 30 := hro.r30
        have h2 : ra2.length ≤ 1000 := by
          have := congrArg List.length hra2
          rw [List.length_map] at this
          omega
        have ts5 : ∀ (ra : List (Rw × Addr)), ra.map Prod.fst = (rout p j).rows → ∀ x ∈ ra, ∀ y ts, x.1 = .pick y ts → ts.length ≤ 1000 := fun ra hra x hx y ts e => by
          have hm : Rw.pick y ts ∈ (rout p j).rows := by
            rw [← hra, ← e]
            exact List.mem_map_of_mem hx
          have := (hro.rows _ hm).2.2.1
          omega
        refine sj_ifG (wtg_or (wtg_test (wdg_op (wdg_pl (wdg_callD (i := 9) (v := v9) rfl (wag_nil ⟨_, rfl, v9, p.m, p.bs, ra2, lb2, lr2, rfl, by omega, h2, ts5 ra2 hra2, nd2, fun d9 hd9 => ⟨NilO K, rfl, d9, rfl, ?_⟩⟩))))))
        rw [hd9, hra2]
        refine wdg_of (wd_pl (wd_callE (wx_call1 (wd_var (d := (rout p j).d) rfl ⟨rout p j, rfl, hro, fun ra3 lb3 lr3 v3 hra3 nd3 => ⟨v3, _, rfl, v3, p.m, p.bs, ra3, lb3, lr3, rfl, by omega, ?_, ts5 ra3 hra3, nd3, fun d3 hd3 => ⟨NilO K, rfl, d3, rfl, ?_⟩⟩⟩))))
        · have := congrArg List.length hra3
          rw [List.length_map] at this
          omega
        rw [hd3, hra3]
        refine rd_neSelf (mrk_sh (m := p.m) (bs := p.bs) hro) (mrk_nb _ _ _) ⟨_, rfl, iteF' rfl ?_⟩
        refine wtg_of (wt_test (wd_op (wd_var rfl (wd_var rfl (rd_neSelf (Pg.sh hp) p.nb ⟨_, rfl, iteF' rfl (sj_next ⟨_, _, rfl⟩)⟩)))))
      · rintro Γ' ⟨s8, s9, rfl⟩
        exact ⟨_, _, _, _, rfl⟩
    · rintro Γ' ⟨s6, s7, s8, s9, rfl⟩
      exact ⟨_, _, _, _, _, _, _, _, _, rfl⟩
  rintro _ ⟨s1, s2, s3, s4, s5, s6, s7, s8, s9, rfl⟩
  exact sj_retD true (wd_bl ⟨keep_ex keep_nil, q⟩)
end
end Dk
end
section
set_option Elab.async false
set_option linter.all false
set_option maxRecDepth 100000
namespace Ch
open PySem PySem.Spec PyProof.Rows L2 Pk Sy
structure Fx (K : PySem.W.Frag) (mg : Str → Option Value) : Prop where
  D_copied_row : Def K mg "copied_row" s_copied_row ["row"]
  D_program_of : Def K mg "program_of" s_program_of ["program", "rows"]
  D_row_behind_out : Def K mg "row_behind_out" s_row_behind_out ["program", "r", "i"]
  D_row_out : Def K mg "row_out" s_row_out ["program", "i"]
  D_l_pool : Def K mg "_law_pool" s_l_pool ["script", "k"]
  D_l_take : Def K mg "_law_take" s_l_take ["pool", "many"]
  D_l_boxes : Def K mg "_law_boxes" s_l_boxes ["pool", "many"]
  D_l_thing : Def K mg "_law_thing" s_l_thing ["pool", "m", "boxes", "deep"]
  D_l_row : Def K mg "_law_row" s_l_row ["pool", "m", "boxes"]
  D_l_sizes : Def K mg "_law_sizes" s_l_sizes ["pool"]
  D_l_program : Def K mg "_law_program" s_l_program ["pool", "sizes", "most"]
  D_l_near : Def K mg "_law_near" s_l_near ["pool", "program"]
  D_l_copy : Def K mg "_law_copy" s_l_copy ["program"]
  D_l_without : Def K mg "_law_without" s_l_without ["program", "i"]
  D_l_skipping : Def K mg "_law_skipping" s_l_skipping ["pool", "sizes", "most"]
  D_l_is_program : Def K mg "_law_is_program" s_l_is_program ["found", "due"]
  D_l_marked : Def K mg "_law_marked" s_l_marked ["program"]
  m_list : mg "list" = none
  m_range : mg "range" = none
  m_len : mg "len" = none
  m_isinstance : mg "isinstance" = none
  m_bool : mg "bool" = none
  m_int : mg "int" = none
  m_min : mg "min" = none
  m_enumerate : mg "enumerate" = none
  m_tuple : mg "tuple" = none
  m_max : mg "max" = none
end Ch
end
section
set_option Elab.async false
set_option linter.all false
set_option maxRecDepth 100000
namespace Ch
open PySem PySem.Spec PyProof.Rows L2 Pk Sy Dk
theorem chain {P : Program} {w : World} {K : PySem.W.Frag} {mg : Str → Option Value} {base : Heap} {f : Addr} {fd : FuncData} (F0 : Fun K "law" "law" s_law f fd) (x : Fx K mg) : FnOk P w K mg base CX0 16 f fd ["script"] (spG ⟨K, w⟩ (T_law ⟨K, w⟩)) := by
  obtain ⟨KK, rfl, rfl⟩ : ∃ KK : Kw, KK.K = K ∧ KK.w = w := ⟨⟨K, w⟩, rfl, rfl⟩
  have h_l_pool := ok_ppool (P := P) (K := KK) (base := base) (k := 0) x.D_l_pool x.m_len
  have h_l_take := ok_ptake (P := P) (K := KK) (base := base) (k := 0) x.D_l_take 
  have h_l_boxes := ok_pboxes (k := 1) x.D_l_boxes h_l_take x.m_range x.m_len
  have h_l_thing := ok_pthing (k := 1) x.D_l_thing h_l_take x.m_len x.m_min 4
  have h_l_row := ok_prow (k := 5) x.D_l_row h_l_thing (h_l_take.mono (by decide)) x.m_len x.m_range
  have h_l_program := ok_pprogram (k := 6) x.D_l_program (h_l_take.mono (by decide)) (h_l_thing.mono (by decide)) h_l_row (h_l_boxes.mono (by decide)) x.m_range
  have h_l_skipping := ok_pskip (k := 7) x.D_l_skipping (h_l_take.mono (by decide)) (h_l_thing.mono (by decide)) h_l_program
  have h_row_behind_out := ok_rbo (P := P) (K := KK) (base := base) (k := 0) x.D_row_behind_out 
  have h_l_without := ok_without (P := P) (K := KK) (base := base) (k := 0) x.D_l_without x.m_list x.m_enumerate x.m_int
  have h_copied_row := ok_copiedA (P := P) (K := KK) (base := base) (k := 0) x.D_copied_row x.m_list
  have h_program_of := ok_progofA (k := 1) x.D_program_of h_copied_row x.m_list
  have h_row_out := ok_routA (k := 2) x.D_row_out h_program_of (h_row_behind_out.mono (by decide)) x.m_range x.m_len x.m_isinstance x.m_bool x.m_int
  have h_l_copy := ok_pcopyA (P := P) (K := KK) (base := base) (k := 0) x.D_l_copy x.m_list
  have h_l_is_program := ok_isprogL (P := P) (K := KK) (base := base) (k := 0) x.D_l_is_program x.m_isinstance x.m_list x.m_tuple
  have h_l_marked := ok_marked (P := P) (K := KK) (base := base) (k := 0) x.D_l_marked x.m_enumerate
  exact ok_law (k := 15) F0 (h_l_marked.mono (by decide)) (h_l_copy.mono (by decide)) (h_l_is_program.mono (by decide)) (h_row_out.mono (by decide)) (h_l_without.mono (by decide)) (h_l_skipping.mono (by decide)) (h_l_take.mono (by decide)) (h_l_pool.mono (by decide)) x.m_range x.m_max x.m_min x.m_len
end Ch
end
section
set_option Elab.async false
set_option linter.all false
set_option maxRecDepth 100000
set_option maxHeartbeats 0
namespace Hd
open PySem PySem.Spec PyProof.Rows L2 Pk Sy Ch
def d_copied_row : He.DefD := ⟨("copied_row", none), "copied_row", "copied_row", defArgs s_copied_row, defBody s_copied_row, defScope s_copied_row, [], []⟩
def d_program_of : He.DefD := ⟨("program_of", none), "program_of", "program_of", defArgs s_program_of, defBody s_program_of, defScope s_program_of, [], []⟩
def d_row_behind_out : He.DefD := ⟨("row_behind_out", none), "row_behind_out", "row_behind_out", defArgs s_row_behind_out, defBody s_row_behind_out, defScope s_row_behind_out, [], []⟩
def d_row_out : He.DefD := ⟨("row_out", none), "row_out", "row_out", defArgs s_row_out, defBody s_row_out, defScope s_row_out, [], []⟩
def d_l_pool : He.DefD := ⟨("_law_pool", none), "_law_pool", "_law_pool", defArgs s_l_pool, defBody s_l_pool, defScope s_l_pool, [], []⟩
def d_l_take : He.DefD := ⟨("_law_take", none), "_law_take", "_law_take", defArgs s_l_take, defBody s_l_take, defScope s_l_take, [], []⟩
def d_l_boxes : He.DefD := ⟨("_law_boxes", none), "_law_boxes", "_law_boxes", defArgs s_l_boxes, defBody s_l_boxes, defScope s_l_boxes, [], []⟩
def d_l_thing : He.DefD := ⟨("_law_thing", none), "_law_thing", "_law_thing", defArgs s_l_thing, defBody s_l_thing, defScope s_l_thing, [], []⟩
def d_l_row : He.DefD := ⟨("_law_row", none), "_law_row", "_law_row", defArgs s_l_row, defBody s_l_row, defScope s_l_row, [], []⟩
def d_l_sizes : He.DefD := ⟨("_law_sizes", none), "_law_sizes", "_law_sizes", defArgs s_l_sizes, defBody s_l_sizes, defScope s_l_sizes, [], []⟩
def d_l_program : He.DefD := ⟨("_law_program", none), "_law_program", "_law_program", defArgs s_l_program, defBody s_l_program, defScope s_l_program, [], []⟩
def d_l_near : He.DefD := ⟨("_law_near", none), "_law_near", "_law_near", defArgs s_l_near, defBody s_l_near, defScope s_l_near, [], []⟩
def d_l_copy : He.DefD := ⟨("_law_copy", none), "_law_copy", "_law_copy", defArgs s_l_copy, defBody s_l_copy, defScope s_l_copy, [], []⟩
def d_l_without : He.DefD := ⟨("_law_without", none), "_law_without", "_law_without", defArgs s_l_without, defBody s_l_without, defScope s_l_without, [], []⟩
def d_l_skipping : He.DefD := ⟨("_law_skipping", none), "_law_skipping", "_law_skipping", defArgs s_l_skipping, defBody s_l_skipping, defScope s_l_skipping, [], []⟩
def d_l_is_program : He.DefD := ⟨("_law_is_program", none), "_law_is_program", "_law_is_program", defArgs s_l_is_program, defBody s_l_is_program, defScope s_l_is_program, [], []⟩
def d_l_marked : He.DefD := ⟨("_law_marked", none), "_law_marked", "_law_marked", defArgs s_l_marked, defBody s_l_marked, defScope s_l_marked, [], []⟩
def d_law : He.DefD := ⟨("law", none), "law", "law", defArgs s_law, defBody s_law, defScope s_law, [], []⟩
def fn : List He.DefD := [d_copied_row, d_program_of, d_row_behind_out, d_row_out, d_l_pool, d_l_take, d_l_boxes, d_l_thing, d_l_row, d_l_sizes, d_l_program, d_l_near, d_l_copy, d_l_without, d_l_skipping, d_l_is_program, d_l_marked, d_law]
def fa : List He.Fa := [.glo "copied_row", .glo "program_of", .glo "row_behind_out", .glo "row_out", .glo "_law_pool", .glo "_law_take", .glo "_law_boxes", .glo "_law_thing", .glo "_law_row", .glo "_law_sizes", .glo "_law_program", .glo "_law_near", .glo "_law_copy", .glo "_law_without", .glo "_law_skipping", .glo "_law_is_program", .glo "_law_marked", .glo "law", .free "list", .free "range", .free "len", .free "isinstance", .free "bool", .free "int", .free "min", .free "enumerate", .free "tuple", .free "max"]
abbrev R : PySem.W.OpenRow := PySem.W.OpenLaw.row PySem.Challenge.rw_pickruns_k56_rows_taken_out
abbrev hk : PySem.W.Hook := He.hookD 4 fa fn
def ob (s : PySem.W.SharedT) : He.AlD := He.obsDG 4 fa fn (HandSHeadRun.getT s)
theorem ob_eq (s : PySem.W.SharedT) : ob s = hk.obs s.abs := He.obsDG_eq (HandSHeadRun.getT_eq s)
def loose : List PySem.Str := [("RunError" : PySem.Str), ("NoNumber" : PySem.Str), ("copied_row" : PySem.Str), ("program_of" : PySem.Str), ("row_behind_out" : PySem.Str), ("row_out" : PySem.Str), ("_law_pool" : PySem.Str), ("_law_take" : PySem.Str), ("_law_boxes" : PySem.Str), ("_law_thing" : PySem.Str), ("_law_row" : PySem.Str), ("_law_sizes" : PySem.Str), ("_law_program" : PySem.Str), ("_law_near" : PySem.Str), ("_law_copy" : PySem.Str), ("_law_without" : PySem.Str), ("_law_skipping" : PySem.Str), ("_law_is_program" : PySem.Str), ("_law_marked" : PySem.Str)]
theorem run (w : World) : HandSHeadRun.RunEq R (PySem.W.view R.prog [22]) hk ob 12000 loose w := by
  intro os
  kernel_rfl
section
variable {K : PySem.W.Frag} {h : Heap} {mg : Str → Option Value}
theorem D_copied_row (X : K.In h) (G : h.Ns mainGlobals mg) (c : He.SaysD fa fn K) : Def K mg "copied_row" s_copied_row ["row"] := by
  obtain ⟨fd, F⟩ := c.def_ 0 (d := d_copied_row) rfl
  have F' : Fun K "copied_row" "copied_row" s_copied_row _ fd := He5.fun_of F
  exact ⟨_, fd, He.glo_ok X G (c.fact 0 (f := .glo "copied_row") rfl), F', F'.binds (ps := ["row"]) fun _ _ _ _ _ _ us hl => match us, hl with | [_], _ => rfl⟩
theorem D_program_of (X : K.In h) (G : h.Ns mainGlobals mg) (c : He.SaysD fa fn K) : Def K mg "program_of" s_program_of ["program", "rows"] := by
  obtain ⟨fd, F⟩ := c.def_ 1 (d := d_program_of) rfl
  have F' : Fun K "program_of" "program_of" s_program_of _ fd := He5.fun_of F
  exact ⟨_, fd, He.glo_ok X G (c.fact 1 (f := .glo "program_of") rfl), F', F'.binds (ps := ["program", "rows"]) fun _ _ _ _ _ _ us hl => match us, hl with | [_, _], _ => rfl⟩
theorem D_row_behind_out (X : K.In h) (G : h.Ns mainGlobals mg) (c : He.SaysD fa fn K) : Def K mg "row_behind_out" s_row_behind_out ["program", "r", "i"] := by
  obtain ⟨fd, F⟩ := c.def_ 2 (d := d_row_behind_out) rfl
  have F' : Fun K "row_behind_out" "row_behind_out" s_row_behind_out _ fd := He5.fun_of F
  exact ⟨_, fd, He.glo_ok X G (c.fact 2 (f := .glo "row_behind_out") rfl), F', F'.binds (ps := ["program", "r", "i"]) fun _ _ _ _ _ _ us hl => match us, hl with | [_, _, _], _ => rfl⟩
theorem D_row_out (X : K.In h) (G : h.Ns mainGlobals mg) (c : He.SaysD fa fn K) : Def K mg "row_out" s_row_out ["program", "i"] := by
  obtain ⟨fd, F⟩ := c.def_ 3 (d := d_row_out) rfl
  have F' : Fun K "row_out" "row_out" s_row_out _ fd := He5.fun_of F
  exact ⟨_, fd, He.glo_ok X G (c.fact 3 (f := .glo "row_out") rfl), F', F'.binds (ps := ["program", "i"]) fun _ _ _ _ _ _ us hl => match us, hl with | [_, _], _ => rfl⟩
theorem D_l_pool (X : K.In h) (G : h.Ns mainGlobals mg) (c : He.SaysD fa fn K) : Def K mg "_law_pool" s_l_pool ["script", "k"] := by
  obtain ⟨fd, F⟩ := c.def_ 4 (d := d_l_pool) rfl
  have F' : Fun K "_law_pool" "_law_pool" s_l_pool _ fd := He5.fun_of F
  exact ⟨_, fd, He.glo_ok X G (c.fact 4 (f := .glo "_law_pool") rfl), F', F'.binds (ps := ["script", "k"]) fun _ _ _ _ _ _ us hl => match us, hl with | [_, _], _ => rfl⟩
theorem D_l_take (X : K.In h) (G : h.Ns mainGlobals mg) (c : He.SaysD fa fn K) : Def K mg "_law_take" s_l_take ["pool", "many"] := by
  obtain ⟨fd, F⟩ := c.def_ 5 (d := d_l_take) rfl
  have F' : Fun K "_law_take" "_law_take" s_l_take _ fd := He5.fun_of F
  exact ⟨_, fd, He.glo_ok X G (c.fact 5 (f := .glo "_law_take") rfl), F', F'.binds (ps := ["pool", "many"]) fun _ _ _ _ _ _ us hl => match us, hl with | [_, _], _ => rfl⟩
theorem D_l_boxes (X : K.In h) (G : h.Ns mainGlobals mg) (c : He.SaysD fa fn K) : Def K mg "_law_boxes" s_l_boxes ["pool", "many"] := by
  obtain ⟨fd, F⟩ := c.def_ 6 (d := d_l_boxes) rfl
  have F' : Fun K "_law_boxes" "_law_boxes" s_l_boxes _ fd := He5.fun_of F
  exact ⟨_, fd, He.glo_ok X G (c.fact 6 (f := .glo "_law_boxes") rfl), F', F'.binds (ps := ["pool", "many"]) fun _ _ _ _ _ _ us hl => match us, hl with | [_, _], _ => rfl⟩
theorem D_l_thing (X : K.In h) (G : h.Ns mainGlobals mg) (c : He.SaysD fa fn K) : Def K mg "_law_thing" s_l_thing ["pool", "m", "boxes", "deep"] := by
  obtain ⟨fd, F⟩ := c.def_ 7 (d := d_l_thing) rfl
  have F' : Fun K "_law_thing" "_law_thing" s_l_thing _ fd := He5.fun_of F
  exact ⟨_, fd, He.glo_ok X G (c.fact 7 (f := .glo "_law_thing") rfl), F', F'.binds (ps := ["pool", "m", "boxes", "deep"]) fun _ _ _ _ _ _ us hl => match us, hl with | [_, _, _, _], _ => rfl⟩
theorem D_l_row (X : K.In h) (G : h.Ns mainGlobals mg) (c : He.SaysD fa fn K) : Def K mg "_law_row" s_l_row ["pool", "m", "boxes"] := by
  obtain ⟨fd, F⟩ := c.def_ 8 (d := d_l_row) rfl
  have F' : Fun K "_law_row" "_law_row" s_l_row _ fd := He5.fun_of F
  exact ⟨_, fd, He.glo_ok X G (c.fact 8 (f := .glo "_law_row") rfl), F', F'.binds (ps := ["pool", "m", "boxes"]) fun _ _ _ _ _ _ us hl => match us, hl with | [_, _, _], _ => rfl⟩
theorem D_l_sizes (X : K.In h) (G : h.Ns mainGlobals mg) (c : He.SaysD fa fn K) : Def K mg "_law_sizes" s_l_sizes ["pool"] := by
  obtain ⟨fd, F⟩ := c.def_ 9 (d := d_l_sizes) rfl
  have F' : Fun K "_law_sizes" "_law_sizes" s_l_sizes _ fd := He5.fun_of F
  exact ⟨_, fd, He.glo_ok X G (c.fact 9 (f := .glo "_law_sizes") rfl), F', F'.binds (ps := ["pool"]) fun _ _ _ _ _ _ us hl => match us, hl with | [_], _ => rfl⟩
theorem D_l_program (X : K.In h) (G : h.Ns mainGlobals mg) (c : He.SaysD fa fn K) : Def K mg "_law_program" s_l_program ["pool", "sizes", "most"] := by
  obtain ⟨fd, F⟩ := c.def_ 10 (d := d_l_program) rfl
  have F' : Fun K "_law_program" "_law_program" s_l_program _ fd := He5.fun_of F
  exact ⟨_, fd, He.glo_ok X G (c.fact 10 (f := .glo "_law_program") rfl), F', F'.binds (ps := ["pool", "sizes", "most"]) fun _ _ _ _ _ _ us hl => match us, hl with | [_, _, _], _ => rfl⟩
theorem D_l_near (X : K.In h) (G : h.Ns mainGlobals mg) (c : He.SaysD fa fn K) : Def K mg "_law_near" s_l_near ["pool", "program"] := by
  obtain ⟨fd, F⟩ := c.def_ 11 (d := d_l_near) rfl
  have F' : Fun K "_law_near" "_law_near" s_l_near _ fd := He5.fun_of F
  exact ⟨_, fd, He.glo_ok X G (c.fact 11 (f := .glo "_law_near") rfl), F', F'.binds (ps := ["pool", "program"]) fun _ _ _ _ _ _ us hl => match us, hl with | [_, _], _ => rfl⟩
theorem D_l_copy (X : K.In h) (G : h.Ns mainGlobals mg) (c : He.SaysD fa fn K) : Def K mg "_law_copy" s_l_copy ["program"] := by
  obtain ⟨fd, F⟩ := c.def_ 12 (d := d_l_copy) rfl
  have F' : Fun K "_law_copy" "_law_copy" s_l_copy _ fd := He5.fun_of F
  exact ⟨_, fd, He.glo_ok X G (c.fact 12 (f := .glo "_law_copy") rfl), F', F'.binds (ps := ["program"]) fun _ _ _ _ _ _ us hl => match us, hl with | [_], _ => rfl⟩
theorem D_l_without (X : K.In h) (G : h.Ns mainGlobals mg) (c : He.SaysD fa fn K) : Def K mg "_law_without" s_l_without ["program", "i"] := by
  obtain ⟨fd, F⟩ := c.def_ 13 (d := d_l_without) rfl
  have F' : Fun K "_law_without" "_law_without" s_l_without _ fd := He5.fun_of F
  exact ⟨_, fd, He.glo_ok X G (c.fact 13 (f := .glo "_law_without") rfl), F', F'.binds (ps := ["program", "i"]) fun _ _ _ _ _ _ us hl => match us, hl with | [_, _], _ => rfl⟩
theorem D_l_skipping (X : K.In h) (G : h.Ns mainGlobals mg) (c : He.SaysD fa fn K) : Def K mg "_law_skipping" s_l_skipping ["pool", "sizes", "most"] := by
  obtain ⟨fd, F⟩ := c.def_ 14 (d := d_l_skipping) rfl
  have F' : Fun K "_law_skipping" "_law_skipping" s_l_skipping _ fd := He5.fun_of F
  exact ⟨_, fd, He.glo_ok X G (c.fact 14 (f := .glo "_law_skipping") rfl), F', F'.binds (ps := ["pool", "sizes", "most"]) fun _ _ _ _ _ _ us hl => match us, hl with | [_, _, _], _ => rfl⟩
theorem D_l_is_program (X : K.In h) (G : h.Ns mainGlobals mg) (c : He.SaysD fa fn K) : Def K mg "_law_is_program" s_l_is_program ["found", "due"] := by
  obtain ⟨fd, F⟩ := c.def_ 15 (d := d_l_is_program) rfl
  have F' : Fun K "_law_is_program" "_law_is_program" s_l_is_program _ fd := He5.fun_of F
  exact ⟨_, fd, He.glo_ok X G (c.fact 15 (f := .glo "_law_is_program") rfl), F', F'.binds (ps := ["found", "due"]) fun _ _ _ _ _ _ us hl => match us, hl with | [_, _], _ => rfl⟩
theorem D_l_marked (X : K.In h) (G : h.Ns mainGlobals mg) (c : He.SaysD fa fn K) : Def K mg "_law_marked" s_l_marked ["program"] := by
  obtain ⟨fd, F⟩ := c.def_ 16 (d := d_l_marked) rfl
  have F' : Fun K "_law_marked" "_law_marked" s_l_marked _ fd := He5.fun_of F
  exact ⟨_, fd, He.glo_ok X G (c.fact 16 (f := .glo "_law_marked") rfl), F', F'.binds (ps := ["program"]) fun _ _ _ _ _ _ us hl => match us, hl with | [_], _ => rfl⟩
theorem fx (X : K.In h) (G : h.Ns mainGlobals mg) (c : He.SaysD fa fn K) : Fx K mg := ⟨D_copied_row X G c,
  D_program_of X G c,
  D_row_behind_out X G c,
  D_row_out X G c,
  D_l_pool X G c,
  D_l_take X G c,
  D_l_boxes X G c,
  D_l_thing X G c,
  D_l_row X G c,
  D_l_sizes X G c,
  D_l_program X G c,
  D_l_near X G c,
  D_l_copy X G c,
  D_l_without X G c,
  D_l_skipping X G c,
  D_l_is_program X G c,
  D_l_marked X G c,
  He.free_ok X G (c.fact 18 (f := .free "list") rfl),
  He.free_ok X G (c.fact 19 (f := .free "range") rfl),
  He.free_ok X G (c.fact 20 (f := .free "len") rfl),
  He.free_ok X G (c.fact 21 (f := .free "isinstance") rfl),
  He.free_ok X G (c.fact 22 (f := .free "bool") rfl),
  He.free_ok X G (c.fact 23 (f := .free "int") rfl),
  He.free_ok X G (c.fact 24 (f := .free "min") rfl),
  He.free_ok X G (c.fact 25 (f := .free "enumerate") rfl),
  He.free_ok X G (c.fact 26 (f := .free "tuple") rfl),
  He.free_ok X G (c.fact 27 (f := .free "max") rfl)⟩
theorem facts {P : Program} {w : World} {f : Addr} (X : K.In h) (G : h.Ns mainGlobals mg) (hfa : mg ("law" : Str) = some (.ref f)) (c : He.SaysD fa fn K) :
    ∃ fd : FuncData, (∀ (s : Shared) (v : Value), BindsTo s fd ⟨[v], []⟩ [("script", v)]) ∧ ∀ base : Heap, K.In base → base.Ns mainGlobals mg → FnOk P w K mg base CX0 16 f fd ["script"] (spG ⟨K, w⟩ (T_law ⟨K, w⟩)) := by
  obtain ⟨fd, F⟩ := c.def_ 17 (d := d_law) rfl
  have e := hfa.symm.trans (He.glo_ok X G (c.fact 17 (f := .glo "law") rfl))
  cases e
  have b := FunD.bindsA (ps := ["script"]) F fun _ _ _ _ _ _ us hl => match us, hl with | [_], _ => rfl
  have F' : Fun K "law" "law" s_law _ fd := He5.fun_of F
  exact ⟨fd, fun s v => b s [v] rfl, fun base _ _ => chain F' (fx X G c)⟩
end
end Hd
open PySem PySem.W PySem.Calls PyProof.Rows
theorem PySem.Challenge.cw_pickruns_k56_rows_taken_out_holds : PySem.Challenge.rw_pickruns_k56_rows_taken_out.Holds := by
  w_on; o_law
  refine HandSHeadRun.head_any (r := OpenLaw.row PySem.Challenge.rw_pickruns_k56_rows_taken_out) (q := view (OpenLaw.row PySem.Challenge.rw_pickruns_k56_rows_taken_out).prog [22]) (H := Hd.hk) (ob := Hd.ob) (M := 12000) (loose := Hd.loose) (d := HandSHeadRun.topDef (OpenLaw.row PySem.Challenge.rw_pickruns_k56_rows_taken_out).prog 22) (kwd := []) Hd.ob_eq
    (by kernel_rfl) (fun s => by kernel_rfl) Hd.run (by kernel_rfl) (by kernel_rfl) (by kernel_rfl) (by rfl) (by first | assumption | decide +kernel) (by decide +kernel) ⟨rfl, rfl, rfl, rfl, rfl, by decide +kernel⟩ ?hw ?hc
  case hw => w_witness2
  case hc =>
    refine L2.walk_ofE (l := PySem.Challenge.rw_pickruns_k56_rows_taken_out) (n := 63) (k := 16) (x := "script") (CX := L2.CX0) rfl (by decide) (by kernel_rfl) ⟨rfl, by decide, by decide⟩ ?F (fun _ _ _ _ z => z)
    intro w mg fa h Y G hmg0
    obtain ⟨K, KX, c⟩ := Y
    have hmg : mg ("law" : PySem.Str) = some (.ref fa) := by
      have e : (HandSHeadRun.topDef (OpenLaw.row PySem.Challenge.rw_pickruns_k56_rows_taken_out).prog 22).name = ("law" : PySem.Str) := by kernel_rfl
      rw [← e]
      exact hmg0
    obtain ⟨fd, hb, hF⟩ := Hd.facts (P := (PySem.Challenge.rw_pickruns_k56_rows_taken_out).prog) (w := w) KX G hmg c
    exact ⟨K, fd, Pk.spG ⟨K, w⟩ (Pk.T_law ⟨K, w⟩), KX, hb, fun H a ns hl _ hS => Pk.law_start hl hS fun _ => rfl, hF⟩
end
