import PyProof.Rows.All
import PyProof.StrBlock2
import PyProof.ReprRoads
import PyProof.ReprLen
import PyProof.P3In
import PyProof.P3Eq
import PyProof.DictMoreH
import Wide.All
import Wide.FinOn
import OpenK.AllK
import HandS.ForMost
import HandS.ForExc
import HandS.IsInst
import HandS.Deep
import HandS.Conv
import HandS.Walk
import KE.KDictKeyed
import HandS.Style
import HandS.Zip
import HandS.TupAny
import HandS.Text
import HandS.WordsExc
import HandS.TryOnly
import HandS.ExcIs
import HandS.ExcValue
import HandS.HeadHook1
import HandS.HeadHook2
import KE.KDictZip
import HandS.Strs
import HandS.ExcInit
import HandS.ExcField
import KE.DataCmp
import KE.SortData
import KE.KEqDict
import KE.KDictWalk
import KE.KDictCopyH
import KE.KDictDisplayH
import HandS.MapSum
import HandS.TupMul
import KE.KDictItemsList
import HandS.ListItems
import KE.KDictPairs
import HandS.Rev
import HandS.TupLen
import HandS.More
import HandS.DictEq
import HandS.SetFor
import KE.GoesRev
import KE.GoesEnum
import HandS.Wide
import PySem.Challenge.RW_pickruns_k01_what_is_a_program
import KE.KStateDown
import Lean
import HandS.Head0
import HandS.Head1
import HandS.Head2
import HandS.HeadEnd
import HandS.HeadNt
section
set_option Elab.async false
set_option linter.all false
set_option maxRecDepth 100000
namespace Pk
open PySem PySem.Spec PyProof.Rows L2
/-- what the layer leans on: the pinned objects and the world (the hashes of texts) -/
structure Kw where
  K : PySem.W.Frag
  w : World
instance : CoeOut Kw PySem.W.Frag := ⟨Kw.K⟩

abbrev Le (F H : Hp) : Prop := ∀ a o, F a = some o → H a = some o
theorem Le.rfl' {F : Hp} : Le F F := fun _ _ h => h
theorem Le.tr {F G H : Hp} (a : Le F G) (b : Le G H) : Le F H := fun x o h => b x o (a x o h)
theorem Le.nn {F H : Hp} (e : Le F H) {a : Addr} (h : H a = none) : F a = none := by
  cases q : F a with
  | none => rfl
  | some o => rw [e a o q] at h; cases h
theorem Le.new {F H : Hp} (e : Le F H) {p : Addr} {o : HO} (h : F p = none) : Le F (upd H p o) := fun a u q => by
  rw [upd_ne (ne_of_none q h)]; exact e a u q
theorem Le.both {F H : Hp} (e : Le F H) {p : Addr} {o : HO} : Le (upd F p o) (upd H p o) := fun a u q => by
  by_cases hp : a = p
  · subst hp; rw [upd_same] at q ⊢; exact q
  · rw [upd_ne hp] at q ⊢; exact e a u q
theorem Le.up {F : Hp} {p : Addr} {o : HO} (h : F p = none) : Le F (upd F p o) := Le.new Le.rfl' h
theorem Le.lay {F H : Hp} (e : Le F H) {p : Addr} {o : HO} (h : H p = some o) : Le (upd F p o) H := fun a u q => by
  by_cases hp : a = p
  · subst hp; rw [upd_same] at q; rw [← q]; exact h
  · rw [upd_ne hp] at q; exact e a u q

theorem sqT_le {K : PySem.W.Frag} {F F' : Hp} {a : Addr} {xs : List V} (e : Le F F') (h : SqT K F a xs) : SqT K F' a xs := by
  rcases h with (h | ⟨o, h⟩) | h
  · exact .inl (.inl (e _ _ h))
  · exact .inl (.inr ⟨o, e _ _ h⟩)
  · exact .inr h
/-- flat dicts as data -/
def kD : Key → PyData
  | .inl i => .int i
  | .inr x => .str x
def vD : V → PyData
  | .int i => .int i
  | .str x => .str x
  | .bl b => .bool b
  | .non => .none
  | _ => .list []
def kvD (p : Key × V) : PyData × PyData := (kD p.1, vD p.2)
def flD : PyData → Bool
  | .none => true
  | .bool _ => true
  | .int _ => true
  | .str _ => true
  | _ => false
def isMk : List (PyData × PyData) → Bool
  | (.none, .none) :: _ => true
  | (.none, .bool true) :: _ => true
  | (.none, .bool false) :: _ => true
  | _ => false
def flatDs (ds : List (PyData × PyData)) : Bool := isMk ds || ds.all fun z => flD z.2
/-- the entries of a dict with tuple keys -/
abbrev NEs := List (NestedKey × Addr × V)
def nEntry (w : World) (x : NestedKey × Addr × Value) : DictEntry := ⟨x.1.hash w, .ref x.2.1, x.2.2⟩
/-- a dict whose keys are tuples, nested or not -/
def dN (w : World) (a : Addr) (ep : Nat) (kvs : NEs) : HO := .ext fun h => kvs.length ≤ sizeLine ∧ (a == sysModules) = false ∧ (∀ x ∈ kvs, x.1.depth ≤ 8) ∧ ∃ xs : List (NestedKey × Addr × Value),
  Paired (fun (p : NestedKey × Addr × V) (q : NestedKey × Addr × Value) => p.1 = q.1 ∧ p.2.1 = q.2.1 ∧ RelV p.2.2 q.2.2) kvs xs ∧
  ∃ o es, h.get? a = some o ∧ o.ExactDict ∧ o.data = .dict es ep ∧ es.toList = xs.map (nEntry w) ∧ (xs.map (·.1)).Nodup
abbrev NDs := List (NestedKey × PyData)
abbrev dictN (ds : NDs) : PyData := .dict ((.none, .none) :: ds.map fun x => (x.1.data, x.2))
/-- a dict whose keys are numbers and texts -/
def dF (w : World) (a : Addr) (ep : Nat) (kvs : List (Key × V)) : HO := .ext fun h => kvs.length ≤ sizeLine ∧ (a == sysModules) = false ∧ ∃ vs : List (Key × Value), KV kvs vs ∧ ∃ P : Program,
  ∃ o es, h.get? a = some o ∧ o.ExactDict ∧ o.data = .dict es ep ∧ KeysOf (mixKind P w) es ∧ Pairs (mixKind P w) es.toList vs ∧ (vs.map (·.1)).Nodup
/-- such a dict as data -/
abbrev FDs := List (Key × PyData)
abbrev dictF (fs : FDs) : PyData := .dict ((.none, .bool true) :: fs.map fun x => (kD x.1, x.2))
/-- a list whose address is told -/
abbrev listAt (a : Addr) (ds : List PyData) : PyData := .dict [(.none, .bool false), (.int a, .list ds)]
mutual
inductive Rp (K : Kw) (F : Hp) : V → PyData → Prop
  | non : Rp K F .non .none
  | bl (b : Bool) : Rp K F (.bl b) (.bool b)
  | int (i : Int) : Rp K F (.int i) (.int i)
  | str (x : Str) : Rp K F (.str x) (.str x)
  | lst {a : Addr} {xs : List V} {ds : List PyData} : F a = some (.lst xs) → RpA K F xs ds → Rp K F (.ref a) (.list ds)
  | tup {a : Addr} {xs : List V} {ds : List PyData} : SqT K F a xs → RpA K F xs ds → Rp K F (.ref a) (.tuple ds)
  /-- a dict: what is in it is told where that is flat -/
  | dct {a : Addr} {kvs : List (Key × V)} {ds : List (PyData × PyData)} : F a = some (.dK kvs) → (flatDs ds = true → kvs.map kvD = ds) → Rp K F (.ref a) (.dict ds)
  /-- a dict with tuple keys -/
  | dcn {a : Addr} {ep : Nat} {es : NEs} {ds : NDs} : F a = some (dN K.w a ep es) → RpD K F es ds → Rp K F (.ref a) (.dict ((.none, .none) :: ds.map fun x => (x.1.data, x.2)))
  /-- a dict with numbers and texts as keys -/
  | dcf {a : Addr} {ep : Nat} {kvs : List (Key × V)} {fs : FDs} : F a = some (dF K.w a ep kvs) → kvs.map (·.1) = fs.map (·.1) → RpA K F (kvs.map (·.2)) (fs.map (·.2)) → Rp K F (.ref a) (.dict ((.none, .bool true) :: fs.map fun x => (kD x.1, x.2)))
  /-- a list, its address told -/
  | lid {a : Addr} {xs : List V} {ds : List PyData} : F a = some (.lst xs) → RpA K F xs ds → Rp K F (.ref a) (.dict [(.none, .bool false), (.int a, .list ds)])
inductive RpA (K : Kw) (F : Hp) : List V → List PyData → Prop
  | nil : RpA K F [] []
  | cons {v : V} {vs : List V} {d : PyData} {ds : List PyData} : Rp K F v d → RpA K F vs ds → RpA K F (v :: vs) (d :: ds)
inductive RpD (K : Kw) (F : Hp) : NEs → NDs → Prop
  | nil : RpD K F [] []
  | cons {k : NestedKey} {b : Addr} {v : V} {d : PyData} {es : NEs} {ds : NDs} : Rp K F (.ref b) k.data → Rp K F v d → RpD K F es ds → RpD K F ((k, b, v) :: es) ((k, d) :: ds)
end
section
variable {K : Kw} {F F' H : Hp}
theorem Rp.le (e : Le F F') (d : PyData) {v : V} (h : Rp K F v d) : Rp K F' v d :=
  Rp.rec (motive_1 := fun v d _ => Rp K F' v d) (motive_2 := fun vs ds _ => RpA K F' vs ds) (motive_3 := fun es ds _ => RpD K F' es ds) .non .bl .int .str (fun h _ ih => .lst (e _ _ h) ih) (fun h _ ih => .tup (sqT_le e h) ih) (fun h t => .dct (e _ _ h) t) (fun h _ ih => .dcn (e _ _ h) ih) (fun h k _ ih => .dcf (e _ _ h) k ih) (fun h _ ih => .lid (e _ _ h) ih) .nil (fun _ _ a b => .cons a b) .nil (fun _ _ _ a b c => .cons a b c) h
theorem RpA.le (e : Le F F') (ds : List PyData) {vs : List V} (h : RpA K F vs ds) : RpA K F' vs ds :=
  RpA.rec (motive_1 := fun v d _ => Rp K F' v d) (motive_2 := fun vs ds _ => RpA K F' vs ds) (motive_3 := fun es ds _ => RpD K F' es ds) .non .bl .int .str (fun h _ ih => .lst (e _ _ h) ih) (fun h _ ih => .tup (sqT_le e h) ih) (fun h t => .dct (e _ _ h) t) (fun h _ ih => .dcn (e _ _ h) ih) (fun h k _ ih => .dcf (e _ _ h) k ih) (fun h _ ih => .lid (e _ _ h) ih) .nil (fun _ _ a b => .cons a b) .nil (fun _ _ _ a b c => .cons a b c) h
theorem RpD.mono {es : NEs} {ds : NDs} (h : RpD K F es ds) (e : Le F F') : RpD K F' es ds :=
  RpD.rec (motive_1 := fun v d _ => Rp K F' v d) (motive_2 := fun vs ds _ => RpA K F' vs ds) (motive_3 := fun es ds _ => RpD K F' es ds) .non .bl .int .str (fun h _ ih => .lst (e _ _ h) ih) (fun h _ ih => .tup (sqT_le e h) ih) (fun h t => .dct (e _ _ h) t) (fun h _ ih => .dcn (e _ _ h) ih) (fun h k _ ih => .dcf (e _ _ h) k ih) (fun h _ ih => .lid (e _ _ h) ih) .nil (fun _ _ a b => .cons a b) .nil (fun _ _ _ a b c => .cons a b c) h
theorem Rp.dict_inv {v : V} {ds : List (PyData × PyData)} (h : Rp K F v (.dict ds)) : (∃ a kvs, v = .ref a ∧ F a = some (.dK kvs) ∧ (flatDs ds = true → kvs.map kvD = ds)) ∨ (∃ a ep es ds', v = .ref a ∧ ds = (.none, .none) :: ds'.map (fun x => (x.1.data, x.2)) ∧ F a = some (dN K.w a ep es) ∧ RpD K F es ds') ∨ (∃ a ep kvs, ∃ fs : FDs, v = .ref a ∧ ds = (.none, .bool true) :: fs.map (fun x => (kD x.1, x.2)) ∧ F a = some (dF K.w a ep kvs) ∧ kvs.map (·.1) = fs.map (·.1) ∧ RpA K F (kvs.map (·.2)) (fs.map (·.2))) ∨ ∃ a xs es, v = .ref a ∧ ds = [(.none, .bool false), (.int a, .list es)] ∧ F a = some (.lst xs) ∧ RpA K F xs es := by
  cases h with
  | dct a t => exact .inl ⟨_, _, rfl, a, t⟩
  | dcn a r => exact .inr (.inl ⟨_, _, _, _, rfl, rfl, a, r⟩)
  | dcf a k r => exact .inr (.inr (.inl ⟨_, _, _, _, rfl, rfl, a, k, r⟩))
  | lid a r => exact .inr (.inr (.inr ⟨_, _, _, rfl, rfl, a, r⟩))
theorem Rp.mono {v : V} {d : PyData} (h : Rp K F v d) (e : Le F F') : Rp K F' v d := Rp.le e d h
theorem RpA.mono {vs : List V} {ds : List PyData} (h : RpA K F vs ds) (e : Le F F') : RpA K F' vs ds := RpA.le e ds h
mutual
theorem Rp.dp : ∀ (d : PyData) {v : V}, d.canLay0 = true → Rp K F v d → Dp K F v d
  | .none, _, _, h => by cases h; exact .non
  | .bool _, _, _, h => by cases h; exact .bl _
  | .int _, _, _, h => by cases h; exact .int _
  | .str _, _, _, h => by cases h; exact .str _
  | .list ds, _, c, h => by
    cases h with
    | lst a b => exact .lst (SqL.of a) (RpA.dp ds (by simpa [PyData.canLay0] using c) b)
  | .tuple ds, _, c, h => by
    cases h with
    | tup a b => exact .tup a (RpA.dp ds (by simpa [PyData.canLay0] using c) b)
  | .dict _, _, c, _ => by simp [PyData.canLay0] at c
theorem RpA.dp : ∀ (ds : List PyData) {vs : List V}, PyData.canLayAll0 ds = true → RpA K F vs ds → DpAll K F vs ds
  | [], _, _, h => by cases h; exact .nil
  | d :: ds, _, c, h => by
    have c' : d.canLay0 = true ∧ PyData.canLayAll0 ds = true := by simpa [PyData.canLayAll0] using c
    cases h with
    | cons a b => exact .cons (Rp.dp d c'.1 a) (RpA.dp ds c'.2 b)
end
theorem RpA.length : ∀ {vs : List V} {ds : List PyData}, RpA K F vs ds → vs.length = ds.length
  | [], [], _ => rfl
  | _ :: _, [], h => by cases h
  | [], _ :: _, h => by cases h
  | _ :: vs, _ :: ds, h => by
    cases h with
    | cons _ b => simp [RpA.length b]
theorem RpA.get : ∀ {vs : List V} {ds : List PyData} {i : Nat} {d : PyData}, RpA K F vs ds → ds[i]? = some d → ∃ v, vs[i]? = some v ∧ Rp K F v d
  | [], [], i, d, _, e => by simp at e
  | _ :: _, [], _, _, h, _ => by cases h
  | [], _ :: _, _, _, h, _ => by cases h
  | v :: vs, x :: ds, 0, d, h, e => by
    cases h with
    | cons a b => simp at e; subst e; exact ⟨v, rfl, a⟩
  | v :: vs, x :: ds, i + 1, d, h, e => by
    cases h with
    | cons a b =>
      obtain ⟨u, h1, h2⟩ := RpA.get (i := i) (d := d) b (by simpa using e)
      exact ⟨u, by simpa using h1, h2⟩
theorem RpA.getV : ∀ {vs : List V} {ds : List PyData} {i : Nat} {v : V}, RpA K F vs ds → vs[i]? = some v → ∃ d, ds[i]? = some d ∧ Rp K F v d
  | [], [], i, d, _, e => by simp at e
  | _ :: _, [], _, _, h, _ => by cases h
  | [], _ :: _, _, _, h, _ => by cases h
  | v :: vs, x :: ds, 0, d, h, e => by
    cases h with
    | cons a b => simp at e; subst e; exact ⟨x, rfl, a⟩
  | v :: vs, x :: ds, i + 1, d, h, e => by
    cases h with
    | cons a b =>
      obtain ⟨u, h1, h2⟩ := RpA.getV (i := i) (v := d) b (by simpa using e)
      exact ⟨u, by simpa using h1, h2⟩
theorem RpA.append : ∀ {vs us : List V} {ds es : List PyData}, RpA K F vs ds → RpA K F us es → RpA K F (vs ++ us) (ds ++ es)
  | [], _, [], _, _, h => h
  | _ :: _, _, [], _, h, _ => by cases h
  | [], _, _ :: _, _, h, _ => by cases h
  | _ :: _, _, _ :: _, _, h, k => by
    cases h with
    | cons a b => exact .cons a (RpA.append b k)
theorem RpA.take : ∀ {vs : List V} {ds : List PyData} (n : Nat), RpA K F vs ds → RpA K F (vs.take n) (ds.take n)
  | [], [], n, _ => by simp; exact .nil
  | _ :: _, [], _, h => by cases h
  | [], _ :: _, _, h => by cases h
  | _ :: _, _ :: _, 0, _ => .nil
  | _ :: _, _ :: _, n + 1, h => by
    cases h with
    | cons a b => exact .cons a (RpA.take n b)
theorem RpA.drop : ∀ {vs : List V} {ds : List PyData} (n : Nat), RpA K F vs ds → RpA K F (vs.drop n) (ds.drop n)
  | [], [], n, _ => by simp; exact .nil
  | _ :: _, [], _, h => by cases h
  | [], _ :: _, _, h => by cases h
  | _ :: _, _ :: _, 0, h => h
  | _ :: _, _ :: _, n + 1, h => by
    cases h with
    | cons a b => exact RpA.drop n b
theorem RpA.set : ∀ {vs : List V} {ds : List PyData} {v : V} {d : PyData} (n : Nat), RpA K F vs ds → Rp K F v d → RpA K F (vs.set n v) (ds.set n d)
  | [], [], _, _, n, _, _ => by simp; exact .nil
  | _ :: _, [], _, _, _, h, _ => by cases h
  | [], _ :: _, _, _, _, h, _ => by cases h
  | _ :: _, _ :: _, _, _, 0, h, k => by
    cases h with
    | cons a b => exact .cons k b
  | _ :: _, _ :: _, _, _, n + 1, h, k => by
    cases h with
    | cons a b => exact .cons a (RpA.set n b k)
theorem RpA.reverse : ∀ {vs : List V} {ds : List PyData}, RpA K F vs ds → RpA K F vs.reverse ds.reverse
  | [], [], _ => .nil
  | _ :: _, [], h => by cases h
  | [], _ :: _, h => by cases h
  | _ :: _, _ :: _, h => by
    cases h with
    | cons a b => simp only [List.reverse_cons]; exact (RpA.reverse b).append (.cons a .nil)
theorem RpA.one {v : V} {d : PyData} (h : Rp K F v d) : RpA K F [v] [d] := .cons h .nil
/-- a scalar stands in any heap -/
def flat : PyData → Bool
  | .none => true | .bool _ => true | .int _ => true | .str _ => true | _ => false
theorem Rp.flat {v : V} {d : PyData} (h : Rp K F v d) (f : flat d = true) : Rp K F' v d := by
  cases h with
  | non => exact .non
  | bl b => exact .bl b
  | int i => exact .int i
  | str x => exact .str x
  | lst _ _ => cases f
  | tup _ _ => cases f
  | dct _ _ => cases f
  | dcn _ _ => cases f
  | dcf _ _ _ => cases f
  | lid _ _ => cases f
end

mutual
def lf : PyData → Bool
  | .list _ => false
  | .dict _ => false
  | .tuple xs => lfA xs
  | _ => true
def lfA : List PyData → Bool
  | [] => true
  | x :: xs => lf x && lfA xs
end
def TupLe (K : PySem.W.Frag) (F F' : Hp) : Prop := (∀ a xs, SqT K F a xs → SqT K F' a xs) ∧ ∀ a fs, F a = some (.xd fs) → F' a = some (.xd fs)
theorem Le.tup {K : PySem.W.Frag} {F F' : Hp} (e : Le F F') : TupLe K F F' := ⟨fun _ _ h => sqT_le e h, fun a _ h => e a _ h⟩
section
variable {K : Kw} {F F' : Hp}
mutual
theorem Rp.lfree (e : TupLe K F F') : ∀ (d : PyData) {v : V}, lf d = true → Rp K F v d → Rp K F' v d
  | .none, _, _, h => by cases h; exact .non
  | .bool _, _, _, h => by cases h; exact .bl _
  | .int _, _, _, h => by cases h; exact .int _
  | .str _, _, _, h => by cases h; exact .str _
  | .list ds, _, z, h => by simp [lf] at z
  | .tuple ds, _, z, h => by
    cases h with
    | tup a b => exact .tup (e.1 _ _ a) (RpA.lfree e ds (by simpa [lf] using z) b)
  | .dict _, _, z, h => by simp [lf] at z
theorem RpA.lfree (e : TupLe K F F') : ∀ (ds : List PyData) {vs : List V}, lfA ds = true → RpA K F vs ds → RpA K F' vs ds
  | [], _, _, h => by cases h; exact .nil
  | d :: ds, _, z, h => by
    have z' : lf d = true ∧ lfA ds = true := by simpa [lfA] using z
    cases h with
    | cons a b => exact .cons (Rp.lfree e d z'.1 a) (RpA.lfree e ds z'.2 b)
end
end
open Classical in
/-- F without the lists of N -/
noncomputable def cutN (N : Addr → Prop) (F : Hp) : Hp := fun a => match F a with
  | some (.lst xs) => if N a then none else some (.lst xs)
  | o => o
theorem cutN_le (N : Addr → Prop) (F : Hp) : Le (cutN N F) F := fun a o h => by
  unfold cutN at h
  split at h
  · rename_i xs e
    split at h
    · cases h
    · rw [e]; exact h
  · exact h
theorem cutN_at {N : Addr → Prop} {F : Hp} {a : Addr} (h : ¬ N a) : cutN N F a = F a := by
  unfold cutN
  split
  · rename_i xs e
    rw [if_neg h, e]
  · rfl
theorem cutN_lst {N : Addr → Prop} {F : Hp} {a : Addr} {xs : List V} (h : cutN N F a = some (.lst xs)) : ¬ N a ∧ F a = some (.lst xs) := by
  refine ⟨fun n => ?_, cutN_le N F a _ h⟩
  have e := cutN_le N F a _ h
  unfold cutN at h
  rw [e] at h
  simp [n] at h
theorem cutN_mono {N N' : Addr → Prop} {F F' : Hp} (hN : ∀ a, N' a → N a) (e : Le F F') : Le (cutN N F) (cutN N' F') := fun a o h => by
  cases o with
  | lst xs =>
    obtain ⟨n, q⟩ := cutN_lst h
    rw [cutN_at fun z => n (hN a z)]
    exact e _ _ q
  | _ =>
    have q := e _ _ (cutN_le N F a _ h)
    unfold cutN
    rw [q]
theorem cutN_tup {K : PySem.W.Frag} {N : Addr → Prop} {F : Hp} : TupLe K F (cutN N F) := by
  refine ⟨fun a xs h => ?_, fun a fs h => by unfold cutN; rw [h]⟩
  rcases h with (h | ⟨o, h⟩) | h
  · refine .inl (.inl ?_)
    unfold cutN
    rw [h]
  · refine .inl (.inr ⟨o, ?_⟩)
    unfold cutN
    rw [h]
  · exact .inr h

/-- what a def's environment leans on: the heap at the entry, what of it is frozen, what of it may be changed -/
structure Bs where
  K : Kw
  F0 : Hp
  H0 : Hp
  S0 : Addr → Prop
  N : Addr → Prop
def Bs.own (X : Bs) (a : Addr) : Prop := X.H0 a = none ∨ X.S0 a
/-- the frozen part, all of it, or without the lists that stood before -/
noncomputable def Bs.ff (X : Bs) (F : Hp) : Bool → Hp
  | true => cutN X.N F
  | false => F
theorem Bs.ff_le (X : Bs) (F : Hp) (m : Bool) : Le (X.ff F m) F := by
  cases m with
  | true => exact cutN_le X.N F
  | false => exact Le.rfl'
theorem Bs.ff_mono {X : Bs} {F F' : Hp} (e : Le F F') (m : Bool) : Le (X.ff F m) (X.ff F' m) := by
  cases m with
  | true => exact cutN_mono (fun _ h => h) e
  | false => exact e
theorem Bs.ff_at {X : Bs} {F : Hp} {m : Bool} {a : Addr} (h : ¬ X.N a) : X.ff F m a = F a := by
  cases m with
  | true => exact cutN_at h
  | false => rfl
theorem Bs.ff_tup {X : Bs} {F : Hp} {m : Bool} {K : PySem.W.Frag} : TupLe K F (X.ff F m) := by
  cases m with
  | true => exact cutN_tup
  | false => exact ⟨fun _ _ h => h, fun _ _ h => h⟩
/-- another's new is new to me -/
theorem Bs.ff_to {X X' : Bs} {F : Hp} (hN : ∀ a, X'.N a → X.N a) (m : Bool) : Le (X.ff F m) (X'.ff F m) := by
  cases m with
  | true => exact cutN_mono hN Le.rfl'
  | false => exact Le.rfl'
open Classical in
/-- F with what stands in H at S -/
noncomputable def lay (S : Addr → Prop) (H F : Hp) : Hp := fun a => if S a then H a else F a
/-- what may be of one's own -/
def Mo : HO → Bool
  | .lst _ => true
  | .ext _ => true
  | _ => false
/-- a thing of one's own that may change, by what holds of it; vw: as which data it may be read -/
structure Own where
  K : Kw
  p : Hp → Hp → V → (Addr → Prop) → Prop
  vw : Option PyData
  keep : ∀ {F F' H H' : Hp} {v : V} {S : Addr → Prop}, p F H v S → Le F F' → (∀ a, S a → H' a = H a) → p F' H' v S
  /-- what is read as no data bears the loss of frozen lists -/
  keepT : vw = none → ∀ {F F' H H' : Hp} {v : V} {S : Addr → Prop}, p F H v S → TupLe K F F' → (∀ a, S a → H' a = H a) → p F' H' v S
  view : ∀ {F H : Hp} {v : V} {S : Addr → Prop} {d : PyData}, Le F H → p F H v S → vw = some d → Rp K (lay S H F) v d ∧ ∀ a, S a → ∃ o, H a = some o ∧ Mo o = true
inductive Sl where
  | no
  | dat (m : Bool) (d : PyData)
  | ml (m : Bool) (l : Addr) (ds : List PyData)
  | ex (v : V) (Φ : Own)
abbrev Sl.dt (d : PyData) : Sl := .dat false d
def SlOk (X : Bs) (F H : Hp) (ov : Option V) (S : Addr → Prop) : Sl → Prop
  | .no => ∀ a, ¬ S a
  | .dat m d => (∃ v, ov = some v ∧ Rp X.K (X.ff F m) v d) ∧ ∀ a, ¬ S a
  | .ml m l ds => ∃ xs, ov = some (.ref l) ∧ (∀ a, S a ↔ a = l) ∧ H l = some (.lst xs) ∧ RpA X.K (X.ff F m) xs ds ∧ (m = true → ¬ X.N l)
  | .ex v Φ => ov = some v ∧ Φ.K = X.K ∧ Φ.p F H v S
theorem SlOk.mono {X : Bs} {F F' H H' : Hp} {ov : Option V} {S : Addr → Prop} : ∀ {s : Sl}, SlOk X F H ov S s → Le F F' → (∀ a, S a → H' a = H a) → SlOk X F' H' ov S s
  | .no, h, _, _ => h
  | .dat m _, ⟨⟨v, e, r⟩, n⟩, le, _ => ⟨⟨v, e, r.mono (Bs.ff_mono le m)⟩, n⟩
  | .ml m l ds, ⟨xs, e, hS, hl, r, nl⟩, le, k => ⟨xs, e, hS, (k l ((hS l).mpr rfl)).trans hl, r.mono (Bs.ff_mono le m), nl⟩
  | .ex _ Φ, ⟨e, hk, q⟩, le, k => ⟨e, hk, Φ.keep q le k⟩
/-- the same over another base -/
theorem SlOk.to {X X' : Bs} {F H : Hp} {ov : Option V} {S : Addr → Prop} (hK : X.K = X'.K) (hN : ∀ a, X'.N a → X.N a) : ∀ {s : Sl}, SlOk X F H ov S s → SlOk X' F H ov S s
  | .no, h => h
  | .dat m _, ⟨⟨v, e, r⟩, n⟩ => ⟨⟨v, e, by rw [← hK]; exact r.mono (Bs.ff_to hN m)⟩, n⟩
  | .ml m l ds, ⟨xs, e, hS, hl, r, nl⟩ => ⟨xs, e, hS, hl, by rw [← hK]; exact r.mono (Bs.ff_to hN m), fun z n => nl z (hN l n)⟩
  | .ex _ Φ, ⟨e, hk, q⟩ => ⟨e, hk.trans hK, q⟩
structure En (X : Bs) (F H : Hp) (σ : L2.St) (Γ : List Sl) : Prop where
  le : Le F H
  len : σ.length = Γ.length
  sl : ∃ S : Nat → Addr → Prop, (∀ i s, Γ[i]? = some s → SlOk X F H (σ.getD i none) (S i) s) ∧ (∀ i j a, S i a → S j a → i = j) ∧ (∀ i a, S i a → F a = none ∧ H a ≠ none ∧ X.own a)
  fr : ∀ a o, X.H0 a = some o → ¬ X.S0 a → H a = some o ∧ F a = X.F0 a
  f0 : Le X.F0 F
  nn : ∀ a, X.N a → H a ≠ none
section
variable {X : Bs} {F F' H H' : Hp} {σ : L2.St} {Γ : List Sl}
theorem En.ownN (E : En X F H σ Γ) {p : Addr} (h : H p = none) : X.own p := by
  by_cases hs : X.S0 p
  · exact .inr hs
  · refine .inl ?_
    cases q : X.H0 p with
    | none => rfl
    | some o => rw [(E.fr p o q hs).1] at h; cases h
theorem En.dat (E : En X F H σ Γ) {i : Nat} {m : Bool} {d : PyData} (h : Γ[i]? = some (.dat m d)) : ∃ v, σ[i]? = some (some v) ∧ Rp X.K (X.ff F m) v d := by
  obtain ⟨S, hs, _⟩ := E.sl
  obtain ⟨⟨v, e, r⟩, _⟩ := hs i _ h
  refine ⟨v, ?_, r⟩
  have hi : i < σ.length := by rw [E.len]; exact (List.getElem?_eq_some_iff.mp h).1
  simp only [List.getD_eq_getElem?_getD, List.getElem?_eq_getElem hi, Option.getD_some] at e
  rw [List.getElem?_eq_getElem hi, e]
theorem En.at {i : Nat} {s : Sl} {v : V} (E : En X F H σ Γ) (h : Γ[i]? = some s) (e : σ.getD i none = some v) : σ[i]? = some (some v) := by
  have hi : i < σ.length := by rw [E.len]; exact (List.getElem?_eq_some_iff.mp h).1
  simp only [List.getD_eq_getElem?_getD, List.getElem?_eq_getElem hi, Option.getD_some] at e
  rw [List.getElem?_eq_getElem hi, e]
theorem En.ml (E : En X F H σ Γ) {i : Nat} {m : Bool} {l : Addr} {ds : List PyData} (h : Γ[i]? = some (.ml m l ds)) : ∃ xs, σ[i]? = some (some (.ref l)) ∧ H l = some (.lst xs) ∧ F l = none ∧ RpA X.K (X.ff F m) xs ds := by
  obtain ⟨S, hs, _, ho⟩ := E.sl
  obtain ⟨xs, e, hS, hl, r, _⟩ := hs i _ h
  exact ⟨xs, E.at h e, hl, (ho i l ((hS l).mpr rfl)).1, r⟩
theorem En.ex (E : En X F H σ Γ) {i : Nat} {v : V} {Φ : Own} (h : Γ[i]? = some (.ex v Φ)) : σ[i]? = some (some v) := by
  obtain ⟨S, hs, _⟩ := E.sl
  obtain ⟨e, _⟩ := hs i _ h
  exact E.at h e
/-- more is frozen, what stands apart may change -/
theorem En.grow (E : En X F H σ Γ) (lf : Le F F') (le : Le F' H') (hh : ∀ a o, H a = some o → H' a = some o) (hn : ∀ a o, H a = some o → F' a = F a) : En X F' H' σ Γ := by
  have hnn : ∀ a, X.N a → H' a ≠ none := fun a n => by
    cases q : H a with
    | none => exact absurd q (E.nn a n)
    | some o => rw [hh a o q]; simp
  obtain ⟨S, hs, hd, ho⟩ := E.sl
  refine ⟨le, E.len, ⟨S, fun i s e => (hs i s e).mono lf fun a sa => ?_, hd, fun i a sa => ?_⟩, fun a o e n => ?_, E.f0.tr lf, hnn⟩
  · obtain ⟨_, h1, _⟩ := ho i a sa
    cases q : H a with
    | none => exact absurd q h1
    | some o => exact hh a o q
  · obtain ⟨h0, h1, h2⟩ := ho i a sa
    cases q : H a with
    | none => exact absurd q h1
    | some o => exact ⟨(hn a o q).trans h0, by rw [hh a o q]; simp, h2⟩
  · obtain ⟨h1, h2⟩ := E.fr a o e n
    exact ⟨hh a o h1, (hn a o h1).trans h2⟩
/-- a new frozen object -/
theorem En.alloc (E : En X F H σ Γ) {p : Addr} {o : HO} (h : H p = none) : En X (upd F p o) (upd H p o) σ Γ :=
  E.grow (Le.up (E.le.nn h)) E.le.both (fun a u q => by rw [upd_ne (ne_of_none q h)]; exact q) (fun a u q => by rw [upd_ne (ne_of_none q h)])
/-- a new object that is not frozen, held by nobody -/
theorem En.free (E : En X F H σ Γ) {p : Addr} {o : HO} (h : H p = none) : En X F (upd H p o) σ Γ :=
  E.grow Le.rfl' (E.le.new (E.le.nn h)) (fun a u q => by rw [upd_ne (ne_of_none q h)]; exact q) (fun _ _ _ => rfl)
theorem getD_app {α : Type} {l : List α} {x d : α} {i : Nat} (h : i < l.length) : (l ++ [x]).getD i d = l.getD i d := by
  simp [List.getD_eq_getElem?_getD, List.getElem?_append_left h]
theorem getD_last {α : Type} {l : List α} {x d : α} : (l ++ [x]).getD l.length d = x := by
  simp [List.getD_eq_getElem?_getD]
/-- one more slot, of a new thing or of data -/
theorem En.pushG (E : En X F H σ Γ) {ov : Option V} {s : Sl} {T : Addr → Prop} (lf : Le F F') (le : Le F' H') (hh : ∀ a o, H a = some o → H' a = some o) (hn : ∀ a o, H a = some o → F' a = F a)
    (h : SlOk X F' H' ov T s) (hT : ∀ a, T a → H a = none ∧ F' a = none ∧ H' a ≠ none) : En X F' H' (σ ++ [ov]) (Γ ++ [s]) := by
  have hown : ∀ a, T a → X.own a := fun a ta => E.ownN (hT a ta).1
  have hdis : ∀ (S : Nat → Addr → Prop), (∀ i a, S i a → F a = none ∧ H a ≠ none ∧ X.own a) → ∀ i a, S i a → ¬ T a := fun S ho i a sa ta => (ho i a sa).2.1 (hT a ta).1
  have E' := E.grow lf le hh hn
  obtain ⟨S, hs, hdj, ho⟩ := E.sl
  have hkeep : ∀ i a, S i a → F' a = none ∧ H' a ≠ none ∧ X.own a := fun i a sa => by
    obtain ⟨h0, h1, h2⟩ := ho i a sa
    cases q : H a with
    | none => exact absurd q h1
    | some o => exact ⟨(hn a o q).trans h0, by rw [hh a o q]; simp, h2⟩
  have hs' : ∀ i s, Γ[i]? = some s → SlOk X F' H' (σ.getD i none) (S i) s := fun i s e => (hs i s e).mono lf fun a sa => by
    obtain ⟨_, h1, _⟩ := ho i a sa
    cases q : H a with
    | none => exact absurd q h1
    | some o => exact hh a o q
  refine ⟨E'.le, by simp [E.len], ⟨fun i a => (i < Γ.length ∧ S i a) ∨ (i = Γ.length ∧ T a), fun i u e => ?_, fun i j a h1 h2 => ?_, fun i a h1 => ?_⟩, E'.fr, E'.f0, E'.nn⟩
  · have hi : i < (Γ ++ [s]).length := (List.getElem?_eq_some_iff.mp e).1
    simp only [List.length_append, List.length_cons, List.length_nil] at hi
    by_cases hlt : i < Γ.length
    · rw [List.getElem?_append_left hlt] at e
      rw [getD_app (by rw [E.len]; exact hlt)]
      have eS : (fun a => (i < Γ.length ∧ S i a) ∨ (i = Γ.length ∧ T a)) = S i := by
        funext a
        apply propext
        constructor
        · rintro (⟨_, q⟩ | ⟨q, _⟩)
          · exact q
          · omega
        · intro q; exact .inl ⟨hlt, q⟩
      show SlOk X F' H' _ (fun a => (i < Γ.length ∧ S i a) ∨ (i = Γ.length ∧ T a)) u
      rw [eS]
      exact hs' i u e
    · have hie : i = Γ.length := by omega
      subst hie
      simp at e; subst e
      have eS : (fun a => (Γ.length < Γ.length ∧ S Γ.length a) ∨ (Γ.length = Γ.length ∧ T a)) = T := by
        funext a
        apply propext
        constructor
        · rintro (⟨q, _⟩ | ⟨_, q⟩)
          · omega
          · exact q
        · intro q; exact .inr ⟨rfl, q⟩
      show SlOk X F' H' _ (fun a => (Γ.length < Γ.length ∧ S Γ.length a) ∨ (Γ.length = Γ.length ∧ T a)) s
      rw [eS, ← E.len, getD_last]
      exact h
  · rcases h1 with ⟨a1, b1⟩ | ⟨a1, b1⟩ <;> rcases h2 with ⟨a2, b2⟩ | ⟨a2, b2⟩
    · exact hdj i j a b1 b2
    · exact absurd b2 (hdis S ho i a b1)
    · exact absurd b1 (hdis S ho j a b2)
    · omega
  · rcases h1 with ⟨a1, b1⟩ | ⟨a1, b1⟩
    · exact hkeep i a b1
    · exact ⟨(hT a b1).2.1, (hT a b1).2.2, hown a b1⟩
theorem En.noN (E : En X F H σ Γ) {p : Addr} (h : H p = none) : ¬ X.N p := fun n => E.nn p n h
theorem En.pushD (E : En X F H σ Γ) {v : V} {m : Bool} {d : PyData} (r : Rp X.K (X.ff F m) v d) : En X F H (σ ++ [some v]) (Γ ++ [.dat m d]) :=
  E.pushG (T := fun _ => False) Le.rfl' E.le (fun _ _ q => q) (fun _ _ _ => rfl) ⟨⟨v, rfl, r⟩, fun _ z => z⟩ (fun _ z => z.elim)
/-- a new list of one's own -/
theorem En.pushM (E : En X F H σ Γ) {p : Addr} {xs : List V} {m : Bool} {ds : List PyData} (h : H p = none) (r : RpA X.K (X.ff F m) xs ds) : En X F (upd H p (.lst xs)) (σ ++ [some (.ref p)]) (Γ ++ [.ml m p ds]) :=
  E.pushG (T := fun a => a = p) Le.rfl' (E.le.new (E.le.nn h)) (fun a u q => by rw [upd_ne (ne_of_none q h)]; exact q) (fun _ _ _ => rfl)
    ⟨xs, rfl, fun _ => Iff.rfl, upd_same, r, fun _ => E.noN h⟩ (fun a e => by subst e; exact ⟨h, E.le.nn h, by rw [upd_same]; simp⟩)
theorem En.drop {ov : Option V} {s : Sl} (E : En X F H (σ ++ [ov]) (Γ ++ [s])) : En X F H σ Γ := by
  have hl : σ.length = Γ.length := by
    have := E.len
    simp at this
    exact this
  obtain ⟨S, hs, hdj, ho⟩ := E.sl
  refine ⟨E.le, hl, ⟨S, fun i u e => ?_, hdj, ho⟩, E.fr, E.f0, E.nn⟩
  have hi : i < Γ.length := (List.getElem?_eq_some_iff.mp e).1
  have q := hs i u (by rw [List.getElem?_append_left hi]; exact e)
  rw [getD_app (by rw [hl]; exact hi)] at q
  exact q
/-- the value that came last is put into a slot -/
theorem En.put {ov : Option V} {s : Sl} (E : En X F H (σ ++ [ov]) (Γ ++ [s])) (i : Nat) : En X F H (σ.set i ov) (Γ.set i s) := by
  have hl : σ.length = Γ.length := by
    have := E.len
    simp at this
    exact this
  obtain ⟨S, hs, hdj, ho⟩ := E.sl
  by_cases hi : i < Γ.length
  · refine ⟨E.le, by simp [hl], ⟨fun j a => if j = i then S Γ.length a else if j = Γ.length then False else S j a, fun j u e => ?_, fun j k a h1 h2 => ?_, fun j a h1 => ?_⟩, E.fr, E.f0, E.nn⟩
    · by_cases hj : j = i
      · subst hj
        rw [List.getElem?_set_self hi] at e
        cases e
        have q := hs Γ.length s (by simp)
        rw [← hl, getD_last, hl] at q
        have : (σ.set j ov).getD j none = ov := by simp [List.getD_eq_getElem?_getD, hl, hi]
        rw [this]
        simpa using q
      · rw [List.getElem?_set_ne (Ne.symm hj)] at e
        have hj' : j < Γ.length := (List.getElem?_eq_some_iff.mp e).1
        have q := hs j u (by rw [List.getElem?_append_left hj']; exact e)
        rw [getD_app (by rw [hl]; exact hj')] at q
        have : (σ.set i ov).getD j none = σ.getD j none := by simp [List.getD_eq_getElem?_getD, List.getElem?_set_ne (Ne.symm hj)]
        rw [this]
        have hne : j ≠ Γ.length := by omega
        simpa [hj, hne] using q
    · by_cases a1 : j = i
      · by_cases a2 : k = i
        · omega
        · simp only [if_pos a1, if_neg a2] at h1 h2
          by_cases a3 : k = Γ.length
          · simp [a3] at h2
          · simp only [if_neg a3] at h2
            have := hdj _ _ _ h1 h2
            omega
      · simp only [if_neg a1] at h1
        by_cases a4 : j = Γ.length
        · simp [a4] at h1
        · simp only [if_neg a4] at h1
          by_cases a2 : k = i
          · simp only [if_pos a2] at h2
            have := hdj _ _ _ h1 h2
            omega
          · simp only [if_neg a2] at h2
            by_cases a3 : k = Γ.length
            · simp [a3] at h2
            · simp only [if_neg a3] at h2
              exact hdj _ _ _ h1 h2
    · by_cases a1 : j = i
      · simp only [if_pos a1] at h1; exact ho _ a h1
      · simp only [if_neg a1] at h1
        by_cases a4 : j = Γ.length
        · simp [a4] at h1
        · simp only [if_neg a4] at h1; exact ho _ a h1
  · have e1 : σ.set i ov = σ := List.set_eq_of_length_le (by omega)
    have e2 : Γ.set i s = Γ := List.set_eq_of_length_le (by omega)
    rw [e1, e2]
    exact E.drop
/-- a slot is told otherwise, over the same addresses (or fewer) -/
theorem En.retell (E : En X F H σ Γ) (lf : Le F F') (le : Le F' H) (hf : ∀ a o, X.H0 a = some o → ¬ X.S0 a → F' a = F a) {i : Nat} {s s' : Sl} (hi : Γ[i]? = some s)
    (h : ∀ S : Addr → Prop, (∀ a, S a → F a = none ∧ H a ≠ none) → SlOk X F H (σ.getD i none) S s → ∃ S' : Addr → Prop, SlOk X F' H (σ.getD i none) S' s' ∧ (∀ a, S' a → S a ∧ F' a = none) ∧ ∀ a, F' a ≠ F a → S a) : En X F' H σ (Γ.set i s') := by
  obtain ⟨S, hs, hdj, ho⟩ := E.sl
  have hil : i < Γ.length := (List.getElem?_eq_some_iff.mp hi).1
  obtain ⟨S', q, hsub, hch⟩ := h (S i) (fun a sa => ⟨(ho i a sa).1, (ho i a sa).2.1⟩) (hs i s hi)
  have hother : ∀ j a, j ≠ i → S j a → F' a = F a := fun j a hj sa => by
    by_cases e : F' a = F a
    · exact e
    · exact absurd (hdj j i a sa (hch a e)) hj
  refine ⟨le, by simp [E.len], ⟨fun j a => if j = i then S' a else S j a, fun j u e => ?_, fun j k a h1 h2 => ?_, fun j a h1 => ?_⟩, fun a o e n => ?_, E.f0.tr lf, E.nn⟩
  · by_cases hj : j = i
    · subst hj
      rw [List.getElem?_set_self hil] at e
      cases e
      simpa using q
    · rw [List.getElem?_set_ne (Ne.symm hj)] at e
      have := (hs j u e).mono lf (H' := H) fun _ _ => rfl
      simpa [hj] using this
  · by_cases a1 : j = i <;> by_cases a2 : k = i
    · omega
    · simp only [if_pos a1, if_neg a2] at h1 h2
      have := hdj _ _ _ (hsub a h1).1 h2
      omega
    · simp only [if_neg a1, if_pos a2] at h1 h2
      have := hdj _ _ _ h1 (hsub a h2).1
      omega
    · simp only [if_neg a1, if_neg a2] at h1 h2
      exact hdj _ _ _ h1 h2
  · by_cases a1 : j = i
    · simp only [if_pos a1] at h1
      obtain ⟨sa, fn⟩ := hsub a h1
      exact ⟨fn, (ho i a sa).2.1, (ho i a sa).2.2⟩
    · simp only [if_neg a1] at h1
      exact ⟨(hother j a a1 h1).trans (ho j a h1).1, (ho j a h1).2⟩
  · exact ⟨(E.fr a o e n).1, (hf a o e n).trans (E.fr a o e n).2⟩
/-- a list of one's own is frozen -/
theorem En.freeze (E : En X F H σ Γ) {i : Nat} {m : Bool} {l : Addr} {ds : List PyData} (hi : Γ[i]? = some (.ml m l ds)) : ∃ F', Le F F' ∧ En X F' H σ (Γ.set i (.dat m (.list ds))) := by
  obtain ⟨xs, e1, hl, fl, r⟩ := E.ml hi
  obtain ⟨S, hs, hdj, ho⟩ := id E.sl
  have own : X.own l ∧ (m = true → ¬ X.N l) := by
    obtain ⟨_, _, hS, _, _, nl⟩ := hs i _ hi
    exact ⟨(ho i l ((hS l).mpr rfl)).2.2, nl⟩
  obtain ⟨own, nl⟩ := own
  have fl' : ∀ {F : Hp}, F l = some (.lst xs) → X.ff F m l = some (.lst xs) := fun {F} h => by
    cases m with
    | false => exact h
    | true => rw [Bs.ff_at (nl rfl)]; exact h
  refine ⟨upd F l (.lst xs), Le.up fl, E.retell (Le.up fl) (E.le.lay hl) (fun a o e n => ?_) hi fun S hS q => ?_⟩
  · refine upd_ne fun z => ?_
    subst z
    rcases own with w | w
    · rw [w] at e; cases e
    · exact n w
  · obtain ⟨ys, e, hS', hl', r', _⟩ := q
    rw [hl] at hl'; cases hl'
    refine ⟨fun _ => False, ⟨⟨.ref l, e, .lst (fl' upd_same) (r.mono (Bs.ff_mono (Le.up fl) m))⟩, fun _ z => z⟩, fun _ z => z.elim, fun a ha => ?_⟩
    refine (hS' a).mpr ?_
    by_cases z : a = l
    · exact z
    · exact absurd (upd_ne z) ha
end
end Pk
end
section
set_option Elab.async false
set_option linter.all false
set_option maxRecDepth 100000
namespace Pk
open PySem PySem.Spec PyProof.Rows L2

/-- one slot stands aside while the others work -/
theorem En.frame {X : Bs} {F H : Hp} {σ : L2.St} {Γ : List Sl} {ov : Option V} {s : Sl} (E : En X F H (σ ++ [ov]) (Γ ++ [s])) :
    ∃ X' : Bs, X'.K = X.K ∧ X'.N = X.N ∧ En X' F H σ Γ ∧ ∀ F' H' σ' Γ', Γ'.length = Γ.length → Le F F' → En X' F' H' σ' Γ' → En X F' H' (σ' ++ [ov]) (Γ' ++ [s]) := by
  have hl : σ.length = Γ.length := by
    have := E.len
    simp at this
    exact this
  have own0 : ∀ p, H p = none → X.own p := fun p h => E.ownN h
  obtain ⟨S, hs, hdj, ho⟩ := id E.sl
  refine ⟨⟨X.K, F, H, fun a => ∃ i, i < Γ.length ∧ S i a, X.N⟩, rfl, rfl, ⟨E.le, hl, ⟨fun i a => i < Γ.length ∧ S i a, fun i u e => ?_, fun i j a h1 h2 => hdj i j a h1.2 h2.2, fun i a h1 => ⟨(ho i a h1.2).1, (ho i a h1.2).2.1, .inr ⟨i, h1⟩⟩⟩, fun a o e _ => ⟨e, rfl⟩, Le.rfl', E.nn⟩, fun F' H' σ' Γ' hlen lf E' => ?_⟩
  · have hi : i < Γ.length := (List.getElem?_eq_some_iff.mp e).1
    have q := hs i u (by rw [List.getElem?_append_left hi]; exact e)
    rw [getD_app (by rw [hl]; exact hi)] at q
    have eS : (fun a => i < Γ.length ∧ S i a) = S i := by
      funext a
      exact propext ⟨fun z => z.2, fun z => ⟨hi, z⟩⟩
    show SlOk _ F H _ (fun a => i < Γ.length ∧ S i a) u
    rw [eS]
    exact q.to rfl fun _ h => h
  · obtain ⟨S', hs', hdj', ho'⟩ := id E'.sl
    have notS : ∀ a, S Γ.length a → ¬ ∃ i, i < Γ.length ∧ S i a := fun a sa ⟨i, hi, si⟩ => by
      have := hdj i _ a si sa
      omega
    have keepS : ∀ a, S Γ.length a → H' a = H a ∧ F' a = F a := fun a sa => by
      obtain ⟨_, h1, _⟩ := ho _ a sa
      cases q : H a with
      | none => exact absurd q h1
      | some o => exact E'.fr a o q (notS a sa)
    have disS : ∀ i a, S' i a → ¬ S Γ.length a := fun i a h1 h2 => by
      rcases (ho' i a h1).2.2 with w | w
      · exact (ho _ a h2).2.1 w
      · exact notS a h2 w
    have hl' : σ'.length = Γ'.length := E'.len
    refine ⟨E'.le, by simp [hl'], ⟨fun i a => (i < Γ'.length ∧ S' i a) ∨ (i = Γ'.length ∧ S Γ.length a), fun i u e => ?_, fun i j a h1 h2 => ?_, fun i a h1 => ?_⟩, fun a o e n => ?_, E.f0.tr lf, E'.nn⟩
    · have hi : i < (Γ' ++ [s]).length := (List.getElem?_eq_some_iff.mp e).1
      simp only [List.length_append, List.length_cons, List.length_nil] at hi
      by_cases hlt : i < Γ'.length
      · rw [List.getElem?_append_left hlt] at e
        rw [getD_app (by rw [hl']; exact hlt)]
        have eS : (fun a => (i < Γ'.length ∧ S' i a) ∨ (i = Γ'.length ∧ S Γ.length a)) = S' i := by
          funext a
          apply propext
          constructor
          · rintro (⟨_, q⟩ | ⟨q, _⟩)
            · exact q
            · omega
          · intro q; exact .inl ⟨hlt, q⟩
        show SlOk X F' H' _ (fun a => (i < Γ'.length ∧ S' i a) ∨ (i = Γ'.length ∧ S Γ.length a)) u
        rw [eS]
        exact (hs' i u e).to rfl fun _ h => h
      · have hie : i = Γ'.length := by omega
        subst hie
        simp at e; subst e
        have eS : (fun a => (Γ'.length < Γ'.length ∧ S' Γ'.length a) ∨ (Γ'.length = Γ'.length ∧ S Γ.length a)) = S Γ.length := by
          funext a
          apply propext
          constructor
          · rintro (⟨q, _⟩ | ⟨_, q⟩)
            · omega
            · exact q
          · intro q; exact .inr ⟨rfl, q⟩
        show SlOk X F' H' _ (fun a => (Γ'.length < Γ'.length ∧ S' Γ'.length a) ∨ (Γ'.length = Γ'.length ∧ S Γ.length a)) s
        rw [eS, ← hl', getD_last]
        have q := hs Γ.length s (by simp)
        rw [← hl, getD_last, hl] at q
        exact q.mono lf fun a sa => (keepS a sa).1
    · rcases h1 with ⟨a1, b1⟩ | ⟨a1, b1⟩ <;> rcases h2 with ⟨a2, b2⟩ | ⟨a2, b2⟩
      · exact hdj' i j a b1 b2
      · exact absurd b2 (disS i a b1)
      · exact absurd b1 (disS j a b2)
      · omega
    · rcases h1 with ⟨a1, b1⟩ | ⟨a1, b1⟩
      · refine ⟨(ho' i a b1).1, (ho' i a b1).2.1, ?_⟩
        rcases (ho' i a b1).2.2 with w | ⟨j, _, w⟩
        · exact own0 a w
        · exact (ho j a w).2.2
      · obtain ⟨k1, k2⟩ := keepS a b1
        exact ⟨k2.trans (ho _ a b1).1, by rw [k1]; exact (ho _ a b1).2.1, (ho _ a b1).2.2⟩
    · obtain ⟨q1, q2⟩ := E.fr a o e n
      have nS : ¬ ∃ i, i < Γ.length ∧ S i a := fun ⟨i, _, si⟩ => by
        rcases (ho i a si).2.2 with w | w
        · rw [w] at e; cases e
        · exact n w
      obtain ⟨r1, r2⟩ := E'.fr a o q1 nS
      exact ⟨r1, r2.trans q2⟩
theorem En.rebase {X : Bs} {F H : Hp} {σ : L2.St} {Γ : List Sl} (E : En X F H σ Γ) :
    ∃ X' : Bs, X'.K = X.K ∧ X'.N = X.N ∧ X'.F0 = F ∧ X'.H0 = H ∧ En X' F H σ Γ ∧ ∀ F' H' σ' Γ', En X' F' H' σ' Γ' → En X F' H' σ' Γ' := by
  obtain ⟨S, hs, hdj, ho⟩ := id E.sl
  refine ⟨⟨X.K, F, H, fun a => ∃ i, S i a, X.N⟩, rfl, rfl, rfl, rfl, ⟨E.le, E.len, ⟨S, fun i s e => (hs i s e).to rfl fun _ h => h, hdj, fun i a h1 => ⟨(ho i a h1).1, (ho i a h1).2.1, .inr ⟨i, h1⟩⟩⟩, fun a o e _ => ⟨e, rfl⟩, Le.rfl', E.nn⟩, fun F' H' σ' Γ' E' => ?_⟩
  have lf : Le F F' := E'.f0
  obtain ⟨S', hs', hdj', ho'⟩ := id E'.sl
  refine ⟨E'.le, E'.len, ⟨S', fun i s e => (hs' i s e).to rfl fun _ h => h, hdj', fun i a h1 => ⟨(ho' i a h1).1, (ho' i a h1).2.1, ?_⟩⟩, fun a o e n => ?_, E.f0.tr lf, E'.nn⟩
  · rcases (ho' i a h1).2.2 with w | ⟨j, w⟩
    · exact E.ownN w
    · exact (ho j a w).2.2
  · obtain ⟨q1, q2⟩ := E.fr a o e n
    have nS : ¬ ∃ i, S i a := fun ⟨i, si⟩ => by
      rcases (ho i a si).2.2 with w | w
      · rw [w] at e; cases e
      · exact n w
    obtain ⟨r1, r2⟩ := E'.fr a o q1 nS
    exact ⟨r1, r2.trans q2⟩

/-- the reading t gives data, of which Q holds; m: its lists are new -/
def WD (K : Kw) (m : Bool) (Γ : List Sl) (t : TE) (Q : PyData → Prop) : Prop := ∀ X : Bs, X.K = K → ∀ F H σ, En X F H σ Γ → ∀ C : VK,
  (∀ v F' H' d, Le F F' → En X F' H' σ Γ → Rp K (X.ff F' m) v d → Q d → C v H') → t σ H C
/-- .. or a new thing of one's own -/
def WX (K : Kw) (Γ : List Sl) (t : TE) (Q : Sl → Prop) : Prop := ∀ X : Bs, X.K = K → ∀ F H σ, En X F H σ Γ → ∀ C : VK,
  (∀ v F' H' s, Le F F' → En X F' H' (σ ++ [some v]) (Γ ++ [s]) → Q s → C v H') → t σ H C
def WT (K : Kw) (Γ : List Sl) (t : TT) (Q : Bool → Prop) : Prop := ∀ X : Bs, X.K = K → ∀ F H σ, En X F H σ Γ → ∀ C : Bool → Hp → Prop,
  (∀ b F' H', Le F F' → En X F' H' σ Γ → Q b → C b H') → t σ H C
/-- an argument: data, or one's own in a slot -/
inductive Ag where
  | d (x : PyData)
  | o (i : Nat)
def Ag.ix : Ag → Option Nat
  | .d _ => none
  | .o i => some i
def Ag.sl (Γ : List Sl) : Ag → Sl
  | .d x => .dat false x
  | .o i => Γ.getD i .no
def AgOk (X : Bs) (m : Bool) (F : Hp) (σ : L2.St) : V → Ag → Prop
  | v, .d x => Rp X.K (X.ff F m) v x
  | v, .o i => σ[i]? = some (some v)
inductive AgsOk (X : Bs) (m : Bool) (F : Hp) (σ : L2.St) : List V → List Ag → Prop
  | nil : AgsOk X m F σ [] []
  | cons {v vs a as} : AgOk X m F σ v a → AgsOk X m F σ vs as → AgsOk X m F σ (v :: vs) (a :: as)
def WA (K : Kw) (m : Bool) (Γ : List Sl) (t : TA) (Q : List Ag → Prop) : Prop := ∀ X : Bs, X.K = K → ∀ F H σ, En X F H σ Γ → ∀ C : List V → Hp → Prop,
  (∀ vs F' H' as, Le F F' → En X F' H' σ Γ → AgsOk X m F' σ vs as → Q as → C vs H') → t σ H C
/-- operations on values -/
def RD (K : Kw) (m : Bool) (Γ : List Sl) (r : R2) (x y : PyData) (Q : PyData → Prop) : Prop := ∀ X : Bs, X.K = K → ∀ F H σ, En X F H σ Γ → ∀ v u, Rp K (X.ff F m) v x → Rp K (X.ff F m) u y → ∀ C : VK,
  (∀ z F' H' d, Le F F' → En X F' H' σ Γ → Rp K (X.ff F' m) z d → Q d → C z H') → r v u H C
def RX (K : Kw) (m : Bool) (Γ : List Sl) (r : R2) (x y : PyData) (Q : Sl → Prop) : Prop := ∀ X : Bs, X.K = K → ∀ F H σ, En X F H σ Γ → ∀ v u, Rp K (X.ff F m) v x → Rp K (X.ff F m) u y → ∀ C : VK,
  (∀ z F' H' s, Le F F' → En X F' H' (σ ++ [some z]) (Γ ++ [s]) → Q s → C z H') → r v u H C
def RU (K : Kw) (m : Bool) (Γ : List Sl) (r : V → Hp → VK → Prop) (x : PyData) (Q : PyData → Prop) : Prop := ∀ X : Bs, X.K = K → ∀ F H σ, En X F H σ Γ → ∀ v, Rp K (X.ff F m) v x → ∀ C : VK,
  (∀ z F' H' d, Le F F' → En X F' H' σ Γ → Rp K (X.ff F' m) z d → Q d → C z H') → r v H C
def RC (K : Kw) (m : Bool) (Γ : List Sl) (r : List V → Hp → VK → Prop) (xs : List PyData) (Q : PyData → Prop) : Prop := ∀ X : Bs, X.K = K → ∀ F H σ, En X F H σ Γ → ∀ vs, RpA K (X.ff F m) vs xs → ∀ C : VK,
  (∀ z F' H' d, Le F F' → En X F' H' σ Γ → Rp K (X.ff F' m) z d → Q d → C z H') → r vs H C
def RCX (K : Kw) (m : Bool) (Γ : List Sl) (r : List V → Hp → VK → Prop) (xs : List PyData) (Q : Sl → Prop) : Prop := ∀ X : Bs, X.K = K → ∀ F H σ, En X F H σ Γ → ∀ vs, RpA K (X.ff F m) vs xs → ∀ C : VK,
  (∀ z F' H' s, Le F F' → En X F' H' (σ ++ [some z]) (Γ ++ [s]) → Q s → C z H') → r vs H C

/-- a slot as data -/
def Sl.toD (m : Bool) : Sl → Option PyData
  | .dat m' d => if m = true ∧ m' = false then none else some d
  | .ml m' _ ds => if m = true ∧ m' = false then none else some (.list ds)
  | .ex _ Φ => if m = true then none else Φ.vw
  | .no => none
/-- what is new may be taken as any -/
theorem Bs.ff_any {X : Bs} {F : Hp} {m m' : Bool} (h : ¬ (m = true ∧ m' = false)) : Le (X.ff F m') (X.ff F m) := by
  cases m with
  | false => exact X.ff_le F m'
  | true =>
    cases m' with
    | true => exact Le.rfl'
    | false => exact absurd ⟨rfl, rfl⟩ h
section
variable {K : Kw} {m : Bool} {Γ : List Sl} {t ta tb : TE} {Q : PyData → Prop} {QX : Sl → Prop}
theorem lastFreeze {X : Bs} {F H : Hp} {σ : L2.St} {v : V} {s : Sl} {d : PyData} (hs : s.toD m = some d) (E : En X F H (σ ++ [some v]) (Γ ++ [s])) : ∃ F', Le F F' ∧ En X F' H σ Γ ∧ Rp X.K (X.ff F' m) v d := by
  have hl : σ.length = Γ.length := by
    have := E.len
    simp at this
    exact this
  cases s with
  | no => cases hs
  | ex u Φ =>
    cases m with
    | true => simp [Sl.toD] at hs
    | false =>
      have hv : Φ.vw = some d := by simpa [Sl.toD] using hs
      obtain ⟨S, h1, hdj, ho⟩ := id E.sl
      obtain ⟨e, hk, p⟩ := h1 Γ.length (.ex u Φ) (by simp)
      rw [← hl, getD_last] at e
      cases e
      obtain ⟨rv, hL⟩ := Φ.view E.le p hv
      have lf : Le F (lay (S Γ.length) H F) := fun a o q => by
        unfold lay
        rw [if_neg fun sa => by rw [(ho _ a sa).1] at q; cases q]
        exact q
      have ln : ∀ a, ¬ S Γ.length a → lay (S Γ.length) H F a = F a := fun a h => by unfold lay; rw [if_neg h]
      have Ed := E.drop
      refine ⟨lay (S Γ.length) H F, lf, ⟨fun a o q => ?_, hl, ⟨fun i a => i < Γ.length ∧ S i a, fun i w q => ?_, fun i j a q1 q2 => hdj i j a q1.2 q2.2, fun i a q => ⟨?_, (ho i a q.2).2⟩⟩, fun a o q n => ⟨(E.fr a o q n).1, ?_⟩, E.f0.tr lf, E.nn⟩, by rw [← hk]; exact rv⟩
      · unfold lay at q
        split at q
        · exact q
        · exact E.le a o q
      · have hi : i < Γ.length := (List.getElem?_eq_some_iff.mp q).1
        have z := h1 i w (by rw [List.getElem?_append_left hi]; exact q)
        rw [getD_app (by rw [hl]; exact hi)] at z
        have eS : (fun a => i < Γ.length ∧ S i a) = S i := by
          funext a
          exact propext ⟨fun z => z.2, fun z => ⟨hi, z⟩⟩
        show SlOk X _ H _ (fun a => i < Γ.length ∧ S i a) w
        rw [eS]
        exact z.mono lf fun _ _ => rfl
      · rw [ln a fun sa => by have := hdj _ _ a sa q.2; omega]
        exact (ho i a q.2).1
      · rw [ln a fun sa => ?_]
        · exact (E.fr a o q n).2
        · rcases (ho _ a sa).2.2 with z | z
          · rw [z] at q; cases q
          · exact n z
  | dat m' x =>
    simp only [Sl.toD] at hs
    split at hs
    · cases hs
    · rename_i hm
      cases hs
      obtain ⟨u, e, r⟩ := E.dat (i := Γ.length) (m := m') (d := d) (by simp)
      rw [← hl] at e
      simp at e
      subst e
      exact ⟨F, Le.rfl', E.drop, r.mono (Bs.ff_any hm)⟩
  | ml m' l ds =>
    simp only [Sl.toD] at hs
    split at hs
    · cases hs
    · rename_i hm
      cases hs
      obtain ⟨F', lf, E'⟩ := E.freeze (i := Γ.length) (m := m') (l := l) (ds := ds) (by simp)
      have e2 : (Γ ++ [Sl.ml m' l ds]).set Γ.length (.dat m' (.list ds)) = Γ ++ [.dat m' (.list ds)] := by simp
      rw [e2] at E'
      obtain ⟨u, e, r⟩ := E'.dat (i := Γ.length) (m := m') (d := .list ds) (by simp)
      rw [← hl] at e
      simp at e
      subst e
      exact ⟨F', lf, E'.drop, r.mono (Bs.ff_any hm)⟩
theorem toD_dat {d : PyData} : (Sl.dat m d).toD m = some d := by cases m <;> simp [Sl.toD]
theorem toD_ml {l : Addr} {ds : List PyData} : (Sl.ml m l ds).toD m = some (.list ds) := by cases m <;> simp [Sl.toD]
theorem WD.ofX (h : WX K Γ t fun s => ∃ d, s.toD m = some d ∧ Q d) : WD K m Γ t Q := fun X hK F H σ E C k =>
  h X hK F H σ E C fun v F' H' s lf E' ⟨d, hs, q⟩ => by
    obtain ⟨F2, l2, E2, r⟩ := lastFreeze hs E'
    subst hK
    exact k v F2 H' d (lf.tr l2) E2 r q
theorem WX.ofD (h : WD K m Γ t fun d => QX (.dat m d)) : WX K Γ t QX := fun X hK F H σ E C k =>
  h X hK F H σ E C fun v F' H' d lf E' r q => k v F' H' _ lf (E'.pushD (by rw [hK]; exact r)) q
theorem RD.ofX {r : R2} {x y : PyData} (h : RX K m Γ r x y fun s => ∃ d, s.toD m = some d ∧ Q d) : RD K m Γ r x y Q := fun X hK F H σ E v u rv ru C k =>
  h X hK F H σ E v u rv ru C fun z F' H' s lf E' ⟨d, hs, q⟩ => by
    obtain ⟨F2, l2, E2, r⟩ := lastFreeze hs E'
    subst hK
    exact k z F2 H' d (lf.tr l2) E2 r q
theorem RC.ofX {r : List V → Hp → VK → Prop} {xs : List PyData} (h : RCX K m Γ r xs fun s => ∃ d, s.toD m = some d ∧ Q d) : RC K m Γ r xs Q := fun X hK F H σ E vs rv C k =>
  h X hK F H σ E vs rv C fun z F' H' s lf E' ⟨d, hs, q⟩ => by
    obtain ⟨F2, l2, E2, r⟩ := lastFreeze hs E'
    subst hK
    exact k z F2 H' d (lf.tr l2) E2 r q
theorem WD.mono {Q' : PyData → Prop} (h : WD K m Γ t Q) (k : ∀ d, Q d → Q' d) : WD K m Γ t Q' := fun X hK F H σ E C c => h X hK F H σ E C fun v F' H' d lf E' r q => c v F' H' d lf E' r (k d q)
theorem WX.mono {Q' : Sl → Prop} (h : WX K Γ t QX) (k : ∀ s, QX s → Q' s) : WX K Γ t Q' := fun X hK F H σ E C c => h X hK F H σ E C fun v F' H' d lf E' q => c v F' H' d lf E' (k d q)
theorem WT.mono {tt : TT} {Q Q' : Bool → Prop} (h : WT K Γ tt Q) (k : ∀ b, Q b → Q' b) : WT K Γ tt Q' := fun X hK F H σ E C c => h X hK F H σ E C fun v F' H' lf E' q => c v F' H' lf E' (k v q)
/-- what holds no list is new -/
theorem wd_lf (h : WD K false Γ t fun d => lf d = true ∧ Q d) : WD K m Γ t Q := fun X hK F H σ E C k =>
  h X hK F H σ E C fun v F' H' d l E' r ⟨z, q⟩ => k v F' H' d l E' (Rp.lfree Bs.ff_tup d z r) q
/-- what is new is data -/
theorem wd_new (h : WD K true Γ t Q) : WD K false Γ t Q := fun X hK F H σ E C k =>
  h X hK F H σ E C fun v F' H' d l E' r q => k v F' H' d l E' (r.mono (X.ff_le F' true)) q

theorem wd_var {i : Nat} {d : PyData} (h : Γ[i]? = some (.dat m d)) (q : Q d) : WD K m Γ (tVar i) Q := fun X hK F H σ E C k => by
  obtain ⟨v, e, r⟩ := E.dat h
  subst hK
  exact ⟨v, e, k v F H d Le.rfl' E r q⟩
theorem wd_varN {i : Nat} {d : PyData} (h : Γ[i]? = some (.dat true d)) (q : Q d) : WD K m Γ (tVar i) Q := by
  cases m with
  | true => exact wd_var h q
  | false => exact wd_new (wd_var h q)
theorem wd_c {v : V} {d : PyData} (h : ∀ F, Rp K F v d) (q : Q d) : WD K m Γ (tC v) Q := fun X hK F H σ E C k => k v F H d Le.rfl' E (h _) q
theorem wd_int {i : Int} (q : Q (.int i)) : WD K m Γ (tC (.int i)) Q := wd_c (fun _ => .int i) q
theorem wd_bl {b : Bool} (q : Q (.bool b)) : WD K m Γ (tC (.bl b)) Q := wd_c (fun _ => .bl b) q
theorem wd_str {x : Str} (q : Q (.str x)) : WD K m Γ (tC (.str x)) Q := wd_c (fun _ => .str x) q
theorem wd_non (q : Q .none) : WD K m Γ (tC .non) Q := wd_c (fun _ => .non) q
theorem Bs.mo {X : Bs} {F F' : Hp} {v : V} {d : PyData} (r : Rp K (X.ff F m) v d) (l : Le F F') : Rp K (X.ff F' m) v d := r.mono (Bs.ff_mono l m)
theorem Bs.moA {X : Bs} {F F' : Hp} {v : List V} {d : List PyData} (r : RpA K (X.ff F m) v d) (l : Le F F') : RpA K (X.ff F' m) v d := r.mono (Bs.ff_mono l m)
theorem wd_op {r : R2} (h : WD K m Γ ta fun x => WD K m Γ tb fun y => RD K m Γ r x y Q) : WD K m Γ (tOp r ta tb) Q := fun X hK F H σ E C k =>
  h X hK F H σ E _ fun v F1 H1 x l1 E1 r1 h1 => h1 X hK F1 H1 σ E1 _ fun u F2 H2 y l2 E2 r2 h2 =>
    h2 X hK F2 H2 σ E2 v u (Bs.mo r1 l2) r2 C fun z F3 H3 d l3 E3 r3 q => k z F3 H3 d (l1.tr (l2.tr l3)) E3 r3 q
theorem wx_op {r : R2} (m : Bool) (h : WD K m Γ ta fun x => WD K m Γ tb fun y => RX K m Γ r x y QX) : WX K Γ (tOp r ta tb) QX := fun X hK F H σ E C k =>
  h X hK F H σ E _ fun v F1 H1 x l1 E1 r1 h1 => h1 X hK F1 H1 σ E1 _ fun u F2 H2 y l2 E2 r2 h2 =>
    h2 X hK F2 H2 σ E2 v u (Bs.mo r1 l2) r2 C fun z F3 H3 d l3 E3 q => k z F3 H3 d (l1.tr (l2.tr l3)) E3 q
theorem wd_un {r : V → Hp → VK → Prop} (h : WD K m Γ ta fun x => RU K m Γ r x Q) : WD K m Γ (tUn r ta) Q := fun X hK F H σ E C k =>
  h X hK F H σ E _ fun v F1 H1 x l1 E1 r1 h1 => h1 X hK F1 H1 σ E1 v r1 C fun z F3 H3 d l3 E3 r3 q => k z F3 H3 d (l1.tr l3) E3 r3 q
theorem En.lef {X : Bs} {F H : Hp} {σ : L2.St} (E : En X F H σ Γ) (m : Bool) : Le (X.ff F m) H := (X.ff_le F m).tr E.le
/-- a plain value: no new object -/
theorem rd_plain {r : R2} {x y d : PyData} (h : ∀ (F H : Hp) v u (C : VK), Le F H → Rp K F v x → Rp K F u y → (∀ z, Rp K F z d → C z H) → r v u H C) (q : Q d) : RD K m Γ r x y Q := fun X hK F H σ E v u rv ru C k =>
  h (X.ff F m) H v u C (E.lef m) rv ru fun z rz => k z F H d Le.rfl' E rz q
theorem rc_plain {r : List V → Hp → VK → Prop} {xs : List PyData} {d : PyData} (h : ∀ (F H : Hp) vs (C : VK), Le F H → RpA K F vs xs → (∀ z, Rp K F z d → C z H) → r vs H C) (q : Q d) : RC K m Γ r xs Q := fun X hK F H σ E vs rv C k =>
  h (X.ff F m) H vs C (E.lef m) rv fun z rz => k z F H d Le.rfl' E rz q
theorem ru_plain {r : V → Hp → VK → Prop} {x d : PyData} (h : ∀ (F H : Hp) v (C : VK), Le F H → Rp K F v x → (∀ z, Rp K F z d → C z H) → r v H C) (q : Q d) : RU K m Γ r x Q := fun X hK F H σ E v rv C k =>
  h (X.ff F m) H v C (E.lef m) rv fun z rz => k z F H d Le.rfl' E rz q
/-- a new list -/
theorem rx_list {r : R2} {x y : PyData} {ds : List PyData} (h : ∀ (F H : Hp) v u (C : VK), Le F H → Rp K F v x → Rp K F u y → (∀ p xs, H p = none → RpA K F xs ds → C (.ref p) (upd H p (.lst xs))) → r v u H C) (q : ∀ l, QX (.ml m l ds)) : RX K m Γ r x y QX := fun X hK F H σ E v u rv ru C k =>
  h (X.ff F m) H v u C (E.lef m) rv ru fun p xs hp rx => k (.ref p) F _ _ Le.rfl' (E.pushM hp (by rw [hK]; exact rx)) (q p)
theorem rcx_list {r : List V → Hp → VK → Prop} {xs ds : List PyData} (h : ∀ (F H : Hp) vs (C : VK), Le F H → RpA K F vs xs → (∀ p ys, H p = none → RpA K F ys ds → C (.ref p) (upd H p (.lst ys))) → r vs H C) (q : ∀ l, QX (.ml m l ds)) : RCX K m Γ r xs QX := fun X hK F H σ E vs rv C k =>
  h (X.ff F m) H vs C (E.lef m) rv fun p xs hp rx => k (.ref p) F _ _ Le.rfl' (E.pushM hp (by rw [hK]; exact rx)) (q p)
/-- a new tuple -/
theorem En.newT {X : Bs} (hK : X.K = K) {F H : Hp} {σ : L2.St} (E : En X F H σ Γ) {p : Addr} {xs : List V} {ds : List PyData} (hp : H p = none) (rx : RpA K (X.ff F m) xs ds) : Le F (upd F p (.tup xs)) ∧ En X (upd F p (.tup xs)) (upd H p (.tup xs)) σ Γ ∧ Rp K (X.ff (upd F p (.tup xs)) m) (.ref p) (.tuple ds) :=
  ⟨Le.up (E.le.nn hp), E.alloc hp, .tup (Bs.ff_tup.1 _ _ (SqT.of upd_same)) (Bs.moA rx (Le.up (E.le.nn hp)))⟩
theorem rc_tuple {r : List V → Hp → VK → Prop} {xs ds : List PyData} (h : ∀ (F H : Hp) vs (C : VK), Le F H → RpA K F vs xs → (∀ p ys, H p = none → RpA K F ys ds → C (.ref p) (upd H p (.tup ys))) → r vs H C) (q : Q (.tuple ds)) : RC K m Γ r xs Q := fun X hK F H σ E vs rv C k =>
  h (X.ff F m) H vs C (E.lef m) rv fun p xs hp rx => let ⟨a, b, c⟩ := E.newT hK hp rx; k (.ref p) _ _ _ a b c q

variable {tt tu : TT} {QT : Bool → Prop}
theorem wt_test (h : WD K false Γ t fun d => ∃ b, d = .bool b ∧ QT b) : WT K Γ (tTest t) QT := fun X hK F H σ E C k =>
  h X hK F H σ E _ fun v F1 H1 x l1 E1 r1 ⟨b, e, q⟩ => by
    subst e
    cases r1
    exact ⟨b, rfl, k b F1 H1 l1 E1 q⟩
theorem wt_B (h : WD K false Γ t fun d => ∃ b, d = .bool b ∧ QT b) : WT K Γ (tB t) QT := fun X hK F H σ E C k =>
  h X hK F H σ E _ fun v F1 H1 x l1 E1 r1 ⟨b, e, q⟩ => by
    subst e
    cases r1
    exact ⟨b, rfl, k b F1 H1 l1 E1 q⟩
theorem wt_not (h : WT K Γ tt fun b => QT (!b)) : WT K Γ (tNot tt) QT := fun X hK F H σ E C k => h X hK F H σ E _ fun b F1 H1 l1 E1 q => k _ F1 H1 l1 E1 q
theorem wt_and (h : WT K Γ tt fun b => if b = true then WT K Γ tu QT else QT false) : WT K Γ (tAnd tt tu) QT := fun X hK F H σ E C k =>
  h X hK F H σ E _ fun b F1 H1 l1 E1 q => by
    cases b with
    | true => exact q X hK F1 H1 σ E1 C fun b F2 H2 l2 E2 q2 => k b F2 H2 (l1.tr l2) E2 q2
    | false => exact k false F1 H1 l1 E1 q
theorem wt_or (h : WT K Γ tt fun b => if b = true then QT true else WT K Γ tu QT) : WT K Γ (tOr tt tu) QT := fun X hK F H σ E C k =>
  h X hK F H σ E _ fun b F1 H1 l1 E1 q => by
    cases b with
    | false => exact q X hK F1 H1 σ E1 C fun b F2 H2 l2 E2 q2 => k b F2 H2 (l1.tr l2) E2 q2
    | true => exact k true F1 H1 l1 E1 q
theorem wt_yes (q : QT true) : WT K Γ tYes QT := fun X hK F H σ E C k => k true F H Le.rfl' E q
theorem wd_andV (h : WD K false Γ ta fun d => ∃ b, d = .bool b ∧ if b = true then WD K m Γ tb Q else Q (.bool false)) : WD K m Γ (tAndV ta tb) Q := fun X hK F H σ E C k =>
  h X hK F H σ E _ fun v F1 H1 x l1 E1 r1 ⟨b, e, q⟩ => by
    subst e
    cases r1
    refine ⟨b, rfl, ?_⟩
    cases b with
    | true => exact q X hK F1 H1 σ E1 C fun v F2 H2 d l2 E2 r q2 => k v F2 H2 d (l1.tr l2) E2 r q2
    | false => exact k _ F1 H1 _ l1 E1 (.bl false) q
theorem wd_orV (h : WD K false Γ ta fun d => ∃ b, d = .bool b ∧ if b = true then Q (.bool true) else WD K m Γ tb Q) : WD K m Γ (tOrV ta tb) Q := fun X hK F H σ E C k =>
  h X hK F H σ E _ fun v F1 H1 x l1 E1 r1 ⟨b, e, q⟩ => by
    subst e
    cases r1
    refine ⟨b, rfl, ?_⟩
    cases b with
    | false => exact q X hK F1 H1 σ E1 C fun v F2 H2 d l2 E2 r q2 => k v F2 H2 d (l1.tr l2) E2 r q2
    | true => exact k _ F1 H1 _ l1 E1 (.bl true) q
theorem wd_notV (h : WD K false Γ ta fun d => ∃ b, d = .bool b ∧ Q (.bool (!b))) : WD K m Γ (tNotV ta) Q := fun X hK F H σ E C k =>
  h X hK F H σ E _ fun v F1 H1 x l1 E1 r1 ⟨b, e, q⟩ => by
    subst e
    cases r1
    exact ⟨b, rfl, k _ F1 H1 _ l1 E1 (.bl _) q⟩
theorem wd_if (h : WT K Γ tt fun b => if b = true then WD K m Γ ta Q else WD K m Γ tb Q) : WD K m Γ (tIf tt ta tb) Q := fun X hK F H σ E C k =>
  h X hK F H σ E _ fun b F1 H1 l1 E1 q => by
    cases b with
    | true => exact q X hK F1 H1 σ E1 C fun v F2 H2 d l2 E2 r q2 => k v F2 H2 d (l1.tr l2) E2 r q2
    | false => exact q X hK F1 H1 σ E1 C fun v F2 H2 d l2 E2 r q2 => k v F2 H2 d (l1.tr l2) E2 r q2
theorem wd_chain {tc : TE} {r r' : R2} (h : WD K false Γ ta fun x => WD K false Γ tb fun y => RD K false Γ r x y fun z => ∃ b, z = .bool b ∧ if b = true then WD K false Γ tc fun w => RD K false Γ r' y w fun z => ∃ b, z = .bool b ∧ Q (.bool b) else Q (.bool false)) : WD K m Γ (tChain r r' ta tb tc) Q := fun X hK F H σ E C k =>
  h X hK F H σ E _ fun v F1 H1 x l1 E1 r1 h1 => h1 X hK F1 H1 σ E1 _ fun u F2 H2 y l2 E2 r2 h2 =>
    h2 X hK F2 H2 σ E2 v u (r1.mono l2) r2 _ fun z F3 H3 d l3 E3 r3 ⟨b, e, q⟩ => by
      subst e
      cases r3
      refine ⟨b, rfl, ?_⟩
      cases b with
      | true =>
        exact q X hK F3 H3 σ E3 _ fun w' F4 H4 d4 l4 E4 r4 q4 => q4 X hK F4 H4 σ E4 u w' (r2.mono (l3.tr l4)) r4 C fun z F5 H5 d5 l5 E5 r5 ⟨b, e, q5⟩ => by
          subst e
          cases r5
          exact k _ F5 H5 _ (l1.tr (l2.tr (l3.tr (l4.tr l5)))) E5 (.bl _) q5
      | false => exact k _ F3 H3 _ (l1.tr (l2.tr l3)) E3 (.bl false) q

theorem AgsOk.mono {X : Bs} {F F' : Hp} {σ : L2.St} (l : Le F F') : ∀ {vs : List V} {as : List Ag}, AgsOk X m F σ vs as → AgsOk X m F' σ vs as
  | _, _, .nil => .nil
  | _, _, .cons (a := .d x) h t => .cons (a := .d x) (Bs.mo h l) (AgsOk.mono l t)
  | _, _, .cons (a := .o i) h t => .cons (a := .o i) h (AgsOk.mono l t)
variable {tr : TA} {QA : List Ag → Prop}
theorem wa_nil (q : QA []) : WA K m Γ tNil QA := fun X hK F H σ E C k => k [] F H [] Le.rfl' E .nil q
theorem wa_d (h : WD K m Γ ta fun d => WA K m Γ tr fun as => QA (.d d :: as)) : WA K m Γ (tCons ta tr) QA := fun X hK F H σ E C k =>
  h X hK F H σ E _ fun v F1 H1 x l1 E1 r1 h1 => h1 X hK F1 H1 σ E1 _ fun vs F2 H2 as l2 E2 r2 q => k (v :: vs) F2 H2 _ (l1.tr l2) E2 (.cons (a := .d x) (by subst hK; exact Bs.mo r1 l2) r2) q
theorem wa_o {i : Nat} {v : V} {Φ : Own} (hi : Γ[i]? = some (.ex v Φ)) (h : WA K m Γ tr fun as => QA (.o i :: as)) : WA K m Γ (tCons (tVar i) tr) QA := fun X hK F H σ E C k =>
  ⟨v, E.ex hi, h X hK F H σ E _ fun vs F2 H2 as l2 E2 r2 q => k (v :: vs) F2 H2 _ l2 E2 (.cons (a := .o i) (E2.ex hi) r2) q⟩
/-- all arguments are data -/
def allD : List Ag → Option (List PyData)
  | [] => some []
  | .d x :: r => (allD r).map (x :: ·)
  | .o _ :: _ => none
theorem AgsOk.all {X : Bs} {F : Hp} {σ : L2.St} : ∀ {vs : List V} {as : List Ag} {ds : List PyData}, AgsOk X m F σ vs as → allD as = some ds → RpA X.K (X.ff F m) vs ds
  | _, _, ds, .nil, e => by cases e; exact .nil
  | _, _, ds, .cons (a := .d x) (as := as) h t, e => by
    cases q : allD as with
    | none => rw [allD, q] at e; cases e
    | some es => rw [allD, q] at e; cases e; exact .cons h (AgsOk.all t q)
  | _, _, ds, .cons (a := .o i) h t, e => by cases e
theorem WA.mono {QA' : List Ag → Prop} (h : WA K m Γ tr QA) (k : ∀ as, QA as → QA' as) : WA K m Γ tr QA' := fun X hK F H σ E C c => h X hK F H σ E C fun vs F' H' as l E' r q => c vs F' H' as l E' r (k as q)
theorem wd_tup (h : WA K m Γ tr fun as => ∃ ds, allD as = some ds ∧ ds.length ≤ 100000 ∧ Q (.tuple ds)) : WD K m Γ (tTup tr) Q := fun X hK F H σ E C k =>
  h X hK F H σ E _ fun vs F1 H1 as l1 E1 r1 ⟨ds, e, hz, q⟩ => by
    have rv := r1.all e
    refine ⟨Nat.le_trans (by rw [rv.length]; exact hz) (by decide), fun p hp => ?_⟩
    obtain ⟨a, b, c⟩ := E1.newT hK hp (by rw [← hK]; exact rv)
    exact k (.ref p) _ _ _ (l1.tr a) b c q
theorem wx_lst (m : Bool) (h : WA K m Γ tr fun as => ∃ ds, allD as = some ds ∧ ds.length ≤ 100000 ∧ ∀ l, QX (.ml m l ds)) : WX K Γ (tLst tr) QX := fun X hK F H σ E C k =>
  h X hK F H σ E _ fun vs F1 H1 as l1 E1 r1 ⟨ds, e, hz, q⟩ => by
    have rv := r1.all e
    refine ⟨Nat.le_trans (by rw [rv.length]; exact hz) (by decide), fun p hp => ?_⟩
    exact k (.ref p) _ _ _ l1 (E1.pushM hp rv) (q p)
theorem wd_lst (h : WA K m Γ tr fun as => ∃ ds, allD as = some ds ∧ ds.length ≤ 100000 ∧ Q (.list ds)) : WD K m Γ (tLst tr) Q :=
  .ofX (wx_lst m (h.mono fun as ⟨ds, e, hz, q⟩ => ⟨ds, e, hz, fun _ => ⟨_, toD_ml, q⟩⟩))
theorem wd_cb {r : List V → Hp → VK → Prop} (h : WA K m Γ tr fun as => ∃ ds, allD as = some ds ∧ RC K m Γ r ds Q) : WD K m Γ (tCB r tr) Q := fun X hK F H σ E C k =>
  h X hK F H σ E _ fun vs F1 H1 as l1 E1 r1 ⟨ds, e, q⟩ => q X hK F1 H1 σ E1 vs (by rw [← hK]; exact r1.all e) C fun z F2 H2 d l2 E2 r2 q2 => k z F2 H2 d (l1.tr l2) E2 r2 q2
end
end Pk
end
section
set_option Elab.async false
set_option linter.all false
set_option maxRecDepth 100000
namespace Pk
open PySem PySem.Spec PyProof.Rows L2

/-- a promise over data: T tells of the arguments what is wanted of the result -/
def spG (K : Kw) (T : List Sl → (Sl → Prop) → Prop) : Sp := fun vs H Q _ => ∃ (X : Bs) (F : Hp) (Γ : List Sl) (Qr : Sl → Prop), X.K = K ∧ X.F0 = F ∧ X.H0 = H ∧ (∀ a, X.N a ↔ H a ≠ none) ∧ En X F H (vs.map some) Γ ∧ T Γ Qr ∧
  ∀ F' H' v s, Le F F' → En X F' H' (vs.map some ++ [some v]) (Γ ++ [s]) → Qr s → Q v H'
/-- the arguments of one's own are unlike slots -/
def AgsGood (Γ : List Sl) (as : List Ag) : Prop := (as.filterMap Ag.ix).Nodup ∧ ∀ i ∈ as.filterMap Ag.ix, ∃ v Φ, Γ[i]? = some (.ex v Φ)
theorem ix_mem {as : List Ag} {k i : Nat} (h : as[k]? = some (.o i)) : i ∈ as.filterMap Ag.ix := List.mem_filterMap.mpr ⟨.o i, List.mem_of_getElem? h, rfl⟩
theorem ix_inj : ∀ {as : List Ag} {k k' i : Nat}, (as.filterMap Ag.ix).Nodup → as[k]? = some (.o i) → as[k']? = some (.o i) → k = k'
  | [], k, k', i, _, h, _ => by simp at h
  | a :: as, 0, 0, i, _, _, _ => rfl
  | a :: as, 0, k' + 1, i, nd, h, h' => by
    simp at h h'
    subst h
    simp [Ag.ix] at nd
    exact absurd h' (fun z => nd.1 _ (List.mem_of_getElem? z) rfl)
  | a :: as, k + 1, 0, i, nd, h, h' => by
    simp at h h'
    subst h'
    simp [Ag.ix] at nd
    exact absurd h (fun z => nd.1 _ (List.mem_of_getElem? z) rfl)
  | a :: as, k + 1, k' + 1, i, nd, h, h' => by
    simp at h h'
    have nd' : (as.filterMap Ag.ix).Nodup := by
      cases a with
      | d x => exact nd
      | o j => simp [Ag.ix] at nd; exact nd.2
    rw [ix_inj nd' h h']
theorem AgsOk.len {X : Bs} {m : Bool} {F : Hp} {σ : L2.St} : ∀ {vs : List V} {as : List Ag}, AgsOk X m F σ vs as → vs.length = as.length
  | _, _, .nil => rfl
  | _, _, .cons _ t => by simp [AgsOk.len t]
theorem AgsOk.at {X : Bs} {m : Bool} {F : Hp} {σ : L2.St} : ∀ {vs : List V} {as : List Ag} {k : Nat} {a : Ag}, AgsOk X m F σ vs as → as[k]? = some a → ∃ v, vs[k]? = some v ∧ AgOk X m F σ v a
  | _, _, _, _, .nil, e => by simp at e
  | _, _, 0, _, .cons h _, e => by simp at e; subst e; exact ⟨_, rfl, h⟩
  | _, _, k + 1, a, .cons _ t, e => by
    obtain ⟨v, h1, h2⟩ := AgsOk.at (k := k) (a := a) t (by simpa using e)
    exact ⟨v, by simpa using h1, h2⟩
theorem map_some_getD {vs : List V} {k : Nat} {v : V} (h : vs[k]? = some v) : (vs.map some).getD k none = some v := by
  simp [List.getD_eq_getElem?_getD, h]
/-- THE CALL over data: what the called sees, and how its end is ours -/
theorem call_sp {K : Kw} {Γ : List Sl} {X : Bs} (hK : X.K = K) {F H : Hp} {σ : L2.St} (E : En X F H σ Γ) {vs : List V} {as : List Ag} (ra : AgsOk X false F σ vs as) (hg : AgsGood Γ as) :
    ∃ X1 : Bs, X1.K = K ∧ X1.F0 = F ∧ X1.H0 = H ∧ (∀ a, X1.N a ↔ H a ≠ none) ∧ En X1 F H (vs.map some) (as.map (Ag.sl Γ)) ∧ ∀ F' H' v s, Le F F' → En X1 F' H' (vs.map some ++ [some v]) (as.map (Ag.sl Γ) ++ [s]) → En X F' H' (σ ++ [some v]) (Γ ++ [s]) := by
  subst hK
  obtain ⟨S, hs, hdj, ho⟩ := id E.sl
  obtain ⟨nd, hex⟩ := hg
  have exv : ∀ {k i : Nat}, as[k]? = some (.o i) → ∃ v Φ, Γ[i]? = some (.ex v Φ) ∧ vs[k]? = some v ∧ σ.getD i none = some v ∧ Φ.K = X.K ∧ Φ.p F H v (S i) := fun {k i} h => by
    obtain ⟨v, Φ, hΓ⟩ := hex i (ix_mem h)
    obtain ⟨e, hk, q⟩ := hs i _ hΓ
    obtain ⟨u, hu, hv⟩ := ra.at h
    have e2 : σ[i]? = some (some v) := E.ex hΓ
    have e3 : σ[i]? = some (some u) := hv
    rw [e2] at e3
    cases e3
    exact ⟨v, Φ, hΓ, hu, e, hk, q⟩
  refine ⟨⟨X.K, F, H, fun a => ∃ (k i : Nat), as[k]? = some (.o i) ∧ S i a, fun a => H a ≠ none⟩, rfl, rfl, rfl, fun _ => Iff.rfl, ⟨E.le, by simp [ra.len], ⟨fun k a => ∃ (i : Nat), as[k]? = some (.o i) ∧ S i a, fun k s e => ?_, fun k k' a h1 h2 => ?_, fun k a h1 => ?_⟩, fun a o e _ => ⟨e, rfl⟩, Le.rfl', fun _ h => h⟩, fun F' H' v s lf E' => ?_⟩
  · rw [List.getElem?_map] at e
    cases ha : as[k]? with
    | none => rw [ha] at e; cases e
    | some a =>
      rw [ha] at e
      cases e
      cases a with
      | d x =>
        obtain ⟨u, hu, hv⟩ := ra.at ha
        exact ⟨⟨u, map_some_getD hu, hv⟩, fun a ⟨i, z, _⟩ => by rw [ha] at z; cases z⟩
      | o i =>
        obtain ⟨u, Φ, hΓ, hu, _, hk, q⟩ := exv ha
        have e1 : Ag.sl Γ (.o i) = .ex u Φ := by simp [Ag.sl, List.getD_eq_getElem?_getD, hΓ]
        rw [e1]
        have eS : (fun a => ∃ (j : Nat), as[k]? = some (.o j) ∧ S j a) = S i := by
          funext a
          apply propext
          constructor
          · rintro ⟨j, e, z⟩
            rw [ha] at e
            cases e
            exact z
          · intro z; exact ⟨i, ha, z⟩
        show SlOk _ F H _ (fun a => ∃ (j : Nat), as[k]? = some (.o j) ∧ S j a) _
        rw [eS]
        exact ⟨map_some_getD hu, hk, q⟩
  · obtain ⟨i, e1, s1⟩ := h1
    obtain ⟨j, e2, s2⟩ := h2
    have := hdj i j a s1 s2
    subst this
    exact ix_inj nd e1 e2
  · obtain ⟨i, e1, s1⟩ := h1
    exact ⟨(ho i a s1).1, (ho i a s1).2.1, .inr ⟨k, i, e1, s1⟩⟩
  · -- behind the call
    obtain ⟨S', hs', hdj', ho'⟩ := id E'.sl
    have hlen : (vs.map some).length = (as.map (Ag.sl Γ)).length := by simp [ra.len]
    have notP : ∀ j a, S j a → (∀ (k : Nat), as[k]? ≠ some (.o j)) → ¬ ∃ (k i : Nat), as[k]? = some (.o i) ∧ S i a := fun j a sj hn ⟨k, i, e, si⟩ => by
      have := hdj i j a si sj
      subst this
      exact hn k e
    have keepP : ∀ j a, S j a → (∀ (k : Nat), as[k]? ≠ some (.o j)) → H' a = H a ∧ F' a = F a := fun j a sj hn => by
      obtain ⟨_, h1, _⟩ := ho j a sj
      cases z : H a with
      | none => exact absurd z h1
      | some o => exact E'.fr a o z (notP j a sj hn)
    have disP : ∀ k j a, S' k a → S j a → (∀ (k : Nat), as[k]? ≠ some (.o j)) → False := fun k j a h1 sj hn => by
      rcases (ho' k a h1).2.2 with w | w
      · exact (ho j a sj).2.1 w
      · exact notP j a sj hn w
    have ownX : ∀ k a, S' k a → X.own a := fun k a h1 => by
      rcases (ho' k a h1).2.2 with w | ⟨k', i, _, w⟩
      · exact E.ownN w
      · exact (ho i a w).2.2
    have kl : ∀ {k i : Nat}, as[k]? = some (.o i) → k < as.length := fun h => (List.getElem?_eq_some_iff.mp h).1
    refine ⟨E'.le, by simp [E.len], ⟨fun j a => (j < Γ.length ∧ ((∃ (k : Nat), as[k]? = some (.o j) ∧ S' k a) ∨ ((∀ (k : Nat), as[k]? ≠ some (.o j)) ∧ S j a))) ∨ (j = Γ.length ∧ S' as.length a), fun j u e => ?_, fun j j' a h1 h2 => ?_, fun j a h1 => ?_⟩, fun a o e n => ?_, E.f0.tr lf, fun a n => E'.nn a (E.nn a n)⟩
    · have hj : j < (Γ ++ [s]).length := (List.getElem?_eq_some_iff.mp e).1
      simp only [List.length_append, List.length_cons, List.length_nil] at hj
      by_cases hlt : j < Γ.length
      · rw [List.getElem?_append_left hlt] at e
        rw [getD_app (by rw [E.len]; exact hlt)]
        by_cases hp : ∃ (k : Nat), as[k]? = some (.o j)
        · obtain ⟨k, hk⟩ := hp
          obtain ⟨u0, Φ, hΓ, hu, e0, hkk, _⟩ := exv hk
          rw [hΓ] at e
          cases e
          have eS : (fun a => (j < Γ.length ∧ ((∃ (k : Nat), as[k]? = some (.o j) ∧ S' k a) ∨ ((∀ (k : Nat), as[k]? ≠ some (.o j)) ∧ S j a))) ∨ (j = Γ.length ∧ S' as.length a)) = S' k := by
            funext a
            apply propext
            constructor
            · rintro (⟨_, ⟨k', e', z⟩ | ⟨z, _⟩⟩ | ⟨z, _⟩)
              · rw [ix_inj nd hk e']; exact z
              · exact absurd hk (z k)
              · omega
            · intro z; exact .inl ⟨hlt, .inl ⟨k, hk, z⟩⟩
          show SlOk X F' H' _ (fun a => (j < Γ.length ∧ ((∃ (k : Nat), as[k]? = some (.o j) ∧ S' k a) ∨ ((∀ (k : Nat), as[k]? ≠ some (.o j)) ∧ S j a))) ∨ (j = Γ.length ∧ S' as.length a)) _
          rw [eS]
          have hk' : k < as.length := kl hk
          have q1 := hs' k (.ex u0 Φ) (by
            rw [List.getElem?_append_left (by simpa using hk'), List.getElem?_map, hk]
            simp [Ag.sl, List.getD_eq_getElem?_getD, hΓ])
          exact ⟨e0, hkk, q1.2.2⟩
        · have hn : ∀ (k : Nat), as[k]? ≠ some (.o j) := fun k z => hp ⟨k, z⟩
          have eS : (fun a => (j < Γ.length ∧ ((∃ (k : Nat), as[k]? = some (.o j) ∧ S' k a) ∨ ((∀ (k : Nat), as[k]? ≠ some (.o j)) ∧ S j a))) ∨ (j = Γ.length ∧ S' as.length a)) = S j := by
            funext a
            apply propext
            constructor
            · rintro (⟨_, ⟨k', e', z⟩ | ⟨_, z⟩⟩ | ⟨z, _⟩)
              · exact absurd e' (hn k')
              · exact z
              · omega
            · intro z; exact .inl ⟨hlt, .inr ⟨hn, z⟩⟩
          show SlOk X F' H' _ (fun a => (j < Γ.length ∧ ((∃ (k : Nat), as[k]? = some (.o j) ∧ S' k a) ∨ ((∀ (k : Nat), as[k]? ≠ some (.o j)) ∧ S j a))) ∨ (j = Γ.length ∧ S' as.length a)) _
          rw [eS]
          exact (hs j u e).mono lf fun a sa => (keepP j a sa hn).1
      · have hje : j = Γ.length := by omega
        subst hje
        simp at e
        subst e
        have eS : (fun a => (Γ.length < Γ.length ∧ ((∃ (k : Nat), as[k]? = some (.o Γ.length) ∧ S' k a) ∨ ((∀ (k : Nat), as[k]? ≠ some (.o Γ.length)) ∧ S Γ.length a))) ∨ (Γ.length = Γ.length ∧ S' as.length a)) = S' as.length := by
          funext a
          apply propext
          constructor
          · rintro (⟨z, _⟩ | ⟨_, z⟩)
            · omega
            · exact z
          · intro z; exact .inr ⟨rfl, z⟩
        show SlOk X F' H' _ (fun a => (Γ.length < Γ.length ∧ ((∃ (k : Nat), as[k]? = some (.o Γ.length) ∧ S' k a) ∨ ((∀ (k : Nat), as[k]? ≠ some (.o Γ.length)) ∧ S Γ.length a))) ∨ (Γ.length = Γ.length ∧ S' as.length a)) _
        rw [eS, ← E.len, getD_last]
        have q1 := hs' as.length s (by
          have : as.length = (as.map (Ag.sl Γ)).length := by simp
          rw [this]
          simp)
        have e4 : (vs.map some ++ [some v]).getD as.length none = some v := by
          have : as.length = (vs.map some).length := by simp [ra.len]
          rw [this, getD_last]
        rw [e4] at q1
        refine SlOk.to ?_ ?_ q1
        · rfl
        · exact fun a n => E.nn a n
    · rcases h1 with ⟨a1, ⟨k1, e1, z1⟩ | ⟨n1, z1⟩⟩ | ⟨a1, z1⟩ <;> rcases h2 with ⟨a2, ⟨k2, e2, z2⟩ | ⟨n2, z2⟩⟩ | ⟨a2, z2⟩
      · have := hdj' k1 k2 a z1 z2
        subst this
        rw [e1] at e2
        cases e2
        rfl
      · exact (disP k1 j' a z1 z2 n2).elim
      · have := hdj' k1 as.length a z1 z2
        have := kl e1
        omega
      · exact (disP k2 j a z2 z1 n1).elim
      · exact hdj j j' a z1 z2
      · exact (disP _ j a z2 z1 n1).elim
      · have := hdj' k2 as.length a z2 z1
        have := kl e2
        omega
      · exact (disP _ j' a z1 z2 n2).elim
      · omega
    · rcases h1 with ⟨a1, ⟨k1, e1, z1⟩ | ⟨n1, z1⟩⟩ | ⟨a1, z1⟩
      · exact ⟨(ho' k1 a z1).1, (ho' k1 a z1).2.1, ownX k1 a z1⟩
      · obtain ⟨q1, q2⟩ := keepP j a z1 n1
        exact ⟨q2.trans (ho j a z1).1, by rw [q1]; exact (ho j a z1).2.1, (ho j a z1).2.2⟩
      · exact ⟨(ho' _ a z1).1, (ho' _ a z1).2.1, ownX _ a z1⟩
    · obtain ⟨q1, q2⟩ := E.fr a o e n
      have nS : ¬ ∃ (k i : Nat), as[k]? = some (.o i) ∧ S i a := fun ⟨k, i, _, si⟩ => by
        rcases (ho i a si).2.2 with w | w
        · rw [w] at e; cases e
        · exact n w
      obtain ⟨r1, r2⟩ := E'.fr a o q1 nS
      exact ⟨r1, r2.trans q2⟩
theorem call_g {K : Kw} {Γ : List Sl} {T : List Sl → (Sl → Prop) → Prop} {X : Bs} (hK : X.K = K) {F H : Hp} {σ : L2.St} (E : En X F H σ Γ) {vs : List V} {as : List Ag} (ra : AgsOk X false F σ vs as) (hg : AgsGood Γ as) {Qr : Sl → Prop} (hT : T (as.map (Ag.sl Γ)) Qr) {C : VK} {EE : XK}
    (k : ∀ v F' H' s, Le F F' → En X F' H' (σ ++ [some v]) (Γ ++ [s]) → Qr s → C v H') : spG K T vs H C EE := by
  obtain ⟨X1, a, b, c, d, e, f⟩ := call_sp hK E ra hg
  exact ⟨X1, F, _, Qr, a, b, c, d, e, hT, fun F' H' v s lf E' q => k v F' H' s lf (f F' H' v s lf E') q⟩
section
variable {K : Kw} {Γ : List Sl} {T : List Sl → (Sl → Prop) → Prop} {EE : XK} {tr : TA}
theorem wx_call {QX : Sl → Prop} (h : WA K false Γ tr fun as => AgsGood Γ as ∧ T (as.map (Ag.sl Γ)) QX) : WX K Γ (tCall (spG K T) [] EE tr) QX := fun X hK F H σ E C k =>
  h X hK F H σ E _ fun vs F1 H1 as l1 E1 r1 ⟨hg, hT⟩ => by
    rw [List.append_nil]
    exact call_g hK E1 r1 hg hT fun v F' H' s lf E' q => k v F' H' s (l1.tr lf) E' q
/-- arguments that are data alone -/
theorem agsGood_d {as : List Ag} {ds : List PyData} (h : allD as = some ds) : AgsGood Γ as := by
  have e : as.filterMap Ag.ix = [] := by
    induction as generalizing ds with
    | nil => rfl
    | cons a as ih =>
      cases a with
      | o i => cases h
      | d x =>
        cases q : allD as with
        | none => rw [allD, q] at h; cases h
        | some es => simpa [Ag.ix] using ih q
  exact ⟨by rw [e]; exact List.nodup_nil, fun i hi => by rw [e] at hi; cases hi⟩
theorem agsGood_1 {i : Nat} {v : V} {Φ : Own} {as : List Ag} {ds : List PyData} (hi : Γ[i]? = some (.ex v Φ)) (h : allD as = some ds) : AgsGood Γ (.o i :: as) := by
  have e : as.filterMap Ag.ix = [] := by
    induction as generalizing ds with
    | nil => rfl
    | cons a as ih =>
      cases a with
      | o i => cases h
      | d x =>
        cases q : allD as with
        | none => rw [allD, q] at h; cases h
        | some es => simpa [Ag.ix] using ih q
  have e' : (Ag.o i :: as).filterMap Ag.ix = [i] := by simp [Ag.ix, e]
  refine ⟨by rw [e']; simp, fun j hj => ?_⟩
  rw [e'] at hj
  simp at hj
  subst hj
  exact ⟨v, Φ, hi⟩
end

/-- the fields of an exception; where they stand -/
abbrev Fs := List (Str × V)
def FsAt (F : Hp) : Option Fs → Option Addr → Prop
  | none, d => d = none
  | some fs, d => ∃ a, d = some a ∧ F a = some (.xd fs)
structure Po where
  nx : List Sl → Prop
  rt : Sl → List Sl → Prop
  bk : List Sl → Prop := fun _ => False
  ct : List Sl → Prop := fun _ => False
  /-- what an exception is let out to, and what is told of it -/
  W : Value → Option Addr → L2.St → Hp → Prop := fun _ _ _ _ => False
  ex : Value → Option Fs → List Sl → Prop := fun _ _ _ => False
structure Meets (X : Bs) (P : Po) (D : Ends) : Prop where
  nx : ∀ F H σ Γ, En X F H σ Γ → P.nx Γ → D.nx σ H
  rt : ∀ F H σ Γ v s, En X F H (σ ++ [some v]) (Γ ++ [s]) → P.rt s Γ → D.rt v H
  bk : ∀ F H σ Γ, En X F H σ Γ → P.bk Γ → D.bk σ H
  ct : ∀ F H σ Γ, En X F H σ Γ → P.ct Γ → D.ct σ H
  xc : ∀ F H σ Γ cls o d, En X F H σ Γ → FsAt F o d → P.ex cls o Γ → P.W cls d σ H
def SJ (K : Kw) (Γ : List Sl) (ts : TS) (P : Po) : Prop := ∀ X : Bs, X.K = K → ∀ F H σ, En X F H σ Γ → ∀ D : Ends, Meets X P D → ts D σ H

/-- the def's own base, not a loop's -/
def Bs.Top (X : Bs) : Prop := (∀ a, X.N a ↔ X.H0 a ≠ none) ∧ Le X.F0 X.H0
/-- .. at the def's own level -/
def SJt (K : Kw) (Γ : List Sl) (ts : TS) (P : Po) : Prop := ∀ X : Bs, X.K = K → X.Top → ∀ F H σ, En X F H σ Γ → ∀ D : Ends, Meets X P D → ts D σ H
theorem SJ.t {K : Kw} {Γ : List Sl} {ts : TS} {P : Po} (h : SJ K Γ ts P) : SJt K Γ ts P := fun X hK _ F H σ E D hD => h X hK F H σ E D hD
/-- what the def keeps of the arguments of others -/
def Keep (Γ Γ' : List Sl) : Prop := ∀ (i : Nat) (v : V) (Φ : Own), Γ[i]? = some (.ex v Φ) → Γ'[i]? = some (.ex v Φ)
theorem keep_nil {Γ' : List Sl} : Keep [] Γ' := fun i v Φ h => by simp at h
theorem keep_ex {v : V} {Φ : Own} {Γ Γ' : List Sl} (h : Keep Γ Γ') : Keep (.ex v Φ :: Γ) (.ex v Φ :: Γ') := fun i u Ψ e => by
  cases i with
  | zero => simpa using e
  | succ i => simp at e ⊢; exact h i u Ψ e
theorem keep_dat {m : Bool} {d : PyData} {s : Sl} {Γ Γ' : List Sl} (h : Keep Γ Γ') : Keep (.dat m d :: Γ) (s :: Γ') := fun i u Ψ e => by
  cases i with
  | zero => simp at e
  | succ i => simp at e ⊢; exact h i u Ψ e
/-- no lists of one's own among arguments -/
def NoMl (Γ : List Sl) : Prop := ∀ (i : Nat) (m : Bool) (l : Addr) (ds : List PyData), Γ[i]? ≠ some (.ml m l ds)
theorem noMl_nil : NoMl [] := fun i m l ds h => by simp at h
theorem noMl_dat {m : Bool} {d : PyData} {Γ : List Sl} (h : NoMl Γ) : NoMl (.dat m d :: Γ) := fun i m l ds e => by
  cases i with
  | zero => simp at e
  | succ i => simp at e; exact h i m l ds e
theorem noMl_ex {v : V} {Φ : Own} {Γ : List Sl} (h : NoMl Γ) : NoMl (.ex v Φ :: Γ) := fun i m l ds e => by
  cases i with
  | zero => simp at e
  | succ i => simp at e; exact h i m l ds e
theorem En.pad {X : Bs} {F H : Hp} {σ : L2.St} {Γ : List Sl} (E : En X F H σ Γ) (n : Nat) : En X F H (σ ++ List.replicate n none) (Γ ++ List.replicate n .no) := by
  induction n with
  | zero => simpa using E
  | succ n ih =>
    rw [List.replicate_succ', List.replicate_succ', ← List.append_assoc, ← List.append_assoc]
    exact ih.pushG (T := fun _ => False) Le.rfl' E.le (fun _ _ q => q) (fun _ _ _ => rfl) (fun _ z => z) (fun _ z => z.elim)
/-- the arguments as they stand at the end -/
theorem En.back {X : Bs} {F H F' H' : Hp} {σ' : L2.St} {Γ Γ' : List Sl} {vs : List V} {ov : Option V} {s : Sl} (E0 : En X F H (vs.map some) Γ) (hF : X.F0 = F) (nm : NoMl Γ) (kp : Keep Γ Γ') (E : En X F' H' (σ' ++ [ov]) (Γ' ++ [s])) : En X F' H' (vs.map some ++ [ov]) (Γ ++ [s]) := by
  have lf : Le F F' := by rw [← hF]; exact E.f0
  have hl : σ'.length = Γ'.length := by
    have := E.len
    simp at this
    exact this
  obtain ⟨S0, hs0, _, _⟩ := id E0.sl
  obtain ⟨S, hs, hdj, ho⟩ := id E.sl
  refine ⟨E.le, by simp [← E0.len], ⟨fun i a => (i < Γ.length ∧ (∃ v Φ, Γ[i]? = some (.ex v Φ)) ∧ S i a) ∨ (i = Γ.length ∧ S Γ'.length a), fun i u e => ?_, fun i j a h1 h2 => ?_, fun i a h1 => ?_⟩, E.fr, E.f0, E.nn⟩
  · have hi : i < (Γ ++ [s]).length := (List.getElem?_eq_some_iff.mp e).1
    simp only [List.length_append, List.length_cons, List.length_nil] at hi
    by_cases hlt : i < Γ.length
    · rw [List.getElem?_append_left hlt] at e
      rw [getD_app (by rw [E0.len]; exact hlt)]
      cases u with
      | no =>
        intro a z
        rcases z with ⟨_, ⟨v, Φ, z⟩, _⟩ | ⟨z, _⟩
        · rw [e] at z; cases z
        · omega
      | dat m d =>
        obtain ⟨⟨v, ev, r⟩, _⟩ := hs0 i _ e
        refine ⟨⟨v, ev, Bs.mo r lf⟩, fun a z => ?_⟩
        rcases z with ⟨_, ⟨v, Φ, z⟩, _⟩ | ⟨z, _⟩
        · rw [e] at z; cases z
        · omega
      | ml m l ds => exact absurd e (nm i m l ds)
      | ex v Φ =>
        have e' := kp i v Φ e
        have hi' : i < Γ'.length := (List.getElem?_eq_some_iff.mp e').1
        have q := hs i _ (by rw [List.getElem?_append_left hi']; exact e')
        obtain ⟨ev, hk, _⟩ := hs0 i _ e
        have eS : (fun a => (i < Γ.length ∧ (∃ v Φ, Γ[i]? = some (.ex v Φ)) ∧ S i a) ∨ (i = Γ.length ∧ S Γ'.length a)) = S i := by
          funext a
          apply propext
          constructor
          · rintro (⟨_, _, z⟩ | ⟨z, _⟩)
            · exact z
            · omega
          · intro z; exact .inl ⟨hlt, ⟨v, Φ, e⟩, z⟩
        show SlOk X F' H' _ (fun a => (i < Γ.length ∧ (∃ v Φ, Γ[i]? = some (.ex v Φ)) ∧ S i a) ∨ (i = Γ.length ∧ S Γ'.length a)) _
        rw [eS]
        exact ⟨ev, hk, q.2.2⟩
    · have hie : i = Γ.length := by omega
      subst hie
      simp at e
      subst e
      have eS : (fun a => (Γ.length < Γ.length ∧ (∃ v Φ, Γ[Γ.length]? = some (.ex v Φ)) ∧ S Γ.length a) ∨ (Γ.length = Γ.length ∧ S Γ'.length a)) = S Γ'.length := by
        funext a
        apply propext
        constructor
        · rintro (⟨z, _⟩ | ⟨_, z⟩)
          · omega
          · exact z
        · intro z; exact .inr ⟨rfl, z⟩
      show SlOk X F' H' _ (fun a => (Γ.length < Γ.length ∧ (∃ v Φ, Γ[Γ.length]? = some (.ex v Φ)) ∧ S Γ.length a) ∨ (Γ.length = Γ.length ∧ S Γ'.length a)) _
      rw [eS, ← E0.len, getD_last]
      have q := hs Γ'.length s (by simp)
      rw [← hl, getD_last, hl] at q
      exact q
  · have le : ∀ {i : Nat}, (∃ v Φ, Γ[i]? = some (Sl.ex v Φ)) → i < Γ'.length := fun {i} ⟨v, Φ, z⟩ => (List.getElem?_eq_some_iff.mp (kp i v Φ z)).1
    rcases h1 with ⟨a1, b1, c1⟩ | ⟨a1, c1⟩ <;> rcases h2 with ⟨a2, b2, c2⟩ | ⟨a2, c2⟩
    · exact hdj i j a c1 c2
    · have := hdj _ _ a c1 c2
      have := le b1
      omega
    · have := hdj _ _ a c1 c2
      have := le b2
      omega
    · omega
  · rcases h1 with ⟨a1, b1, c1⟩ | ⟨a1, c1⟩
    · exact ho i a c1
    · exact ho _ a c1
/-- what is wanted of a def's body -/
def retP (Γ : List Sl) (Qr : Sl → Prop) : Po := { nx := fun Γ' => Keep Γ Γ' ∧ Qr (.dat true .none), rt := fun s Γ' => Keep Γ Γ' ∧ Qr s }
section
variable {P : Program} {K : Kw} {mg : Str → Option Value} {base : Heap}
/-- a body keeps its promise -/
theorem body_g {N : List Str} {T : List Sl → (Sl → Prop) → Prop} {vs : List V} {H : Hp} {Q : VK} {E : XK} {t : TS} (h : spG K T vs H Q E) (hn : ∀ Γ Qr, T Γ Qr → NoMl Γ) (hj : ∀ Γ Qr, T Γ Qr → SJt K (Γ ++ List.replicate (N.length - Γ.length) .no) t (retP Γ Qr)) : t { nx := fun _ H' => Q .non H', rt := Q } (L2.start N vs) H := by
  obtain ⟨X, F, Γ, Qr, hK, hF, hH, hNN, E0, hT, k⟩ := h
  have hl : vs.length = Γ.length := by simpa using E0.len
  have Ep := E0.pad (N.length - Γ.length)
  have es : L2.start N vs = vs.map some ++ List.replicate (N.length - Γ.length) none := by rw [L2.start, hl]
  rw [es]
  refine hj Γ Qr hT X hK ⟨fun a => by rw [hH]; exact hNN a, by rw [hF, hH]; exact E0.le⟩ F H _ Ep _ ⟨fun F' H' σ' Γ' E' ⟨kp, q⟩ => ?_, fun F' H' σ' Γ' v s E' ⟨kp, q⟩ => ?_, fun _ _ _ _ _ z => z, fun _ _ _ _ _ z => z, fun _ _ _ _ _ _ _ _ _ z => z⟩
  · exact k F' H' .non (.dat true .none) (by rw [← hF]; exact E'.f0) (E0.back hF (hn Γ Qr hT) kp (E'.pushD .non)) q
  · exact k F' H' v s (by rw [← hF]; exact E'.drop.f0) (E0.back hF (hn Γ Qr hT) kp E') q
theorem len_g {T : List Sl → (Sl → Prop) → Prop} {n : Nat} (hl : ∀ Γ Qr, T Γ Qr → Γ.length = n) : ∀ vs H Q E, spG K T vs H Q E → vs.length = n := fun vs H Q E h => by
  obtain ⟨X, F, Γ, Qr, hK, hF, hH, hNN, E0, hT, k⟩ := h
  have := E0.len
  rw [List.length_map] at this
  rw [this]
  exact hl Γ Qr hT
/-- a def that calls what it calls, as others call it -/
structure Cal (P : Program) (w : World) (K : PySem.W.Frag) (mg : Str → Option Value) (base : Heap) (CX : CXT) (k : Nat) (x : Str) (ps : List Str) (sp : Sp) : Prop where
  ex : ∃ f fd, mg x = some (.ref f) ∧ PySem.W.keepIn K (.ref f) = true ∧ Binds K fd ps [] ∧ FnOk P w K mg base CX k f fd ps sp
/-- where a def stands, and how it is called -/
structure Def (K : PySem.W.Frag) (mg : Str → Option Value) (x : Str) (st : Stmt) (ps : List Str) : Prop where
  ex : ∃ f fd, mg x = some (.ref f) ∧ Fun K x x st f fd ∧ Binds K fd ps []
theorem Cal.mono {CX : CXT} {j k : Nat} {x : Str} {ps : List Str} {sp : Sp} (c : Cal P K.w K mg base CX j x ps sp) (h : j ≤ k) : Cal P K.w K mg base CX k x ps sp :=
  let ⟨f, fd, a, b, d, e⟩ := c.ex
  ⟨f, fd, a, b, d, e.mono h⟩
theorem Cal.imp {CX : CXT} {k : Nat} {x : Str} {ps : List Str} {sp sp' : Sp} (c : Cal P K.w K mg base CX k x ps sp) (h : ∀ vs H Q E, sp' vs H Q E → sp vs H Q E) : Cal P K.w K mg base CX k x ps sp' :=
  let ⟨f, fd, a, b, d, e⟩ := c.ex
  ⟨f, fd, a, b, d, e.imp h⟩
/-- THE RULE for a def over data that raises nothing -/
theorem cal_g {x : Str} {st : Stmt} {N ps : List Str} {k : Nat} {T : List Sl → (Sl → Prop) → Prop} (D : Def K mg x st ps) (S : FnScope N ps (defScope st)) (hT : ∀ Γ Qr, T Γ Qr → Γ.length = ps.length ∧ NoMl Γ)
    (hb : ∀ (f : Addr) (cdv : Value) (A : Around) (outer : List Env) (s : Shared) (H : Hp) (E : XK), Room k (A.deeper (envOfC x (defScope st) s.heap.objs.size f cdv)) →
      ∃ t, PSs (cxOf CX0 P K.w K mg base N x (defScope st) f cdv A outer s H E).nox (defBody st) t ∧ ∀ Γ Qr, T Γ Qr → SJ K (Γ ++ List.replicate (N.length - Γ.length) .no) t (retP Γ Qr)) : Cal P K.w K mg base CX0 (k + 1) x ps (spG K T) := by
  obtain ⟨f, fd, a, F, b⟩ := D.ex
  refine ⟨f, fd, a, F.kp, b, F.ok S (len_g fun Γ Qr h => (hT Γ Qr h).1) fun cdv A outer s H vs Q E hr h => ?_⟩
  obtain ⟨t, ht, hj⟩ := hb f cdv A outer s H E hr
  exact ⟨t, ht, body_g h (fun Γ Qr z => (hT Γ Qr z).2) fun Γ Qr z => (hj Γ Qr z).t⟩
/-- a def of which nothing is asked -/
theorem cal_no {x : Str} {st : Stmt} {ps : List Str} {k : Nat} (D : Def K mg x st ps) : Cal P K.w K mg base CX0 k x ps (fun _ _ _ _ => False) := by
  obtain ⟨f, fd, a, F, b⟩ := D.ex
  exact ⟨f, fd, a, F.kp, b, ⟨fun _ _ _ _ h => h.elim, fun _ _ _ _ _ _ _ _ _ _ _ _ _ h => h.elim⟩⟩
end
section
variable {X : Cx} {k : Nat} {x : Str} {ps : List Str} {sp : Sp} {p pos : Pos} {e : Expr} {es : List Expr} {t : TA}
/-- f(e, ..) -/
theorem pe_c (c : Cal X.prog X.w X.K X.mg X.base CX0 k x ps sp) (hr : Room k X.A) (hg : Gl X x) (ha : PA X (e :: es) t) (hdb : (x == ("__debug__" : Str)) = false := by decide) (he : starEach (e :: es) X.env = (false, eval e X.env) :: starEach es X.env := by rfl) (hpl : ((backTo pos (starEach es X.env)).any fun x => x.fst) = false := by rfl) : PE X (.Call (.Name x p) (e :: es) [] pos) (tCall sp [] E0 t) := by
  obtain ⟨f, fd, a, b, d, F⟩ := c.ex
  exact pe_call F hr hg a b d .nil pass0 ha hdb he hpl
end
end Pk
end
section
set_option Elab.async false
set_option linter.all false
set_option maxRecDepth 100000
namespace Pk
open PySem PySem.Spec PyProof.Rows L2

section
variable {X : Bs} {F H : Hp} {σ : L2.St} {Γ : List Sl}
/-- a list of one's own changes -/
theorem En.mut (E : En X F H σ Γ) {i : Nat} {m : Bool} {l : Addr} {ds es : List PyData} {ys : List V} (hi : Γ[i]? = some (.ml m l ds)) (r : RpA X.K (X.ff F m) ys es) : En X F (upd H l (.lst ys)) σ (Γ.set i (.ml m l es)) := by
  obtain ⟨S, hs, hdj, ho⟩ := id E.sl
  have hil : i < Γ.length := (List.getElem?_eq_some_iff.mp hi).1
  obtain ⟨xs, e, hS, hl, _, nl⟩ := hs i _ hi
  have sl : S i l := (hS l).mpr rfl
  refine ⟨E.le.new (ho i l sl).1, by simp [E.len], ⟨S, fun j u q => ?_, hdj, fun j a sa => ⟨(ho j a sa).1, ?_, (ho j a sa).2.2⟩⟩, fun a o q n => ?_, E.f0, fun a n => ?_⟩
  · by_cases hj : j = i
    · subst hj
      rw [List.getElem?_set_self hil] at q
      cases q
      exact ⟨ys, e, hS, upd_same, r, nl⟩
    · rw [List.getElem?_set_ne (Ne.symm hj)] at q
      exact (hs j u q).mono Le.rfl' fun a sa => upd_ne fun z => hj (by subst z; exact hdj j i a sa sl)
  · by_cases z : a = l
    · subst z; rw [upd_same]; simp
    · rw [upd_ne z]; exact (ho j a sa).2.1
  · obtain ⟨q1, q2⟩ := E.fr a o q n
    refine ⟨?_, q2⟩
    rw [upd_ne]
    · exact q1
    · intro z
      subst z
      rcases (ho i a sl).2.2 with w | w
      · rw [w] at q; cases q
      · exact n w
  · by_cases z : a = l
    · subst z; rw [upd_same]; simp
    · rw [upd_ne z]; exact E.nn a n
def wipeG (Γ : List Sl) : List Nat → List Sl
  | [] => Γ
  | v :: vs => (wipeG Γ vs).set v .no
theorem wipeG_length (Γ : List Sl) : ∀ vs : List Nat, (wipeG Γ vs).length = Γ.length
  | [] => rfl
  | v :: vs => by simp [wipeG, wipeG_length Γ vs]
theorem wipeG_out {i : Nat} : ∀ {vs : List Nat}, i ∉ vs → (wipeG Γ vs)[i]? = Γ[i]?
  | [], _ => rfl
  | v :: vs, h => by
    rw [wipeG, List.getElem?_set_ne (by intro z; subst z; exact h List.mem_cons_self)]
    exact wipeG_out fun z => h (List.mem_cons_of_mem _ z)
theorem wipeG_in {i : Nat} (hl : i < Γ.length) : ∀ {vs : List Nat}, i ∈ vs → (wipeG Γ vs)[i]? = some .no
  | [], h => by cases h
  | v :: vs, h => by
    rw [wipeG]
    by_cases z : v = i
    · subst z
      rw [List.getElem?_set_self (by rw [wipeG_length]; exact hl)]
    · rw [List.getElem?_set_ne z]
      rcases List.mem_cons.mp h with w | w
      · exact absurd w.symm z
      · exact wipeG_in hl w
theorem En.set_no (E : En X F H σ Γ) (i : Nat) (ov : Option V) : En X F H (σ.set i ov) (Γ.set i .no) := by
  have h := E.pushG (ov := ov) (s := .no) (T := fun _ => False) Le.rfl' E.le (fun _ _ q => q) (fun _ _ _ => rfl) (fun _ z => z) (fun _ z => z.elim)
  exact h.put i
theorem En.wipe (E : En X F H σ Γ) : ∀ vs : List Nat, En X F H (L2.wipe σ vs) (wipeG Γ vs)
  | [] => E
  | v :: vs => (En.wipe E vs).set_no v none
/-- slots that a comprehension may use as its own -/
def wipeOk (Γ : List Sl) (vs : List Nat) : Prop := ∀ i ∈ vs, ∀ s, Γ[i]? = some s → s = .no ∨ ∃ m d, s = .dat m d
theorem wipeOk_nil : wipeOk Γ [] := fun _ h => by cases h
theorem wipeOk_no {i : Nat} {vs : List Nat} (h : Γ[i]? = some .no) (r : wipeOk Γ vs) : wipeOk Γ (i :: vs) := fun j hj s e => by
  rcases List.mem_cons.mp hj with z | z
  · subst z; rw [h] at e; cases e; exact .inl rfl
  · exact r j z s e
theorem En.unwipe {X0 : Bs} {F0 H0 : Hp} {ov : Option V} {s : Sl} {vs : List Nat} (E0 : En X0 F0 H0 σ Γ) (hK : X0.K = X.K) (hN : X0.N = X.N) (lf : Le F0 F) (hv : wipeOk Γ vs) (E : En X F H (L2.wipe σ vs ++ [ov]) (wipeG Γ vs ++ [s])) : En X F H (σ ++ [ov]) (Γ ++ [s]) := by
  obtain ⟨S0, hs0, _, _⟩ := id E0.sl
  obtain ⟨S, hs, hdj, ho⟩ := id E.sl
  have hl : σ.length = Γ.length := E0.len
  refine ⟨E.le, by simp [hl], ⟨S, fun i u e => ?_, hdj, ho⟩, E.fr, E.f0, E.nn⟩
  have hi : i < (Γ ++ [s]).length := (List.getElem?_eq_some_iff.mp e).1
  simp only [List.length_append, List.length_cons, List.length_nil] at hi
  by_cases hlt : i < Γ.length
  · rw [List.getElem?_append_left hlt] at e
    rw [getD_app (by rw [hl]; exact hlt)]
    by_cases hin : i ∈ vs
    · have q := hs i .no (by rw [List.getElem?_append_left (by rw [wipeG_length]; exact hlt)]; exact wipeG_in hlt hin)
      rcases hv i hin u e with z | ⟨m, d, z⟩
      · subst z; exact q
      · subst z
        obtain ⟨⟨v, ev, r⟩, _⟩ := hs0 i _ e
        refine ⟨⟨v, ev, ?_⟩, q⟩
        rw [← hK]
        exact (Bs.mo r lf).mono (Bs.ff_to (fun a h => by rw [hN]; exact h) m)
    · have q := hs i u (by rw [List.getElem?_append_left (by rw [wipeG_length]; exact hlt), wipeG_out hin]; exact e)
      rw [getD_app (by rw [wipe_length, hl]; exact hlt)] at q
      have : (L2.wipe σ vs).getD i none = σ.getD i none := by simp [List.getD_eq_getElem?_getD, wipe_out hin]
      rw [this] at q
      exact q
  · have hie : i = Γ.length := by omega
    subst hie
    simp at e
    subst e
    rw [← hl, getD_last, hl]
    have q := hs Γ.length s (by rw [← wipeG_length Γ vs]; simp)
    have : (L2.wipe σ vs ++ [ov]).getD Γ.length none = ov := by
      rw [← hl, ← wipe_length σ vs, getD_last]
    rw [this] at q
    exact q
end

def GJ (K : Kw) (m : Bool) (Γ : List Sl) (g : TG) (d : PyData) (N : List Sl → Prop) : Prop := ∀ X : Bs, X.K = K → ∀ F H σ, En X F H σ Γ → ∀ v, Rp K (X.ff F m) v d → ∀ C : L2.St → Hp → Prop,
  (∀ F' H' σ' Γ', Le F F' → En X F' H' σ' Γ' → N Γ' → C σ' H') → g v σ H C
def GJs (K : Kw) (m : Bool) (Γ : List Sl) (g : TGs) (ds : List PyData) (N : List Sl → Prop) : Prop := ∀ X : Bs, X.K = K → ∀ F H σ, En X F H σ Γ → ∀ vs, RpA K (X.ff F m) vs ds → ∀ C : L2.St → Hp → Prop,
  (∀ F' H' σ' Γ', Le F F' → En X F' H' σ' Γ' → N Γ' → C σ' H') → g vs σ H C
section
variable {K : Kw} {m : Bool} {Γ : List Sl} {N : List Sl → Prop}
theorem gj_name {i : Nat} {d : PyData} (q : N (Γ.set i (.dat m d))) : GJ K m Γ (gName i) d N := fun X hK F H σ E v r C k => by
  subst hK
  exact k F H _ _ Le.rfl' ((E.pushD r).put i) q
theorem gj_tup {n : Nat} {gs : TGs} {ds : List PyData} (hn : ds.length = n) (h : GJs K m Γ gs ds N) : GJ K m Γ (gTup K n gs) (.tuple ds) N := fun X hK F H σ E v r C k => by
  cases r with
  | tup a b => exact ⟨_, _, rfl, sqT_le (E.lef m) a, by rw [b.length]; exact hn, h X hK F H σ E _ b C k⟩
theorem gjs_nil (q : N Γ) : GJs K m Γ gNil [] N := fun X hK F H σ E vs r C k => by
  cases r
  exact ⟨rfl, k F H σ Γ Le.rfl' E q⟩
theorem gjs_cons {g : TG} {gs : TGs} {d : PyData} {ds : List PyData} (h : GJ K m Γ g d fun Γ' => GJs K m Γ' gs ds N) : GJs K m Γ (gCons g gs) (d :: ds) N := fun X hK F H σ E vs r C k => by
  cases r with
  | cons a b => exact ⟨_, _, rfl, h X hK F H σ E _ a _ fun F' H' σ' Γ' lf E' h' => h' X hK F' H' σ' E' _ (Bs.moA b lf) C fun F2 H2 σ2 Γ2 l2 E2 q => k F2 H2 σ2 Γ2 (lf.tr l2) E2 q⟩
end
/-- a target that stores into the comprehension's own slots alone -/
def Gw (g : TG) (vs : List Nat) : Prop := ∀ v σ H (C C' : L2.St → Hp → Prop) σ0, L2.wipe σ vs = L2.wipe σ0 vs → (∀ σ2 H2, L2.wipe σ2 vs = L2.wipe σ0 vs → C σ2 H2 → C' σ2 H2) → g v σ H C → g v σ H C'
theorem wipe_in {σ : L2.St} {i : Nat} (hl : i < σ.length) : ∀ {vs : List Nat}, i ∈ vs → (L2.wipe σ vs)[i]? = some none
  | [], h => by cases h
  | v :: vs, h => by
    rw [L2.wipe]
    by_cases z : v = i
    · subst z
      rw [List.getElem?_set_self (by rw [wipe_length]; exact hl)]
    · rw [List.getElem?_set_ne z]
      rcases List.mem_cons.mp h with w | w
      · exact absurd w.symm z
      · exact wipe_in hl w
theorem wipe_eq {σ σ' : L2.St} {vs : List Nat} (hl : σ.length = σ'.length) (h : ∀ i, i ∉ vs → σ[i]? = σ'[i]?) : L2.wipe σ vs = L2.wipe σ' vs := by
  apply List.ext_getElem?
  intro i
  by_cases hin : i ∈ vs
  · by_cases hlt : i < σ.length
    · rw [wipe_in hlt hin, wipe_in (by rw [← hl]; exact hlt) hin]
    · rw [List.getElem?_eq_none (by rw [wipe_length]; omega), List.getElem?_eq_none (by rw [wipe_length]; omega)]
  · rw [wipe_out hin, wipe_out hin]
    exact h i hin
theorem wipe_set {σ : L2.St} {i : Nat} {ov : Option V} {vs : List Nat} (h : i ∈ vs) : L2.wipe (σ.set i ov) vs = L2.wipe σ vs := wipe_eq (by simp) fun j hj => by
  rw [List.getElem?_set_ne]
  intro z
  subst z
  exact hj h
theorem wipe_wipe {σ : L2.St} {vs : List Nat} : L2.wipe (L2.wipe σ vs) vs = L2.wipe σ vs := wipe_eq (wipe_length σ vs) fun j hj => wipe_out hj
theorem gw_name {i : Nat} {vs : List Nat} (h : i ∈ vs) : Gw (gName i) vs := fun v σ H C C' σ0 e k q => k _ _ ((wipe_set h).trans e) q
section
variable {K : Kw} {m : Bool} {Γ : List Sl} {P : Po} {t u ts : TS} {te ta tb : TE}
theorem Meets.imp {X : Bs} {P P' : Po} {D : Ends} (h : Meets X P D) (nx : ∀ Γ, P'.nx Γ → P.nx Γ) (rt : ∀ s Γ, P'.rt s Γ → P.rt s Γ) (bk : ∀ Γ, P'.bk Γ → P.bk Γ) (ct : ∀ Γ, P'.ct Γ → P.ct Γ) (hW : P'.W = P.W) (ex : ∀ c d Γ, P'.ex c d Γ → P.ex c d Γ) : Meets X P' D :=
  ⟨fun F H σ Γ E q => h.nx F H σ Γ E (nx Γ q), fun F H σ Γ v s E q => h.rt F H σ Γ v s E (rt s Γ q), fun F H σ Γ E q => h.bk F H σ Γ E (bk Γ q), fun F H σ Γ E q => h.ct F H σ Γ E (ct Γ q), fun F H σ Γ c o d E a q => by rw [hW]; exact h.xc F H σ Γ c o d E a (ex c o Γ q)⟩
theorem SJ.mono {P' : Po} (h : SJ K Γ ts P') (nx : ∀ Γ, P'.nx Γ → P.nx Γ) (rt : ∀ s Γ, P'.rt s Γ → P.rt s Γ) (bk : ∀ Γ, P'.bk Γ → P.bk Γ) (ct : ∀ Γ, P'.ct Γ → P.ct Γ) (hW : P'.W = P.W) (ex : ∀ c d Γ, P'.ex c d Γ → P.ex c d Γ) : SJ K Γ ts P := fun X hK F H σ E D hD => h X hK F H σ E D (hD.imp nx rt bk ct hW ex)
theorem sj_next (q : P.nx Γ) : SJ K Γ tNext P := fun X hK F H σ E D hD => hD.nx F H σ Γ E q
theorem sj_seq (h : SJ K Γ t { P with nx := fun Γ' => SJ K Γ' u P }) : SJ K Γ (tSeq t u) P := fun X hK F H σ E D hD =>
  h X hK F H σ E _ ⟨fun F' H' σ' Γ' E' q => q X hK F' H' σ' E' D hD, hD.rt, hD.bk, hD.ct, hD.xc⟩
/-- with a word between -/
theorem sj_cut (M : List Sl → Prop) (h : SJ K Γ t { P with nx := M }) (k : ∀ Γ', M Γ' → SJ K Γ' u P) : SJ K Γ (tSeq t u) P := fun X hK F H σ E D hD =>
  h X hK F H σ E _ ⟨fun F' H' σ' Γ' E' q => k Γ' q X hK F' H' σ' E' D hD, hD.rt, hD.bk, hD.ct, hD.xc⟩
theorem sj_asg {g : TG} (m : Bool) (h : WD K m Γ te fun d => GJ K m Γ g d P.nx) : SJ K Γ (tAsg te g) P := fun X hK F H σ E D hD =>
  h X hK F H σ E _ fun v F1 H1 d l1 E1 r q => q X hK F1 H1 σ E1 v r _ fun F2 H2 σ2 Γ2 l2 E2 q2 => hD.nx F2 H2 σ2 Γ2 E2 q2
theorem sj_set {i : Nat} (m : Bool) (h : WD K m Γ te fun d => P.nx (Γ.set i (.dat m d))) : SJ K Γ (tAsg te (gName i)) P := sj_asg m (h.mono fun d q => gj_name q)
theorem sj_setX {i : Nat} (h : WX K Γ te fun s => P.nx (Γ.set i s)) : SJ K Γ (tAsg te (gName i)) P := fun X hK F H σ E D hD =>
  h X hK F H σ E _ fun v F1 H1 s l1 E1 q => hD.nx F1 H1 _ _ (E1.put i) q
theorem sj_ret (h : WX K Γ te fun s => P.rt s Γ) : SJ K Γ (tRet te) P := fun X hK F H σ E D hD =>
  h X hK F H σ E _ fun v F1 H1 s l1 E1 q => hD.rt F1 H1 _ _ v s E1 q
theorem sj_retD (m : Bool) (h : WD K m Γ te fun d => P.rt (.dat m d) Γ) : SJ K Γ (tRet te) P := sj_ret (.ofD h)
/-- a list of one's own is frozen -/
theorem sj_frz (i : Nat) {l : Addr} {ds : List PyData} (hi : Γ[i]? = some (.ml m l ds)) (h : SJ K (Γ.set i (.dat m (.list ds))) ts P) : SJ K Γ ts P := fun X hK F H σ E D hD => by
  obtain ⟨F', lf, E'⟩ := E.freeze hi
  exact h X hK F' H σ E' D hD
theorem En.take {X : Bs} {F H : Hp} {σ : L2.St} (E : En X F H σ Γ) {i : Nat} {l : Addr} {ds : List PyData} (hi : Γ[i]? = some (.ml m l ds)) : En X F H (σ ++ [some (.ref l)]) (Γ.set i .no ++ [.ml m l ds]) := by
  obtain ⟨S, hs, hdj, ho⟩ := id E.sl
  have hil : i < Γ.length := (List.getElem?_eq_some_iff.mp hi).1
  refine ⟨E.le, by simp [E.len], ⟨fun j a => (j < Γ.length ∧ j ≠ i ∧ S j a) ∨ (j = Γ.length ∧ S i a), fun j u e => ?_, fun j k a h1 h2 => ?_, fun j a h1 => ?_⟩, E.fr, E.f0, E.nn⟩
  · have hj : j < (Γ.set i .no ++ [Sl.ml m l ds]).length := (List.getElem?_eq_some_iff.mp e).1
    simp only [List.length_append, List.length_cons, List.length_nil, List.length_set] at hj
    by_cases hlt : j < Γ.length
    · rw [List.getElem?_append_left (by simpa using hlt)] at e
      rw [getD_app (by rw [E.len]; exact hlt)]
      by_cases z : j = i
      · subst z
        rw [List.getElem?_set_self hil] at e
        cases e
        intro a q
        rcases q with ⟨_, q, _⟩ | ⟨q, _⟩
        · exact q rfl
        · omega
      · rw [List.getElem?_set_ne (Ne.symm z)] at e
        have eS : (fun a => (j < Γ.length ∧ j ≠ i ∧ S j a) ∨ (j = Γ.length ∧ S i a)) = S j := by
          funext a
          apply propext
          constructor
          · rintro (⟨_, _, q⟩ | ⟨q, _⟩)
            · exact q
            · omega
          · intro q; exact .inl ⟨hlt, z, q⟩
        show SlOk X F H _ (fun a => (j < Γ.length ∧ j ≠ i ∧ S j a) ∨ (j = Γ.length ∧ S i a)) _
        rw [eS]
        exact hs j u e
    · have hje : j = Γ.length := by omega
      subst hje
      have e' : (Γ.set i .no ++ [Sl.ml m l ds])[Γ.length]? = some (.ml m l ds) := by
        have : Γ.length = (Γ.set i Sl.no).length := by simp
        rw [this]; simp
      rw [e'] at e
      cases e
      have eS : (fun a => (Γ.length < Γ.length ∧ Γ.length ≠ i ∧ S Γ.length a) ∨ (Γ.length = Γ.length ∧ S i a)) = S i := by
        funext a
        apply propext
        constructor
        · rintro (⟨q, _⟩ | ⟨_, q⟩)
          · omega
          · exact q
        · intro q; exact .inr ⟨rfl, q⟩
      show SlOk X F H _ (fun a => (Γ.length < Γ.length ∧ Γ.length ≠ i ∧ S Γ.length a) ∨ (Γ.length = Γ.length ∧ S i a)) _
      rw [eS, ← E.len, getD_last]
      obtain ⟨xs, e0, r⟩ := hs i _ hi
      exact ⟨xs, rfl, r⟩
  · rcases h1 with ⟨a1, b1, c1⟩ | ⟨a1, c1⟩ <;> rcases h2 with ⟨a2, b2, c2⟩ | ⟨a2, c2⟩
    · exact hdj j k a c1 c2
    · exact absurd (hdj _ _ a c1 c2) b1
    · exact absurd (hdj _ _ a c2 c1) b2
    · omega
  · rcases h1 with ⟨_, _, c1⟩ | ⟨_, c1⟩
    · exact ho j a c1
    · exact ho i a c1
/-- return of a list of one's own -/
theorem sj_retM {i : Nat} {l : Addr} {ds : List PyData} (hi : Γ[i]? = some (.ml m l ds)) (h : P.rt (.ml m l ds) (Γ.set i .no)) : SJ K Γ (tRet (tVar i)) P := fun X hK F H σ E D hD => by
  obtain ⟨xs, e, _⟩ := E.ml hi
  exact ⟨_, e, hD.rt F H σ _ (.ref l) _ (E.take hi) h⟩
theorem sj_if {c : TT} (h : WT K Γ c fun b => if b = true then SJ K Γ t P else SJ K Γ u P) : SJ K Γ (tIfS c t u) P := fun X hK F H σ E D hD =>
  h X hK F H σ E _ fun b F1 H1 l1 E1 q => by
    cases b with
    | true => exact q X hK F1 H1 σ E1 D hD
    | false => exact q X hK F1 H1 σ E1 D hD
theorem sz_lt {n : Nat} (h : n < 100000) : n < sizeLine := Nat.lt_of_lt_of_le h (by decide)
theorem sz_le {n : Nat} (h : n ≤ 100000) : n ≤ sizeLine := Nat.le_trans h (by decide)
/-- xs.append(e), of one's own -/
theorem sj_app {i : Nat} {l : Addr} {ds : List PyData} (hi : Γ[i]? = some (.ml m l ds)) (hz : ds.length < 100000) (h : WD K m Γ te fun d => P.nx (Γ.set i (.ml m l (ds ++ [d])))) : SJ K Γ (tDrop (tBM K "list" rAppend (tVar i) (tCons te tNil))) P := fun X hK F H σ E D hD => by
  subst hK
  obtain ⟨xs, e, hl, fl, r⟩ := E.ml hi
  refine ⟨.ref l, e, .inl ⟨rfl, _, SqL.of hl⟩, h X rfl F H σ E _ fun v F1 H1 d l1 E1 rv q => ?_⟩
  obtain ⟨xs1, e1, hl1, fl1, r1⟩ := E1.ml hi
  refine ⟨l, xs1, v, rfl, rfl, hl1, sz_lt (by rw [r1.length]; exact hz), hD.nx F1 _ σ _ (E1.mut hi (r1.append (RpA.one rv))) q⟩
/-- while -/
theorem sj_while {c : TT} (I : Nat → List Sl → Prop) (m : Nat) (h0 : I m Γ) (hs : ∀ m Γ', I m Γ' → WT K Γ' c fun b => if b = true then SJ K Γ' t { P with nx := fun Γ2 => ∃ m', m' < m ∧ I m' Γ2, ct := fun Γ2 => ∃ m', m' < m ∧ I m' Γ2, bk := P.nx } else P.nx Γ') : SJ K Γ (tWhile c t) P := fun X hK F H σ E D hD => by
  refine ⟨fun m σ H => ∃ F Γ', En X F H σ Γ' ∧ I m Γ', ⟨m, F, Γ, E, h0⟩, fun m σ' H' ⟨F', Γ', E', hi⟩ => ?_⟩
  refine hs m Γ' hi X hK F' H' σ' E' _ fun b F1 H1 l1 E1 q => ?_
  cases b with
  | true =>
    rw [if_pos rfl]
    refine ⟨fun σ2 H2 => ∃ F2 Γ2, En X F2 H2 σ2 Γ2 ∧ ∃ m', m' < m ∧ I m' Γ2, fun σ2 H2 ⟨F2, Γ2, E2, m', hm, h2⟩ => ⟨m', hm, F2, Γ2, E2, h2⟩, ?_⟩
    exact q X hK F1 H1 σ' E1 _ ⟨fun F2 H2 σ2 Γ2 E2 z => ⟨F2, Γ2, E2, z⟩, hD.rt, hD.nx, fun F2 H2 σ2 Γ2 E2 z => ⟨F2, Γ2, E2, z⟩, hD.xc⟩
  | false =>
    rw [if_neg Bool.false_ne_true]
    exact hD.nx F1 H1 σ' Γ' E1 q
end

/-- the heap has grown by a new thing, or is as it was -/
structure Gr (F H F' H' : Hp) : Prop where
  lf : Le F F'
  le : Le F' H'
  hh : ∀ a o, H a = some o → H' a = some o
  hn : ∀ a o, H a = some o → F' a = F a
theorem Gr.same {F H : Hp} (h : Le F H) : Gr F H F H := ⟨Le.rfl', h, fun _ _ q => q, fun _ _ _ => rfl⟩
theorem Gr.new {F H : Hp} (h : Le F H) {p : Addr} {o : HO} (hp : H p = none) : Gr F H (upd F p o) (upd H p o) :=
  ⟨Le.up (h.nn hp), h.both, fun a u q => by rw [upd_ne (ne_of_none q hp)]; exact q, fun a u q => by rw [upd_ne (ne_of_none q hp)]⟩
theorem En.gr {X : Bs} {F H F' H' : Hp} {σ : L2.St} {Γ : List Sl} (E : En X F H σ Γ) (g : Gr F H F' H') : En X F' H' σ Γ := E.grow g.lf g.le g.hh g.hn
def WI (K : Kw) (m : Bool) (Γ : List Sl) (wi : TI) (Q : List PyData → Prop) : Prop := ∀ X : Bs, X.K = K → ∀ F H σ, En X F H σ Γ → ∀ C : It → Hp → Prop,
  (∀ J F' H' G Y ds, Le F F' → En X F' H' σ Γ → Walk J ds.length G Y → (∀ H2, Le F' H2 → G H2) → (∀ i F2 H2 x H3, Le F' F2 → Le F2 H2 → i < ds.length → Y i H2 x H3 → ∃ d F3, ds[i]? = some d ∧ Gr F2 H2 F3 H3 ∧ Rp K (X.ff F3 m) x d) → Q ds → C J H') → wi σ H C
section
variable {K : Kw} {m : Bool} {Γ : List Sl} {P : Po} {g : TG} {tb : TS} {wi : TI} {tl : TE} {QI : List PyData → Prop} {ta : TA}
theorem sj_for (m : Bool) (h : WI K m Γ wi fun ds => ∃ I : Nat → List Sl → Prop, I 0 Γ ∧ (∀ i d Γ', ds[i]? = some d → I i Γ' → GJ K m Γ' g d fun Γ2 => SJ K Γ2 tb { P with nx := I (i + 1), ct := I (i + 1), bk := P.nx }) ∧ ∀ Γ', I ds.length Γ' → P.nx Γ') : SJ K Γ (tFor wi g tb) P := fun X hK F H σ E D hD => by
  refine h X hK F H σ E _ fun J F1 H1 G Y ds lf E1 wk hG hY ⟨I, h0, hs, he⟩ => ?_
  obtain ⟨X1, k1, n1, f1, _, Er, back⟩ := E1.rebase
  have ffe : ∀ F, X1.ff F m = X.ff F m := fun F => by cases m <;> simp [Bs.ff, n1]
  have hK1 : X1.K = K := k1.trans hK
  refine for_it wk (fun i σ' H' => ∃ F' Γ', En X1 F' H' σ' Γ' ∧ I i Γ') ⟨F1, Γ, Er, h0⟩ (fun i σ' H' _ ⟨F', Γ', E', _⟩ => hG H' ?_) (fun i x σ' H' H3 hi ⟨F', Γ', E', hI⟩ hy => ?_) (fun σ' H' ⟨F', Γ', E', hI⟩ => hD.nx F' H' σ' Γ' (back _ _ _ _ E') (he Γ' hI))
  · exact Le.tr (by rw [← f1]; exact E'.f0) E'.le
  · obtain ⟨d, F3, hd, gr, r⟩ := hY i F' H' x H3 (by rw [← f1]; exact E'.f0) E'.le hi hy
    refine hs i d Γ' hd hI X1 hK1 F3 H3 σ' (E'.gr gr) x (by rw [ffe]; exact r) _ fun F4 H4 σ4 Γ4 l4 E4 sj => ?_
    exact sj X1 hK1 F4 H4 σ4 E4 _ ⟨fun F5 H5 σ5 Γ5 E5 q => ⟨F5, Γ5, E5, q⟩, fun F5 H5 σ5 Γ5 v s E5 q => hD.rt F5 H5 σ5 Γ5 v s (back _ _ _ _ E5) q, fun F5 H5 σ5 Γ5 E5 q => hD.nx F5 H5 σ5 Γ5 (back _ _ _ _ E5) q, fun F5 H5 σ5 Γ5 E5 q => ⟨F5, Γ5, E5, q⟩, fun F5 H5 σ5 Γ5 c o d E5 a q => hD.xc F5 H5 σ5 Γ5 c o d (back _ _ _ _ E5) a q⟩
theorem wi_list (h : WD K m Γ tl fun d => ∃ ds, d = .list ds ∧ QI ds) : WI K m Γ (iList K tl) QI := fun X hK F H σ E C k =>
  h X hK F H σ E _ fun v F1 H1 d l1 E1 r ⟨ds, e, q⟩ => by
    subst e
    cases r with
    | lst ha rs =>
      rename_i a xs
      have hn : xs.length = ds.length := rs.length
      refine ⟨a, rfl, ⟨xs, SqL.of (E1.lef m _ _ ha)⟩, k (Itl K a) F1 H1 (fun H => SqL K H a xs) (YAt xs) ds l1 E1 (by rw [← hn]; exact walk_list) (fun H2 l2 => SqL.of (l2 _ _ (X.ff_le F1 m _ _ ha))) (fun i F2 H2 x H3 l2 le hi hy => ?_) q⟩
      obtain ⟨rfl, hx⟩ := hy
      obtain ⟨d, hd, rd⟩ := rs.getV hx
      exact ⟨d, F2, hd, Gr.same le, Bs.mo rd l2⟩
theorem wi_tup (h : WD K m Γ tl fun d => ∃ ds, d = .tuple ds ∧ QI ds) : WI K m Γ (iTup K tl) QI := fun X hK F H σ E C k =>
  h X hK F H σ E _ fun v F1 H1 d l1 E1 r ⟨ds, e, q⟩ => by
    subst e
    cases r with
    | tup ha rs =>
      rename_i a xs
      have hn : xs.length = ds.length := rs.length
      refine ⟨a, rfl, ⟨xs, sqT_le (E1.lef m) ha⟩, k (Itt K a) F1 H1 (fun H => SqT K H a xs) (YAt xs) ds l1 E1 (by rw [← hn]; exact walk_tup) (fun H2 l2 => sqT_le ((X.ff_le F1 m).tr l2) ha) (fun i F2 H2 x H3 l2 le hi hy => ?_) q⟩
      obtain ⟨rfl, hx⟩ := hy
      obtain ⟨d, hd, rd⟩ := rs.getV hx
      exact ⟨d, F2, hd, Gr.same le, Bs.mo rd l2⟩
/-- lo, lo + 1, .. -/
def rangeD (lo : Int) (n : Nat) : List PyData := (List.range n).map fun (i : Nat) => PyData.int (lo + i)
theorem rangeD_len {lo : Int} {n : Nat} : (rangeD lo n).length = n := by simp [rangeD]
theorem rangeD_get {lo : Int} {n i : Nat} (h : i < n) : (rangeD lo n)[i]? = some (.int (lo + i)) := by simp [rangeD, h]
theorem rangeD_of {lo : Int} {n i : Nat} {d : PyData} (h : (rangeD lo n)[i]? = some d) : i < n ∧ d = .int (lo + i) := by
  have hi : i < (rangeD lo n).length := (List.getElem?_eq_some_iff.mp h).1
  rw [rangeD_len] at hi
  rw [rangeD_get hi] at h
  exact ⟨hi, (Option.some.inj h).symm⟩
theorem walkR {X : Bs} {F' : Hp} {lo : Int} {n : Nat} : (∀ i F2 H2 x H3, Le F' F2 → Le F2 H2 → i < (rangeD lo n).length → YFn (fun i => V.int (lo + i)) i H2 x H3 → ∃ d F3, (rangeD lo n)[i]? = some d ∧ Gr F2 H2 F3 H3 ∧ Rp K (X.ff F3 m) x d) := fun i F2 H2 x H3 l2 le hi hy => by
  obtain ⟨rfl, rfl⟩ := hy
  rw [rangeD_len] at hi
  exact ⟨_, F2, rangeD_get hi, Gr.same le, .int _⟩
theorem wi_rng1 (h : WA K false Γ ta fun as => ∃ j : Int, as = [.d (.int j)] ∧ (-(2 ^ 62) ≤ j ∧ j < 2 ^ 62) ∧ QI (rangeD 0 j.toNat)) : WI K m Γ (iRng1 ta) QI := fun X hK F H σ E C k =>
  h X hK F H σ E _ fun vs F1 H1 as l1 E1 r ⟨j, e, hj, q⟩ => by
    subst e
    cases r with
    | cons a b =>
      cases b
      have a' : Rp X.K (X.ff F1 false) _ (.int j) := a
      cases a'
      exact ⟨j, rfl, hj.1, hj.2, k (Itr 0 j.toNat) F1 H1 (fun _ => True) _ (rangeD 0 j.toNat) l1 E1 (by rw [rangeD_len]; exact walk_range) (fun _ _ => trivial) walkR q⟩
/-- a list comprehension -/
theorem wx_lc {mi : Bool} (m : Bool) {tt : TT} {te : TE} {vs : List Nat} {QX : Sl → Prop} (hv : wipeOk Γ vs) (hgw : Gw g vs)
    (h : WI K mi Γ wi fun ds => ∃ I : Nat → List PyData → Prop, ds.length ≤ 100000 ∧ I 0 [] ∧ (∀ i d acc, ds[i]? = some d → acc.length ≤ i → I i acc → GJ K mi (wipeG Γ vs) g d fun Γ2 => wipeG Γ2 vs = wipeG Γ vs ∧ WT K Γ2 tt fun b => if b = true then WD K m Γ2 te fun y => I (i + 1) (acc ++ [y]) else I (i + 1) acc) ∧
      ∀ acc, acc.length ≤ ds.length → I ds.length acc → ∀ l, QX (.ml m l acc)) : WX K Γ (tLc wi g tt te vs) QX := fun X hK F H σ E C k => by
  refine h X hK F H σ E _ fun J F1 H1 G Y ds lf E1 wk hG hY ⟨I, hz, h0, hs, he⟩ Da hD => ?_
  obtain ⟨X1, k1, n1, f1, _, Er, back⟩ := E1.rebase
  have ffe : ∀ F, X1.ff F m = X.ff F m := fun F => by cases m <;> simp [Bs.ff, n1]
  have hK1 : X1.K = K := k1.trans hK
  have lef : ∀ {F' H' σ' Γ'}, En X1 F' H' σ' Γ' → Le F1 F' := fun E' => by rw [← f1]; exact E'.f0
  refine lc_it wk (fun i H' => ∃ F' acc, En X1 F' H' (L2.wipe σ vs ++ [some (.ref Da)]) (wipeG Γ vs ++ [.ml m Da acc]) ∧ acc.length ≤ i ∧ I i acc) ⟨F1, [], (Er.wipe vs).pushM hD .nil, Nat.le_refl _, h0⟩ (fun i H' _ ⟨F', acc, E', _⟩ => hG H' ((lef E').tr E'.le)) (fun i x H' H3 hi ⟨F', acc, E', hacc, hI⟩ hy => ?_) (fun H' ⟨F', acc, E', hacc, hI⟩ => ?_)
  · obtain ⟨d, F3, hd, gr, r⟩ := hY i F' H' x H3 (lef E') E'.le hi hy
    have E3 := E'.gr gr
    obtain ⟨X2, k2, n2, Ef, fb⟩ := E3.frame
    have ff2 : ∀ F m, X2.ff F m = X.ff F m := fun F m => by cases m <;> simp [Bs.ff, n2, n1]
    have hK2 : X2.K = K := k2.trans hK1
    refine hgw x _ H3 (fun σ2 H2 => L2.wipe σ2 vs = L2.wipe σ vs → _) _ σ wipe_wipe (fun σ2 H2 e2 q => ⟨e2, q e2⟩) ?_
    refine hs i d acc hd hacc hI X2 hK2 F3 H3 _ Ef x (by rw [ff2]; exact r) _ fun F4 H4 σ4 Γ4 l4 E4 ⟨eΓ, wt⟩ eσ => ?_
    have hlen : Γ4.length = (wipeG Γ vs).length := by rw [← eΓ, wipeG_length]
    have again : ∀ {F5 H5}, Le F4 F5 → En X2 F5 H5 σ4 Γ4 → En X1 F5 H5 (L2.wipe σ vs ++ [some (.ref Da)]) (wipeG Γ vs ++ [.ml m Da acc]) := fun {F5 H5} l5 E5 => by
      have := fb F5 H5 _ _ (by rw [wipeG_length, hlen]) (l4.tr l5) (E5.wipe vs)
      rw [eΓ, eσ] at this
      exact this
    refine wt X2 hK2 F4 H4 σ4 E4 _ fun b F5 H5 l5 E5 q5 => ?_
    cases b with
    | false => exact ⟨F5, acc, again l5 E5, Nat.le_succ_of_le hacc, q5⟩
    | true =>
      rw [if_pos rfl] at q5 ⊢
      refine q5 X2 hK2 F5 H5 σ4 E5 _ fun y F6 H6 dy l6 E6 ry q6 => ?_
      have E7 := again (l5.tr l6) E6
      obtain ⟨xs, _, hl, _, rx⟩ := E7.ml (i := (wipeG Γ vs).length) (m := m) (l := Da) (ds := acc) (by simp)
      have e8 := E7.mut (i := (wipeG Γ vs).length) (m := m) (l := Da) (ds := acc) (es := acc ++ [dy]) (ys := xs ++ [y]) (by simp) (rx.append (RpA.one (by rw [hK1, ffe, ← ff2]; exact ry)))
      have es : (wipeG Γ vs ++ [Sl.ml m Da acc]).set (wipeG Γ vs).length (.ml m Da (acc ++ [dy])) = wipeG Γ vs ++ [.ml m Da (acc ++ [dy])] := by simp
      rw [es] at e8
      exact ⟨xs, hl, sz_lt (by rw [rx.length]; omega), F6, acc ++ [dy], e8, by simp; omega, q6⟩
  · have hE := back _ _ _ _ (En.unwipe E1 (by rw [hK, hK1]) n1.symm (lef E') hv E')
    exact k (.ref Da) F' H' _ (lf.tr (lef E')) hE (he acc hacc hI Da)
end
end Pk
end
section
set_option Elab.async false
set_option linter.all false
set_option maxRecDepth 100000
namespace Pk
open PySem PySem.Spec PyProof.Rows L2

def Sl.frz : Sl → Sl
  | .ml _ _ ds => .dat false (.list ds)
  | .ex v Φ => match Φ.vw with
    | some d => .dat false d
    | none => .ex v Φ
  | s => s
def Sl.fz : Sl → Bool
  | .ml _ _ _ => true
  | .ex _ Φ => Φ.vw.isSome
  | _ => false
section
variable {K : Kw} {Γ : List Sl}
open Classical in
/-- all things of one's own that may be read as data are frozen for a while -/
theorem En.thaw {X : Bs} {F H : Hp} {σ : L2.St} (E : En X F H σ Γ) : ∃ F1, Le F F1 ∧ En X F1 H σ (Γ.map Sl.frz) ∧ ∀ F2 H2, Le F1 F2 → En X F2 H2 σ (Γ.map Sl.frz) → ∃ F3, Le F F3 ∧ En X F3 H2 σ Γ := by
  obtain ⟨S, hs, hdj, ho⟩ := id E.sl
  let M : Addr → Prop := fun a => ∃ (i : Nat) (s : Sl), Γ[i]? = some s ∧ s.fz = true ∧ S i a
  have hML : ∀ {a}, M a → ∃ o, H a = some o ∧ Mo o = true := fun {a} ⟨i, s, h, f, sa⟩ => by
    have q := hs i s h
    cases s with
    | no => cases f
    | dat _ _ => cases f
    | ml m l ds =>
      obtain ⟨xs, _, hS, hl, _⟩ := q
      rw [(hS a).mp sa]
      exact ⟨.lst xs, hl, rfl⟩
    | ex v Φ =>
      obtain ⟨_, _, p⟩ := q
      cases hv : Φ.vw with
      | none => simp [Sl.fz, hv] at f
      | some d => exact (Φ.view E.le p hv).2 a sa
  have hMF : ∀ {a}, M a → F a = none := fun {a} ⟨i, s, h, f, sa⟩ => (ho i a sa).1
  have hMO : ∀ {a}, M a → X.own a := fun {a} ⟨i, s, h, f, sa⟩ => (ho i a sa).2.2
  let F1 : Hp := fun a => if M a then H a else F a
  have f1M : ∀ {a}, M a → F1 a = H a := fun h => if_pos h
  have f1N : ∀ {a}, ¬ M a → F1 a = F a := fun h => if_neg h
  have lf : Le F F1 := fun a o q => by
    by_cases h : M a
    · rw [hMF h] at q; cases q
    · rw [f1N h]; exact q
  have le1 : Le F1 H := fun a o q => by
    by_cases h : M a
    · rw [f1M h] at q; exact q
    · rw [f1N h] at q; exact E.le a o q
  have notM : ∀ {j : Nat} {a : Addr} {s : Sl}, Γ[j]? = some s → s.fz = false → S j a → ¬ M a := fun {j a s} hj hn sa ⟨i, u, h, f, si⟩ => by
    have := hdj i j a si sa
    subst this
    rw [h] at hj
    cases hj
    rw [f] at hn
    cases hn
  have frM : ∀ a o, X.H0 a = some o → ¬ X.S0 a → ¬ M a := fun a o e n h => by
    rcases hMO h with w | w
    · rw [w] at e; cases e
    · exact n w
  have frz_no : ∀ {s : Sl}, s.fz = false → s.frz = s := fun {s} h => by
    cases s with
    | no => rfl
    | dat _ _ => rfl
    | ml _ _ _ => cases h
    | ex v Φ =>
      cases hv : Φ.vw with
      | none => simp [Sl.frz, hv]
      | some d => simp [Sl.fz, hv] at h
  refine ⟨F1, lf, ⟨le1, by simp [E.len], ⟨fun i a => (∀ s, Γ[i]? = some s → s.fz = false) ∧ i < Γ.length ∧ S i a, fun i s e => ?_, fun i j a h1 h2 => hdj i j a h1.2.2 h2.2.2, fun i a h1 => ?_⟩, fun a o e n => ⟨(E.fr a o e n).1, (f1N (frM a o e n)).trans (E.fr a o e n).2⟩, E.f0.tr lf, E.nn⟩, fun F2 H2 l2 E2 => ?_⟩
  · rw [List.getElem?_map] at e
    cases hg : Γ[i]? with
    | none => rw [hg] at e; cases e
    | some u =>
      rw [hg] at e
      cases e
      have hi : i < Γ.length := (List.getElem?_eq_some_iff.mp hg).1
      cases hf : u.fz with
      | false =>
        rw [frz_no hf]
        have eS : (fun a => (∀ s, Γ[i]? = some s → s.fz = false) ∧ i < Γ.length ∧ S i a) = S i := by
          funext a
          exact propext ⟨fun z => z.2.2, fun z => ⟨fun s w => (by rw [hg] at w; cases w; exact hf), hi, z⟩⟩
        show SlOk X F1 H _ (fun a => (∀ s, Γ[i]? = some s → s.fz = false) ∧ i < Γ.length ∧ S i a) u
        rw [eS]
        exact (hs i u hg).mono lf fun _ _ => rfl
      | true =>
        have none_ : ∀ a, ¬ ((∀ s, Γ[i]? = some s → s.fz = false) ∧ i < Γ.length ∧ S i a) := fun a z => by
          have := z.1 u hg
          rw [hf] at this
          cases this
        cases u with
        | no => cases hf
        | dat _ _ => cases hf
        | ml m l ds =>
          obtain ⟨xs, e0, hS, hl, r, _⟩ := hs i _ hg
          exact ⟨⟨_, e0, .lst ((f1M ⟨i, _, hg, rfl, (hS l).mpr rfl⟩).trans hl) (r.mono ((X.ff_le F m).tr lf))⟩, none_⟩
        | ex v Φ =>
          obtain ⟨e0, hk, p⟩ := hs i _ hg
          cases hv : Φ.vw with
          | none => simp [Sl.fz, hv] at hf
          | some d =>
            have rv := (Φ.view E.le p hv).1
            have ll : Le (lay (S i) H F) F1 := fun a o q => by
              unfold lay at q
              by_cases sa : S i a
              · rw [if_pos sa] at q
                rw [f1M ⟨i, _, hg, hf, sa⟩]
                exact q
              · rw [if_neg sa] at q
                exact lf a o q
            have ef : (Sl.ex v Φ).frz = .dat false d := by simp [Sl.frz, hv]
            rw [ef]
            refine ⟨⟨v, e0, ?_⟩, none_⟩
            rw [← hk]
            exact rv.mono ll
  · obtain ⟨n1, hi, sa⟩ := h1
    have hg : Γ[i]? = some Γ[i] := List.getElem?_eq_getElem hi
    have nM : ¬ M a := notM hg (n1 _ hg) sa
    exact ⟨(f1N nM).trans (ho i a sa).1, (ho i a sa).2⟩
  · obtain ⟨S2, hs2, hdj2, ho2⟩ := id E2.sl
    let F3 : Hp := fun a => if M a then none else F2 a
    have f3M : ∀ {a}, M a → F3 a = none := fun h => if_pos h
    have f3N : ∀ {a}, ¬ M a → F3 a = F2 a := fun h => if_neg h
    have l3 : Le F F3 := fun a o q => by
      by_cases h : M a
      · rw [hMF h] at q; cases q
      · rw [f3N h]; exact l2 a o (lf a o q)
    have h2M : ∀ {a}, M a → F2 a = H a ∧ H2 a = H a := fun {a} h => by
      obtain ⟨o, hx, _⟩ := hML h
      have := l2 a _ ((f1M h).trans hx)
      rw [hx]
      exact ⟨this, E2.le _ _ this⟩
    have s2M : ∀ {i a}, S2 i a → ¬ M a := fun {i a} sa h => by
      obtain ⟨o, hx, _⟩ := hML h
      have := (h2M h).1
      rw [(ho2 i a sa).1, hx] at this; cases this
    have tl : TupLe X.K F2 F3 := by
      refine ⟨fun a xs h => ?_, fun a fs h => by
        rw [f3N]
        · exact h
        · intro z
          obtain ⟨o, hx, hm⟩ := hML z
          rw [(h2M z).1, hx] at h; cases h; cases hm⟩
      rcases h with (h | ⟨o, h⟩) | h
      · refine .inl (.inl ?_)
        rw [f3N]
        · exact h
        · intro z
          obtain ⟨o, hx, hm⟩ := hML z
          rw [(h2M z).1, hx] at h; cases h; cases hm
      · refine .inl (.inr ⟨o, ?_⟩)
        rw [f3N]
        · exact h
        · intro z
          obtain ⟨o, hx, hm⟩ := hML z
          rw [(h2M z).1, hx] at h; cases h; cases hm
      · exact .inr h
    refine ⟨F3, l3, ⟨fun a o q => ?_, E.len, ⟨fun i a => (∃ s, Γ[i]? = some s ∧ s.fz = true ∧ S i a) ∨ (∃ s, Γ[i]? = some s ∧ s.fz = false ∧ S2 i a), fun i s e => ?_, fun i j a h1 h2 => ?_, fun i a h1 => ?_⟩, fun a o e n => ⟨(E2.fr a o e n).1, (f3N (frM a o e n)).trans (E2.fr a o e n).2⟩, E.f0.tr l3, E2.nn⟩⟩
    · by_cases h : M a
      · rw [f3M h] at q; cases q
      · rw [f3N h] at q; exact E2.le a o q
    · cases hf : s.fz with
      | true =>
        have eS : (fun a => (∃ s, Γ[i]? = some s ∧ s.fz = true ∧ S i a) ∨ (∃ s, Γ[i]? = some s ∧ s.fz = false ∧ S2 i a)) = S i := by
          funext a
          apply propext
          constructor
          · rintro (⟨u, z, _, w⟩ | ⟨u, z, w, _⟩)
            · exact w
            · rw [e] at z; cases z; rw [hf] at w; cases w
          · intro z; exact .inl ⟨s, e, hf, z⟩
        show SlOk X F3 H2 _ (fun a => (∃ s, Γ[i]? = some s ∧ s.fz = true ∧ S i a) ∨ (∃ s, Γ[i]? = some s ∧ s.fz = false ∧ S2 i a)) _
        rw [eS]
        exact (hs i s e).mono l3 fun a sa => (h2M ⟨i, s, e, hf, sa⟩).2
      | false =>
        have q := hs2 i s (by rw [List.getElem?_map, e]; exact congrArg some (frz_no hf))
        have eS : (fun a => (∃ s, Γ[i]? = some s ∧ s.fz = true ∧ S i a) ∨ (∃ s, Γ[i]? = some s ∧ s.fz = false ∧ S2 i a)) = S2 i := by
          funext a
          apply propext
          constructor
          · rintro (⟨u, z, w, _⟩ | ⟨u, z, _, w⟩)
            · rw [e] at z; cases z; rw [hf] at w; cases w
            · exact w
          · intro z; exact .inr ⟨s, e, hf, z⟩
        show SlOk X F3 H2 _ (fun a => (∃ s, Γ[i]? = some s ∧ s.fz = true ∧ S i a) ∨ (∃ s, Γ[i]? = some s ∧ s.fz = false ∧ S2 i a)) _
        rw [eS]
        cases s with
        | no => exact q
        | dat m d =>
          obtain ⟨⟨v, e0, r⟩, n⟩ := hs i _ e
          exact ⟨⟨v, e0, Bs.mo r l3⟩, q.2⟩
        | ml _ _ _ => cases hf
        | ex v Φ =>
          obtain ⟨e0, hk, p⟩ := q
          exact ⟨e0, hk, Φ.keepT (by
            cases hv : Φ.vw with
            | none => rfl
            | some d => simp [Sl.fz, hv] at hf) p (by rw [hk]; exact tl) fun _ _ => rfl⟩
    · rcases h1 with ⟨s1, e1, f1, z1⟩ | ⟨s1, e1, f1, z1⟩ <;> rcases h2 with ⟨s2, e2, f2, z2⟩ | ⟨s2, e2, f2, z2⟩
      · exact hdj i j a z1 z2
      · exact absurd ⟨i, s1, e1, f1, z1⟩ (s2M z2)
      · exact absurd ⟨j, s2, e2, f2, z2⟩ (s2M z1)
      · exact hdj2 i j a z1 z2
    · rcases h1 with ⟨s1, e1, f1, z1⟩ | ⟨s1, e1, f1, z1⟩
      · have hm : M a := ⟨i, s1, e1, f1, z1⟩
        exact ⟨f3M hm, by rw [(h2M hm).2]; exact (ho i a z1).2.1, (ho i a z1).2.2⟩
      · exact ⟨(f3N (s2M z1)).trans (ho2 i a z1).1, (ho2 i a z1).2⟩
theorem wt_thaw {t : TT} {Q : Bool → Prop} (h : WT K (Γ.map Sl.frz) t Q) : WT K Γ t Q := fun X hK F H σ E C k => by
  obtain ⟨F1, lf, E1, back⟩ := E.thaw
  refine h X hK F1 H σ E1 C fun b F2 H2 l2 E2 q => ?_
  obtain ⟨F3, l3, E3⟩ := back F2 H2 l2 E2
  exact k b F3 H2 l3 E3 q
/-- an item of a list of one's own -/
theorem atI_rp {F : Hp} {xs : List V} {ds : List PyData} {n : Int} {d : PyData} (r : RpA K F xs ds) (h : atI ds n = some d) : ∃ v, atI xs n = some v ∧ Rp K F v d := by
  unfold atI at h ⊢
  rw [r.length]
  cases hx : ixN ds.length n with
  | none => rw [hx] at h; cases h
  | some j =>
    rw [hx] at h
    exact r.get h
/-- an item of a list of one's own -/
theorem wd_ixm {m : Bool} {i : Nat} {l : Addr} {ds : List PyData} {ti : TE} {Q : PyData → Prop} (hi : Γ[i]? = some (.ml m l ds)) (h : WD K false Γ ti fun k => ∃ n d, k = .int n ∧ atI ds n = some d ∧ Q d) : WD K m Γ (tOp (rIx K) (tVar i) ti) Q := fun X hK F H σ E C k => by
  subst hK
  obtain ⟨xs, e, hl, fl, rx⟩ := E.ml hi
  refine ⟨.ref l, e, h X rfl F H σ E _ fun u F1 H1 x l1 E1 r1 ⟨n, d, ek, ha, q⟩ => ?_⟩
  subst ek
  cases r1
  obtain ⟨xs1, e1, hl1, fl1, rx1⟩ := E1.ml hi
  obtain ⟨v, hv, rv⟩ := atI_rp rx1 ha
  exact .inl ⟨l, xs1, n, v, rfl, rfl, SqL.of hl1, hv, k v F1 H1 d l1 E1 rv q⟩
end

section
variable {K : Kw} {m : Bool} {Γ : List Sl} {Q : PyData → Prop} {QX : Sl → Prop}
theorem rd_I0 {g : Int → Int → V} {i j : Int} {d : PyData} (hg : ∀ F, Rp K F (g i j) d) (q : Q d) : RD K m Γ (rI0 g) (.int i) (.int j) Q := rd_plain (d := d) (fun F H v u C le rv ru k => by
  cases rv; cases ru
  exact ⟨i, j, rfl, rfl, k _ (hg F)⟩) q
theorem rd_I {P : Int → Int → Prop} {g : Int → Int → V} {i j : Int} {d : PyData} (hg : ∀ F, Rp K F (g i j) d) (hc : P i j) (q : Q d) : RD K m Γ (rI P g) (.int i) (.int j) Q := rd_plain (d := d) (fun F H v u C le rv ru k => by
  cases rv; cases ru
  exact ⟨i, j, rfl, rfl, hc, k _ (hg F)⟩) q
def dAdd (K : PySem.W.Frag) : R2 := fun x y H Q => rI0 (fun i j => .int (i + j)) x y H Q ∨ rCat x y H Q ∨ (∃ i j, x = .str i ∧ y = .str j ∧ i.length + j.length ≤ sizeLine ∧ Q (.str (i ++ j)) H) ∨ rCatA K x y H Q
theorem o_add {X : Cx} : OpR X (binaryOp .Add) (dAdd X.K) := op_add.or (op_cat.or (op_add_str.or op_catA))
theorem rd_add {i j : Int} (q : Q (.int (i + j))) : RD K m Γ (dAdd K) (.int i) (.int j) Q := rd_plain (d := .int (i + j)) (fun F H v u C le rv ru k => by
  cases rv; cases ru
  exact .inl ⟨i, j, rfl, rfl, k _ (.int _)⟩) q
theorem rx_cat {a b : List PyData} (hz : a.length + b.length ≤ 100000) (q : ∀ l, QX (.ml m l (a ++ b))) : RX K m Γ (dAdd K) (.list a) (.list b) QX := rx_list (ds := a ++ b) (fun F H v u C le rv ru k => by
  cases rv with
  | lst h1 r1 =>
    cases ru with
    | lst h2 r2 => exact .inr (.inl ⟨_, _, _, _, rfl, rfl, le _ _ h1, le _ _ h2, sz_le (by rw [r1.length, r2.length]; exact hz), fun p hp => k p _ hp (r1.append r2)⟩)) q
theorem rd_cat {a b : List PyData} (hz : a.length + b.length ≤ 100000) (q : Q (.list (a ++ b))) : RD K m Γ (dAdd K) (.list a) (.list b) Q := .ofX (rx_cat hz fun _ => ⟨_, toD_ml, q⟩)
theorem rd_addS {a b : Str} (hz : a.length + b.length ≤ 100000) (q : Q (.str (a ++ b))) : RD K m Γ (dAdd K) (.str a) (.str b) Q := rd_plain (d := .str (a ++ b)) (fun F H v u C le rv ru k => by
  cases rv; cases ru
  exact .inr (.inr (.inl ⟨a, b, rfl, rfl, sz_le hz, k _ (.str _)⟩))) q
theorem rd_catT {a b : List PyData} (hz : a.length + b.length ≤ 100000) (q : Q (.tuple (a ++ b))) : RD K m Γ (dAdd K) (.tuple a) (.tuple b) Q := fun X hK F H σ E v u rv ru C k => by
  cases rv with
  | tup h1 r1 =>
    cases ru with
    | tup h2 r2 =>
      rename_i p1 xs p2 ys
      refine .inr (.inr (.inr ⟨p1, p2, xs, ys, rfl, rfl, sqT_le (E.lef m) h1, sqT_le (E.lef m) h2, sz_le (by rw [r1.length, r2.length]; exact hz), fun z => ?_, fun _ z => ?_, fun _ _ p hp => ?_⟩))
      · have ea : a = [] := List.length_eq_zero_iff.mp (by rw [← r1.length, z]; rfl)
        rw [ea, List.nil_append] at q
        exact k _ F H _ Le.rfl' E (.tup h2 r2) q
      · have eb : b = [] := List.length_eq_zero_iff.mp (by rw [← r2.length, z]; rfl)
        rw [eb, List.append_nil] at q
        exact k _ F H _ Le.rfl' E (.tup h1 r1) q
      · obtain ⟨a', b', c'⟩ := E.newT hK hp (r1.append r2)
        exact k (.ref p) _ _ _ a' b' c' q
def dSub : R2 := rI0 fun i j => .int (i - j)
theorem o_sub {X : Cx} : OpR X (binaryOp .Sub) dSub := op_sub
theorem rd_sub {i j : Int} (q : Q (.int (i - j))) : RD K m Γ dSub (.int i) (.int j) Q := rd_I0 (fun _ => .int _) q
def dMul : R2 := fun x y H Q => rI CMul (fun i j => .int (i * j)) x y H Q ∨ rRep x y H Q
theorem o_mul {X : Cx} : OpR X (binaryOp .Mult) dMul := op_mul.or op_rep
theorem rd_mul {i j : Int} (hc : CMul i j) (q : Q (.int (i * j))) : RD K m Γ dMul (.int i) (.int j) Q := rd_plain (d := .int (i * j)) (fun F H v u C le rv ru k => by
  cases rv; cases ru
  exact .inl ⟨i, j, rfl, rfl, hc, k _ (.int _)⟩) q
theorem rep_rpA {F : Hp} {xs : List V} {ds : List PyData} (r : RpA K F xs ds) : ∀ n : Nat, RpA K F (List.replicate n xs).flatten (List.replicate n ds).flatten
  | 0 => .nil
  | n + 1 => by
    rw [List.replicate_succ, List.replicate_succ, List.flatten_cons, List.flatten_cons]
    exact r.append (rep_rpA r n)
theorem rx_rep {a : List PyData} {n : Int} (h0 : 0 ≤ n) (hn : n ≤ 100000) (hz : a.length * n.toNat ≤ 100000) (q : ∀ l, QX (.ml m l (List.replicate n.toNat a).flatten)) : RX K m Γ dMul (.list a) (.int n) QX := rx_list (fun F H v u C le rv ru k => by
  cases rv with
  | lst h1 r1 =>
    cases ru
    exact .inr ⟨_, n, _, rfl, rfl, le _ _ h1, by omega, by omega, sz_le (by rw [r1.length]; exact hz), fun p hp => k p _ hp (rep_rpA r1 _)⟩) q
theorem rd_rep {a : List PyData} {n : Int} (h0 : 0 ≤ n) (hn : n ≤ 100000) (hz : a.length * n.toNat ≤ 100000) (q : Q (.list (List.replicate n.toNat a).flatten)) : RD K m Γ dMul (.list a) (.int n) Q := .ofX (rx_rep h0 hn hz fun _ => ⟨_, toD_ml, q⟩)
def dDiv : R2 := rI CDiv fun i j => .int (i / j)
theorem o_div {X : Cx} : OpR X (binaryOp .FloorDiv) dDiv := op_fdiv
theorem rd_div {i j : Int} (h : 0 < j) (h2 : j < 1073741824) (q : Q (.int (i / j))) : RD K m Γ dDiv (.int i) (.int j) Q := rd_I (fun _ => .int _) ⟨h, h2⟩ q
def dMod : R2 := rI (fun _ j => 0 < j) fun i j => .int (i % j)
theorem o_mod {X : Cx} : OpR X (binaryOp .Mod) dMod := op_mod
theorem rd_mod {i j : Int} (h : 0 < j) (q : Q (.int (i % j))) : RD K m Γ dMod (.int i) (.int j) Q := rd_I (fun _ => .int _) h q
def dPow : R2 := rI CPow fun i j => .int (i ^ j.toNat)
theorem o_pow {X : Cx} : OpR X (binaryOp .Pow) dPow := op_pow
theorem rd_pow {i j : Int} (h : CPow i j) (q : Q (.int (i ^ j.toNat))) : RD K m Γ dPow (.int i) (.int j) Q := rd_I (fun _ => .int _) h q
def dNeg : V → Hp → VK → Prop := rU fun i => .int (-i)
theorem o_neg {X : Cx} : UnR X (unaryOp .USub) dNeg := un_neg
theorem ru_neg {i : Int} (q : Q (.int (-i))) : RU K m Γ dNeg (.int i) Q := ru_plain (d := .int (-i)) (fun F H v C le rv k => by
  cases rv
  exact ⟨i, rfl, k _ (.int _)⟩) q
def dLt : R2 := rI0 fun i j => .bl (decide (i < j))
def dLe : R2 := rI0 fun i j => .bl (decide (i ≤ j))
def dGt : R2 := rI0 fun i j => .bl (decide (j < i))
def dGe : R2 := rI0 fun i j => .bl (decide (j ≤ i))
theorem o_lt {X : Cx} : OpR X (compareOp .Lt) dLt := op_lt
theorem o_le {X : Cx} : OpR X (compareOp .LtE) dLe := op_le
theorem o_gt {X : Cx} : OpR X (compareOp .Gt) dGt := op_gt
theorem o_ge {X : Cx} : OpR X (compareOp .GtE) dGe := op_ge
theorem rd_lt {i j : Int} (q : Q (.bool (decide (i < j)))) : RD K m Γ dLt (.int i) (.int j) Q := rd_I0 (fun _ => .bl _) q
theorem rd_le {i j : Int} (q : Q (.bool (decide (i ≤ j)))) : RD K m Γ dLe (.int i) (.int j) Q := rd_I0 (fun _ => .bl _) q
theorem rd_gt {i j : Int} (q : Q (.bool (decide (j < i)))) : RD K m Γ dGt (.int i) (.int j) Q := rd_I0 (fun _ => .bl _) q
theorem rd_ge {i j : Int} (q : Q (.bool (decide (j ≤ i)))) : RD K m Γ dGe (.int i) (.int j) Q := rd_I0 (fun _ => .bl _) q
def dEq (K : PySem.W.Frag) : R2 := rEqD K
def dNe (K : PySem.W.Frag) : R2 := rNeD K
theorem o_eq {X : Cx} (hu : X.A.units + 64 < cLine) : OpR X (compareOp .Eq) (dEq X.K) := op_eqD hu
theorem o_ne {X : Cx} (hu : X.A.units + 64 < cLine) : OpR X (compareOp .NotEq) (dNe X.K) := op_neD hu
theorem rd_eq {x y : PyData} (sx : SeqAt.shaped x = true) (sy : SeqAt.shaped y = true) (q : Q (.bool (PyData.eqv x y))) : RD K m Γ (dEq K) x y Q := rd_plain (d := .bool (PyData.eqv x y)) (fun F H v u C le rv ru k =>
  ⟨x, y, Rp.dp x (SeqAt.canLay_of_shaped sx) (rv.mono le), Rp.dp y (SeqAt.canLay_of_shaped sy) (ru.mono le), sx, sy, k _ (.bl _)⟩) q
theorem rd_ne {x y : PyData} (sx : SeqAt.shaped x = true) (sy : SeqAt.shaped y = true) (q : Q (.bool (!PyData.eqv x y))) : RD K m Γ (dNe K) x y Q := rd_plain (d := .bool (!PyData.eqv x y)) (fun F H v u C le rv ru k =>
  ⟨x, y, Rp.dp x (SeqAt.canLay_of_shaped sx) (rv.mono le), Rp.dp y (SeqAt.canLay_of_shaped sy) (ru.mono le), sx, sy, k _ (.bl _)⟩) q
def rInDT (K : PySem.W.Frag) (f : Bool → Bool) : R2 := fun x y H Q => ∃ d ds, Dp K H x d ∧ Dp K H y (.tuple ds) ∧ SeqAt.shaped d = true ∧ SeqAt.shaped (.tuple ds) = true ∧ Q (.bl (f (ds.any fun z => PyData.eqv z d))) H
theorem op_inDT {X : Cx} (hu : X.A.units + 65 < cLine) : OpR X (compareOp .In) (rInDT X.K id) := by
  intro pins s σ H x y v u Q I rx ry ⟨d, ds, hd, he, sd, se, q⟩
  obtain ⟨as, r1⟩ := Dp.reads I d x v hd rx
  obtain ⟨bs, r2⟩ := Dp.reads I (.tuple ds) y u he ry
  exact SeqAt.in_tuple_reads r2 r1 (SeqAt.canLay_of_shaped se) (SeqAt.canLay_of_shaped sd) (room_in_shaped sd hu) ⟨.bl _, H, I, rfl, q⟩
theorem op_notInDT {X : Cx} (hu : X.A.units + 65 < cLine) : OpR X (compareOp .NotIn) (rInDT X.K fun b => !b) := by
  intro pins s σ H x y v u Q I rx ry ⟨d, ds, hd, he, sd, se, q⟩
  obtain ⟨as, r1⟩ := Dp.reads I d x v hd rx
  obtain ⟨bs, r2⟩ := Dp.reads I (.tuple ds) y u he ry
  exact SeqAt.notIn_tuple_reads r2 r1 (SeqAt.canLay_of_shaped se) (SeqAt.canLay_of_shaped sd) (room_in_shaped sd hu) ⟨.bl _, H, I, rfl, q⟩
def dIn (K : PySem.W.Frag) : R2 := fun x y H Q => rInD K x y H Q ∨ (∃ i j, x = .str i ∧ y = .str j ∧ Q (.bl (!(Builtin.Str.occurrences j i 0 j.length 1).isEmpty)) H) ∨ rInDT K id x y H Q
def dNotIn (K : PySem.W.Frag) : R2 := fun x y H Q => rNotInD K x y H Q ∨ (∃ i j, x = .str i ∧ y = .str j ∧ Q (.bl (!(!(Builtin.Str.occurrences j i 0 j.length 1).isEmpty))) H) ∨ rInDT K (fun b => !b) x y H Q
theorem o_in {X : Cx} (hu : X.A.units + 65 < cLine) : OpR X (compareOp .In) (dIn X.K) := (op_inD hu).or (op_in_str.or (op_inDT hu))
theorem o_notIn {X : Cx} (hu : X.A.units + 65 < cLine) : OpR X (compareOp .NotIn) (dNotIn X.K) := (op_notInD hu).or (op_notin_str.or (op_notInDT hu))
theorem rd_in {x : PyData} {ds : List PyData} (sx : SeqAt.shaped x = true) (sy : SeqAt.shaped (.list ds) = true) (q : Q (.bool (ds.any fun z => PyData.eqv z x))) : RD K m Γ (dIn K) x (.list ds) Q := rd_plain (d := .bool _) (fun F H v u C le rv ru k =>
  .inl ⟨x, ds, Rp.dp x (SeqAt.canLay_of_shaped sx) (rv.mono le), Rp.dp _ (SeqAt.canLay_of_shaped sy) (ru.mono le), sx, sy, k _ (.bl _)⟩) q
theorem rd_notIn {x : PyData} {ds : List PyData} (sx : SeqAt.shaped x = true) (sy : SeqAt.shaped (.list ds) = true) (q : Q (.bool (!ds.any fun z => PyData.eqv z x))) : RD K m Γ (dNotIn K) x (.list ds) Q := rd_plain (d := .bool _) (fun F H v u C le rv ru k =>
  .inl ⟨x, ds, Rp.dp x (SeqAt.canLay_of_shaped sx) (rv.mono le), Rp.dp _ (SeqAt.canLay_of_shaped sy) (ru.mono le), sx, sy, k _ (.bl _)⟩) q
theorem rd_inT {x : PyData} {ds : List PyData} (sx : SeqAt.shaped x = true) (sy : SeqAt.shaped (.tuple ds) = true) (q : Q (.bool (ds.any fun z => PyData.eqv z x))) : RD K m Γ (dIn K) x (.tuple ds) Q := rd_plain (d := .bool _) (fun F H v u C le rv ru k =>
  .inr (.inr ⟨x, ds, Rp.dp _ (SeqAt.canLay_of_shaped sx) (rv.mono le), Rp.dp _ (SeqAt.canLay_of_shaped sy) (ru.mono le), sx, sy, k _ (.bl _)⟩)) q
theorem rd_ixL {ds : List PyData} {n : Int} {d : PyData} (h : atI ds n = some d) (q : Q d) : RD K m Γ (rIx K) (.list ds) (.int n) Q := rd_plain (d := d) (fun F H v u C le rv ru k => by
  cases rv with
  | lst h1 r1 =>
    cases ru
    obtain ⟨z, hz, rz⟩ := atI_rp r1 h
    exact .inl ⟨_, _, n, z, rfl, rfl, SqL.of (le _ _ h1), hz, k z rz⟩) q
theorem rd_ixT {ds : List PyData} {n : Int} {d : PyData} (h : atI ds n = some d) (q : Q d) : RD K m Γ (rIx K) (.tuple ds) (.int n) Q := rd_plain (d := d) (fun F H v u C le rv ru k => by
  cases rv with
  | tup h1 r1 =>
    cases ru
    obtain ⟨z, hz, rz⟩ := atI_rp r1 h
    exact .inr (.inl ⟨_, _, n, z, rfl, rfl, sqT_le le h1, hz, k z rz⟩)) q
theorem rd_ixS {x : Str} {n : Int} {c : Nat} (hz : x.length ≤ 100000) (h : atI x.cps.toList n = some c) (q : Q (.str ⟨#[c]⟩)) : RD K m Γ (rIx K) (.str x) (.int n) Q := rd_plain (d := .str ⟨#[c]⟩) (fun F H v u C le rv ru k => by
  cases rv; cases ru
  exact .inr (.inr ⟨x, n, c, rfl, rfl, sz_le hz, h, k _ (.str _)⟩)) q
theorem atI_ofNat {α : Type} {xs : List α} {n : Nat} : atI xs (n : Int) = xs[n]? := by
  unfold atI ixN
  by_cases h : n < xs.length
  · rw [if_pos (by omega), if_pos (by omega)]
    simp
  · rw [if_pos (by omega), if_neg (by omega)]
    simp [List.getElem?_eq_none (by omega : xs.length ≤ n)]
theorem atI_of {α : Type} {xs : List α} {z : Int} {n : Nat} {x : α} (e : z = (n : Int)) (h : xs[n]? = some x) : atI xs z = some x := by
  rw [e, atI_ofNat]; exact h
theorem atI_lastD {α : Type} {xs : List α} {x : α} : atI (xs ++ [x]) (-1) = some x := atI_last xs x
def dLen (K : PySem.W.Frag) : List V → Hp → VK → Prop := fun xs H Q => ∃ x n, xs = [x] ∧ LenV K x H n ∧ Q (.int n) H
theorem o_len {X : Cx} : CallR X (.builtin "len") (dLen X.K) := call_len
theorem rc_lenL {ds : List PyData} (q : Q (.int ds.length)) : RC K m Γ (dLen K) [.list ds] Q := rc_plain (d := .int ds.length) (fun F H vs C le rv k => by
  cases rv with
  | cons a b =>
    cases b
    cases a with
    | lst h1 r1 => exact ⟨_, ds.length, rfl, .inl ⟨_, SqL.of (le _ _ h1), r1.length.symm⟩, k _ (.int _)⟩) q
theorem rc_lenT {ds : List PyData} (q : Q (.int ds.length)) : RC K m Γ (dLen K) [.tuple ds] Q := rc_plain (d := .int ds.length) (fun F H vs C le rv k => by
  cases rv with
  | cons a b =>
    cases b
    cases a with
    | tup h1 r1 => exact ⟨_, ds.length, rfl, .inr ⟨_, sqT_le le h1, r1.length.symm⟩, k _ (.int _)⟩) q
theorem rc_lenS {x : Str} (hz : x.length ≤ 100000) (q : Q (.int x.length)) : RC K m Γ (dLen K) [.str x] Q := rc_plain (d := .int x.length) (fun F H vs C le rv k => by
  cases rv with
  | cons a b =>
    cases b
    cases a
    exact ⟨_, x.length, rfl, ⟨sz_le hz, rfl⟩, k _ (.int _)⟩) q
def dList (K : PySem.W.Frag) : List V → Hp → VK → Prop := fun xs H Q => ∃ p ys, xs = [.ref p] ∧ (SqL K H p ys ∨ SqT K H p ys) ∧ ∀ l, H l = none → Q (.ref l) (upd H l (.lst ys))
theorem o_list {X : Cx} : CallR X (.type "list") (dList X.K) := call_list_of
theorem rcx_listL {ds : List PyData} (q : ∀ l, QX (.ml m l ds)) : RCX K m Γ (dList K) [.list ds] QX := rcx_list (fun F H vs C le rv k => by
  cases rv with
  | cons a b =>
    cases b
    cases a with
    | lst h1 r1 => exact ⟨_, _, rfl, .inl (SqL.of (le _ _ h1)), fun p hp => k p _ hp r1⟩) q
theorem rcx_listT {ds : List PyData} (q : ∀ l, QX (.ml m l ds)) : RCX K m Γ (dList K) [.tuple ds] QX := rcx_list (fun F H vs C le rv k => by
  cases rv with
  | cons a b =>
    cases b
    cases a with
    | tup h1 r1 => exact ⟨_, _, rfl, .inr (sqT_le le h1), fun p hp => k p _ hp r1⟩) q
theorem rc_listL {ds : List PyData} (q : Q (.list ds)) : RC K m Γ (dList K) [.list ds] Q := .ofX (rcx_listL fun _ => ⟨_, toD_ml, q⟩)
theorem rc_listT {ds : List PyData} (q : Q (.list ds)) : RC K m Γ (dList K) [.tuple ds] Q := .ofX (rcx_listT fun _ => ⟨_, toD_ml, q⟩)
def dTuple (K : PySem.W.Frag) : List V → Hp → VK → Prop := fun xs H Q => ∃ p ys, xs = [.ref p] ∧ ((SqL K H p ys ∧ ∀ l, H l = none → Q (.ref l) (upd H l (.tup ys))) ∨ (SqT K H p ys ∧ Q (.ref p) H))
theorem o_tuple {X : Cx} : CallR X (.type "tuple") (dTuple X.K) := call_tuple_of
theorem rc_tupleL {ds : List PyData} (q : Q (.tuple ds)) : RC K m Γ (dTuple K) [.list ds] Q := rc_tuple (fun F H vs C le rv k => by
  cases rv with
  | cons a b =>
    cases b
    cases a with
    | lst h1 r1 => exact ⟨_, _, rfl, .inl ⟨SqL.of (le _ _ h1), fun p hp => k p _ hp r1⟩⟩) q
theorem ints_of {F : Hp} : ∀ {xs : List V} {ns : List Int}, RpA K F xs (ns.map PyData.int) → xs = ns.map V.int
  | [], [], _ => rfl
  | _ :: _, [], h => by cases h
  | [], _ :: _, h => by cases h
  | v :: xs, n :: ns, h => by
    cases h with
    | cons a b =>
      cases a
      rw [ints_of b]
      rfl
def dMax (K : PySem.W.Frag) : List V → Hp → VK → Prop := fun xs H Q => (∃ i j, xs = [.int i, .int j] ∧ Q (.int (if j > i then j else i)) H) ∨ rMax K xs H Q
def dMin (K : PySem.W.Frag) : List V → Hp → VK → Prop := fun xs H Q => (∃ i j, xs = [.int i, .int j] ∧ Q (.int (if j < i then j else i)) H) ∨ rMin K xs H Q
theorem o_max {X : Cx} (hc : X.calm = true) : CallR X (.builtin "max") (dMax X.K) := (call_max2 hc).or (cr_max hc)
theorem o_min {X : Cx} (hc : X.calm = true) : CallR X (.builtin "min") (dMin X.K) := (call_min2 hc).or (cr_min hc)
theorem rc_max2 {i j : Int} (q : Q (.int (max i j))) : RC K m Γ (dMax K) [.int i, .int j] Q := rc_plain (d := .int (max i j)) (fun F H vs C le rv k => by
  cases rv with
  | cons a b =>
    cases b with
    | cons b c =>
      cases c; cases a; cases b
      have e : (if j > i then j else i) = max i j := by split <;> omega
      exact .inl ⟨i, j, rfl, by rw [e]; exact k _ (.int _)⟩) q
theorem rc_min2 {i j : Int} (q : Q (.int (min i j))) : RC K m Γ (dMin K) [.int i, .int j] Q := rc_plain (d := .int (min i j)) (fun F H vs C le rv k => by
  cases rv with
  | cons a b =>
    cases b with
    | cons b c =>
      cases c; cases a; cases b
      have e : (if j < i then j else i) = min i j := by split <;> omega
      exact .inl ⟨i, j, rfl, by rw [e]; exact k _ (.int _)⟩) q
def dInt : List V → Hp → VK → Prop := fun xs H Q => (∃ i, xs = [.int i] ∧ Q (.int i) H) ∨ ∃ k, xs = [.bl k] ∧ Q (.int (if k then 1 else 0)) H
theorem o_int {X : Cx} : CallR X (.type "int") dInt := call_int1
theorem rc_intB {b : Bool} (q : Q (.int (if b then 1 else 0))) : RC K m Γ dInt [.bool b] Q := rc_plain (d := .int (if b then 1 else 0)) (fun F H vs C le rv k => by
  cases rv with
  | cons a c =>
    cases c; cases a
    exact .inr ⟨b, rfl, k _ (.int _)⟩) q
theorem rc_intI {i : Int} (q : Q (.int i)) : RC K m Γ dInt [.int i] Q := rc_plain (d := .int i) (fun F H vs C le rv k => by
  cases rv with
  | cons a c =>
    cases c; cases a
    exact .inl ⟨i, rfl, k _ (.int _)⟩) q
theorem rg_rp {F : Hp} {a b : Int} : RpA K F (rgV a b) (rangeD a (b - a).toNat) := by
  unfold rgV rangeD
  generalize List.range (b - a).toNat = l
  induction l with
  | nil => exact .nil
  | cons i l ih => exact .cons (.int _) ih
theorem wx_lrg1 {ta : TE} (m : Bool) (h : WD K false Γ ta fun x => ∃ n : Int, x = .int n ∧ (0 ≤ n ∧ n ≤ 100000) ∧ ∀ l, QX (.ml m l (rangeD 0 n.toNat))) : WX K Γ (tLstRg (tRg1 ta)) QX := fun X hK F H σ E C k =>
  h X hK F H σ E _ fun v F1 H1 x l1 E1 r ⟨n, e, hn, q⟩ => by
    subst e
    cases r
    refine ⟨n, rfl, RgOk.of_le (by omega) (by omega) (by omega) (by omega), fun p hp => ?_⟩
    have rr : RpA X.K (X.ff F1 m) (rgV 0 n) (rangeD 0 n.toNat) := by
      have := rg_rp (K := X.K) (F := X.ff F1 m) (a := 0) (b := n)
      rwa [Int.sub_zero] at this
    exact k (.ref p) F1 _ _ l1 (E1.pushM hp rr) (q p)
theorem wd_lrg1 {ta : TE} (h : WD K false Γ ta fun x => ∃ n : Int, x = .int n ∧ (0 ≤ n ∧ n ≤ 100000) ∧ Q (.list (rangeD 0 n.toNat))) : WD K m Γ (tLstRg (tRg1 ta)) Q := .ofX (wx_lrg1 m (h.mono fun d ⟨n, e, hn, q⟩ => ⟨n, e, hn, fun _ => ⟨_, toD_ml, q⟩⟩))
theorem wx_rev {ta : TE} (m : Bool) (h : WD K m Γ ta fun x => ∃ ds, x = .list ds ∧ ∀ l, QX (.ml m l ds.reverse)) : WX K Γ (tRevL K ta) QX := fun X hK F H σ E C k =>
  h X hK F H σ E _ fun v F1 H1 x l1 E1 r ⟨ds, e, q⟩ => by
    subst e
    subst hK
    cases r with
    | lst h1 r1 => exact ⟨_, _, rfl, SqL.of (E1.lef m _ _ h1), fun p hp => k (.ref p) F1 _ _ l1 (E1.pushM hp r1.reverse) (q p)⟩
theorem wd_rev {ta : TE} (h : WD K m Γ ta fun x => ∃ ds, x = .list ds ∧ Q (.list ds.reverse)) : WD K m Γ (tRevL K ta) Q := .ofX (wx_rev m (h.mono fun d ⟨n, e, q⟩ => ⟨n, e, fun _ => ⟨_, toD_ml, q⟩⟩))
def WO (K : Kw) (Γ : List Sl) (t : TO) (Q : Option Int → Prop) : Prop := ∀ X : Bs, X.K = K → ∀ F H σ, En X F H σ Γ → ∀ C : Option Int → Hp → Prop, (∀ o F' H', Le F F' → En X F' H' σ Γ → Q o → C o H') → t σ H C
theorem wo_no {Q : Option Int → Prop} (q : Q none) : WO K Γ tNoPart Q := fun X hK F H σ E C k => k none F H Le.rfl' E q
theorem wo_some {t : TE} {Q : Option Int → Prop} (h : WD K false Γ t fun d => ∃ i, d = .int i ∧ Q (some i)) : WO K Γ (tPart t) Q := fun X hK F H σ E C k =>
  h X hK F H σ E _ fun v F1 H1 x l1 E1 r ⟨i, e, q⟩ => by
    subst e
    cases r
    exact ⟨i, rfl, k (some i) F1 H1 l1 E1 q⟩
def cutD {α : Type} (xs : List α) (lo hi : Option Int) : List α := (xs.drop (HT.sIx xs.length 0 lo)).take (HT.sIx xs.length xs.length hi - HT.sIx xs.length 0 lo)
theorem cut_rp {F : Hp} {xs : List V} {ds : List PyData} (r : RpA K F xs ds) (lo hi : Option Int) : RpA K F (cutV xs lo hi) (cutD ds lo hi) := by
  unfold cutV cutD
  rw [r.length]
  exact (r.drop _).take _
theorem wx_sl {t : TE} {tl th : TO} (m : Bool) (h : WD K m Γ t fun x => ∃ ds, x = .list ds ∧ WO K Γ tl fun lo => WO K Γ th fun hi => ∀ l, QX (.ml m l (cutD ds lo hi))) : WX K Γ (tSl (rSlL K) t tl th) QX := fun X hK F H σ E C k =>
  h X hK F H σ E _ fun v F1 H1 x l1 E1 r ⟨ds, e, h1⟩ => h1 X hK F1 H1 σ E1 _ fun lo F2 H2 l2 E2 h2 => h2 X hK F2 H2 σ E2 _ fun hi F3 H3 l3 E3 q => by
    subst e
    subst hK
    cases (Bs.mo r (l2.tr l3)) with
    | lst h1 r1 => exact ⟨_, _, rfl, SqL.of (E3.lef m _ _ h1), fun p hp => k (.ref p) F3 _ _ (l1.tr (l2.tr l3)) (E3.pushM hp (cut_rp r1 lo hi)) (q p)⟩
theorem WO.mono {t : TO} {Q Q' : Option Int → Prop} (h : WO K Γ t Q) (k : ∀ o, Q o → Q' o) : WO K Γ t Q' := fun X hK F H σ E C c => h X hK F H σ E C fun o F' H' l E' q => c o F' H' l E' (k o q)
theorem wd_sl {t : TE} {tl th : TO} (h : WD K m Γ t fun x => ∃ ds, x = .list ds ∧ WO K Γ tl fun lo => WO K Γ th fun hi => Q (.list (cutD ds lo hi))) : WD K m Γ (tSl (rSlL K) t tl th) Q :=
  .ofX (wx_sl m (h.mono fun d ⟨ds, e, q⟩ => ⟨ds, e, q.mono fun lo q => q.mono fun hi q l => ⟨_, toD_ml, q⟩⟩))
theorem wd_slT {t : TE} {tl th : TO} (h : WD K m Γ t fun x => ∃ ds, x = .tuple ds ∧ WO K Γ tl fun lo => WO K Γ th fun hi => Q (.tuple (cutD ds lo hi))) : WD K m Γ (tSl (rSlA K) t tl th) Q := fun X hK F H σ E C k =>
  h X hK F H σ E _ fun v F1 H1 x l1 E1 r ⟨ds, e, hq⟩ => by
    subst hK
    subst e
    refine hq X rfl F1 H1 σ E1 _ fun lo F2 H2 l2 E2 hq2 => hq2 X rfl F2 H2 σ E2 _ fun hi F3 H3 l3 E3 q => ?_
    cases r with
    | tup h1 r1 =>
      have r2 := r1.mono (Bs.ff_mono (X := X) (l2.tr l3) m)
      have h2 := sqT_le (Bs.ff_mono (X := X) (l2.tr l3) m) h1
      refine ⟨_, _, rfl, sqT_le (E3.lef m) h2, fun z => ?_, fun _ p hp => ?_⟩
      · have e : cutD ds lo hi = ds := by
          unfold cutD
          rw [← r1.length, z.1, z.2, List.drop_zero, Nat.sub_zero, r1.length, List.take_length]
        have q' : Q (.tuple (cutD ds lo hi)) := q
        rw [e] at q'
        exact k _ F3 H3 _ (l1.tr (l2.tr l3)) E3 (.tup h2 r2) q'
      · obtain ⟨a', b', c'⟩ := E3.newT rfl hp (cut_rp r2 lo hi)
        exact k (.ref p) _ _ _ (l1.tr ((l2.tr l3).tr a')) b' c' q
theorem wd_slS {t : TE} {tl th : TO} (h : WD K false Γ t fun x => ∃ z, x = .str z ∧ z.length ≤ 100000 ∧ WO K Γ tl fun lo => WO K Γ th fun hi => Q (.str (cutS z lo hi))) : WD K m Γ (tSl rSlS t tl th) Q := fun X hK F H σ E C k =>
  h X hK F H σ E _ fun v F1 H1 x l1 E1 r ⟨z, e, hz, hq⟩ => by
    subst e
    cases r
    exact hq X hK F1 H1 σ E1 _ fun lo F2 H2 l2 E2 hq2 => hq2 X hK F2 H2 σ E2 _ fun hi F3 H3 l3 E3 q => ⟨z, rfl, sz_le hz, k _ F3 H3 _ (l1.tr (l2.tr l3)) E3 (.str _) q⟩
def isLid : List (PyData × PyData) → Bool
  | (.none, .bool false) :: _ => true
  | _ => false
theorem isLid_no {kvs : List (Key × V)} {ds : List (PyData × PyData)} (t : flatDs ds = true → kvs.map kvD = ds) : isLid ds = false := by
  cases h : isLid ds with
  | false => rfl
  | true =>
    have hf : flatDs ds = true := by
      unfold isLid at h
      split at h
      · rfl
      · cases h
    have e := t hf
    rw [← e] at h
    cases kvs with
    | nil => cases h
    | cons p q =>
      obtain ⟨k, u⟩ := p
      cases k <;> cases h
def tyN : PyData → String
  | .none => "NoneType" | .bool _ => "bool" | .int _ => "int" | .str _ => "str" | .list _ => "list" | .tuple _ => "tuple" | .dict l => if isLid l then "list" else "dict"
def isTyS (a T : String) : Bool := a == T || (a == "bool" && T == "int")
def isTy (d : PyData) (T : String) : Bool := isTyS (tyN d) T
/-- a dict with tuple keys -/
def IsN (H : Hp) (v : V) : Prop := ∃ a w ep es, v = .ref a ∧ H a = some (dN w a ep es)
/-- a dict with numbers and texts as keys -/
def IsF (H : Hp) (v : V) : Prop := ∃ a w ep kvs, v = .ref a ∧ H a = some (dF w a ep kvs)
def TyN (K : PySem.W.Frag) (H : Hp) (v : V) (t : Value) : Prop := TyX K H v t ∨ (t = .type "dict" ∧ (IsN H v ∨ IsF H v))
theorem kit_ofN {X : Cx} {pins : List (Addr × Obj)} {σ : L2.St} {H : Hp} {s : Shared} {x : V} {u t : Value} (I : Inv X pins σ H s) (rx : RelV x u) (ty : TyN X.K H x t) : ∃ P : Heap → Prop, PySem.W.KitX X.K u t P ∧ P s.heap ∧ u ≠ .builtin "__main__.__loader__#opaque" := by
  rcases ty with ty | ⟨rfl, ⟨a, w, ep, es, rfl, ea⟩ | ⟨a, w, ep, es, rfl, ea⟩⟩
  · exact kit_of I rx ty
  · cases (show u = Value.ref a from rx)
    obtain ⟨⟨_, _, _, xs, _, o, es', h1, h2, _⟩, _⟩ := (show ObjOk X.prog X.w H s.heap a (dN w a ep es) from I.hok a _ ea)
    exact ⟨_, PySem.W.kitx_dict, ⟨o, h1, h2.1⟩, fun z => nomatch z⟩
  · cases (show u = Value.ref a from rx)
    obtain ⟨⟨_, _, _, _, _, o, es', h1, h2, _⟩, _⟩ := (show ObjOk X.prog X.w H s.heap a (dF w a ep es) from I.hok a _ ea)
    exact ⟨_, PySem.W.kitx_dict, ⟨o, h1, h2.1⟩, fun z => nomatch z⟩
def rIsD (K : PySem.W.Frag) : List V → Hp → VK → Prop := fun xs H Q => ∃ (x c : V) (t u : Value) (b : Bool), xs = [x, c] ∧ ClsV c u ∧ TyN K H x t ∧ PySem.W.kitOne K t u = some b ∧ Q (.bl b) H
def rIsDT (K : PySem.W.Frag) : List V → Hp → VK → Prop := fun xs H Q => ∃ (x : V) (tp : Addr) (cs : List V) (t : Value) (us : List Value) (b : Bool), xs = [x, .ref tp] ∧ H tp = some (.tup cs) ∧ Paired ClsV cs us ∧ TyN K H x t ∧ PySem.W.kitAny K t us = some b ∧ Q (.bl b) H
theorem call_isD {X : Cx} : CallR X (.builtin "isinstance") (rIsD X.K) := by
  intro pins s σ H xs us Q I r h
  obtain ⟨x, c, t, u, b, rfl, k, ty, e, q⟩ := h
  obtain ⟨u1, u2, rfl, r1, r2⟩ := vals2 r
  have e2 := k.eq r2
  subst e2
  obtain ⟨P, Z, p, hx⟩ := kit_ofN I r1 ty
  exact PySem.W.kia_one Z I.kIn p e hx fun tk => ⟨.bl b, H, I.tok tk, rfl, q⟩
theorem call_isDT {X : Cx} : CallR X (.builtin "isinstance") (rIsDT X.K) := by
  intro pins s σ H xs us Q I r h
  obtain ⟨x, tp, cs, t, ws, b, rfl, hT, k, ty, e, q⟩ := h
  obtain ⟨u1, u2, rfl, r1, r2⟩ := vals2 r
  cases (show u2 = Value.ref tp from r2)
  obtain ⟨P, Z, p, hx⟩ := kit_ofN I r1 ty
  obtain ⟨_, its, rv, o, h1, h2, n, h3⟩ := (show ObjOk X.prog X.w H s.heap tp (.tup cs) from I.hok tp _ hT)
  have e3 := ClsV.all k rv
  subst e3
  obtain ⟨oc, od, dt, sl⟩ := o
  simp only at h2 h3
  subst h2 h3
  exact PySem.W.kia_tup Z I.kIn p h1 e hx fun tk => ⟨.bl b, H, I.tok tk, rfl, q⟩
theorem tyX {F H : Hp} {v : V} {d : PyData} (le : Le F H) (r : Rp K F v d) : TyN K H v (.type (tyN d)) := by
  cases r with
  | non => exact .inl (.base .non)
  | bl b => exact .inl (.base (.bl b))
  | int i => exact .inl (.base (.int i))
  | str x => exact .inl (.base (.str x))
  | lst h _ => exact .inl (.base (.lst (le _ _ h)))
  | tup h _ =>
    rcases h with (h | ⟨o, h⟩) | ⟨o, its, n, hk, hc, _⟩
    · exact .inl (.base (.tup (le _ _ h)))
    · exact .inl (.fTuple (le _ _ h))
    · exact .inl (.kTuple hk hc)
  | dct h t =>
    have e := isLid_no t
    simp only [tyN, e]
    exact .inl (.base (.dK (le _ _ h)))
  | dcn h _ => exact .inr ⟨rfl, .inl ⟨_, _, _, _, rfl, le _ _ h⟩⟩
  | dcf h _ _ => exact .inr ⟨rfl, .inr ⟨_, _, _, _, rfl, le _ _ h⟩⟩
  | lid h _ => exact .inl (.base (.lst (le _ _ h)))
theorem kit_tab : ∀ a ∈ ["NoneType", "bool", "int", "str", "list", "tuple", "dict"], ∀ T ∈ ["int", "bool", "str", "list", "tuple", "dict"], kitB a T = some (isTyS a T) := by decide +kernel
theorem tyN_mem (d : PyData) : tyN d ∈ ["NoneType", "bool", "int", "str", "list", "tuple", "dict"] := by
  cases d <;> simp [tyN]
  split <;> simp
theorem kit_isTy {d : PyData} {T : String} (hT : T ∈ ["int", "bool", "str", "list", "tuple", "dict"]) : PySem.W.kitOne K (.type (tyN d)) (.type T) = some (isTy d T) := kit_ty (kit_tab _ (tyN_mem d) T hT)
theorem wd_isi {ta : TE} {T : String} (hT : T ∈ ["int", "bool", "str", "list", "tuple", "dict"]) (h : WD K false Γ ta fun d => Q (.bool (isTy d T))) : WD K m Γ (tCB (rIsD K) (tCons ta (tCons (tC (.ty T)) tNil))) Q := fun X hK F H σ E C k =>
  h X hK F H σ E _ fun v F1 H1 d l1 E1 r q => ⟨v, .ty T, .type (tyN d), .type T, isTy d T, rfl, .ty T, tyX E1.le r, kit_isTy hT, k _ F1 H1 _ l1 E1 (.bl _) q⟩
theorem wd_isi2 {ta : TE} {T U : String} (hT : T ∈ ["int", "bool", "str", "list", "tuple", "dict"]) (hU : U ∈ ["int", "bool", "str", "list", "tuple", "dict"]) (h : WD K false Γ ta fun d => Q (.bool (isTy d T || isTy d U))) : WD K m Γ (tCB (rIsDT K) (tCons ta (tCons (tTup (tCons (tC (.ty T)) (tCons (tC (.ty U)) tNil))) tNil))) Q := fun X hK F H σ E C k =>
  h X hK F H σ E _ fun v F1 H1 d l1 E1 r q => ⟨by show 2 ≤ sizeLine; decide, fun p hp => by
    refine ⟨v, p, [.ty T, .ty U], .type (tyN d), [.type T, .type U], isTy d T || isTy d U, rfl, upd_same, .cons (.ty T) (.cons (.ty U) .nil), tyX (E1.free hp).le r, ?_, k _ F1 _ _ l1 (E1.free hp) (.bl _) q⟩
    refine kitAny_cons (kit_isTy hT) (fun e => ?_) (fun e => by rw [e]; rfl)
    refine kitAny_cons (kit_isTy hU) (fun e2 => by rw [e, e2]; exact kitAny_nil) (fun e2 => by rw [e2]; simp)⟩
end
end Pk
end
section
set_option Elab.async false
set_option linter.all false
set_option maxRecDepth 100000
namespace Pk
open PySem PySem.Spec PyProof.Rows L2
section
variable {K : Kw} {m : Bool} {Γ : List Sl} {QI : List PyData → Prop} {ta : TA} {te : TE}
/-- the signs of a text -/
def signsD (x : Str) : List PyData := x.cps.toList.map fun c => .str ⟨#[c]⟩
theorem wi_str (h : WD K false Γ te fun d => ∃ x, d = .str x ∧ QI (signsD x)) : WI K m Γ (iStr te) QI := fun X hK F H σ E C k =>
  h X hK F H σ E _ fun v F1 H1 d l1 E1 r ⟨x, e, q⟩ => by
    subst e
    cases r
    have hn : (signsD x).length = x.cps.size := by simp [signsD]
    refine ⟨x, rfl, k (Its x) F1 H1 _ _ (signsD x) l1 E1 (by rw [hn]; exact walk_str) (fun _ _ => trivial) (fun i F2 H2 u H3 l2 le hi hy => ?_) q⟩
    obtain ⟨rfl, c, hc, rfl⟩ := hy
    exact ⟨.str ⟨#[c]⟩, F2, by simp [signsD, hc], Gr.same le, .str _⟩
end

/-- at most n deep, no dicts, texts of signs -/
def dep : Nat → PyData → Prop
  | _, .none => True
  | _, .bool _ => True
  | _, .int _ => True
  | _, .str x => PyData.strOk x = true
  | 0, .list _ => False
  | 0, .tuple _ => False
  | n + 1, .list xs => ∀ x ∈ xs, dep n x
  | n + 1, .tuple xs => ∀ x ∈ xs, dep n x
  | _, .dict _ => False
theorem dep_can : ∀ (n : Nat) (d : PyData), dep n d → d.canLay0 = true ∧ d.depth ≤ n + 1
  | _, .none, _ => ⟨rfl, by simp [PyData.depth]⟩
  | _, .bool _, _ => ⟨rfl, by simp [PyData.depth]⟩
  | _, .int _, _ => ⟨rfl, by simp [PyData.depth]⟩
  | n, .str x, h => by
    have h' : PyData.strOk x = true := by cases n <;> exact h
    exact ⟨by simpa [PyData.canLay0] using h', by simp [PyData.depth]⟩
  | 0, .list _, h => h.elim
  | 0, .tuple _, h => h.elim
  | n + 1, .list xs, h => by
    have : PyData.canLayAll0 xs = true ∧ PyData.depthAll xs ≤ n + 1 := by
      have h' : ∀ x ∈ xs, dep n x := h
      clear h
      induction xs with
      | nil => exact ⟨rfl, by simp [PyData.depthAll]⟩
      | cons x xs ih =>
        obtain ⟨a, b⟩ := dep_can n x (h' x List.mem_cons_self)
        obtain ⟨c, d⟩ := ih fun y hy => h' y (List.mem_cons_of_mem _ hy)
        exact ⟨by simp [PyData.canLayAll0, a, c], by simp only [PyData.depthAll]; omega⟩
    exact ⟨by simpa [PyData.canLay0] using this.1, by simp only [PyData.depth]; omega⟩
  | n + 1, .tuple xs, h => by
    have : PyData.canLayAll0 xs = true ∧ PyData.depthAll xs ≤ n + 1 := by
      have h' : ∀ x ∈ xs, dep n x := h
      clear h
      induction xs with
      | nil => exact ⟨rfl, by simp [PyData.depthAll]⟩
      | cons x xs ih =>
        obtain ⟨a, b⟩ := dep_can n x (h' x List.mem_cons_self)
        obtain ⟨c, d⟩ := ih fun y hy => h' y (List.mem_cons_of_mem _ hy)
        exact ⟨by simp [PyData.canLayAll0, a, c], by simp only [PyData.depthAll]; omega⟩
    exact ⟨by simpa [PyData.canLay0] using this.1, by simp only [PyData.depth]; omega⟩
  | n, .dict _, h => by cases n <;> exact h.elim
theorem dep_shaped {n : Nat} {d : PyData} (h : dep n d) (hn : n ≤ 63) : SeqAt.shaped d = true := by
  obtain ⟨a, b⟩ := dep_can n d h
  simp only [SeqAt.shaped, a, Bool.true_and, decide_eq_true_eq]
  omega
theorem sh_int {i : Int} : SeqAt.shaped (.int i) = true := dep_shaped (n := 0) (d := .int i) trivial (by decide)
theorem sh_bool {b : Bool} : SeqAt.shaped (.bool b) = true := dep_shaped (n := 0) (d := .bool b) trivial (by decide)
theorem sh_non : SeqAt.shaped .none = true := dep_shaped (n := 0) (d := .none) trivial (by decide)
theorem sh_str {x : Str} (h : PyData.strOk x = true) : SeqAt.shaped (.str x) = true := dep_shaped (n := 0) (d := .str x) h (by decide)
theorem sh_nil : SeqAt.shaped (.list []) = true := dep_shaped (n := 1) (d := .list []) (fun x h => by cases h) (by decide)
/-- == of texts, ints -/
theorem eqv_int {i j : Int} : PyData.eqv (.int i) (.int j) = decide (i = j) := by simp only [PyData.eqv]; exact Bool.beq_eq_decide_eq i j
theorem eqv_str {x y : Str} : PyData.eqv (.str x) (.str y) = decide (x = y) := by simp only [PyData.eqv]; exact Bool.beq_eq_decide_eq x y
theorem eqv_nil {xs : List PyData} : PyData.eqv (.list xs) (.list []) = xs.isEmpty := by cases xs <;> simp [PyData.eqv, PyData.eqvAll]
/-- no truths within -/
inductive NB : PyData → Prop
  | non : NB .none
  | int (i : Int) : NB (.int i)
  | str (x : Str) : NB (.str x)
  | lst {xs : List PyData} : (∀ x ∈ xs, NB x) → NB (.list xs)
  | tup {xs : List PyData} : (∀ x ∈ xs, NB x) → NB (.tuple xs)
end Pk
end
section
set_option Elab.async false
set_option linter.all false
set_option maxRecDepth 100000
namespace Pk
open PySem PySem.Spec PyProof.Rows L2
section
variable {K : Kw} {m : Bool} {Γ : List Sl} {Q : PyData → Prop} {QX : Sl → Prop} {ta tb tc td te tf : TE}
theorem wd_cb1 {r : List V → Hp → VK → Prop} (h : WD K m Γ ta fun x => RC K m Γ r [x] Q) : WD K m Γ (tCB r (tCons ta tNil)) Q := wd_cb (wa_d (h.mono fun x q => wa_nil ⟨_, rfl, q⟩))
theorem wd_cb2 {r : List V → Hp → VK → Prop} (h : WD K m Γ ta fun x => WD K m Γ tb fun y => RC K m Γ r [x, y] Q) : WD K m Γ (tCB r (tCons ta (tCons tb tNil))) Q := wd_cb (wa_d (h.mono fun x h => wa_d (h.mono fun y q => wa_nil ⟨_, rfl, q⟩)))
theorem le_lit {n : Nat} (h : Nat.ble n 100000 = true) : n ≤ 100000 := Nat.le_of_ble_eq_true h
theorem wd_tup0 (q : Q (.tuple [])) : WD K m Γ (tTup tNil) Q := wd_tup (wa_nil ⟨_, rfl, le_lit rfl, q⟩)
theorem wd_tup1 (h : WD K m Γ ta fun x => Q (.tuple [x])) : WD K m Γ (tTup (tCons ta tNil)) Q := wd_tup (wa_d (h.mono fun x q => wa_nil ⟨_, rfl, le_lit rfl, q⟩))
theorem wd_tup2 (h : WD K m Γ ta fun x => WD K m Γ tb fun y => Q (.tuple [x, y])) : WD K m Γ (tTup (tCons ta (tCons tb tNil))) Q := wd_tup (wa_d (h.mono fun x h => wa_d (h.mono fun y q => wa_nil ⟨_, rfl, le_lit rfl, q⟩)))
theorem wd_tup3 (h : WD K m Γ ta fun x => WD K m Γ tb fun y => WD K m Γ tc fun z => Q (.tuple [x, y, z])) : WD K m Γ (tTup (tCons ta (tCons tb (tCons tc tNil)))) Q := wd_tup (wa_d (h.mono fun x h => wa_d (h.mono fun y h => wa_d (h.mono fun z q => wa_nil ⟨_, rfl, le_lit rfl, q⟩))))
theorem wd_lst0 (q : Q (.list [])) : WD K m Γ (tLst tNil) Q := wd_lst (wa_nil ⟨_, rfl, le_lit rfl, q⟩)
theorem wd_lst1 (h : WD K m Γ ta fun x => Q (.list [x])) : WD K m Γ (tLst (tCons ta tNil)) Q := wd_lst (wa_d (h.mono fun x q => wa_nil ⟨_, rfl, le_lit rfl, q⟩))
theorem wd_lst2 (h : WD K m Γ ta fun x => WD K m Γ tb fun y => Q (.list [x, y])) : WD K m Γ (tLst (tCons ta (tCons tb tNil))) Q := wd_lst (wa_d (h.mono fun x h => wa_d (h.mono fun y q => wa_nil ⟨_, rfl, le_lit rfl, q⟩)))
theorem wd_lst3 (h : WD K m Γ ta fun x => WD K m Γ tb fun y => WD K m Γ tc fun z => Q (.list [x, y, z])) : WD K m Γ (tLst (tCons ta (tCons tb (tCons tc tNil)))) Q := wd_lst (wa_d (h.mono fun x h => wa_d (h.mono fun y h => wa_d (h.mono fun z q => wa_nil ⟨_, rfl, le_lit rfl, q⟩))))
theorem wd_lst4 (h : WD K m Γ ta fun x => WD K m Γ tb fun y => WD K m Γ tc fun z => WD K m Γ td fun u => Q (.list [x, y, z, u])) : WD K m Γ (tLst (tCons ta (tCons tb (tCons tc (tCons td tNil))))) Q := wd_lst (wa_d (h.mono fun x h => wa_d (h.mono fun y h => wa_d (h.mono fun z h => wa_d (h.mono fun u q => wa_nil ⟨_, rfl, le_lit rfl, q⟩)))))
theorem wd_lst5 (h : WD K m Γ ta fun x => WD K m Γ tb fun y => WD K m Γ tc fun z => WD K m Γ td fun u => WD K m Γ te fun w => Q (.list [x, y, z, u, w])) : WD K m Γ (tLst (tCons ta (tCons tb (tCons tc (tCons td (tCons te tNil)))))) Q := wd_lst (wa_d (h.mono fun x h => wa_d (h.mono fun y h => wa_d (h.mono fun z h => wa_d (h.mono fun u h => wa_d (h.mono fun w q => wa_nil ⟨_, rfl, le_lit rfl, q⟩))))))
theorem wd_lst6 (h : WD K m Γ ta fun x => WD K m Γ tb fun y => WD K m Γ tc fun z => WD K m Γ td fun u => WD K m Γ te fun w => WD K m Γ tf fun r => Q (.list [x, y, z, u, w, r])) : WD K m Γ (tLst (tCons ta (tCons tb (tCons tc (tCons td (tCons te (tCons tf tNil))))))) Q := wd_lst (wa_d (h.mono fun x h => wa_d (h.mono fun y h => wa_d (h.mono fun z h => wa_d (h.mono fun u h => wa_d (h.mono fun w h => wa_d (h.mono fun r q => wa_nil ⟨_, rfl, le_lit rfl, q⟩)))))))
theorem wx_lst0 (m : Bool) (q : ∀ l, QX (.ml m l [])) : WX K Γ (tLst tNil) QX := wx_lst m (wa_nil ⟨_, rfl, le_lit rfl, q⟩)
theorem wx_lst3 (m : Bool) (h : WD K m Γ ta fun x => WD K m Γ tb fun y => WD K m Γ tc fun z => ∀ l, QX (.ml m l [x, y, z])) : WX K Γ (tLst (tCons ta (tCons tb (tCons tc tNil)))) QX := wx_lst m (wa_d (h.mono fun x h => wa_d (h.mono fun y h => wa_d (h.mono fun z q => wa_nil ⟨_, rfl, le_lit rfl, q⟩))))
variable {T : List Sl → (Sl → Prop) → Prop} {EE : XK}
theorem wx_call0 (h : T [] QX) : WX K Γ (tCall (spG K T) [] EE tNil) QX := wx_call (wa_nil ⟨agsGood_d rfl, h⟩)
theorem wx_call1 (h : WD K false Γ ta fun x => T [.dat false x] QX) : WX K Γ (tCall (spG K T) [] EE (tCons ta tNil)) QX := wx_call (wa_d (h.mono fun x q => wa_nil ⟨agsGood_d rfl, q⟩))
theorem wx_call2 (h : WD K false Γ ta fun x => WD K false Γ tb fun y => T [.dat false x, .dat false y] QX) : WX K Γ (tCall (spG K T) [] EE (tCons ta (tCons tb tNil))) QX := wx_call (wa_d (h.mono fun x h => wa_d (h.mono fun y q => wa_nil ⟨agsGood_d rfl, q⟩)))
theorem wx_call3 (h : WD K false Γ ta fun x => WD K false Γ tb fun y => WD K false Γ tc fun z => T [.dat false x, .dat false y, .dat false z] QX) : WX K Γ (tCall (spG K T) [] EE (tCons ta (tCons tb (tCons tc tNil)))) QX := wx_call (wa_d (h.mono fun x h => wa_d (h.mono fun y h => wa_d (h.mono fun z q => wa_nil ⟨agsGood_d rfl, q⟩))))
theorem wx_call4 (h : WD K false Γ ta fun x => WD K false Γ tb fun y => WD K false Γ tc fun z => WD K false Γ td fun u => T [.dat false x, .dat false y, .dat false z, .dat false u] QX) : WX K Γ (tCall (spG K T) [] EE (tCons ta (tCons tb (tCons tc (tCons td tNil))))) QX := wx_call (wa_d (h.mono fun x h => wa_d (h.mono fun y h => wa_d (h.mono fun z h => wa_d (h.mono fun u q => wa_nil ⟨agsGood_d rfl, q⟩)))))
theorem ag_ex {i : Nat} {v : V} {Φ : Own} (hi : Γ[i]? = some (.ex v Φ)) : Ag.sl Γ (.o i) = .ex v Φ := by simp [Ag.sl, List.getD_eq_getElem?_getD, hi]
theorem wx_callO0 {i : Nat} {v : V} {Φ : Own} (hi : Γ[i]? = some (.ex v Φ)) (h : T [.ex v Φ] QX) : WX K Γ (tCall (spG K T) [] EE (tCons (tVar i) tNil)) QX := wx_call (wa_o hi (wa_nil ⟨agsGood_1 hi rfl, by rw [List.map_cons, ag_ex hi]; exact h⟩))
theorem wx_callO1 {i : Nat} {v : V} {Φ : Own} (hi : Γ[i]? = some (.ex v Φ)) (h : WD K false Γ ta fun x => T [.ex v Φ, .dat false x] QX) : WX K Γ (tCall (spG K T) [] EE (tCons (tVar i) (tCons ta tNil))) QX := wx_call (wa_o hi (wa_d (h.mono fun x q => wa_nil ⟨agsGood_1 hi rfl, by rw [List.map_cons, ag_ex hi]; exact q⟩)))
theorem wx_callO2 {i : Nat} {v : V} {Φ : Own} (hi : Γ[i]? = some (.ex v Φ)) (h : WD K false Γ ta fun x => WD K false Γ tb fun y => T [.ex v Φ, .dat false x, .dat false y] QX) : WX K Γ (tCall (spG K T) [] EE (tCons (tVar i) (tCons ta (tCons tb tNil)))) QX := wx_call (wa_o hi (wa_d (h.mono fun x h => wa_d (h.mono fun y q => wa_nil ⟨agsGood_1 hi rfl, by rw [List.map_cons, ag_ex hi]; exact q⟩))))
theorem wx_callO3 {i : Nat} {v : V} {Φ : Own} (hi : Γ[i]? = some (.ex v Φ)) (h : WD K false Γ ta fun x => WD K false Γ tb fun y => WD K false Γ tc fun z => T [.ex v Φ, .dat false x, .dat false y, .dat false z] QX) : WX K Γ (tCall (spG K T) [] EE (tCons (tVar i) (tCons ta (tCons tb (tCons tc tNil))))) QX := wx_call (wa_o hi (wa_d (h.mono fun x h => wa_d (h.mono fun y h => wa_d (h.mono fun z q => wa_nil ⟨agsGood_1 hi rfl, by rw [List.map_cons, ag_ex hi]; exact q⟩)))))
/-- what is wanted of a call's result, as data -/
def asD (m : Bool) (Q : PyData → Prop) : Sl → Prop := fun s => ∃ d, s.toD m = some d ∧ Q d
theorem asD_dat {d : PyData} (q : Q d) : asD m Q (.dat m d) := ⟨d, toD_dat, q⟩
theorem asD_new {d : PyData} (q : Q d) : asD m Q (.dat true d) := ⟨d, by cases m <;> simp [Sl.toD], q⟩
theorem asD_ml {l : Addr} {ds : List PyData} (q : Q (.list ds)) : asD m Q (.ml m l ds) := ⟨_, toD_ml, q⟩
theorem wd_call0 (h : T [] (asD m Q)) : WD K m Γ (tCall (spG K T) [] EE tNil) Q := .ofX (wx_call0 h)
theorem wd_call1 (h : WD K false Γ ta fun x => T [.dat false x] (asD m Q)) : WD K m Γ (tCall (spG K T) [] EE (tCons ta tNil)) Q := .ofX (wx_call1 h)
theorem wd_call2 (h : WD K false Γ ta fun x => WD K false Γ tb fun y => T [.dat false x, .dat false y] (asD m Q)) : WD K m Γ (tCall (spG K T) [] EE (tCons ta (tCons tb tNil))) Q := .ofX (wx_call2 h)
theorem wd_call3 (h : WD K false Γ ta fun x => WD K false Γ tb fun y => WD K false Γ tc fun z => T [.dat false x, .dat false y, .dat false z] (asD m Q)) : WD K m Γ (tCall (spG K T) [] EE (tCons ta (tCons tb (tCons tc tNil)))) Q := .ofX (wx_call3 h)
theorem wd_call4 (h : WD K false Γ ta fun x => WD K false Γ tb fun y => WD K false Γ tc fun z => WD K false Γ td fun u => T [.dat false x, .dat false y, .dat false z, .dat false u] (asD m Q)) : WD K m Γ (tCall (spG K T) [] EE (tCons ta (tCons tb (tCons tc (tCons td tNil))))) Q := .ofX (wx_call4 h)
theorem wd_callO0 {i : Nat} {v : V} {Φ : Own} (hi : Γ[i]? = some (.ex v Φ)) (h : T [.ex v Φ] (asD m Q)) : WD K m Γ (tCall (spG K T) [] EE (tCons (tVar i) tNil)) Q := .ofX (wx_callO0 hi h)
theorem wd_callO1 {i : Nat} {v : V} {Φ : Own} (hi : Γ[i]? = some (.ex v Φ)) (h : WD K false Γ ta fun x => T [.ex v Φ, .dat false x] (asD m Q)) : WD K m Γ (tCall (spG K T) [] EE (tCons (tVar i) (tCons ta tNil))) Q := .ofX (wx_callO1 hi h)
theorem wd_callO2 {i : Nat} {v : V} {Φ : Own} (hi : Γ[i]? = some (.ex v Φ)) (h : WD K false Γ ta fun x => WD K false Γ tb fun y => T [.ex v Φ, .dat false x, .dat false y] (asD m Q)) : WD K m Γ (tCall (spG K T) [] EE (tCons (tVar i) (tCons ta (tCons tb tNil)))) Q := .ofX (wx_callO2 hi h)
theorem wd_callO3 {i : Nat} {v : V} {Φ : Own} (hi : Γ[i]? = some (.ex v Φ)) (h : WD K false Γ ta fun x => WD K false Γ tb fun y => WD K false Γ tc fun z => T [.ex v Φ, .dat false x, .dat false y, .dat false z] (asD m Q)) : WD K m Γ (tCall (spG K T) [] EE (tCons (tVar i) (tCons ta (tCons tb (tCons tc tNil))))) Q := .ofX (wx_callO3 hi h)
end
theorem iteD {p A B : Prop} [Decidable p] (h1 : p → A) (h2 : ¬ p → B) : if decide p = true then A else B := by
  by_cases h : p
  · rw [decide_eq_true h, if_pos rfl]; exact h1 h
  · rw [decide_eq_false h, if_neg Bool.false_ne_true]; exact h2 h
theorem iteB {b : Bool} {A B : Prop} (h1 : b = true → A) (h2 : b = false → B) : if b = true then A else B := by
  cases b with
  | true => rw [if_pos rfl]; exact h1 rfl
  | false => rw [if_neg Bool.false_ne_true]; exact h2 rfl
theorem iteT' {A B : Prop} {b : Bool} (hb : b = true) (h : A) : if b = true then A else B := by rw [if_pos hb]; exact h
theorem iteF' {A B : Prop} {b : Bool} (hb : b = false) (h : B) : if b = true then A else B := by rw [hb, if_neg Bool.false_ne_true]; exact h
section
variable {K : Kw} {Γ : List Sl} {P : Po} {ts : TS}
/-- a slot is told otherwise -/
theorem sj_retell {i : Nat} {s s' : Sl} (hi : Γ[i]? = some s) (h : ∀ (X : Bs) (F H : Hp) (ov : Option V) (S : Addr → Prop), X.K = K → SlOk X F H ov S s → SlOk X F H ov S s') (k : SJ K (Γ.set i s') ts P) : SJ K Γ ts P := fun X hK F H σ E D hD =>
  k X hK F H σ (E.retell Le.rfl' E.le (fun _ _ _ _ => rfl) hi fun S hS q => ⟨S, h X F H _ S hK q, fun a sa => ⟨sa, (hS a sa).1⟩, fun _ z => absurd rfl z⟩) D hD
end
def ScriptO (K : Kw) (ns : List Int) : Own where
  K := K
  p := fun _ H v S => ∃ a : Addr, v = .ref a ∧ SqL K H a (ns.map V.int) ∧ ((∀ b, S b ↔ b = a) ∨ (∀ H', SqL K H' a (ns.map V.int)) ∧ ∀ b, ¬ S b)
  vw := none
  keep := fun {F F' H H' v S} ⟨a, e, h, c⟩ _ k => by
    refine ⟨a, e, ?_, c⟩
    rcases c with c | ⟨c, _⟩
    · have z := k a ((c a).mpr rfl)
      rcases h with (h | ⟨o, h⟩) | h
      · exact .inl (.inl (z.trans h))
      · exact .inl (.inr ⟨o, z.trans h⟩)
      · exact .inr h
    · exact c H'
  keepT := fun _ {F F' H H' v S} ⟨a, e, h, c⟩ _ k => by
    refine ⟨a, e, ?_, c⟩
    rcases c with c | ⟨c, _⟩
    · have z := k a ((c a).mpr rfl)
      rcases h with (h | ⟨o, h⟩) | h
      · exact .inl (.inl (z.trans h))
      · exact .inl (.inr ⟨o, z.trans h⟩)
      · exact .inr h
    · exact c H'
  view := fun _ _ e => nomatch e
section
variable {K : Kw} {m : Bool} {Γ : List Sl} {Q : PyData → Prop} {ta : TE}
theorem En.script {X : Bs} {F H : Hp} {σ : L2.St} (E : En X F H σ Γ) {i : Nat} {v : V} {ns : List Int} (hi : Γ[i]? = some (.ex v (ScriptO K ns))) : ∃ a, v = .ref a ∧ SqL K H a (ns.map V.int) := by
  obtain ⟨S, hs, _, _⟩ := E.sl
  obtain ⟨_, _, a, e, h, _⟩ := hs i _ hi
  exact ⟨a, e, h⟩
theorem wd_lenScript {i : Nat} {v : V} {ns : List Int} (hi : Γ[i]? = some (.ex v (ScriptO K ns))) (q : Q (.int ns.length)) : WD K m Γ (tCB (dLen K) (tCons (tVar i) tNil)) Q := fun X hK F H σ E C k => by
  obtain ⟨a, e, h⟩ := E.script hi
  subst e
  refine ⟨_, E.ex hi, _, ns.length, rfl, .inl ⟨_, h, by simp⟩, k _ F H _ Le.rfl' E (.int _) q⟩
theorem wd_ixScript {i : Nat} {v : V} {ns : List Int} (hi : Γ[i]? = some (.ex v (ScriptO K ns))) (h : WD K false Γ ta fun d => ∃ (n : Int) (c : Int), d = .int n ∧ atI ns n = some c ∧ Q (.int c)) : WD K m Γ (tOp (rIx K) (tVar i) ta) Q := fun X hK F H σ E C k => by
  refine ⟨v, E.ex hi, h X hK F H σ E _ fun u F1 H1 x l1 E1 r1 ⟨n, c, en, hc, q⟩ => ?_⟩
  subst en
  cases r1
  obtain ⟨a, e, hq⟩ := E1.script hi
  subst e
  refine .inl ⟨a, _, n, .int c, rfl, rfl, hq, ?_, k _ F1 H1 _ l1 E1 (.int _) q⟩
  unfold atI at hc ⊢
  rw [List.length_map]
  cases hx : ixN ns.length n with
  | none => rw [hx] at hc; cases hc
  | some j =>
    rw [hx] at hc
    simp only [Option.bind_some] at hc ⊢
    rw [List.getElem?_map, hc]
    rfl
end
end Pk
end
section
set_option Elab.async false
set_option linter.all false
set_option maxRecDepth 100000
namespace Pk
open PySem PySem.Spec PyProof.Rows L2
section
variable {K : Kw} {m mi : Bool} {Γ : List Sl} {Q : PyData → Prop} {QX : Sl → Prop} {ta tb te : TE} {wi : TI} {g : TG} {tt : TT} {vs : List Nat}
theorem WI.mono {QI QI' : List PyData → Prop} (h : WI K m Γ wi QI) (k : ∀ ds, QI ds → QI' ds) : WI K m Γ wi QI' := fun X hK F H σ E C c => h X hK F H σ E C fun J F' H' G Y ds l E' w a b q => c J F' H' G Y ds l E' w a b (k ds q)
theorem GJ.mono {N N' : List Sl → Prop} {d : PyData} (h : GJ K m Γ g d N) (k : ∀ Γ, N Γ → N' Γ) : GJ K m Γ g d N' := fun X hK F H σ E v r C c => h X hK F H σ E v r C fun F' H' σ' Γ' l E' q => c F' H' σ' Γ' l E' (k Γ' q)
/-- each item gives what R tells -/
theorem wx_lcF (m : Bool) (R : Nat → PyData → PyData → Prop) (hv : wipeOk Γ vs) (hgw : Gw g vs)
    (h : WI K mi Γ wi fun ds => ds.length ≤ 100000 ∧ (∀ (i : Nat) (d : PyData), ds[i]? = some d → GJ K mi (wipeG Γ vs) g d fun Γ2 => wipeG Γ2 vs = wipeG Γ vs ∧ WD K m Γ2 te (R i d)) ∧
      ∀ acc, acc.length = ds.length → (∀ (i : Nat) (d y : PyData), ds[i]? = some d → acc[i]? = some y → R i d y) → ∀ l, QX (.ml m l acc)) : WX K Γ (tLc wi g tYes te vs) QX :=
  wx_lc m hv hgw (h.mono fun ds ⟨hz, hs, he⟩ => ⟨fun n acc => acc.length = n ∧ ∀ (i : Nat) (d y : PyData), ds[i]? = some d → acc[i]? = some y → R i d y, hz, ⟨rfl, fun i d y _ e => by simp at e⟩,
    fun i d acc hd _ ⟨hl, ha⟩ => (hs i d hd).mono fun Γ2 ⟨e, w⟩ => ⟨e, wt_yes (by
      rw [if_pos rfl]
      refine w.mono fun y hy => ⟨by simp [hl], fun j d' y' h1 h2 => ?_⟩
      by_cases hj : j < acc.length
      · rw [List.getElem?_append_left hj] at h2
        exact ha j d' y' h1 h2
      · have hj2 : j < (acc ++ [y]).length := (List.getElem?_eq_some_iff.mp h2).1
        simp at hj2
        have hji : j = i := by omega
        subst hji
        rw [← hl] at h2
        simp at h2
        subst h2
        rw [hd] at h1
        cases h1
        exact hy)⟩,
    fun acc _ ⟨hl, ha⟩ l => he acc hl ha l⟩)
/-- .. of typed items -/
theorem wx_lcPa {α : Type} (m : Bool) (enc : α → PyData) (p : α → Bool) (f : α → PyData) (hv : wipeOk Γ vs) (hgw : Gw g vs)
    (h : WI K mi Γ wi fun ds => ∃ xs : List α, ds = xs.map enc ∧ xs.length ≤ 100000 ∧ (∀ (i : Nat) (x : α), xs[i]? = some x → GJ K mi (wipeG Γ vs) g (enc x) fun Γ2 => wipeG Γ2 vs = wipeG Γ vs ∧ WT K Γ2 tt fun b => b = p x ∧ (b = true → WD K m Γ2 te fun y => y = f x)) ∧ ∀ l, QX (.ml m l ((xs.filter p).map f))) : WX K Γ (tLc wi g tt te vs) QX :=
  wx_lc m hv hgw (h.mono fun ds ⟨xs, ed, hz, hs, he⟩ => by
    subst ed
    refine ⟨fun n acc => acc = ((xs.take n).filter p).map f, by simpa using hz, by simp, fun i d acc hd _ ha => ?_, fun acc _ ha l => ?_⟩
    · rw [List.getElem?_map] at hd
      cases hx : xs[i]? with
      | none => rw [hx] at hd; cases hd
      | some x =>
        rw [hx] at hd
        cases hd
        have ha : acc = ((xs.take i).filter p).map f := ha
        refine (hs i x hx).mono fun Γ2 ⟨e, w⟩ => ⟨e, w.mono fun b ⟨hb, hw⟩ => ?_⟩
        have ht : xs.take (i + 1) = xs.take i ++ [x] := by rw [List.take_add_one, hx]; rfl
        cases hp : b with
        | true =>
          rw [if_pos rfl]
          refine (hw hp).mono fun y hy => ?_
          show acc ++ [y] = ((xs.take (i + 1)).filter p).map f
          rw [ht, List.filter_append, List.map_append, ha, hy]
          rw [hb] at hp
          simp [hp]
        | false =>
          rw [if_neg Bool.false_ne_true]
          show acc = ((xs.take (i + 1)).filter p).map f
          rw [ht, List.filter_append, List.map_append, ha]
          rw [hb] at hp
          simp [hp]
    · have ha : acc = ((xs.take (xs.map enc).length).filter p).map f := ha
      rw [ha, List.length_map, List.take_length]
      exact he l)
theorem wx_lcMa {α : Type} (m : Bool) (enc : α → PyData) (f : α → PyData) (hv : wipeOk Γ vs) (hgw : Gw g vs)
    (h : WI K mi Γ wi fun ds => ∃ xs : List α, ds = xs.map enc ∧ xs.length ≤ 100000 ∧ (∀ (i : Nat) (x : α), xs[i]? = some x → GJ K mi (wipeG Γ vs) g (enc x) fun Γ2 => wipeG Γ2 vs = wipeG Γ vs ∧ WD K m Γ2 te fun y => y = f x) ∧ ∀ l, QX (.ml m l (xs.map f))) : WX K Γ (tLc wi g tYes te vs) QX :=
  wx_lcPa m enc (fun _ => true) f hv hgw (h.mono fun ds ⟨xs, ed, hz, hs, he⟩ => ⟨xs, ed, hz, fun i x hx => (hs i x hx).mono fun Γ2 ⟨e, w⟩ => ⟨e, wt_yes ⟨rfl, fun _ => w⟩⟩, fun l => by
    have : xs.filter (fun _ => true) = xs := by simp
    rw [this]
    exact he l⟩)
theorem wd_lcPa {α : Type} (enc : α → PyData) (p : α → Bool) (f : α → PyData) (hv : wipeOk Γ vs) (hgw : Gw g vs)
    (h : WI K mi Γ wi fun ds => ∃ xs : List α, ds = xs.map enc ∧ xs.length ≤ 100000 ∧ (∀ (i : Nat) (x : α), xs[i]? = some x → GJ K mi (wipeG Γ vs) g (enc x) fun Γ2 => wipeG Γ2 vs = wipeG Γ vs ∧ WT K Γ2 tt fun b => b = p x ∧ (b = true → WD K m Γ2 te fun y => y = f x)) ∧ Q (.list ((xs.filter p).map f))) : WD K m Γ (tLc wi g tt te vs) Q :=
  .ofX (wx_lcPa m enc p f hv hgw (h.mono fun ds ⟨xs, ed, hz, hs, q⟩ => ⟨xs, ed, hz, hs, fun l => ⟨_, toD_ml, q⟩⟩))
theorem wd_lcMa {α : Type} (enc : α → PyData) (f : α → PyData) (hv : wipeOk Γ vs) (hgw : Gw g vs)
    (h : WI K mi Γ wi fun ds => ∃ xs : List α, ds = xs.map enc ∧ xs.length ≤ 100000 ∧ (∀ (i : Nat) (x : α), xs[i]? = some x → GJ K mi (wipeG Γ vs) g (enc x) fun Γ2 => wipeG Γ2 vs = wipeG Γ vs ∧ WD K m Γ2 te fun y => y = f x) ∧ Q (.list (xs.map f))) : WD K m Γ (tLc wi g tYes te vs) Q :=
  .ofX (wx_lcMa m enc f hv hgw (h.mono fun ds ⟨xs, ed, hz, hs, q⟩ => ⟨xs, ed, hz, hs, fun l => ⟨_, toD_ml, q⟩⟩))
theorem wd_lcF (R : Nat → PyData → PyData → Prop) (hv : wipeOk Γ vs) (hgw : Gw g vs)
    (h : WI K mi Γ wi fun ds => ds.length ≤ 100000 ∧ (∀ (i : Nat) (d : PyData), ds[i]? = some d → GJ K mi (wipeG Γ vs) g d fun Γ2 => wipeG Γ2 vs = wipeG Γ vs ∧ WD K m Γ2 te (R i d)) ∧
      ∀ acc, acc.length = ds.length → (∀ (i : Nat) (d y : PyData), ds[i]? = some d → acc[i]? = some y → R i d y) → Q (.list acc)) : WD K m Γ (tLc wi g tYes te vs) Q :=
  .ofX (wx_lcF m R hv hgw (h.mono fun ds ⟨hz, hs, q⟩ => ⟨hz, hs, fun acc a b l => ⟨_, toD_ml, q acc a b⟩⟩))
/-- an item of a list at a drawn place -/
theorem rd_sel {ds : List PyData} {n : Int} (h0 : 0 ≤ n) (h1 : n < ds.length) (q : ∀ d ∈ ds, Q d) : RD K m Γ (rIx K) (.list ds) (.int n) Q := by
  have hl : n.toNat < ds.length := by omega
  exact rd_ixL (d := ds[n.toNat]) (atI_of (n := n.toNat) (by omega) (by simp [hl])) (q _ (List.getElem_mem hl))
theorem rd_selN {ds : List PyData} {n : Int} (j : Nat) (e : n = j) {d : PyData} (h : ds[j]? = some d) (q : Q d) : RD K m Γ (rIx K) (.list ds) (.int n) Q := rd_ixL (atI_of e h) q
theorem gwn {i : Nat} : Gw (gName i) [i] := gw_name (by simp)
/-- over range, the slot's own name -/
theorem wi_rng {mi : Bool} {ta : TE} {QI : List PyData → Prop} (h : WD K false Γ ta fun d => ∃ j : Int, d = .int j ∧ (-(2 ^ 62) ≤ j ∧ j < 2 ^ 62) ∧ QI (rangeD 0 j.toNat)) : WI K mi Γ (iRng1 (tCons ta tNil)) QI := wi_rng1 (wa_d (h.mono fun d ⟨j, e, hj, q⟩ => wa_nil ⟨j, by rw [e], hj, q⟩))
end
end Pk
end
section
set_option Elab.async false
set_option linter.all false
set_option maxRecDepth 100000
namespace Pk
open PySem PySem.Spec PyProof.Rows L2
theorem lay_at {F H : Hp} {S : Addr → Prop} {a : Addr} (h : S a) : lay S H F a = H a := by unfold lay; rw [if_pos h]
/-- the slots of others' things alone -/
def Sl.exo : Sl → Sl
  | .ex v Φ => match Φ.vw with
    | none => .ex v Φ
    | some _ => .no
  | _ => .no
section
variable {K : Kw} {Γ : List Sl} {P : Po}
open Classical in
end
end Pk
end
section
set_option Elab.async false
set_option linter.all false
set_option maxRecDepth 100000
namespace Pk
open PySem PySem.Spec PyProof.Rows L2
section
variable {K : Kw} {Γ : List Sl} {P : Po}
end
end Pk
end
section
set_option Elab.async false
set_option linter.all false
set_option maxRecDepth 100000
namespace Pk
open PySem PySem.Spec PyProof.Rows L2
section
variable {P : Program} {K : Kw} {mg : Str → Option Value} {base : Heap}
theorem fnOk_g {x : Str} {st : Stmt} {N ps : List Str} {k : Nat} {f : Addr} {fd : FuncData} {T : List Sl → (Sl → Prop) → Prop} (F : Fun K x x st f fd) (S : FnScope N ps (defScope st)) (hT : ∀ Γ Qr, T Γ Qr → Γ.length = ps.length ∧ NoMl Γ)
    (hb : ∀ (f : Addr) (cdv : Value) (A : Around) (outer : List Env) (s : Shared) (H : Hp) (E : XK), Room k (A.deeper (envOfC x (defScope st) s.heap.objs.size f cdv)) →
      ∃ t, PSs (cxOf CX0 P K.w K mg base N x (defScope st) f cdv A outer s H E).nox (defBody st) t ∧ ∀ Γ Qr, T Γ Qr → SJ K (Γ ++ List.replicate (N.length - Γ.length) .no) t (retP Γ Qr)) : FnOk P K.w K mg base CX0 (k + 1) f fd ps (spG K T) := by
  refine F.ok S (len_g fun Γ Qr h => (hT Γ Qr h).1) fun cdv A outer s H vs Q E hr h => ?_
  obtain ⟨t, ht, hj⟩ := hb f cdv A outer s H E hr
  exact ⟨t, ht, body_g h (fun Γ Qr z => (hT Γ Qr z).2) fun Γ Qr z => (hj Γ Qr z).t⟩
/-- a law's promise over data: of a script, the truth -/
def T_law (K : Kw) : List Sl → (Sl → Prop) → Prop := fun Γ Q => ∃ v ns, Γ = [.ex v (ScriptO K ns)] ∧ ns.length ≤ 63 ∧ Q (.dat true (.bool true))
theorem law_start {H : Hp} {a : Addr} {ns : List Int} {Q : VK} {E : XK} (hn : ns.length ≤ 63) (hS : SqL K H a (ns.map V.int)) (q : ∀ H', Q (.bl true) H') : spG K (T_law K) [.ref a] H Q E := by
  refine ⟨⟨K, fun _ => none, H, fun b => b = a, fun b => H b ≠ none⟩, fun _ => none, [.ex (.ref a) (ScriptO K ns)], fun s => s = .dat true (.bool true), rfl, rfl, rfl, fun _ => Iff.rfl, ?_, ⟨_, ns, rfl, hn, rfl⟩, ?_⟩
  · have hf : ∀ (b : Addr) (o : HO), H b = some o → ¬ b = a → H b = some o ∧ (none : Option HO) = none := fun b o e _ => ⟨e, rfl⟩
    rcases hS with hS | hS
    · refine ⟨fun _ _ z => (by cases z), rfl, ⟨fun i b => i = 0 ∧ b = a, fun i s e => ?_, fun i j b z1 z2 => z1.1.trans z2.1.symm, fun i b z => ⟨rfl, ?_, .inr z.2⟩⟩, hf, fun _ _ z => z, fun _ z => z⟩
      · cases i with
        | zero =>
          cases e
          exact ⟨rfl, rfl, a, rfl, .inl hS, .inl fun b => ⟨fun z => z.2, fun z => ⟨rfl, z⟩⟩⟩
        | succ i => simp at e
      · rw [z.2]
        rcases hS with h | ⟨o, h⟩ <;> rw [h] <;> simp
    · refine ⟨fun _ _ z => (by cases z), rfl, ⟨fun i b => False, fun i s e => ?_, fun i j b z1 z2 => z1.elim, fun i b z => z.elim⟩, hf, fun _ _ z => z, fun _ z => z⟩
      cases i with
      | zero =>
        cases e
        exact ⟨rfl, rfl, a, rfl, .inr hS, .inr ⟨fun H' => .inr hS, fun b z => z⟩⟩
      | succ i => simp at e
  · rintro F' H' v s _ E' rfl
    obtain ⟨S, hs, _, _⟩ := E'.sl
    obtain ⟨⟨u, e, r⟩, _⟩ := hs 1 _ rfl
    cases e
    cases r
    exact q H'
end
end Pk
end
section
set_option Elab.async false
set_option linter.all false
set_option maxRecDepth 100000
namespace Pk
open PySem PySem.Spec PyProof.Rows L2
abbrev XW := Value → Option Addr → L2.St → Hp → Prop
abbrev XQ := Value → Option Fs → Prop
/-- a promise over data of a def that may raise -/
def spX (K : Kw) (T : List Sl → (Sl → Prop) → XQ → Prop) : Sp := fun vs H Q E => ∃ (X : Bs) (F : Hp) (Γ : List Sl) (Qr : Sl → Prop) (Qe : XQ), X.K = K ∧ X.F0 = F ∧ X.H0 = H ∧ (∀ a, X.N a ↔ H a ≠ none) ∧ En X F H (vs.map some) Γ ∧ T Γ Qr Qe ∧
  (∀ F' H' v s, Le F F' → En X F' H' (vs.map some ++ [some v]) (Γ ++ [s]) → Qr s → Q v H') ∧ ∀ F' H' c o d, Le F F' → En X F' H' (vs.map some) Γ → FsAt F' o d → Qe c o → E c d H'
section
variable {P : Program} {K : Kw} {mg : Str → Option Value} {base : Heap}
/-- asked where it does not raise -/
theorem Cal.noX {x : Str} {ps : List Str} {k : Nat} {T : List Sl → (Sl → Prop) → XQ → Prop} (c : Cal P K.w K mg base (L2.CX P K.w) k x ps (spX K T)) : Cal P K.w K mg base CX0 k x ps (spG K fun Γ Q => T Γ Q fun _ _ => False) := by
  obtain ⟨f, fd, a, b, d, F⟩ := c.ex
  have hx : ∀ {vs H Q E E'}, spG K (fun Γ Q => T Γ Q fun _ _ => False) vs H Q E → spX K T vs H Q E' := fun {vs H Q E E'} ⟨X, F, Γ, Qr, h1, h2, h3, h4, h5, h6, h7⟩ => ⟨X, F, Γ, Qr, _, h1, h2, h3, h4, h5, h6, h7, fun _ _ _ _ _ _ _ _ z => z.elim⟩
  refine ⟨f, fd, a, b, d, ⟨fun vs H Q E h => F.len vs H Q E (hx h), fun A outer s H args us vs Q E hr he hb hv hs => ?_⟩⟩
  refine codeAny_mono (F.run A outer s H args us vs Q (fun _ _ _ => False) hr he hb hv (hx hs)) fun r s' h => ?_
  cases r with
  | ok fl =>
    cases fl with
    | ret u => exact h
    | _ => exact h.elim
  | error e =>
    obtain ⟨_, _, _, _, _, _, _, _, _, _, _, _, z⟩ := h
    exact z.elim
end
/-- an expression, under what an exception is let out to -/
def WXw (K : Kw) (W : XW) (ex : Value → Option Fs → List Sl → Prop) (Γ : List Sl) (t : TE) (Q : Sl → Prop) : Prop := ∀ X : Bs, X.K = K → (∀ F H σ Γ c o d, En X F H σ Γ → FsAt F o d → ex c o Γ → W c d σ H) → ∀ F H σ, En X F H σ Γ → ∀ C : VK,
  (∀ v F' H' s, Le F F' → En X F' H' (σ ++ [some v]) (Γ ++ [s]) → Q s → C v H') → t σ H C
section
variable {K : Kw} {W : XW} {ex : Value → Option Fs → List Sl → Prop} {Γ : List Sl} {Q : Sl → Prop} {T : List Sl → (Sl → Prop) → XQ → Prop} {tr : TA} {te ta tb : TE} {P : Po}
end
end Pk
end
section
set_option Elab.async false
set_option linter.all false
set_option maxRecDepth 100000
namespace Pk
open PySem PySem.Spec PyProof.Rows L2
section
variable {X : Cx} {pins : List (Addr × Obj)} {σ : L2.St} {H : Hp} {s : Shared}
end
section
variable {X : Cx} {x n : Str} {c : Value} {i : Nat} {body suite : List Stmt} {b₀ : Stmt} {np pos pos' : Pos} {tb : XW → TS} {ts : Addr → TS} {Wout : XW}
end
end Pk
end
section
set_option Elab.async false
set_option linter.all false
set_option maxRecDepth 100000
namespace Pk
open PySem PySem.Spec PyProof.Rows L2
section
variable {K : Kw} {m : Bool} {Γ : List Sl} {Q : PyData → Prop} {QT : Bool → Prop} {te : TE}
end
section
variable {K : Kw} {m : Bool} {Γ : List Sl} {P : Po} {Q : PyData → Prop}
end
section
variable {K : Kw} {m : Bool} {Γ : List Sl} {Q : PyData → Prop}
end
structure ExcT (K : PySem.W.Frag) (mg : Str → Option Value) (x : Str) (C : Addr) : Prop where
  g : mg x = some (.ref C)
  q : PySem.W.excIn K C He.veBase "ValueError.__new__" = true
  k : PySem.W.keepIn K (.ref C) = true
  s : PySem.W.subIn K (.ref C) (.type "BaseException") = some true
  t : PySem.W.typeIn K (.ref C) = some (.type "type")
  c : ExcC K C
end Pk
namespace Pk
open PySem PySem.Spec PyProof.Rows L2
section
variable {X : Cx} {k : Nat} {x : Str} {ps : List Str} {sp : Sp} {W : XW} {p pos : Pos} {e : Expr} {es : List Expr} {t : TA}
end
end Pk
end
section
set_option Elab.async false
set_option linter.all false
set_option maxRecDepth 100000
namespace Pk
open PySem PySem.Spec PyProof.Rows L2
section
variable {X : Bs} {F H : Hp} {σ : L2.St} {Γ : List Sl}
end
section
variable {K : Kw} {m : Bool} {Γ : List Sl} {P : Po} {Q : PyData → Prop} {te : TE}
theorem wd_lenM {i : Nat} {m' : Bool} {l : Addr} {ds : List PyData} (hi : Γ[i]? = some (.ml m' l ds)) (q : Q (.int ds.length)) : WD K m Γ (tCB (dLen K) (tCons (tVar i) tNil)) Q := fun X hK F H σ E C k => by
  subst hK
  obtain ⟨xs, e, hl, fl, rx⟩ := E.ml hi
  exact ⟨_, e, _, ds.length, rfl, .inl ⟨_, SqL.of hl, rx.length.symm⟩, k _ F H _ Le.rfl' E (.int _) q⟩
end
end Pk
end
section
set_option Elab.async false
set_option linter.all false
set_option maxRecDepth 100000
namespace Pk
open PySem PySem.Spec PyProof.Rows L2
def rMulS : R2 := fun x y H Q => ∃ (a : Str) (n : Int), x = .str a ∧ y = .int n ∧ MulOk a n ∧ Q (.str (Txt.mul a n)) H
theorem op_mulS {X : Cx} : OpR X (binaryOp .Mult) rMulS := by
  intro pins s σ H x y v u Q I rx ry h
  obtain ⟨a, n, rfl, rfl, hm, q⟩ := h
  obtain ⟨t, rfl⟩ := rx
  obtain ⟨t', rfl⟩ := ry
  exact PySem.SB.mul hm fun _ k => ⟨.str _, H, I.tok k, ⟨_, rfl⟩, q⟩
section
variable {K : Kw} {m : Bool} {Γ : List Sl} {Q : PyData → Prop} {ta tb : TE}
theorem rd_mulS {a : Str} {n : Int} (hm : MulOk a n) (q : Q (.str (Txt.mul a n))) : RD K m Γ rMulS (.str a) (.int n) Q := rd_plain (d := .str (Txt.mul a n)) (fun F H v u C le rv ru k => by
  cases rv; cases ru
  exact ⟨a, n, rfl, rfl, hm, k _ (.str _)⟩) q
end
end Pk
end
section
set_option Elab.async false
set_option linter.all false
set_option maxRecDepth 100000
set_option maxHeartbeats 1000000
namespace Pz
open PySem PySem.Spec PyProof.Rows L2
/-- an iterator over the things at l, at turn k -/
structure Nx (prog : Program) (w : World) (it l : Addr) (its : Array Value) (St : Nat → Heap → Prop) : Prop where
  item : ∀ {A : Around} {E : Value → Shared → Prop} {s : Shared} {k : Nat} {x : Value} {Q : Value → Shared → Prop}, St k s.heap → its[k]? = some x → (∀ g, St (k + 1) g → Heap.SameBut it s.heap g → Q x { s with heap := g }) → wpAny (model prog w) A (Builtin.SmallTypes.nextOf (.ref it)) Q E s
  stop : ∀ {A : Around} {E : Value → Shared → Prop} {s : Shared} {k : Nat} {Q : Value → Shared → Prop}, A.handled = none → St k s.heap → its[k]? = none → (∀ g e, Heap.ExtBut it s.heap g → (∃ o, g.get? e = some o ∧ o.cls = .type "StopIteration") → E (.ref e) { s with heap := g }) → wpAny (model prog w) A (Builtin.SmallTypes.nextOf (.ref it)) Q E s
  fr : ∀ {k : Nat} {h g : Heap}, St k h → (∀ c o, c = it ∨ c = l → h.get? c = some o → g.get? c = some o) → St k g
  obj : ∀ {k : Nat} {h : Heap}, St k h → ∃ o, h.get? it = some o ∧ ∀ v, o.data ≠ .cell v
  seq : ∀ {k : Nat} {h : Heap}, St k h → ∃ o, h.get? l = some o
section
variable {prog : Program} {w : World} {A : Around} {E : Value → Shared → Prop} {s : Shared}
theorem Nx.sb {it l a : Addr} {its : Array Value} {St : Nat → Heap → Prop} (n : Nx prog w it l its St) {k : Nat} {h g : Heap} (q : St k h) (e : Heap.SameBut a h g) (hi : it ≠ a) (hl : l ≠ a) : St k g :=
  n.fr q fun c o hc z => e.extBut c o (by rcases hc with r | r <;> rw [r] <;> assumption) z
variable {z TI TO i1 i2 l1 l2 : Addr} {m n : Nat} {xs ys : Array Value} {x y : Value} {S1 S2 : Nat → Heap → Prop}
end
end Pz
end
section
set_option Elab.async false
set_option linter.all false
set_option maxRecDepth 100000
namespace Pk
open PySem PySem.Spec PyProof.Rows L2
section
variable {X : Bs} {F H : Hp} {σ : L2.St} {Γ : List Sl}
/-- slot i and the last one become slot i -/
theorem En.merge {ov : Option V} {s1 s2 : Sl} {i : Nat} (E : En X F H (σ ++ [ov]) (Γ ++ [s2])) (hi : Γ[i]? = some s1) :
    ∃ S1 S2 : Addr → Prop, SlOk X F H (σ.getD i none) S1 s1 ∧ SlOk X F H ov S2 s2 ∧ (∀ a, S1 a → ¬ S2 a) ∧ (∀ a, S1 a ∨ S2 a → F a = none ∧ H a ≠ none) ∧
      ∀ (H' : Hp) (s' : Sl) (S' : Addr → Prop), (∀ a o, H a = some o → ¬ S1 a → ¬ S2 a → H' a = some o) → (∀ a, S1 a ∨ S2 a → H' a ≠ none) → (∀ a, S' a → S1 a ∨ S2 a) → SlOk X F H' (σ.getD i none) S' s' → En X F H' σ (Γ.set i s') := by
  have hl : σ.length = Γ.length := by
    have := E.len
    simp at this
    exact this
  have hil : i < Γ.length := (List.getElem?_eq_some_iff.mp hi).1
  obtain ⟨S, hs, hdj, ho⟩ := id E.sl
  have q1 := hs i s1 (by rw [List.getElem?_append_left hil]; exact hi)
  rw [getD_app (by rw [hl]; exact hil)] at q1
  have q2 := hs Γ.length s2 (by simp)
  rw [← hl, getD_last] at q2
  have ow : ∀ a, S i a ∨ S σ.length a → F a = none ∧ H a ≠ none ∧ X.own a := fun a h => by
    rcases h with h | h
    · exact ho _ a h
    · exact ho _ a h
  refine ⟨S i, S σ.length, q1, q2, fun a h1 h2 => ?_, fun a h => ⟨(ow a h).1, (ow a h).2.1⟩, fun H' s' S' hk hn hS q => ?_⟩
  · have := hdj _ _ a h1 h2
    omega
  · have keep : ∀ (j : Nat) (a : Addr), j < Γ.length → j ≠ i → S j a → H' a = H a := fun j a hj ji sa => by
      cases z : H a with
      | none => exact absurd z (ho j a sa).2.1
      | some o => exact hk a o z (fun w => ji (hdj j i a sa w)) (fun w => by have := hdj j _ a sa w; omega)
    have some_ : ∀ a, H a ≠ none → H' a ≠ none := fun a h => by
      by_cases w1 : S i a
      · exact hn a (.inl w1)
      · by_cases w2 : S σ.length a
        · exact hn a (.inr w2)
        · cases z : H a with
          | none => exact absurd z h
          | some o => rw [hk a o z w1 w2]; simp
    refine ⟨fun a o z => ?_, by simp [hl], ⟨fun j a => (j = i ∧ S' a) ∨ (j ≠ i ∧ j < Γ.length ∧ S j a), fun j u e => ?_, fun j k a h1 h2 => ?_, fun j a h1 => ?_⟩, fun a o e n => ?_, E.f0, fun a n => some_ a (E.nn a n)⟩
    · have hz := E.le a o z
      refine hk a o hz (fun w => ?_) (fun w => ?_)
      · rw [(ho _ a w).1] at z; cases z
      · rw [(ho _ a w).1] at z; cases z
    · by_cases hj : j = i
      · subst hj
        rw [List.getElem?_set_self hil] at e
        cases e
        have eS : (fun a => (j = j ∧ S' a) ∨ (j ≠ j ∧ j < Γ.length ∧ S j a)) = S' := by
          funext a
          exact propext ⟨fun z => by rcases z with z | z; exact z.2; exact absurd rfl z.1, fun z => .inl ⟨rfl, z⟩⟩
        show SlOk X F H' _ (fun a => (j = j ∧ S' a) ∨ (j ≠ j ∧ j < Γ.length ∧ S j a)) _
        rw [eS]
        exact q
      · rw [List.getElem?_set_ne (Ne.symm hj)] at e
        have hjl : j < Γ.length := (List.getElem?_eq_some_iff.mp e).1
        have eS : (fun a => (j = i ∧ S' a) ∨ (j ≠ i ∧ j < Γ.length ∧ S j a)) = S j := by
          funext a
          exact propext ⟨fun z => by rcases z with z | z; exact absurd z.1 hj; exact z.2.2, fun z => .inr ⟨hj, hjl, z⟩⟩
        show SlOk X F H' _ (fun a => (j = i ∧ S' a) ∨ (j ≠ i ∧ j < Γ.length ∧ S j a)) _
        rw [eS]
        have z := hs j u (by rw [List.getElem?_append_left hjl]; exact e)
        rw [getD_app (by rw [hl]; exact hjl)] at z
        exact z.mono Le.rfl' fun a sa => keep j a hjl hj sa
    · rcases h1 with ⟨e1, h1⟩ | ⟨n1, l1, h1⟩ <;> rcases h2 with ⟨e2, h2⟩ | ⟨n2, l2, h2⟩
      · omega
      · rcases hS a h1 with w | w
        · exact absurd (hdj _ _ a h2 w) n2
        · have := hdj _ _ a h2 w; omega
      · rcases hS a h2 with w | w
        · exact absurd (hdj _ _ a h1 w) n1
        · have := hdj _ _ a h1 w; omega
      · exact hdj j k a h1 h2
    · rcases h1 with ⟨e1, h1⟩ | ⟨n1, l1, h1⟩
      · have := ow a (hS a h1)
        exact ⟨this.1, hn a (hS a h1), this.2.2⟩
      · have := ho j a h1
        exact ⟨this.1, some_ a this.2.1, this.2.2⟩
    · obtain ⟨r1, r2⟩ := E.fr a o e n
      have nS : ∀ j, S j a → False := fun j sj => by
        rcases (ho j a sj).2.2 with w | w
        · rw [w] at e; cases e
        · exact n w
      exact ⟨hk a o r1 (nS _) (nS _), r2⟩
/-- slot i changes -/
theorem En.reown {s1 : Sl} {i : Nat} (E : En X F H σ Γ) (hi : Γ[i]? = some s1) :
    ∃ S1 : Addr → Prop, SlOk X F H (σ.getD i none) S1 s1 ∧ (∀ a, S1 a → F a = none ∧ H a ≠ none) ∧
      ∀ (H' : Hp) (s' : Sl) (S' : Addr → Prop), (∀ a o, H a = some o → ¬ S1 a → H' a = some o) → (∀ a, S1 a → H' a ≠ none) → (∀ a, S' a → S1 a) → SlOk X F H' (σ.getD i none) S' s' → En X F H' σ (Γ.set i s') := by
  obtain ⟨S1, S2, q1, q2, hd, ho, k⟩ := (E.pushD (v := .non) (m := false) .non).merge hi
  refine ⟨S1, q1, fun a h => ho a (.inl h), fun H' s' S' h1 h2 h3 h4 => k H' s' S' (fun a o z w _ => h1 a o z w) (fun a h => ?_) (fun a h => .inl (h3 a h)) h4⟩
  rcases h with h | h
  · exact h2 a h
  · exact absurd h (q2.2 a)
/-- slot i is given out, changed, with what is new -/
theorem En.takeX {s1 : Sl} {i : Nat} (E : En X F H σ Γ) (hi : Γ[i]? = some s1) :
    ∃ S1 : Addr → Prop, SlOk X F H (σ.getD i none) S1 s1 ∧ (∀ a, S1 a → F a = none ∧ H a ≠ none) ∧
      ∀ (H' : Hp) (v' : V) (s' : Sl) (S' : Addr → Prop), (∀ a o, H a = some o → ¬ S1 a → H' a = some o) → (∀ a, S1 a → H' a ≠ none) → (∀ a, S' a → (S1 a ∨ H a = none) ∧ H' a ≠ none) → SlOk X F H' (some v') S' s' → En X F H' (σ ++ [some v']) (Γ.set i .no ++ [s']) := by
  have hil : i < Γ.length := (List.getElem?_eq_some_iff.mp hi).1
  obtain ⟨S, hs, hdj, ho⟩ := id E.sl
  refine ⟨S i, hs i s1 hi, fun a h => ⟨(ho i a h).1, (ho i a h).2.1⟩, fun H' v' s' S' hk hn hS q => ?_⟩
  have keep : ∀ (j : Nat) (a : Addr), j ≠ i → S j a → H' a = H a := fun j a ji sa => by
    cases z : H a with
    | none => exact absurd z (ho j a sa).2.1
    | some o => exact hk a o z fun w => ji (hdj j i a sa w)
  have some_ : ∀ a, H a ≠ none → H' a ≠ none := fun a h => by
    by_cases w1 : S i a
    · exact hn a w1
    · cases z : H a with
      | none => exact absurd z h
      | some o => rw [hk a o z w1]; simp
  have hS' : ∀ j a, j ≠ i → S j a → ¬ S' a := fun j a ji sa w => by
    rcases (hS a w).1 with z | z
    · exact ji (hdj j i a sa z)
    · exact (ho j a sa).2.1 z
  refine ⟨fun a o z => hk a o (E.le a o z) fun w => (by rw [(ho _ a w).1] at z; cases z), by simp [E.len], ⟨fun j a => (j = Γ.length ∧ S' a) ∨ (j ≠ i ∧ j < Γ.length ∧ S j a), fun j u e => ?_, fun j k a h1 h2 => ?_, fun j a h1 => ?_⟩, fun a o e n => ?_, E.f0, fun a n => some_ a (E.nn a n)⟩
  · have hj : j < (Γ.set i .no ++ [s']).length := (List.getElem?_eq_some_iff.mp e).1
    simp only [List.length_append, List.length_set, List.length_cons, List.length_nil] at hj
    by_cases hlt : j < Γ.length
    · rw [List.getElem?_append_left (by simpa using hlt)] at e
      rw [getD_app (by rw [E.len]; exact hlt)]
      by_cases ji : j = i
      · subst ji
        rw [List.getElem?_set_self hil] at e
        cases e
        exact fun a z => by
          rcases z with z | z
          · omega
          · exact z.1 rfl
      · rw [List.getElem?_set_ne (Ne.symm ji)] at e
        have eS : (fun a => (j = Γ.length ∧ S' a) ∨ (j ≠ i ∧ j < Γ.length ∧ S j a)) = S j := by
          funext a
          exact propext ⟨fun z => by rcases z with z | z; omega; exact z.2.2, fun z => .inr ⟨ji, hlt, z⟩⟩
        show SlOk X F H' _ (fun a => (j = Γ.length ∧ S' a) ∨ (j ≠ i ∧ j < Γ.length ∧ S j a)) _
        rw [eS]
        exact (hs j u e).mono Le.rfl' fun a sa => keep j a ji sa
    · have hje : j = Γ.length := by omega
      subst hje
      rw [List.getElem?_append_right (by simp)] at e
      simp at e
      subst e
      have eS : (fun a => (Γ.length = Γ.length ∧ S' a) ∨ (Γ.length ≠ i ∧ Γ.length < Γ.length ∧ S Γ.length a)) = S' := by
        funext a
        exact propext ⟨fun z => by rcases z with z | z; exact z.2; omega, fun z => .inl ⟨rfl, z⟩⟩
      show SlOk X F H' _ (fun a => (Γ.length = Γ.length ∧ S' a) ∨ (Γ.length ≠ i ∧ Γ.length < Γ.length ∧ S Γ.length a)) _
      rw [eS, ← E.len, getD_last]
      exact q
  · rcases h1 with ⟨e1, h1⟩ | ⟨n1, l1, h1⟩ <;> rcases h2 with ⟨e2, h2⟩ | ⟨n2, l2, h2⟩
    · omega
    · exact absurd h1 (hS' k a n2 h2)
    · exact absurd h2 (hS' j a n1 h1)
    · exact hdj j k a h1 h2
  · rcases h1 with ⟨e1, h1⟩ | ⟨n1, l1, h1⟩
    · obtain ⟨z, w⟩ := hS a h1
      rcases z with z | z
      · exact ⟨(ho i a z).1, w, (ho i a z).2.2⟩
      · exact ⟨E.le.nn z, w, E.ownN z⟩
    · have := ho j a h1
      exact ⟨this.1, some_ a this.2.1, this.2.2⟩
  · obtain ⟨r1, r2⟩ := E.fr a o e n
    refine ⟨hk a o r1 fun sj => ?_, r2⟩
    rcases (ho _ a sj).2.2 with w | w
    · rw [w] at e; cases e
    · exact n w
/-- what stands in a slot of nobody's may be any -/
theorem En.noset (E : En X F H σ Γ) {i : Nat} (hi : Γ[i]? = some .no) (ov : Option V) : En X F H (σ.set i ov) Γ := by
  have := E.set_no i ov
  have e : Γ.set i .no = Γ := by
    apply List.ext_getElem?
    intro j
    by_cases h : j = i
    · subst h
      rw [List.getElem?_set_self (List.getElem?_eq_some_iff.mp hi).1, hi]
    · rw [List.getElem?_set_ne (Ne.symm h)]
  rw [e] at this
  exact this
end
def PoolsP (K : PySem.W.Frag) (PP : List (List Int) → Prop) (H : Hp) (l : Addr) (qs : List Addr) : Prop := ∃ nss : List (List Int), H l = some (.lst (qs.map V.ref)) ∧ qs.length = nss.length ∧ (l :: qs).Nodup ∧ PP nss ∧ ∀ (i : Nat) (q : Addr) (ns : List Int), qs[i]? = some q → nss[i]? = some ns → H q = some (.lst (ns.map V.int))
theorem PoolsP.keep {K : PySem.W.Frag} {PP : List (List Int) → Prop} {H H' : Hp} {l : Addr} {qs : List Addr} (h : PoolsP K PP H l qs) (k : ∀ a, a = l ∨ a ∈ qs → H' a = H a) : PoolsP K PP H' l qs := by
  obtain ⟨nss, h1, h2, h3, h4, h5⟩ := h
  exact ⟨nss, (k l (.inl rfl)).trans h1, h2, h3, h4, fun i q ns a b => (k q (.inr (List.mem_of_getElem? a))).trans (h5 i q ns a b)⟩
def PoolsO (K : Kw) (PP : List (List Int) → Prop) : Own where
  K := K
  p := fun _ H v S => ∃ (l : Addr) (qs : List Addr), v = .ref l ∧ PoolsP K PP H l qs ∧ ∀ a, S a ↔ a = l ∨ a ∈ qs
  vw := none
  keep := fun {F F' H H' v S} ⟨l, qs, e, h, hS⟩ _ k => ⟨l, qs, e, h.keep fun a ha => k a ((hS a).mpr ha), hS⟩
  keepT := fun _ {F F' H H' v S} ⟨l, qs, e, h, hS⟩ _ k => ⟨l, qs, e, h.keep fun a ha => k a ((hS a).mpr ha), hS⟩
  view := fun _ _ e => nomatch e
/-- [pools, n] -/
def DeckO (K : Kw) (PP : List (List Int) → Prop) : Own where
  K := K
  p := fun _ H v S => ∃ (t l : Addr) (qs : List Addr) (n : Int), v = .ref t ∧ H t = some (.lst [.ref l, .int n]) ∧ t ≠ l ∧ t ∉ qs ∧ PoolsP K PP H l qs ∧ ∀ a, S a ↔ a = t ∨ a = l ∨ a ∈ qs
  vw := none
  keep := fun {F F' H H' v S} ⟨t, l, qs, n, e, ht, h1, h2, h, hS⟩ _ k => ⟨t, l, qs, n, e, (k t ((hS t).mpr (.inl rfl))).trans ht, h1, h2, h.keep fun a ha => k a ((hS a).mpr (.inr ha)), hS⟩
  keepT := fun _ {F F' H H' v S} ⟨t, l, qs, n, e, ht, h1, h2, h, hS⟩ _ k => ⟨t, l, qs, n, e, (k t ((hS t).mpr (.inl rfl))).trans ht, h1, h2, h.keep fun a ha => k a ((hS a).mpr (.inr ha)), hS⟩
  view := fun _ _ e => nomatch e
section
variable {K : Kw} {Γ : List Sl} {P : Po} {te : TE} {ts : TS}
/-- an empty list is a list of none -/
theorem sj_pools0 (i : Nat) {m : Bool} {l : Addr} {PP : List (List Int) → Prop} (hi : Γ[i]? = some (.ml m l [])) (hp : PP []) (k : SJ K (Γ.set i (.ex (.ref l) (PoolsO K PP))) ts P) : SJ K Γ ts P :=
  sj_retell hi (fun X F H ov S hK q => by
    obtain ⟨xs, e, hS, hl, r, _⟩ := q
    cases r
    exact ⟨e, hK.symm, l, [], rfl, ⟨[], hl, rfl, by simp, hp, fun i q ns a _ => by simp at a⟩, fun a => by rw [hS]; simp⟩) k
/-- pools.append([ints]) -/
theorem sj_appPool {i : Nat} {l : Addr} {PP PP' : List (List Int) → Prop} (hi : Γ[i]? = some (.ex (.ref l) (PoolsO K PP))) (hz : ∀ nss, PP nss → nss.length < 100000)
    (h : WX K Γ te fun s => ∃ m q ns, s = .ml m q (ns.map PyData.int) ∧ (∀ nss, PP nss → PP' (nss ++ [ns])) ∧ P.nx (Γ.set i (.ex (.ref l) (PoolsO K PP')))) : SJ K Γ (tDrop (tBM K "list" rAppend (tVar i) (tCons te tNil))) P := fun X hK F H σ E D hD => by
  subst hK
  have ev := E.ex hi
  obtain ⟨S0, q0, _, _⟩ := E.reown hi
  obtain ⟨_, _, l0, qs0, e0, ⟨nss0, hl0, _⟩, _⟩ := q0
  cases e0
  refine ⟨.ref l, ev, .inl ⟨rfl, _, SqL.of hl0⟩, h X rfl F H σ E _ fun v F1 H1 s l1 E1 ⟨m, q, ns, es, hpp, qn⟩ => ?_⟩
  subst es
  obtain ⟨S1, S2, q1, q2, hd, ho, k⟩ := E1.merge hi
  obtain ⟨e1, hk, l', qs, er, ⟨nss, hl, hn, nd, hp, hq⟩, hS⟩ := q1
  cases er
  obtain ⟨xs, e2, hS2, hql, r, _⟩ := q2
  cases e2
  have s2q : S2 q := (hS2 q).mpr rfl
  have ql : q ≠ l := fun z => hd l ((hS l).mpr (.inl rfl)) (z ▸ s2q)
  have qn' : q ∉ qs := fun z => hd q ((hS q).mpr (.inr z)) s2q
  refine ⟨l, qs.map V.ref, .ref q, rfl, rfl, hl, sz_lt (by rw [List.length_map, hn]; exact hz nss hp), ?_⟩
  refine hD.nx F1 _ σ _ (k _ (.ex (.ref l) (PoolsO X.K PP')) (fun a => S1 a ∨ S2 a) (fun a o z w1 w2 => ?_) (fun a w => ?_) (fun _ w => w) ⟨e1, rfl, l, qs ++ [q], rfl, ⟨nss ++ [ns], ?_, by simp [hn], ?_, hpp nss hp, fun j b bs hb hbs => ?_⟩, fun a => ?_⟩) qn
  · rw [upd_ne fun z => w1 (by rw [z]; exact (hS l).mpr (.inl rfl))]; exact z
  · by_cases z : a = l
    · subst z; rw [upd_same]; simp
    · rw [upd_ne z]; exact (ho a w).2
  · rw [upd_same, List.map_append]; rfl
  · rw [← List.cons_append]
    refine List.nodup_append.mpr ⟨nd, by simp, fun a ha b hb => ?_⟩
    simp at hb
    subst hb
    rcases List.mem_cons.mp ha with z | z
    · rw [z]; exact fun w => ql w.symm
    · exact fun w => qn' (w ▸ z)
  · by_cases hj : j < qs.length
    · rw [List.getElem?_append_left hj] at hb
      rw [List.getElem?_append_left (by omega)] at hbs
      have hm := List.mem_of_getElem? hb
      have bl : b ≠ l := fun z => (List.nodup_cons.mp nd).1 (by rw [← z]; exact hm)
      rw [upd_ne bl]
      exact hq j b bs hb hbs
    · have hjl := (List.getElem?_eq_some_iff.mp hb).1
      simp at hjl
      have hje : j = qs.length := by omega
      subst hje
      rw [hn] at hbs
      simp at hb hbs
      subst hb hbs
      rw [upd_ne ql, hql, ints_of r]
  · show S1 a ∨ S2 a ↔ _
    rw [hS, hS2, List.mem_append, List.mem_singleton, or_assoc]
/-- return [pools, n] -/
theorem sj_retDeck {i : Nat} {l : Addr} {n : Int} {PP : List (List Int) → Prop} (hi : Γ[i]? = some (.ex (.ref l) (PoolsO K PP))) (h : ∀ v, P.rt (.ex v (DeckO K PP)) (Γ.set i .no)) : SJ K Γ (tRet (tLst (tCons (tVar i) (tCons (tC (.int n)) tNil)))) P := fun X hK F H σ E D hD => by
  subst hK
  refine ⟨.ref l, E.ex hi, sz_le (n := 2) (by decide), fun p hp => ?_⟩
  obtain ⟨S1, q1, ho, k⟩ := E.takeX hi
  obtain ⟨e1, hk, l', qs, er, hP, hS⟩ := q1
  cases er
  have nin : ∀ a, S1 a → a ≠ p := fun a sa z => (ho a sa).2 (z ▸ hp)
  refine hD.rt F _ σ _ (.ref p) _ (k _ (.ref p) (.ex (.ref p) (DeckO X.K PP)) (fun a => a = p ∨ S1 a) (fun a o z w => ?_) (fun a w => ?_) (fun a w => ?_) ⟨rfl, rfl, p, l, qs, n, rfl, upd_same, ?_, ?_, hP.keep fun a ha => upd_ne (nin a ((hS a).mpr ha)), fun a => ?_⟩) (h _)
  · rw [upd_ne (ne_of_none z hp)]; exact z
  · rw [upd_ne (nin a w)]; exact (ho a w).2
  · rcases w with w | w
    · subst w; exact ⟨.inr hp, by rw [upd_same]; simp⟩
    · exact ⟨.inl w, by rw [upd_ne (nin a w)]; exact (ho a w).2⟩
  · exact fun z => nin l ((hS l).mpr (.inl rfl)) z.symm
  · exact fun z => nin p ((hS p).mpr (.inr z)) rfl
  · show a = p ∨ S1 a ↔ _
    rw [hS]
/-- a deck laid open: its parts, and how it is closed again, changed in its own lists -/
theorem En.deck {X : Bs} {F H : Hp} {σ : L2.St} (E : En X F H σ Γ) {i : Nat} {v : V} {PP : List (List Int) → Prop} (hi : Γ[i]? = some (.ex v (DeckO X.K PP))) :
    ∃ (t l : Addr) (qs : List Addr) (n : Int) (nss : List (List Int)), v = .ref t ∧ σ[i]? = some (some v) ∧ H t = some (.lst [.ref l, .int n]) ∧ H l = some (.lst (qs.map V.ref)) ∧ qs.length = nss.length ∧ (t :: l :: qs).Nodup ∧ PP nss ∧ (∀ (i : Nat) (q : Addr) (ns : List Int), qs[i]? = some q → nss[i]? = some ns → H q = some (.lst (ns.map V.int))) ∧
      ∀ (H' : Hp) (n' : Int) (nss' : List (List Int)), (∀ a, a ≠ t → a ∉ qs → H' a = H a) → H' t = some (.lst [.ref l, .int n']) → qs.length = nss'.length → PP nss' → (∀ (i : Nat) (q : Addr) (ns : List Int), qs[i]? = some q → nss'[i]? = some ns → H' q = some (.lst (ns.map V.int))) → En X F H' σ Γ := by
  obtain ⟨S1, q1, ho, k⟩ := E.reown hi
  obtain ⟨e1, hk, t, l, qs, n, er, ht, ntl, ntq, ⟨nss, hl, hn, nd, hp, hq⟩, hS⟩ := q1
  refine ⟨t, l, qs, n, nss, er, E.ex hi, ht, hl, hn, List.nodup_cons.mpr ⟨by simp [ntl, ntq], nd⟩, hp, hq, fun H' n' nss' h1 h2 h3 h4 h5 => ?_⟩
  have nl : l ∉ qs := (List.nodup_cons.mp nd).1
  have hl' : H' l = some (.lst (qs.map V.ref)) := (h1 l (Ne.symm ntl) nl).trans hl
  have eΓ : Γ.set i (.ex v (DeckO X.K PP)) = Γ := by
    apply List.ext_getElem?
    intro j
    by_cases h : j = i
    · subst h
      rw [List.getElem?_set_self (List.getElem?_eq_some_iff.mp hi).1, hi]
    · rw [List.getElem?_set_ne (Ne.symm h)]
  have := k H' (.ex v (DeckO X.K PP)) S1 (fun a o z w => ?_) (fun a w => ?_) (fun _ w => w) ⟨e1, rfl, t, l, qs, n', er, h2, ntl, ntq, ⟨nss', hl', h3, nd, h4, h5⟩, hS⟩
  · rw [eΓ] at this
    exact this
  · rw [h1 a (fun z => w ((hS a).mpr (.inl z))) (fun z => w ((hS a).mpr (.inr (.inr z))))]; exact z
  · rcases (hS a).mp w with z | z | z
    · rw [z, h2]; simp
    · rw [z, hl']; simp
    · obtain ⟨j, hj⟩ := List.getElem?_of_mem z
      have hjl := (List.getElem?_eq_some_iff.mp hj).1
      rw [h5 j a (nss'[j]'(by omega)) hj (by simp [show j < nss'.length by omega])]
      simp
end
end Pk
end
section
set_option Elab.async false
set_option linter.all false
set_option maxRecDepth 100000
set_option maxHeartbeats 1000000
namespace Pz
open PySem PySem.Spec PyProof.Rows L2
section
variable {prog : Program} {w : World} {A : Around} {E : Value → Shared → Prop} {s : Shared}
variable {z TI TO i1 i2 l1 l2 : Addr} {m n : Nat} {xs ys : Array Value} {x y a b : Value} {S1 S2 : Nat → Heap → Prop}
end
section
variable {prog : Program} {w : World} {z TI TO i1 i2 l1 l2 : Addr} {xs ys : Array Value} {S1 S2 : Nat → Heap → Prop}
end
structure Zst (X : Cx) (pins : List (Addr × Obj)) (H : Hp) (h : Heap) (z TI TO i1 i2 a b : Addr) : Prop where
  D : ZipApart z TI TO i1 i2 a b
  zz : IsZip h z TI TO .none
  I : IsPair h TI (.ref i1) (.ref i2)
  O : ∃ x y, IsPair h TO x y
  p1 : h.IsListIter i1 a 0
  p2 : h.IsTupleIter i2 b 0
  fp : ∀ c ∈ [z, TI, TO, i1, i2], FpOk X pins H c
end Pz
namespace Pk
open PySem PySem.Spec PyProof.Rows L2 Pz
section
variable {K : Kw} {m : Bool} {Γ : List Sl} {ta : TA} {QI : List PyData → Prop}
end
end Pk
end
section
set_option Elab.async false
set_option linter.all false
set_option maxRecDepth 100000
namespace Pk
open PySem PySem.Spec PyProof.Rows L2 Pz
def rJoin (K : PySem.W.Frag) : V → List V → Hp → VK → Prop := fun x xs H Q => ∃ a p, ∃ ys : List Str, x = .str a ∧ xs = [.ref p] ∧ (SqL K H p (ys.map V.str) ∨ SqT K H p (ys.map V.str)) ∧ (ys.map (·.length)).sum + ys.length * a.length ≤ 16777216 ∧ Q (.str (Txt.join a ys)) H
section
variable {K : Kw} {m : Bool} {Γ : List Sl} {Q : PyData → Prop} {QX : Sl → Prop} {te ti ta tb : TE} {tr : TA}
theorem strs_of {F : Hp} : ∀ {xs : List V} {ns : List Str}, RpA K F xs (ns.map PyData.str) → xs = ns.map V.str
  | [], [], _ => rfl
  | _ :: _, [], h => by cases h
  | [], _ :: _, h => by cases h
  | x :: xs, n :: ns, h => by
    cases h with
    | cons a b => cases a; rw [strs_of b]; rfl
theorem wd_join {sep : Str} (h : WD K false Γ te fun d => ∃ ys : List Str, d = .list (ys.map PyData.str) ∧ (ys.map (·.length)).sum + ys.length * sep.length ≤ 16777216 ∧ Q (.str (Txt.join sep ys))) : WD K m Γ (tBM K "str" (rJoin K) (tC (.str sep)) (tCons te tNil)) Q := fun X hK F H σ E C k => by
  subst hK
  refine ⟨rfl, h X rfl F H σ E _ fun v F1 H1 d l1 E1 r ⟨ys, e, hz, q⟩ => ?_⟩
  subst e
  cases r with
  | lst ha ra => exact ⟨sep, _, ys, rfl, rfl, .inl (by rw [← strs_of ra]; exact SqL.of (E1.le _ _ ha)), hz, k _ F1 H1 _ l1 E1 (.str _) q⟩
end
end Pk
end
section
set_option Elab.async false
set_option linter.all false
set_option maxRecDepth 100000
namespace Dk
open PySem PySem.Spec PyProof.Rows L2 Pk
inductive Op where
  | plus | times | less | same
  deriving DecidableEq
def Op.w : Op → Str
  | .plus => "plus" | .times => "times" | .less => "less" | .same => "same"
inductive Th where
  | num (n : Nat)
  | box (x : Str)
  | op (o : Op) (a b : Th)
def Th.d : Th → PyData
  | .num n => .tuple [.str "number", .int n]
  | .box x => .tuple [.str "box", .str x]
  | .op o a b => .tuple [.str o.w, a.d, b.d]
/-- at most so deep, of numbers below m and of the boxes -/
def Th.Ok (m : Nat) (bs : List Str) : Nat → Th → Prop
  | 0, _ => False
  | _ + 1, .num k => k < m
  | _ + 1, .box x => x ∈ bs
  | n + 1, .op _ a b => a.Ok m bs n ∧ b.Ok m bs n
theorem Th.Ok.up {m : Nat} {bs : List Str} : ∀ {n : Nat} {t : Th}, t.Ok m bs n → t.Ok m bs (n + 1)
  | 0, _, h => by cases h
  | n + 1, .num k, h => h
  | n + 1, .box x, h => h
  | n + 1, .op o a b, h => ⟨Th.Ok.up (n := n) h.1, Th.Ok.up (n := n) h.2⟩
theorem Th.Ok.mono {m : Nat} {bs : List Str} {n k : Nat} {t : Th} (h : t.Ok m bs n) (le : n ≤ k) : t.Ok m bs k := by
  obtain ⟨j, rfl⟩ := Nat.exists_eq_add_of_le le
  induction j with
  | zero => exact h
  | succ j ih => exact (ih (by omega)).up
def ltr (c : Nat) : Prop := 97 ≤ c ∧ c ≤ 122
def NameOk (x : Str) : Prop := 1 ≤ x.length ∧ x.length ≤ 8 ∧ ∀ c ∈ x.cps.toList, ltr c
theorem NameOk.strOk {x : Str} (h : NameOk x) : PyData.strOk x = true := by
  unfold PyData.strOk
  rw [← Array.all_toList, List.all_eq_true]
  intro c hc
  have := (h.2.2 c hc).2
  exact decide_eq_true (by omega)
structure BsOk (bs : List Str) : Prop where
  len0 : 1 ≤ bs.length
  len5 : bs.length ≤ 5
  nd : bs.Nodup
  nm : ∀ x ∈ bs, NameOk x
abbrev bsD (bs : List Str) : PyData := .list (bs.map PyData.str)
inductive Rw where
  | set (x : Str) (t : Th)
  | pick (x : Str) (ts : List Th)
  | need (t : Th)
  | skip (t : Th) (k : Nat)
  | give (t : Th)
def Rw.d : Rw → PyData
  | .set x t => .tuple [.str "set", .str x, t.d]
  | .pick x ts => .tuple [.str "pick", .str x, .list (ts.map Th.d)]
  | .need t => .tuple [.str "need", t.d]
  | .skip t k => .tuple [.str "skip", t.d, .int k]
  | .give t => .tuple [.str "give", t.d]
def Rw.Ok (m : Nat) (bs : List Str) : Rw → Prop
  | .set x t => x ∈ bs ∧ t.Ok m bs 4
  | .pick x ts => x ∈ bs ∧ 1 ≤ ts.length ∧ ts.length ≤ 5 ∧ ∀ t ∈ ts, t.Ok m bs 4
  | .need t => t.Ok m bs 4
  | .skip t k => t.Ok m bs 4 ∧ 1 ≤ k ∧ k ≤ 30
  | .give t => t.Ok m bs 4
structure Pg where
  m : Nat
  bs : List Str
  rows : List Rw
def Pg.d (p : Pg) : PyData := .tuple [.int p.m, bsD p.bs, .list (p.rows.map Rw.d)]
structure Pg.Ok (p : Pg) : Prop where
  m2 : 2 ≤ p.m
  m16 : p.m ≤ 16
  bs : BsOk p.bs
  r30 : p.rows.length ≤ 30
  rows : ∀ r ∈ p.rows, r.Ok p.m p.bs
structure StOk (m : Nat) (bs : List Str) (st : List Nat) : Prop where
  len : st.length = bs.length
  lt : ∀ n ∈ st, n < m
def Op.v (m : Nat) : Op → Nat → Nat → Nat
  | .plus, a, b => (a + b) % m
  | .times, a, b => a * b % m
  | .less, a, b => if a < b then 1 else 0
  | .same, a, b => if a = b then 1 else 0
def at_ (bs : List Str) (st : List Nat) (x : Str) : Nat := st.getD (bs.idxOf x) 0
def Th.v (m : Nat) (bs : List Str) (st : List Nat) : Th → Nat
  | .num n => n
  | .box x => at_ bs st x
  | .op o a b => o.v m (a.v m bs st) (b.v m bs st)
theorem sh_of {n : Nat} {d : PyData} (h : dep n d) (hn : n ≤ 63) : SeqAt.shaped d = true := dep_shaped h hn
end Dk
end
section
set_option Elab.async false
set_option linter.all false
set_option maxRecDepth 100000
namespace Dk
open PySem PySem.Spec PyProof.Rows L2 Pk
abbrev LET : Str := "abcdefghijklmnopqrstuvwxyz"
theorem let_len : LET.length = 26 := by decide +kernel
theorem let_tab : ∀ r ∈ List.range 26, LET.cps.toList[r]? = some (97 + r) := by decide +kernel
theorem let_at {r : Nat} (h : r < 26) : LET.cps.toList[r]? = some (97 + r) := let_tab r (List.mem_range.mpr h)
def one (c : Nat) : Str := ⟨#[c]⟩
theorem one_len (c : Nat) : (one c).length = 1 := rfl
theorem str_len (x : Str) : x.length = x.cps.toList.length := by simp [Str.length]
theorem app_cps (x y : Str) : (x ++ y).cps.toList = x.cps.toList ++ y.cps.toList := by
  show (x.cps ++ y.cps).toList = _
  simp
/-- "".join(..) -/
theorem join_cps (ys : List Str) : (Txt.join "" ys).cps.toList = ys.flatMap fun y => y.cps.toList := by
  have hf : ∀ (ps : List Str) (acc : Array Nat), ((ps.foldl (fun acc p => acc ++ ("" : Str).cps ++ p.cps) acc)).toList = acc.toList ++ ps.flatMap fun y => y.cps.toList := by
    intro ps
    induction ps with
    | nil => intro acc; simp
    | cons p ps ih =>
      intro acc
      rw [List.foldl_cons, ih]
      have : ("" : Str).cps = #[] := by decide +kernel
      rw [this]
      simp
  show (Builtin.Str.glued "" ys).cps.toList = _
  unfold Builtin.Str.glued
  cases ys with
  | nil => simp [Str.empty]
  | cons y ys =>
    refine (hf ys y.cps).trans ?_
    simp
theorem join_name {cs : List Nat} (h1 : 1 ≤ cs.length) (h8 : cs.length ≤ 8) (hl : ∀ c ∈ cs, ltr c) : NameOk (Txt.join "" (cs.map one)) := by
  have e : (Txt.join "" (cs.map one)).cps.toList = cs := by
    rw [join_cps]
    clear h1 h8 hl
    induction cs with
    | nil => rfl
    | cons c cs ih => rw [List.map_cons, List.flatMap_cons, ih]; rfl
  refine ⟨?_, ?_, fun c hc => ?_⟩
  · rw [str_len, e]; exact h1
  · rw [str_len, e]; exact h8
  · rw [e] at hc; exact hl c hc
theorem join_sum (cs : List Nat) : ((cs.map one).map (·.length)).sum = cs.length := by
  induction cs with
  | nil => rfl
  | cons c cs ih =>
    rw [List.map_cons, List.map_cons, List.sum_cons, ih, one_len, List.length_cons]
    omega
theorem cut_name {x : Str} {n c : Nat} (hx : NameOk x) (h1 : 1 ≤ n) (h7 : n ≤ 7) (hc : ltr c) : NameOk (cutS x none (some (n : Int)) ++ one c) := by
  have e : (cutS x none (some (n : Int)) ++ one c).cps.toList = x.cps.toList.take (min n x.length) ++ [c] := by
    rw [app_cps]
    unfold cutS
    have h0 : ¬ ((n : Int) < 0) := by omega
    simp [HT.sIx, h0, one]
  obtain ⟨a, b, d⟩ := hx
  have hl : x.cps.toList.length = x.length := (str_len x).symm
  refine ⟨?_, ?_, fun y hy => ?_⟩
  · rw [str_len, e, List.length_append]; simp
  · rw [str_len, e, List.length_append, List.length_take, hl]; simp; omega
  · rw [e] at hy
    rcases List.mem_append.mp hy with z | z
    · exact d y (List.mem_of_mem_take z)
    · simp at z; subst z; exact hc
/-- letters[t] * 8 -/
def rep8 (t : Nat) : Str := ⟨#[97 + t, 97 + t, 97 + t, 97 + t, 97 + t, 97 + t, 97 + t, 97 + t]⟩
theorem mul8 (c : Nat) : Txt.mul (one c) 8 = ⟨#[c, c, c, c, c, c, c, c]⟩ := by
  simp [Txt.mul, one, Str.length, List.replicate]
theorem mulOk8 (c : Nat) : MulOk (one c) 8 := by
  refine ⟨by decide, fun _ _ => ?_, fun _ _ => ?_⟩
  · rw [one_len]; decide
  · rw [one_len]; decide
theorem rep8_inj {s t : Nat} (h : rep8 s = rep8 t) : s = t := by
  simp [rep8] at h
  omega
theorem rep8_name {t : Nat} (h : t < 26) : NameOk (rep8 t) := ⟨by simp [rep8, Str.length], by simp [rep8, Str.length], fun c hc => by
  simp [rep8] at hc
  subst hc
  exact ⟨by omega, by omega⟩⟩
theorem nd_sub {α : Type} [DecidableEq α] : ∀ {as bs : List α}, as.Nodup → (∀ a ∈ as, a ∈ bs) → as.length ≤ bs.length
  | [], _, _, _ => Nat.zero_le _
  | a :: as, bs, nd, h => by
    obtain ⟨h1, h2⟩ := List.nodup_cons.mp nd
    have ha := h a List.mem_cons_self
    have ih := nd_sub (as := as) (bs := bs.erase a) h2 fun b hb => (List.mem_erase_of_ne (fun z => h1 (by rw [← z]; exact hb))).mpr (h b (List.mem_cons_of_mem _ hb))
    rw [List.length_erase_of_mem ha] at ih
    have : 0 < bs.length := List.length_pos_of_mem ha
    rw [List.length_cons]
    omega
theorem rep_le {bs : List Str} {t : Nat} (h : ∀ i, i < t → rep8 i ∈ bs) : t ≤ bs.length := by
  have := nd_sub (as := (List.range t).map rep8) (bs := bs) (List.nodup_iff_pairwise_ne.mpr (List.pairwise_map.mpr ((List.nodup_iff_pairwise_ne.mp List.nodup_range).imp fun {a b} hab z => hab (rep8_inj z)))) fun a ha => by
    obtain ⟨i, hi, rfl⟩ := List.mem_map.mp ha
    exact h i (List.mem_range.mp hi)
  simpa using this
theorem op_ok (o : Op) : PyData.strOk o.w = true := by cases o <;> decide +kernel
theorem ok_w {x : Str} (h : x ∈ [("number" : Str), "box", "set", "pick", "need", "skip", "give", "nothing", "gives"]) : PyData.strOk x = true := by
  have : ∀ y ∈ [("number" : Str), "box", "set", "pick", "need", "skip", "give", "nothing", "gives"], PyData.strOk y = true := by decide +kernel
  exact this x h
theorem Th.dep {m : Nat} {bs : List Str} (hb : ∀ x ∈ bs, NameOk x) : ∀ {n : Nat} {t : Th}, t.Ok m bs n → Pk.dep n t.d
  | 0, _, h => by cases h
  | n + 1, .num k, h => by
    intro x hx
    simp at hx
    rcases hx with rfl | rfl
    · cases n <;> exact ok_w (by simp)
    · cases n <;> exact True.intro
  | n + 1, .box y, h => by
    intro x hx
    simp at hx
    rcases hx with rfl | rfl
    · cases n <;> exact ok_w (by simp)
    · have := (hb y h).strOk
      cases n <;> exact this
  | n + 1, .op o a b, h => by
    intro x hx
    simp at hx
    rcases hx with rfl | rfl | rfl
    · have := op_ok o
      cases n <;> exact this
    · exact Th.dep hb h.1
    · exact Th.dep hb h.2
theorem dep_up {n k : Nat} {d : PyData} (h : Pk.dep n d) (le : n ≤ k) : Pk.dep k d := by
  induction n generalizing k d with
  | zero => cases d <;> cases k <;> first | exact h | exact h.elim
  | succ n ih =>
    cases k with
    | zero => omega
    | succ k =>
      cases d with
      | list xs => exact fun x hx => ih (h x hx) (by omega)
      | tuple xs => exact fun x hx => ih (h x hx) (by omega)
      | none => exact h
      | bool _ => exact h
      | int _ => exact h
      | str _ => exact h
      | dict _ => exact h
theorem dep_str {n : Nat} {x : Str} (h : PyData.strOk x = true) : Pk.dep n (.str x) := by cases n <;> exact h
theorem dep_int {n : Nat} {i : Int} : Pk.dep n (.int i) := by cases n <;> exact True.intro
theorem Rw.dep {m : Nat} {bs : List Str} (hb : ∀ x ∈ bs, NameOk x) {r : Rw} (h : r.Ok m bs) : Pk.dep 6 r.d := by
  cases r with
  | set y t =>
    intro x hx
    simp at hx
    rcases hx with rfl | rfl | rfl
    · exact dep_str (ok_w (by simp))
    · exact dep_str (hb y h.1).strOk
    · exact dep_up (Th.dep hb h.2) (by decide)
  | pick y ts =>
    intro x hx
    simp at hx
    rcases hx with rfl | rfl | rfl
    · exact dep_str (ok_w (by simp))
    · exact dep_str (hb y h.1).strOk
    · intro z hz
      obtain ⟨t, ht, rfl⟩ := List.mem_map.mp hz
      exact dep_up (Th.dep hb (h.2.2.2 t ht)) (by decide)
  | need t =>
    intro x hx
    simp at hx
    rcases hx with rfl | rfl
    · exact dep_str (ok_w (by simp))
    · exact dep_up (Th.dep hb h) (by decide)
  | skip t k =>
    intro x hx
    simp at hx
    rcases hx with rfl | rfl | rfl
    · exact dep_str (ok_w (by simp))
    · exact dep_up (Th.dep hb h.1) (by decide)
    · exact dep_int
  | give t =>
    intro x hx
    simp at hx
    rcases hx with rfl | rfl
    · exact dep_str (ok_w (by simp))
    · exact dep_up (Th.dep hb h) (by decide)
theorem bs_dep {bs : List Str} (hb : ∀ x ∈ bs, NameOk x) (n : Nat) : Pk.dep (n + 1) (bsD bs) := fun x hx => by
  obtain ⟨y, hy, rfl⟩ := List.mem_map.mp hx
  exact dep_str (hb y hy).strOk
theorem bs_sh {bs : List Str} (hb : ∀ x ∈ bs, NameOk x) : SeqAt.shaped (bsD bs) = true := sh_of (bs_dep hb 0) (by decide)
theorem Pg.dep {p : Pg} (h : p.Ok) : Pk.dep 8 p.d := by
  intro x hx
  simp at hx
  rcases hx with rfl | rfl | rfl
  · exact dep_int
  · exact bs_dep h.bs.nm 6
  · intro y hy
    obtain ⟨r, hr, rfl⟩ := List.mem_map.mp hy
    exact Rw.dep h.bs.nm (h.rows r hr)
theorem Pg.sh {p : Pg} (h : p.Ok) : SeqAt.shaped p.d = true := sh_of (Pg.dep h) (by decide)
theorem Th.nb : ∀ t : Th, NB t.d
  | .num n => .tup fun x hx => by
    simp at hx
    rcases hx with rfl | rfl
    · exact .str _
    · exact .int _
  | .box y => .tup fun x hx => by
    simp at hx
    rcases hx with rfl | rfl
    · exact .str _
    · exact .str _
  | .op o a b => .tup fun x hx => by
    simp at hx
    rcases hx with rfl | rfl | rfl
    · exact .str _
    · exact Th.nb a
    · exact Th.nb b
theorem Rw.nb (r : Rw) : NB r.d := by
  cases r <;> refine .tup fun x hx => ?_ <;> simp at hx
  · rcases hx with rfl | rfl | rfl
    · exact .str _
    · exact .str _
    · exact Th.nb _
  · rcases hx with rfl | rfl | rfl
    · exact .str _
    · exact .str _
    · refine .lst fun z hz => ?_
      obtain ⟨t, _, rfl⟩ := List.mem_map.mp hz
      exact Th.nb t
  · rcases hx with rfl | rfl
    · exact .str _
    · exact Th.nb _
  · rcases hx with rfl | rfl | rfl
    · exact .str _
    · exact Th.nb _
    · exact .int _
  · rcases hx with rfl | rfl
    · exact .str _
    · exact Th.nb _
theorem Pg.nb (p : Pg) : NB p.d := .tup fun x hx => by
  simp at hx
  rcases hx with rfl | rfl | rfl
  · exact .int _
  · refine .lst fun z hz => ?_
    obtain ⟨t, _, rfl⟩ := List.mem_map.mp hz
    exact .str t
  · refine .lst fun z hz => ?_
    obtain ⟨t, _, rfl⟩ := List.mem_map.mp hz
    exact Rw.nb t
theorem Th.lf : ∀ t : Th, Pk.lf t.d = true
  | .num n => rfl
  | .box y => rfl
  | .op o a b => by
    show Pk.lfA [.str o.w, a.d, b.d] = true
    simp [Pk.lfA, Th.lf a, Th.lf b, Pk.lf]
def Rw.w : Rw → Str
  | .set _ _ => "set" | .pick _ _ => "pick" | .need _ => "need" | .skip _ _ => "skip" | .give _ => "give"
def Rw.isPick : Rw → Bool
  | .pick _ _ => true | _ => false
theorem Rw.w_ok (r : Rw) : PyData.strOk r.w = true := by cases r <;> exact ok_w (by simp [Rw.w])
theorem s_sp : ("set" : Str) ≠ "pick" := by decide +kernel
theorem s_np : ("need" : Str) ≠ "pick" := by decide +kernel
theorem s_kp : ("skip" : Str) ≠ "pick" := by decide +kernel
theorem s_gp : ("give" : Str) ≠ "pick" := by decide +kernel
theorem Rw.eqP (r : Rw) : PyData.eqv (.str r.w) (.str "pick") = r.isPick := by
  rw [eqv_str]
  cases r with
  | set x t => exact decide_eq_false s_sp
  | pick x t => exact decide_eq_true rfl
  | need t => exact decide_eq_false s_np
  | skip t k => exact decide_eq_false s_kp
  | give t => exact decide_eq_false s_gp
section
variable {K : Kw} {m : Bool} {Γ : List Sl} {Q : PyData → Prop}
theorem rd_row0 {r : Rw} (q : Q (.str r.w)) : RD K m Γ (rIx K) r.d (.int 0) Q := by cases r <;> exact rd_ixT rfl q
end
end Dk
end
section
set_option Elab.async false
set_option linter.all false
set_option maxRecDepth 100000
namespace Pk
open PySem PySem.Spec PyProof.Rows L2
end Pk
end
section
set_option Elab.async false
set_option linter.all false
set_option maxRecDepth 100000
namespace Ps
open PySem PySem.Spec PyProof.Rows L2
/-- how many unlike ones among the first i -/
def dc (xs : List Str) : Nat → Nat
  | 0 => 0
  | i + 1 => dc xs i + if xs.getD i Str.empty ∈ xs.take i then 0 else 1
theorem dc_le (xs : List Str) : ∀ i, dc xs i ≤ i
  | 0 => Nat.le_refl _
  | i + 1 => by
    have := dc_le xs i
    unfold dc
    split <;> omega
theorem dc_nd {xs : List Str} (nd : xs.Nodup) : ∀ i, i ≤ xs.length → dc xs i = i
  | 0, _ => rfl
  | i + 1, h => by
    have hi : i < xs.length := h
    unfold dc
    rw [dc_nd nd i (by omega), if_neg]
    intro hm
    obtain ⟨j, hj⟩ := List.mem_iff_getElem?.mp hm
    rw [List.getElem?_take] at hj
    split at hj
    · rename_i hji
      have e : xs[j]? = xs[i]? := by
        rw [hj, List.getD_eq_getElem?_getD, List.getElem?_eq_getElem hi]
        rfl
      have := (List.getElem?_inj (by omega) nd).mp e
      omega
    · cases hj
section
variable {prog : Program} {w : World} {A : Around} {R : Result → Shared → Prop} {I : Addr} {fp wr : List Addr} {G : Array GenState → Array GenState → Prop} {n : Nat} {P : Nat → Value → Prop} {St : Nat → Shared → Prop}
theorem loop (W : WalksS prog w A.in1 I fp wr G n P St) (S : Addr) (nS : S ∉ fp) (xs : List Str) (hz : xs.length = n) (hb : n ≤ 1000) (hv : ∀ i v, P i v → ∃ t, v = .str (xs.getD i Str.empty) t) :
    ∀ (k i : Nat) (s : Shared), n - i = k → i ≤ n → St i s → s.heap.SetOf (PySem.strKind prog w) S (fun y => (xs.take i).any (· == y)) (dc xs i) →
      (∀ s', Moved (S :: wr) G s s' → s'.heap.SetOf (PySem.strKind prog w) S (fun y => (xs.take n).any (· == y)) (dc xs n) → R (.ok (.ret .none)) s') → codeAny (model prog w) A (.builtin "set.update.loop" ⟨[.ref S, .ref I], []⟩) R s := by
  have nw : S ∉ wr := fun h => nS (W.sub _ h)
  have sub : ∀ b ∈ wr, b ∈ S :: wr := fun b h => List.mem_cons_of_mem _ h
  intro k
  induction k with
  | zero =>
    intro i s hk hi st hS kR
    have e : i = n := by omega
    subst e
    refine codeAny_builtin PyProof.Rows.F.entry_set_update_loop ?_; rw [Around.under_plainId PyProof.Rows.F.plain_set_update_loop _]
    show wpAny _ A.in1 (pyNext (.ref I) >>= _) _ _ s; refine wpAny_bind (W.done s _ _ st fun s' mv => ?_)
    show wpAny _ A.in1 (ret Value.none) _ _ s'
    refine wpAny_pure (kR s' (mv.mono sub) ?_)
    obtain ⟨o, es, ep, t, ho, rest⟩ := hS
    exact ⟨o, es, ep, t, mv.heap S _ nw ho, rest⟩
  | succ k ih =>
    intro i s hk hi st hS kR
    have lt : i < n := by omega
    refine codeAny_builtin PyProof.Rows.F.entry_set_update_loop ?_; rw [Around.under_plainId PyProof.Rows.F.plain_set_update_loop _]
    show wpAny _ A.in1 (pyNext (.ref I) >>= _) _ _ s; refine wpAny_bind (W.item i s _ _ lt st fun v s' hP st' mv => ?_)
    obtain ⟨t, rfl⟩ := hv i v hP
    have hS1 : s'.heap.SetOf (PySem.strKind prog w) S (fun y => (xs.take i).any (· == y)) (dc xs i) := by
      obtain ⟨o, es, ep, tb, ho, rest⟩ := hS
      exact ⟨o, es, ep, tb, mv.heap S _ nw ho, rest⟩
    show wpAny _ A.in1 (holding [Value.str (xs.getD i Str.empty) t] (setAdd S (.str (xs.getD i Str.empty) t)) >>= _) _ _ s'
    refine wpAny_bind (wpAny_holding ?_); unfold setAdd; refine wpAny_holding ?_
    refine wpAny_bind ((PySem.strKind prog w).pyHash (k := xs.getD i Str.empty) (strKind_is _ _ _ _) ?_)
    have hd := dc_le xs i
    refine wpAny_setAddHashed_of (knd := PySem.strKind prog w) (s := { s' with toks := s'.toks + 1 }) (strKind_is _ _ _ _) rfl hS1 (by unfold scanBound; omega) fun g sb hS2 => ?_
    have ex : xs[i]? = some (xs.getD i Str.empty) := by
      rw [List.getD_eq_getElem?_getD, List.getElem?_eq_getElem (by omega)]
      rfl
    have et : xs.take (i + 1) = xs.take i ++ [xs.getD i Str.empty] := by rw [List.take_add_one, ex]; rfl
    have hS3 : g.SetOf (PySem.strKind prog w) S (fun y => (xs.take (i + 1)).any (· == y)) (dc xs (i + 1)) := by
      refine SetOf_congr hS2 (fun y => ?_) ?_
      · show ((xs.take i).any (· == y) || decide (y = xs.getD i Str.empty)) = (xs.take (i + 1)).any (· == y)
        rw [et, List.any_append]
        congr 1
        by_cases e : y = xs.getD i Str.empty
        · show _ = ((xs.getD i Str.empty == y) || false)
          rw [decide_eq_true e, e, beq_self_eq_true]; rfl
        · have e' : (xs.getD i Str.empty == y) = false := beq_eq_false_iff_ne.mpr fun z => e z.symm
          show _ = ((xs.getD i Str.empty == y) || false)
          rw [decide_eq_false e, e']; rfl
      · show (if (xs.take i).any (· == xs.getD i Str.empty) = true then dc xs i else dc xs i + 1) = dc xs (i + 1)
        have ea : ((xs.take i).any (· == xs.getD i Str.empty) = true) ↔ xs.getD i Str.empty ∈ xs.take i := by
          rw [List.any_eq_true]
          exact ⟨fun ⟨z, hz, ez⟩ => by rw [← eq_of_beq ez]; exact hz, fun h => ⟨_, h, beq_self_eq_true _⟩⟩
        show _ = dc xs i + if xs.getD i Str.empty ∈ xs.take i then 0 else 1
        by_cases hm : xs.getD i Str.empty ∈ xs.take i
        · rw [if_pos (ea.mpr hm), if_pos hm]; rfl
        · rw [if_neg (fun z => hm (ea.mp z)), if_neg hm]
    refine wpAny_pure ⟨plainId_quiet PyProof.Rows.F.plain_set_update_loop _, ih (i + 1) _ (by omega) lt (W.frame _ s' _ _ st' (Nat.le_succ _) fun b hb o e => ?_) hS3 fun s2 m2 hS4 => ?_⟩
    · have bS : b ≠ S := fun h => nS (by rw [← h]; exact hb)
      rw [sb.2 b bS]; exact e
    · refine kR s2 (Moved.trans W.gtrans ((mv.mono sub).then_heap (Nat.le_succ _) fun b o hb e => ?_) m2) hS4
      have bS : b ≠ S := fun h => hb (by rw [h]; exact List.mem_cons_self)
      rw [sb.2 b bS]; exact e
end
abbrev fr0 (h : Heap) (led : Bool) : Heap := h.push { cls := .type "set", dict := none, data := .set #[] 0 (.fresh 0 0 led) }
section
variable {prog : Program} {w : World} {A : Around} {E : Value → Shared → Prop} {s : Shared}
set_option maxHeartbeats 3200000 in
theorem callSet {l : Addr} {its : Array Value} {xs : List Str} {Q : Value → Shared → Prop} (hh : A.handled = none) (hl : s.heap.IsList l its) (hi : PyProof.Rows.StrsAre its.toList xs) (hb : xs.length ≤ 1000)
    (k : ∀ (g : Heap) (tk : Nat), g.SetOf (PySem.strKind prog w) s.heap.objs.size (fun y => (xs.take its.size).any (· == y)) (dc xs its.size) → (∀ b o, b < s.heap.objs.size → s.heap.get? b = some o → g.get? b = some o) → Q (.ref s.heap.objs.size) { s with heap := g, toks := tk }) :
    wpAny (model prog w) A (call (.type "set") [.ref l]) Q E s := by
  obtain ⟨c, tl, hmro⟩ := PySem.F.called_set.mro
  have hmade := PySem.F.called_set.made
  have hsub := PySem.F.called_set.sub
  refine wpAny_call (codeAny_of_tree ?_)
  show wpAny _ _ (callAny (.type "set") _) _ _ _
  refine wpAny_pure ⟨Code.quiet_builtin _ (by decide +kernel), codeAny_builtin PySem.F.entry_type_call ?_⟩; rw [Around.under_plain (weight_type_call_type "set" [.ref l] []) rfl]
  have h1 := PySem.F.called_set.notType
  have h2 := PySem.F.called_set.canCreate
  have hct := PySem.F.typeCall_set_1 (.ref l)
  repeat (any_goals (first | assumption | wp_step))
  refine codeAny_mono (code_set_new_1 (.ref l) (E := E) (Q₁ := fun obj t => ∃ led : Bool, obj = .ref s.heap.objs.size ∧ t = { s with heap := fr0 s.heap led }) fun led => ⟨led, rfl, rfl⟩) fun r t hr => ?_
  cases r with
  | error e => exact hr
  | ok fl =>
    cases fl with
    | ret obj =>
      obtain ⟨led, rfl, rfl⟩ := hr
      have gS : (fr0 s.heap led).get? s.heap.objs.size = some { cls := .type "set", dict := none, data := .set #[] 0 (.fresh 0 0 led) } := Heap.get?_push_size _ rfl
      have gT : Shared.TypeIs { s with heap := fr0 s.heap led } (.ref s.heap.objs.size) "set" := ⟨_, gS, rfl⟩
      have hli := PySem.F.called_set.init.lookup
      have hbi := PySem.F.called_set.init.bind (.ref s.heap.objs.size)
      repeat (any_goals (first | assumption | wp_step))
      refine codeAny_mono (codeAny_call_builtin (R := wants (fun r t => r = .none ∧ ∃ g tk, t = { s with heap := g, toks := tk } ∧ g.SetOf (PySem.strKind prog w) s.heap.objs.size (fun y => (xs.take its.size).any (· == y)) (dc xs its.size) ∧
          (∀ b o, b < s.heap.objs.size → s.heap.get? b = some o → g.get? b = some o)) E) PySem.F.called_set.init.plain PySem.F.entry_set_init (check_set_init_1 gT ?_)) fun r2 t2 hr2 => ?_
      · obtain ⟨ol, hol, hcl, nl, hdl⟩ := hl
        obtain ⟨ocls, odict, odata, oslots⟩ := ol
        simp only at hcl hdl
        subst hcl hdl
        have hol' : (fr0 s.heap led).get? l = some { cls := .type "list", dict := odict, data := .seq its nl, slots := oslots } := Heap.get?_push_of_some _ hol
        have hsls := PySem.F.sub_list_set
        have hslf := PySem.F.sub_list_frozenset
        have hne : (Value.type "list" == Value.type "dict") = false := by decide
        have hl1 : (fr0 s.heap led).IsList l its := ⟨_, hol', rfl, nl, rfl⟩
        unfold Builtin.«set.__init__» noKeywords Builtin.Frozenset.updateFrom
        generalize hPI : pyIter = PI
        wp_walk
        subst hPI
        refine wpAny_pyIter_list hl1 ?_; refine wpAny_bind (wpAny_runValue ?_)
        have lS : l < s.heap.objs.size := Heap.lt_size hol
        have h3 : A.in1.in1.in1.handled = none := by simp [hh]
        have nI : l ≠ (fr0 s.heap led).objs.size := by rw [Heap.size_push]; exact Nat.ne_of_lt (Nat.lt_succ_of_lt lS)
        have nS : s.heap.objs.size ∉ [(fr0 s.heap led).objs.size, l] := by
          rw [Heap.size_push]
          intro hm
          have e : s.heap.objs.size = s.heap.objs.size + 1 ∨ s.heap.objs.size = l := by simpa using hm
          rcases e with e | e
          · exact absurd e (Nat.ne_of_lt (Nat.lt_succ_self _))
          · exact absurd e (Nat.ne_of_gt lS)
        have hz : xs.length = its.size := by rw [← StrsAre.len_eq hi, Array.length_toList]
        have hv : ∀ (i : Nat) (v : Value), its[i]? = some v → ∃ t, v = .str (xs.getD i Str.empty) t := fun i v q => SS.strs_at hi i v (by rw [Array.getElem?_toList]; exact q)
        refine loop ((Walks.list h3 _ l nI its).toS) s.heap.objs.size nS xs hz (by rw [← hz]; exact hb) hv (its.size - 0) 0 _ (by omega) (Nat.zero_le _) ⟨⟨_, Heap.get?_push_size _ rfl, rfl, rfl⟩, (hl1.push _)⟩ ?hS0 ?hR
        case hS0 =>
          exact PyProof.Rows.SetOf_congr ((PyProof.Rows.setObjOf_fresh (knd := PySem.strKind prog w) led).setOf (Heap.get?_push_of_some _ gS) (by unfold scanBound; omega)) (fun _ => rfl) rfl
        case hR =>
          intro t mv hS'
          obtain ⟨g, g', d', tk', os'⟩ := t
          have eg : g' = s.gens := mv.gens
          have ed : d' = s.drawn := mv.drawn
          have eo : os' = s.os := mv.os
          subst eg ed eo
          show wpAny _ _ _ _ _ _
          refine wpAny_pure ?_
          show wpAny _ _ (ret Value.none) _ _ _
          refine wpAny_pure ⟨rfl, g, tk', rfl, hS', fun b o hb e => ?_⟩
          have b1 : b ≠ s.heap.objs.size := Nat.ne_of_lt hb
          have b2 : b ≠ (fr0 s.heap led).objs.size := by rw [Heap.size_push]; exact Nat.ne_of_lt (Nat.lt_succ_of_lt hb)
          refine mv.heap b o (fun hm => ?_) (Heap.get?_push_of_some _ (Heap.get?_push_of_some _ e))
          have e' : b = s.heap.objs.size ∨ b = (fr0 s.heap led).objs.size := by simpa using hm
          rcases e' with e' | e'
          · exact b1 e'
          · exact b2 e'
      · cases r2 with
        | error e => exact hr2
        | ok fl2 =>
          cases fl2 with
          | ret r =>
            obtain ⟨rfl, g, tk, rfl, hS', hk⟩ := hr2
            repeat (any_goals (first | assumption | wp_step))
            exact k _ _ hS' hk
          | _ => exact hr2.elim
    | _ => exact hr.elim
end
def tLenSetS (K : PySem.W.Frag) (ta : TE) : TE := fun σ H Q => ta σ H fun x H1 => ∃ (l : Addr) (xs : List Str), x = .ref l ∧ SqL K H1 l (xs.map V.str) ∧ xs.length ≤ 1000 ∧ Q (.int (dc xs xs.length : Nat)) H1
theorem pe_lenSetS {X : Cx} {a : Expr} {ta : TE} {p p2 q pos : Pos} (hc : X.calm = true) (hg : Gl X "len") (hm : X.mg "len" = none) (hg2 : Gl X "set") (hm2 : X.mg "set" = none) (ha : PE X a ta)
    (na : starEach [a] X.env = (false, eval a X.env) :: starEach [] X.env := by rfl) : PE X (.Call (.Name "len" p) [.Call (.Name "set" p2) [a] [] q] [] pos) (tLenSetS X.K ta) := by
  refine ⟨fun pins s σ H Q I h => ?_⟩
  refine Call_ (ld_blt I hg hm boot_len ?_); refine PyProof.Rows.callWith_builtin1 (PyProof.Rows.args_cons ?_ rfl) rfl rfl
  refine Call_ (ld_blt I hg2 hm2 boot_set ?_); refine PyProof.Rows.callWith_type1 (PyProof.Rows.args_cons (thn (ha.run pins s σ H _ I h) fun v s1 ⟨x, H1, I1, r1, q1⟩ => PyProof.Rows.args_nil ?_) na) na rfl
  obtain ⟨l, xs, rfl, hq, hb, q1⟩ := q1
  cases r1
  obtain ⟨its, r, pl, hz⟩ := I1.list hq
  have hl : its.toArray.size = xs.length := by rw [List.size_toArray, ← r.length, List.length_map]
  refine callSet (I1.ok.hd hc) pl.isList (by simpa using strsAre_of r) hb fun g tk hS hk => ?_
  refine PyProof.Rows.args_nil ?_
  rw [hl] at hS
  obtain ⟨o, es, ep, t, ho, hex, hd, _, _, _, hf, hn⟩ := hS
  have I2 : Inv X pins σ H1 { s1 with heap := g, toks := tk } := I1.kept fun b o e => hk b o (Heap.lt_size e) e
  have hd' := dc_le xs xs.length
  exact call_len_set ho hex hd hf (by rw [hn] <;> omega) ⟨.int (dc xs xs.length : Nat), H1, I2.tok _, ⟨_, by rw [hn]⟩, q1⟩
end Ps
namespace Pk
open PySem PySem.Spec PyProof.Rows L2 Ps
theorem wd_lenSetS {K : Kw} {m : Bool} {Γ : List Sl} {Q : PyData → Prop} {te : TE} (h : WD K false Γ te fun d => ∃ xs : List Str, d = .list (xs.map PyData.str) ∧ xs.length ≤ 1000 ∧ Q (.int (dc xs xs.length : Nat))) : WD K m Γ (tLenSetS K te) Q := fun X hK F H σ E C k => by
  subst hK
  refine h X rfl F H σ E _ fun v F1 H1 d l1 E1 r ⟨xs, e, hb, q⟩ => ?_
  subst e
  cases r with
  | lst ha ra => exact ⟨_, xs, rfl, by rw [← strs_of ra]; exact SqL.of (E1.le _ _ ha), hb, k _ F1 H1 _ l1 E1 (.int _) q⟩
end Pk
end
section
set_option Elab.async false
set_option linter.all false
set_option maxRecDepth 100000
namespace Pk
open PySem PySem.Spec PyProof.Rows L2
theorem Bs.ff_dct {X : Bs} {F : Hp} {m : Bool} {a : Addr} {kvs : List (Key × V)} (h : F a = some (.dK kvs)) : X.ff F m a = some (.dK kvs) := by
  cases m with
  | false => exact h
  | true =>
    show cutN X.N F a = _
    unfold cutN
    rw [h]
theorem En.newD {X : Bs} {Γ : List Sl} {m : Bool} {F H : Hp} {σ : L2.St} (E : En X F H σ Γ) {p : Addr} {kvs : List (Key × V)} (hp : H p = none) {ds : List (PyData × PyData)} (t : flatDs ds = true → kvs.map kvD = ds) : Le F (upd F p (.dK kvs)) ∧ En X (upd F p (.dK kvs)) (upd H p (.dK kvs)) σ Γ ∧ Rp X.K (X.ff (upd F p (.dK kvs)) m) (.ref p) (.dict ds) :=
  ⟨Le.up (E.le.nn hp), E.alloc hp, .dct (Bs.ff_dct upd_same) t⟩
section
variable {K : Kw} {m : Bool} {Γ : List Sl} {Q : PyData → Prop} {te : TE}
theorem wd_dict0 (ds : List (PyData × PyData)) (q : Q (.dict ds)) (t : flatDs ds = true → ([] : List (PyData × PyData)) = ds := by intro _; rfl) : WD K m Γ tDNewK Q := fun X hK F H σ E C k => fun p hp => by
  subst hK
  obtain ⟨a, b, c⟩ := E.newD (m := m) (kvs := []) hp (ds := ds) t
  exact k _ _ _ _ a b c q
end
section
variable {K : Kw} {Γ : List Sl} {W : XW} {ex : Value → Option Fs → List Sl → Prop} {T : List Sl → (Sl → Prop) → XQ → Prop} {Q : Sl → Prop} {ta tb tc : TE} {r : R2}
end
end Pk
end
section
set_option Elab.async false
set_option linter.all false
set_option maxRecDepth 100000
namespace Pk
open PySem PySem.Spec PyProof.Rows L2
section
variable {K : Kw} {m : Bool} {Γ : List Sl} {P : Po} {te : TE} {ta : TA} {QI : List PyData → Prop}
end
end Pk
end
section
set_option Elab.async false
set_option linter.all false
set_option maxRecDepth 100000
namespace Pk
open PySem PySem.Spec PyProof.Rows L2
/-- what __init__(self, f): self.f = f promises -/
def spIni (K : PySem.W.Frag) (C : Addr) (f : Str) : Sp := fun vs H Q _ => ∃ (a : Addr) (y : V), vs = [.ref a, y] ∧ H a = some (exo a C none) ∧ ∀ dx, H dx = none → dx ≠ a → Q .non (upd (upd H dx (exd dx [(f, y)])) a (exo a C (some dx)))
section
variable {K : Kw} {m : Bool} {Γ : List Sl} {P : Po} {te : TE} {Q : PyData → Prop}
end
/-- such a class, as the top tells it -/
structure IniT (P : Program) (w : World) (K : PySem.W.Frag) (mg : Str → Option Value) (base : Heap) (k : Nat) (x : Str) (C : Addr) (f : Str) : Prop where
  g : mg x = some (.ref C)
  o : OexC K C
  i : ∃ (fI : Addr) (fd : FuncData), PySem.W.findIn K (.ref C) "__init__" = some (some (.ref fI)) ∧ PySem.W.typeIn K (.ref fI) = some (.type "function") ∧ FnOk P w K mg base CX0 k fI fd ["self", f] (spIni K C f) ∧ Binds K fd ["self", f] []
section
variable {X : Cx} {W : XW} {x f : Str} {C : Addr} {k : Nat} {e : Expr} {te : TE} {p pos pos' : Pos}
end
end Pk
end
section
set_option Elab.async false
set_option linter.all false
set_option maxRecDepth 100000
namespace Pk
open PySem PySem.Spec PyProof.Rows L2
/-- such a class, as the head tells it -/
structure IniD (K : PySem.W.Frag) (mg : Str → Option Value) (x : Str) (C : Addr) (qual f : Str) (st : Stmt) : Prop where
  g : mg x = some (.ref C)
  o : OexC K C
  n : PySem.W.findIn K (.ref C) f = some none
  x : XfC K C
  c : ExcC K C
  i : ∃ (fI : Addr) (fd : FuncData), PySem.W.findIn K (.ref C) "__init__" = some (some (.ref fI)) ∧ PySem.W.typeIn K (.ref fI) = some (.type "function") ∧ Fun K "__init__" qual st fI fd ∧ Binds K fd ["self", f] []
section
variable {P : Program} {K : Kw} {mg : Str → Option Value} {base : Heap}
end
section
variable {K : Kw} {m : Bool} {Γ : List Sl} {P : Po} {Q : PyData → Prop}
end
section
variable {K : Kw} {m : Bool} {Γ : List Sl} {Q : PyData → Prop}
end
section
variable {K : Kw} {m : Bool} {Γ : List Sl} {Q : PyData → Prop}
end
section
variable {K : Kw} {m : Bool} {W : XW} {ex : Value → Option Fs → List Sl → Prop} {Γ : List Sl} {Q : Sl → Prop} {ta tb : TE} {r : R2}
end
end Pk
end
section
set_option Elab.async false
set_option linter.all false
set_option maxRecDepth 100000
namespace Pk
open PySem PySem.Spec PyProof.Rows L2
section
variable {K : Kw} {m : Bool} {Γ : List Sl} {Q : PyData → Prop} {QX : Sl → Prop} {ta : TE}
end
end Pk
end
section
set_option Elab.async false
set_option linter.all false
set_option maxRecDepth 100000
namespace PkI
open PySem PySem.W PySem.Spec PySem.Calls PyProof.Rows
section
variable {prog : Program} {w : World} {A : Around} {E : Value → Shared → Prop} {s : Shared} {K : Frag} {x D : Addr} {ox : Obj} {od : Option Obj}
end
end PkI
namespace Pk
open PySem PySem.Spec PyProof.Rows L2
section
variable {K : Kw} {m : Bool} {Γ : List Sl} {Q : PyData → Prop}
end
section
variable {K : Kw} {m : Bool} {Γ : List Sl} {Q : PyData → Prop}
end
section
variable {K : Kw} {m : Bool} {Γ : List Sl} {Q : PyData → Prop}
end
end Pk
end
section
set_option Elab.async false
set_option linter.all false
set_option maxRecDepth 100000
namespace Pk
open PySem PySem.Spec PyProof.Rows L2 Pz
section
variable {K : Kw} {m : Bool} {Γ : List Sl} {Q : PyData → Prop} {te ti : TE} {tr : TA}
end
/-- an expression that may change an own list -/
def WDg (K : Kw) (m : Bool) (Γ : List Sl) (t : TE) (Q : PyData → List Sl → Prop) : Prop := ∀ X : Bs, X.K = K → ∀ F H σ, En X F H σ Γ → ∀ C : VK,
  (∀ v F' H' d Γ', Le F F' → En X F' H' σ Γ' → Rp K (X.ff F' m) v d → Q d Γ' → C v H') → t σ H C
section
variable {K : Kw} {Γ : List Sl} {g : TG} {wi : TI} {te : TE} {vs : List Nat} {P : Po}
end
end Pk
end
section
set_option Elab.async false
set_option linter.all false
set_option maxRecDepth 100000
namespace Pk
open PySem PySem.Spec PyProof.Rows L2
section
variable {K : Kw} {Γ : List Sl} {P : Po}
end
end Pk
end
section
set_option Elab.async false
set_option linter.all false
set_option maxRecDepth 100000
namespace Pk
open PySem PySem.Spec PyProof.Rows L2
mutual
theorem data_inj : ∀ (a b : NestedKey), a.data = b.data → a = b
  | .none, b, h => by cases b <;> first | rfl | (simp [NestedKey.data] at h)
  | .num i, b, h => by
    cases b with
    | num j => simp [NestedKey.data] at h; rw [h]
    | _ => simp [NestedKey.data] at h
  | .text i, b, h => by
    cases b with
    | text j => simp [NestedKey.data] at h; rw [h]
    | _ => simp [NestedKey.data] at h
  | .tup xs, b, h => by
    cases b with
    | tup ys => simp [NestedKey.data] at h; rw [datas_inj xs ys h]
    | _ => simp [NestedKey.data] at h
theorem datas_inj : ∀ (a b : List NestedKey), NestedKey.datas a = NestedKey.datas b → a = b
  | [], b, h => by
    cases b with
    | nil => rfl
    | cons _ _ => simp [NestedKey.datas] at h
  | x :: xs, b, h => by
    cases b with
    | nil => simp [NestedKey.datas] at h
    | cons y ys =>
      simp [NestedKey.datas] at h
      rw [data_inj x y h.1, datas_inj xs ys h.2]
end
theorem nds_inj : ∀ {a b : NDs}, (a.map fun x => (x.1.data, x.2)) = (b.map fun x => (x.1.data, x.2)) → a = b
  | [], [], _ => rfl
  | [], _ :: _, h => by simp at h
  | _ :: _, [], h => by simp at h
  | (k, d) :: a, (k', d') :: b, h => by
    simp only [List.map_cons, List.cons.injEq, Prod.mk.injEq] at h
    rw [data_inj _ _ h.1.1, h.1.2, nds_inj h.2]
theorem Rp.dictN_inv {K : Kw} {F : Hp} {v : V} {ds : NDs} (h : Rp K F v (dictN ds)) : ∃ a ep es, v = .ref a ∧ F a = some (dN K.w a ep es) ∧ RpD K F es ds := by
  rcases h.dict_inv with ⟨a, kvs, rfl, ha, t⟩ | ⟨a, ep, es, ds', rfl, ez, ha, r⟩ | ⟨_, _, _, _, _, ez, _⟩ | ⟨_, _, _, _, ez, _⟩
  · have e := t rfl
    cases kvs with
    | nil => cases e
    | cons p q =>
      obtain ⟨k, u⟩ := p
      cases k <;> simp [kvD, kD] at e
  · simp only [List.cons.injEq, true_and] at ez
    rw [nds_inj ez]
    exact ⟨a, ep, es, rfl, ha, r⟩
  · simp at ez
  · simp at ez

def nval (kvs : NEs) (k : NestedKey) : Option V := (kvs.find? fun x => decide (x.1 = k)).map (·.2.2)
def nput (kvs : NEs) (k : NestedKey) (b : Addr) (v : V) : NEs := if (nval kvs k).isSome then kvs.map (fun x => if x.1 = k then (x.1, x.2.1, v) else x) else kvs ++ [(k, b, v)]
abbrev NP (kvs : NEs) (xs : List (NestedKey × Addr × Value)) : Prop := Paired (fun (p : NestedKey × Addr × V) (q : NestedKey × Addr × Value) => p.1 = q.1 ∧ p.2.1 = q.2.1 ∧ RelV p.2.2 q.2.2) kvs xs
theorem nval_pos {p : NestedKey × Addr × V} {r : NEs} {k : NestedKey} (e : p.1 = k) : nval (p :: r) k = some p.2.2 := by simp [nval, List.find?_cons, e]
theorem nval_neg {p : NestedKey × Addr × V} {r : NEs} {k : NestedKey} (e : ¬ p.1 = k) : nval (p :: r) k = nval r k := by simp [nval, List.find?_cons, e]
theorem NP.val {kvs : NEs} {xs : List (NestedKey × Addr × Value)} (r : NP kvs xs) (k : NestedKey) : RelO (nval kvs k) ((atKey xs k).map (·.2)) := by
  induction r with
  | nil => exact True.intro
  | @cons p q ps qs h t ih =>
    obtain ⟨h1, _, h2⟩ := h
    by_cases e : p.1 = k
    · have e' : q.1 = k := h1.symm.trans e
      have b : atKey (q :: qs) k = some q.2 := by simp [atKey, List.find?_cons, e']
      rw [nval_pos e, b]; exact h2
    · have e' : ¬ q.1 = k := fun z => e (h1.trans z)
      have b : atKey (q :: qs) k = atKey qs k := by simp [atKey, List.find?_cons, e']
      rw [nval_neg e, b]; exact ih
theorem NP.repl {kvs : NEs} {xs : List (NestedKey × Addr × Value)} (r : NP kvs xs) (k : NestedKey) {y : V} {u : Value} (ry : RelV y u) :
    NP (kvs.map fun x => if x.1 = k then (x.1, x.2.1, y) else x) (xs.map (putAt k u)) := by
  induction r with
  | nil => exact .nil
  | @cons p q ps qs h t ih =>
    rw [List.map_cons, List.map_cons]
    refine .cons ?_ ih
    obtain ⟨h1, h2, h3⟩ := h
    unfold putAt
    by_cases e : p.1 = k
    · rw [if_pos e, if_pos (h1.symm.trans e)]; exact ⟨h1, h2, ry⟩
    · rw [if_neg e, if_neg (fun z => e (h1.trans z))]; exact ⟨h1, h2, h3⟩
theorem NP.put {kvs : NEs} {xs : List (NestedKey × Addr × Value)} (r : NP kvs xs) (k : NestedKey) {b : Addr} {y : V} {u : Value} (ry : RelV y u) : NP (nput kvs k b y) (storedH xs k b u) := by
  have e : (nval kvs k).isSome = (atKey xs k).isSome := by rw [(r.val k).isSome_eq, Option.isSome_map]
  unfold nput storedH
  rw [e]
  by_cases q : (atKey xs k).isSome = true
  · rw [if_pos q, if_pos q]; exact r.repl k ry
  · rw [if_neg q, if_neg q]; exact Paired.snoc r ⟨rfl, rfl, ry⟩
/-- the keys' tuples stand -/
def NKeys (K : PySem.W.Frag) (H : Hp) (kvs : NEs) : Prop := ∀ x ∈ kvs, Dp K H (.ref x.2.1) x.1.data
section
variable {X : Cx} {pins : List (Addr × Obj)} {σ : L2.St} {H : Hp} {s : Shared} {a b : Addr} {ep : Nat} {kvs : NEs} {k : NestedKey}
end
section
variable {X : Cx} {pins : List (Addr × Obj)} {σ : L2.St} {H : Hp} {s : Shared} {a : Addr} {y v : V} {u r : Value} {o : Option V} {A : Around} {E : Value → Shared → Prop}
end
section
variable {X : Cx} {o i e f value : Expr} {pos pos' tpos apos cpos : Pos} {td ty tv tx tk : TE}
end

section
variable {prog : Program} {w : World} {K : Type} [DecidableEq K] {knd : HeapKind prog w K} {A : Around} {E : Value → Shared → Prop} {s : Shared}
end

section
variable {X : Cx} {pos : Pos} {tk tv : TE} {k v : Expr}
end
section
variable {P : Program} {w w0 : World} {K : PySem.W.Frag} {tg : Expr} {d : Addr} {ep : Nat} {kvs : NEs}
end
section
variable {X : Cx} {tg e : Expr} {td : TE} {apos cpos : Pos}
end
end Pk
end
section
set_option Elab.async false
set_option linter.all false
set_option maxRecDepth 100000
namespace Pk
open PySem PySem.Spec PyProof.Rows L2
open PySem.W (KdlSrc)
section
variable {prog : Program} {w : World} {A : Around} {E : Value → Shared → Prop} {s : Shared} {T : String} {r d : Addr} {n : Nat} {P : Nat → Value → Prop} {OK : Heap → Prop}
end
section
variable {X : Cx}
end
end Pk
end
section
set_option Elab.async false
set_option linter.all false
set_option maxRecDepth 100000
namespace Pk
open PySem PySem.Spec PyProof.Rows L2
def dval (ds : NDs) (k : NestedKey) : Option PyData := (ds.find? fun x => decide (x.1 = k)).map (·.2)
def dput (ds : NDs) (k : NestedKey) (d : PyData) : NDs := if (dval ds k).isSome then ds.map (fun x => if x.1 = k then (x.1, d) else x) else ds ++ [(k, d)]
mutual
theorem Rp.dpK {K : Kw} {F : Hp} : ∀ (k : NestedKey) {v : V}, Rp K F v k.data → Dp K F v k.data
  | .none, _, h => by have h' : Rp K F _ .none := h; cases h'; exact .non
  | .num i, _, h => by have h' : Rp K F _ (.int i) := h; cases h'; exact .int _
  | .text x, _, h => by have h' : Rp K F _ (.str x) := h; cases h'; exact .str _
  | .tup ks, _, h => by
    have h' : Rp K F _ (.tuple (NestedKey.datas ks)) := h
    cases h' with
    | tup a b => exact .tup a (RpA.dpK ks b)
theorem RpA.dpK {K : Kw} {F : Hp} : ∀ (ks : List NestedKey) {vs : List V}, RpA K F vs (NestedKey.datas ks) → DpAll K F vs (NestedKey.datas ks)
  | [], _, h => by have h' : RpA K F _ [] := h; cases h'; exact .nil
  | k :: ks, _, h => by
    have h' : RpA K F _ (k.data :: NestedKey.datas ks) := h
    cases h' with
    | cons a b => exact .cons (Rp.dpK k a) (RpA.dpK ks b)
end
section
variable {K : Kw} {F F' H : Hp} {es : NEs} {ds : NDs}
theorem RpD.length (r : RpD K F es ds) : es.length = ds.length := by
  induction es generalizing ds with
  | nil => cases r; rfl
  | cons e es ih => cases r with
    | cons a b c => simp [ih c]
theorem RpD.keys (le : Le F H) (r : RpD K F es ds) : NKeys K H es := by
  induction es generalizing ds with
  | nil => exact fun x hx => nomatch hx
  | cons e es ih => cases r with
    | cons a b c =>
      intro x hx
      rcases List.mem_cons.mp hx with rfl | hx
      · exact Rp.dpK _ (a.mono le)
      · exact ih c x hx
theorem RpD.vSome {k : NestedKey} {d : PyData} (r : RpD K F es ds) (h : dval ds k = some d) : ∃ v, nval es k = some v ∧ Rp K F v d := by
  induction es generalizing ds with
  | nil => cases r; cases h
  | cons e es ih => cases r with
    | @cons k' b v d' _ ds a b' c =>
      by_cases e : k' = k
      · subst e
        have : dval ((k', d') :: ds) k' = some d' := by simp [dval]
        rw [this] at h
        cases h
        exact ⟨v, nval_pos rfl, b'⟩
      · have : dval ((k', d') :: ds) k = dval ds k := by simp [dval, List.find?_cons, e]
        rw [this] at h
        rw [nval_neg e]
        exact ih c h
theorem RpD.vNone {k : NestedKey} (r : RpD K F es ds) (h : dval ds k = none) : nval es k = none := by
  induction es generalizing ds with
  | nil => rfl
  | cons e es ih => cases r with
    | @cons k' b v d' _ ds a b' c =>
      by_cases e : k' = k
      · subst e
        have : dval ((k', d') :: ds) k' = some d' := by simp [dval]
        rw [this] at h
        cases h
      · have : dval ((k', d') :: ds) k = dval ds k := by simp [dval, List.find?_cons, e]
        rw [this] at h
        rw [nval_neg e]
        exact ih c h
theorem RpD.repl {k : NestedKey} {v : V} {d : PyData} (r : RpD K F es ds) (rv : Rp K F v d) : RpD K F (es.map fun x => if x.1 = k then (x.1, x.2.1, v) else x) (ds.map fun x => if x.1 = k then (x.1, d) else x) := by
  induction es generalizing ds with
  | nil => cases r; exact .nil
  | cons e es ih => cases r with
    | @cons k' b v' d' _ ds a b' c =>
      rw [List.map_cons, List.map_cons]
      by_cases e : k' = k
      · rw [if_pos e, if_pos e]
        exact .cons a rv (ih c)
      · rw [if_neg e, if_neg e]
        exact .cons a b' (ih c)
theorem RpD.app {es' : NEs} {ds' : NDs} (r : RpD K F es ds) (r' : RpD K F es' ds') : RpD K F (es ++ es') (ds ++ ds') := by
  induction es generalizing ds with
  | nil => cases r; exact r'
  | cons e es ih => cases r with
    | cons a b c => exact .cons a b (ih c)
theorem RpD.put {k : NestedKey} {b : Addr} {v : V} {d : PyData} (r : RpD K F es ds) (rb : Rp K F (.ref b) k.data) (rv : Rp K F v d) : RpD K F (nput es k b v) (dput ds k d) := by
  have e : (nval es k).isSome = (dval ds k).isSome := by
    cases h : dval ds k with
    | none => rw [r.vNone h]; rfl
    | some x => obtain ⟨u, hu, _⟩ := r.vSome h; rw [hu]; rfl
  unfold nput dput
  rw [e]
  split
  · exact r.repl rv
  · exact r.app (.cons rb rv .nil)
theorem RpD.get (r : RpD K F es ds) {i : Nat} {k : NestedKey} {b : Addr} {v : V} (h : es[i]? = some (k, b, v)) : ∃ d, ds[i]? = some (k, d) ∧ Rp K F (.ref b) k.data ∧ Rp K F v d := by
  induction es generalizing ds i with
  | nil => simp at h
  | cons e es ih => cases r with
    | cons a b c =>
      cases i with
      | zero => simp at h; obtain ⟨rfl, rfl, rfl⟩ := h; exact ⟨_, rfl, a, b⟩
      | succ i => exact ih c (by simpa using h)
end
section
variable {K : Kw} {m : Bool} {Γ : List Sl} {Q : PyData → Prop} {QX : Sl → Prop} {te ti tx td : TE}
end
section
variable {K : Kw} {m : Bool} {Γ : List Sl} {Q : PyData → Prop} {QX : Sl → Prop} {te ti tx td : TE} {P : Po}
end
end Pk
end
section
set_option Elab.async false
set_option linter.all false
set_option maxRecDepth 100000
namespace Pk
open PySem PySem.Spec PyProof.Rows L2
section
variable {K : Kw} {m : Bool} {Γ : List Sl} {Q : PyData → Prop} {QX : Sl → Prop} {te ti tx td tk : TE} {P : Po}
end
end Pk
end
section
set_option Elab.async false
set_option linter.all false
set_option maxRecDepth 100000
namespace Pk
open PySem PySem.Spec PyProof.Rows L2
section
variable {K : Kw} {m : Bool} {Γ : List Sl} {Q : PyData → Prop} {QX : Sl → Prop}
end
end Pk
end
section
set_option Elab.async false
set_option linter.all false
set_option maxRecDepth 100000
namespace Pk
open PySem PySem.Spec PyProof.Rows L2
/-- the same but for what is told of things of one's own -/
def Alk (Γ Ξ : List Sl) : Prop := Ξ.length = Γ.length ∧ ∀ (i : Nat), (∃ v Φ Φ', Γ[i]? = some (.ex v Φ) ∧ Ξ[i]? = some (.ex v Φ')) ∨ ((∀ v Φ, Γ[i]? ≠ some (.ex v Φ)) ∧ Ξ[i]? = Γ[i]?)
theorem Alk.same {Γ Ξ : List Sl} (h : Alk Γ Ξ) {i : Nat} {s : Sl} (e : Ξ[i]? = some s) (n : ∀ v Φ, s ≠ .ex v Φ) : Γ[i]? = some s := by
  rcases h.2 i with ⟨v, Φ, Φ', _, z⟩ | ⟨_, z⟩
  · rw [e] at z; injection z with z; exact absurd z (n v Φ')
  · rw [← z]; exact e
section
variable {P : Program} {K : Kw} {mg : Str → Option Value} {base : Heap}
end
section
variable {K : Kw} {m : Bool} {Γ : List Sl} {T : List Sl → (List Sl → Sl → Prop) → Prop} {EE : XK} {tr : TA} {te : TE} {P : Po}
end
end Pk
end
section
set_option Elab.async false
set_option linter.all false
set_option maxRecDepth 100000
namespace Pk
open PySem PySem.Spec PyProof.Rows L2
open PySem.W (KdlSrc)
section
variable {prog : Program} {w : World} {A : Around} {E : Value → Shared → Prop} {s : Shared} {T : String} {r d : Addr} {n : Nat} {P : Nat → Value → Prop} {OK : Heap → Prop}
end
section
variable {X : Cx} {e : Expr} {td : TE} {apos cpos p0 pos : Pos}
end
section
variable {K : Kw} {m : Bool} {Γ : List Sl} {Q : PyData → Prop} {td : TE}
end
end Pk
end
section
set_option Elab.async false
set_option linter.all false
set_option maxRecDepth 100000
namespace Pk
open PySem PySem.Spec PyProof.Rows L2
section
variable {K : Kw} {m : Bool} {Γ : List Sl} {Q : PyData → Prop} {QX : Sl → Prop} {te ti tx td tk : TE} {P : Po}
end
end Pk
end
section
set_option Elab.async false
set_option linter.all false
set_option maxRecDepth 100000
namespace Pk
open PySem PySem.Spec PyProof.Rows L2
section
variable {K : Kw} {m : Bool} {Γ : List Sl} {Q : PyData → Prop} {QX : Sl → Prop} {W : XW} {ex : Value → Option Fs → List Sl → Prop} {T : List Sl → (Sl → Prop) → XQ → Prop} {ta tb tc te : TE} {tt : TT} {g : TG} {vs : List Nat} {a : V} {P : Po}
/-- a call that may raise, where it does not -/
theorem WXw.good (h : WXw K W (fun _ _ _ => False) Γ te QX) : WX K Γ te QX := fun X hK F H σ E C k => h X hK (fun _ _ _ _ _ _ _ _ _ z => z.elim) F H σ E C k
end
end Pk
end
section
set_option Elab.async false
set_option linter.all false
set_option maxRecDepth 100000
namespace Pk
open PySem PySem.Spec PyProof.Rows L2
section
variable {K : Kw} {m : Bool} {Γ : List Sl} {Q : PyData → Prop} {QX : Sl → Prop} {t : TE}
end
end Pk
end
section
set_option Elab.async false
set_option linter.all false
set_option maxRecDepth 100000
namespace Pk
open PySem PySem.Spec PyProof.Rows L2
section
variable {K : Kw} {m : Bool} {Γ : List Sl} {P : Po} {te : TE} {ta : TA} {QI : List PyData → Prop} {Q : PyData → Prop}
end
end Pk
end
section
set_option Elab.async false
set_option linter.all false
set_option maxRecDepth 100000
namespace Pk
open PySem PySem.Spec PyProof.Rows L2
section
variable {K : Kw} {Γ : List Sl} {P : Po} {te : TE} {ts : TS}
end
end Pk
end
section
set_option Elab.async false
set_option linter.all false
set_option maxRecDepth 100000
namespace Pk
open PySem PySem.Spec PyProof.Rows L2
section
variable {K : Kw} {m : Bool} {Γ : List Sl} {N : List Sl → Prop}
end
end Pk
end
section
set_option Elab.async false
set_option linter.all false
set_option maxRecDepth 100000
set_option pp.maxSteps 1000
namespace Pk
open PySem PySem.Spec PyProof.Rows L2
open PySem.W (DilG)
section
variable {X : Cx} {pins : List (Addr × Obj)} {σ : L2.St} {H : Hp} {s : Shared}
end
section
open PySem.W (EachIs keyToks keyToksAll alike dataLt SortsAt)
variable {prog : Program} {w : World} {A : Around} {E : Value → Shared → Prop} {s : Shared}
abbrev Pr3 := Value × PyData × PyData
structure PrOk (h : Heap) (u : Nat) (bs : List Pr3) : Prop where
  rd : ∀ p ∈ bs, ∃ as, Reads h p.1 (.tuple [p.2.1, p.2.2]) as
  one : ∀ p ∈ bs, ∀ q ∈ bs, p.1 = q.1 → p = q
  key : ∀ p ∈ bs, ∀ q ∈ bs, p = q ∨ (alike p.2.1 q.2.1 = true ∧ PyData.eqv p.2.1 q.2.1 = false)
  self : ∀ p ∈ bs, alike p.2.1 p.2.1 = true ∧ alike p.2.2 p.2.2 = true
  tup : ∀ p ∈ bs, ∃ xs, p.2.1 = .tuple xs
  dep : ∀ p ∈ bs, u + 1 + p.2.1.depth < cLine ∧ u + 1 + p.2.2.depth < cLine
end
/-- items that can be sorted by their keys -/
structure NSrt (K : PySem.W.Frag) (H : Hp) (kvs : NEs) (vds : List PyData) : Prop where
  keys : NKeys K H kvs
  vals : DpAll K H (kvs.map fun x => x.2.2) vds
  len : vds.length = kvs.length
  nd : (kvs.map fun x => x.1).Nodup
  al : ∀ x ∈ kvs, ∀ y ∈ kvs, PySem.W.alike x.1.data y.1.data = true
  ne : ∀ x ∈ kvs, ∀ y ∈ kvs, x.1 ≠ y.1 → PyData.eqv x.1.data y.1.data = false
  tup : ∀ x ∈ kvs, ∃ ks, x.1 = .tup ks
  kd : ∀ x ∈ kvs, x.1.data.depth ≤ 50
  va : ∀ d ∈ vds, PySem.W.alike d d = true
  vd : ∀ d ∈ vds, d.depth ≤ 50
section
variable {X : Cx} {pins : List (Addr × Obj)} {σ : L2.St} {H : Hp} {s : Shared}
end
section
variable {X : Cx} {e : Expr} {td : TE} {apos cpos p0 pos : Pos}
abbrev B3 := Addr × (NestedKey × Addr × V) × PyData
def b3 (b : B3) : Pr3 := (.ref b.1, b.2.1.1.data, b.2.2)
end
end Pk
end
section
set_option Elab.async false
set_option linter.all false
set_option maxRecDepth 100000
set_option pp.maxSteps 1000
namespace Pk
open PySem PySem.Spec PyProof.Rows L2
section
variable {K : Kw} {F F' H : Hp}
end
/-- pairs that can be sorted by their first ones -/
structure DSrt (ds : NDs) : Prop where
  nd : (ds.map fun x => x.1).Nodup
  al : ∀ x ∈ ds, ∀ y ∈ ds, PySem.W.alike x.1.data y.1.data = true
  ne : ∀ x ∈ ds, ∀ y ∈ ds, x.1 ≠ y.1 → PyData.eqv x.1.data y.1.data = false
  tup : ∀ x ∈ ds, ∃ ks, x.1 = .tup ks
  kd : ∀ x ∈ ds, x.1.data.depth ≤ 50
  vc : PyData.canLayAll0 (ds.map fun x => x.2) = true
  va : ∀ x ∈ ds, PySem.W.alike x.2 x.2 = true
  vd : ∀ x ∈ ds, x.2.depth ≤ 50
section
variable {K : Kw} {Γ : List Sl} {td : TE} {QX : Sl → Prop}
end
section
section
variable {X : Cx} {pins : List (Addr × Obj)} {σ : L2.St} {H : Hp} {s : Shared}
end
section
variable {K : Kw} {Γ : List Sl} {te : TE} {QX : Sl → Prop} {Q : PyData → Prop}
end
end
end Pk
end
section
set_option Elab.async false
set_option linter.all false
set_option maxRecDepth 100000
set_option pp.maxSteps 1000
namespace Pk
open PySem PySem.Spec PyProof.Rows L2
section
variable {X : Cx} {o i value : Expr} {pos pos' : Pos} {td ty tv : TE}
end
section
variable {K : Kw} {m : Bool} {Γ : List Sl} {QI : List PyData → Prop} {Q : PyData → Prop} {P : Po} {td ti tx te : TE}
end
section
variable {K : Kw} {m : Bool} {Γ : List Sl} {Q : PyData → Prop}
end
end Pk
end
section
set_option Elab.async false
set_option linter.all false
set_option maxRecDepth 100000
set_option pp.maxSteps 1000
namespace Pk
open PySem PySem.Spec PyProof.Rows L2 Pz
section
variable {K : Kw} {m : Bool} {Γ : List Sl} {ta tb tc : TE} {QX : Sl → Prop}
end
end Pk
end
section
set_option Elab.async false
set_option linter.all false
set_option maxRecDepth 100000
set_option pp.maxSteps 1000
namespace Pk
open PySem PySem.Spec PyProof.Rows L2
section
variable {X : Cx} {pins : List (Addr × Obj)} {σ : L2.St} {H : Hp} {s : Shared} {a b : Addr} {ep : Nat} {kvs : List (Key × V)} {k : Key}
end
section
variable {X : Cx} {pins : List (Addr × Obj)} {σ : L2.St} {H : Hp} {s : Shared} {a : Addr} {y v : V} {u r : Value} {o : Option V} {A : Around} {E : Value → Shared → Prop}
end
section
variable {X : Cx} {o i e f value : Expr} {pos pos' tpos apos cpos : Pos} {td ty tv tx tk : TE}
end
section
variable {P : Program} {w w0 : World} {K : PySem.W.Frag} {tg : Expr} {d : Addr} {ep : Nat} {kvs : List (Key × V)}
end
section
variable {X : Cx} {tg e : Expr} {td : TE} {apos cpos : Pos}
end
end Pk
end
section
set_option Elab.async false
set_option linter.all false
set_option maxRecDepth 100000
set_option pp.maxSteps 1000
namespace Pk
open PySem PySem.Spec PyProof.Rows L2
section
variable {X : Cx} {pins : List (Addr × Obj)} {σ : L2.St} {H : Hp} {s : Shared} {a : Addr} {ep : Nat} {kvs : List (Key × V)} {y v : V} {u r : Value} {o : Option V} {A : Around} {E : Value → Shared → Prop}
end
section
variable {X : Cx} {o e f : Expr} {pos apos cpos : Pos} {t td ty tx : TE}
end
end Pk
end
section
set_option Elab.async false
set_option linter.all false
set_option maxRecDepth 100000
set_option pp.maxSteps 1000
namespace Pk
open PySem PySem.Spec PyProof.Rows L2
def fval (fs : FDs) (k : Key) : Option PyData := (fs.find? fun x => decide (x.1 = k)).map (·.2)
def fput (fs : FDs) (k : Key) (d : PyData) : FDs := if (fs.any fun x => decide (x.1 = k)) = true then fs.map (fun x => if x.1 = k then (x.1, d) else x) else fs ++ [(k, d)]
/-- entries and what they stand for -/
structure RpF (K : Kw) (F : Hp) (kvs : List (Key × V)) (fs : FDs) : Prop where
  ks : kvs.map (·.1) = fs.map (·.1)
  vs : RpA K F (kvs.map (·.2)) (fs.map (·.2))
section
variable {K : Kw} {F F' H : Hp}
theorem RpF.nil : RpF K F [] [] := ⟨rfl, .nil⟩
theorem RpF.mono {kvs : List (Key × V)} {fs : FDs} (r : RpF K F kvs fs) (e : Le F F') : RpF K F' kvs fs := ⟨r.ks, r.vs.mono e⟩
theorem RpF.length {kvs : List (Key × V)} {fs : FDs} (r : RpF K F kvs fs) : kvs.length = fs.length := by
  have := congrArg List.length r.ks
  rw [List.length_map, List.length_map] at this
  exact this
theorem RpF.unc {p : Key × V} {q : Key × PyData} {kvs : List (Key × V)} {fs : FDs} (r : RpF K F (p :: kvs) (q :: fs)) : p.1 = q.1 ∧ Rp K F p.2 q.2 ∧ RpF K F kvs fs := by
  obtain ⟨h1, h2⟩ := r
  rw [List.map_cons, List.map_cons] at h1 h2
  injection h1 with a b
  cases h2 with
  | cons x y => exact ⟨a, x, b, y⟩
theorem RpF.cons {p : Key × V} {q : Key × PyData} {kvs : List (Key × V)} {fs : FDs} (h : p.1 = q.1) (hv : Rp K F p.2 q.2) (r : RpF K F kvs fs) : RpF K F (p :: kvs) (q :: fs) :=
  ⟨by rw [List.map_cons, List.map_cons, h, r.ks], .cons hv r.vs⟩
theorem RpF.vSome {k : Key} {d : PyData} : ∀ {kvs : List (Key × V)} {fs : FDs}, RpF K F kvs fs → fval fs k = some d → ∃ v, valV kvs k = some v ∧ Rp K F v d
  | [], [], _, h => by simp [fval] at h
  | [], _ :: _, r, _ => by have := r.length; simp at this
  | _ :: _, [], r, _ => by have := r.length; simp at this
  | p :: kvs, q :: fs, r, h => by
    obtain ⟨a, b, c⟩ := r.unc
    by_cases e : q.1 = k
    · have : fval (q :: fs) k = some q.2 := by simp [fval, e]
      rw [this] at h
      cases h
      exact ⟨p.2, by simp [valV, a, e], b⟩
    · have : fval (q :: fs) k = fval fs k := by simp [fval, List.find?_cons, e]
      rw [this] at h
      obtain ⟨v, hv, rv⟩ := RpF.vSome c h
      refine ⟨v, ?_, rv⟩
      rw [← hv]
      simp [valV, List.find?_cons, a, e]
theorem RpF.vNone {k : Key} : ∀ {kvs : List (Key × V)} {fs : FDs}, RpF K F kvs fs → fval fs k = none → valV kvs k = none
  | [], [], _, h => rfl
  | [], _ :: _, r, _ => by have := r.length; simp at this
  | _ :: _, [], r, _ => by have := r.length; simp at this
  | p :: kvs, q :: fs, r, h => by
    obtain ⟨a, b, c⟩ := r.unc
    by_cases e : q.1 = k
    · have : fval (q :: fs) k = some q.2 := by simp [fval, e]
      rw [this] at h
      cases h
    · have : fval (q :: fs) k = fval fs k := by simp [fval, List.find?_cons, e]
      rw [this] at h
      rw [← RpF.vNone c h]
      simp [valV, List.find?_cons, a, e]
theorem RpF.anyK {k : Key} {kvs : List (Key × V)} {fs : FDs} (r : RpF K F kvs fs) : (kvs.any fun x => decide (x.1 = k)) = fs.any fun x => decide (x.1 = k) := by
  have e1 : (kvs.any fun x => decide (x.1 = k)) = (kvs.map (·.1)).any fun x => decide (x = k) := by rw [List.any_map]; rfl
  have e2 : (fs.any fun x => decide (x.1 = k)) = (fs.map (·.1)).any fun x => decide (x = k) := by rw [List.any_map]; rfl
  rw [e1, e2, r.ks]
theorem RpF.repl {k : Key} {v : V} {d : PyData} (hv : Rp K F v d) : ∀ {kvs : List (Key × V)} {fs : FDs}, RpF K F kvs fs → RpF K F (kvs.map fun x => if x.1 = k then (x.1, v) else x) (fs.map fun x => if x.1 = k then (x.1, d) else x)
  | [], [], _ => .nil
  | [], _ :: _, r => by have := r.length; simp at this
  | _ :: _, [], r => by have := r.length; simp at this
  | p :: kvs, q :: fs, r => by
    obtain ⟨a, b, c⟩ := r.unc
    rw [List.map_cons, List.map_cons]
    refine .cons ?_ ?_ (RpF.repl hv c)
    · rw [a]; split <;> simp [a]
    · rw [a]; split
      · exact hv
      · exact b
theorem RpF.snoc {k : Key} {v : V} {d : PyData} (hv : Rp K F v d) : ∀ {kvs : List (Key × V)} {fs : FDs}, RpF K F kvs fs → RpF K F (kvs ++ [(k, v)]) (fs ++ [(k, d)])
  | [], [], _ => .cons rfl hv .nil
  | [], _ :: _, r => by have := r.length; simp at this
  | _ :: _, [], r => by have := r.length; simp at this
  | p :: kvs, q :: fs, r => by
    obtain ⟨a, b, c⟩ := r.unc
    exact .cons a b (RpF.snoc hv c)
theorem RpF.put {k : Key} {v : V} {d : PyData} {kvs : List (Key × V)} {fs : FDs} (r : RpF K F kvs fs) (hv : Rp K F v d) : RpF K F (putK kvs k v) (fput fs k d) := by
  unfold putK fput
  rw [r.anyK]
  by_cases h : (fs.any fun x => decide (x.1 = k)) = true
  · rw [if_pos h, if_pos h]; exact r.repl hv
  · rw [if_neg h, if_neg h]; exact r.snoc hv
theorem RpF.get {kvs : List (Key × V)} {fs : FDs} (r : RpF K F kvs fs) {i : Nat} {k : Key} {v : V} (h : kvs[i]? = some (k, v)) : ∃ d, fs[i]? = some (k, d) ∧ Rp K F v d := by
  induction kvs generalizing fs i with
  | nil => simp at h
  | cons p kvs ih =>
    cases fs with
    | nil => have := r.length; simp at this
    | cons q fs =>
      obtain ⟨a, b, c⟩ := r.unc
      cases i with
      | zero =>
        simp at h
        subst h
        exact ⟨q.2, by simp; rw [show k = q.1 from a], b⟩
      | succ i =>
        obtain ⟨d, h1, h2⟩ := ih c (by simpa using h)
        exact ⟨d, by simpa using h1, h2⟩
end
section
variable {K : Kw} {m : Bool} {Γ : List Sl} {Q : PyData → Prop} {QX : Sl → Prop} {te ti tx td : TE}
end
section
variable {K : Kw} {m : Bool} {Γ : List Sl} {Q : PyData → Prop} {QX : Sl → Prop} {te ti tx td : TE} {P : Po}
end
end Pk
end
section
set_option Elab.async false
set_option linter.all false
set_option maxRecDepth 100000
set_option pp.maxSteps 1000
namespace Pk
open PySem PySem.Spec PyProof.Rows L2
section
variable {X : Cx} {pins : List (Addr × Obj)} {σ : L2.St} {H : Hp} {s : Shared} {d : Addr} {ep : Nat} {kvs : List (Key × V)}
end
section
variable {K : Kw} {m : Bool} {Γ : List Sl} {Q : PyData → Prop} {QX : Sl → Prop} {ta tb : TE}
end
end Pk
end
section
set_option Elab.async false
set_option linter.all false
set_option maxRecDepth 100000
set_option pp.maxSteps 1000
namespace Pk
open PySem PySem.Spec PyProof.Rows L2
section
variable {K : Kw} {m : Bool} {Γ : List Sl} {Q : PyData → Prop} {QX : Sl → Prop} {te : TE}
end
end Pk
end
section
set_option Elab.async false
set_option linter.all false
set_option maxRecDepth 100000
namespace Pk
open PySem PySem.Spec PyProof.Rows L2
/-- where a def stands that a global of another name holds -/
structure DefA (K : PySem.W.Frag) (mg : Str → Option Value) (x y : Str) (st : Stmt) (ps : List Str) : Prop where
  ex : ∃ f fd, mg x = some (.ref f) ∧ Fun K y y st f fd ∧ Binds K fd ps []
section
variable {P : Program} {K : Kw} {mg : Str → Option Value} {base : Heap}
end
end Pk
end
section
set_option Elab.async false
set_option linter.all false
set_option maxRecDepth 100000
set_option pp.maxSteps 1000
namespace Pk
open PySem PySem.Spec PyProof.Rows L2
section
variable {X : Cx} {pins : List (Addr × Obj)} {σ : L2.St} {H : Hp} {s : Shared}
end
section
variable {K : Kw} {m : Bool} {Γ : List Sl} {Q : PyData → Prop}
end
end Pk
end
section
set_option Elab.async false
set_option linter.all false
set_option maxRecDepth 100000
set_option pp.maxSteps 1000
namespace Pk
open PySem PySem.Spec PyProof.Rows L2
def rCountD (K : PySem.W.Frag) : V → List V → Hp → VK → Prop := fun x xs H Q => ∃ (a : Addr) (y : V) (d : PyData) (ds : List PyData), x = V.ref a ∧ xs = [y] ∧ Dp K H (V.ref a) (.list ds) ∧ Dp K H y d ∧
  SeqAt.shaped (.list ds) = true ∧ SeqAt.shaped d = true ∧ Q (.int (ds.countP fun z => PyData.eqv z d : Nat)) H
theorem mt_countD {X : Cx} (hu : X.A.units + 65 < cLine) : MtR X "list.count" (rCountD X.K) := by
  intro pins s σ H x xs v us Q I rx rxs h
  obtain ⟨a, y, d, ds, rfl, rfl, hl, hy, sl, sd, q⟩ := h
  cases rx
  cases rxs with
  | cons ry rt =>
    rename_i uy ut
    cases rt
    obtain ⟨bs, r1⟩ := Dp.reads I d y uy hy ry
    have hxs : PyData.canLayAll0 ds = true := SeqAt.canLay_of_shaped sl
    have hroom : X.A.units + 1 + min (PyData.depthAll ds) d.depth < cLine := room_in_shaped sd hu
    cases hl with
    | lst hs ha =>
      obtain ⟨its, rv, ⟨⟨cls, dd, data, sls⟩, n, ho, hc, hdn, hdt⟩, hlen⟩ := I.list hs
      simp only at hc hdt
      subst hc hdt
      obtain ⟨as, h4⟩ := Dp.readsAll I ds _ its ha rv
      have hmap : its.map (SeqAt.readOf s.heap) = ds := SeqAt.readsAll_map ds its as hxs h4
      refine call_meets PySem.F.slot_list_count ⟨_, ho, rfl⟩ PySem.F.entry_list_count (PySem.F.args_list_count_2 _ _)
        (SeqAt.list_countAt a its.toArray n dd sls uy (fun u => PyData.eqv (SeqAt.readOf s.heap u) d)) ⟨ho, SeqAt.items_eqAt (vs := its.toArray) (show ReadsAll s.heap its.toArray.toList ds as from h4) r1 hxs (SeqAt.canLay_of_shaped sd) hroom, ?_⟩
      have ec : its.toArray.toList.countP (fun u => PyData.eqv (SeqAt.readOf s.heap u) d) = ds.countP fun z => PyData.eqv z d := by
        rw [← hmap, List.countP_map]
        rfl
      refine ⟨.int (ds.countP fun z => PyData.eqv z d : Nat), H, I.tok _, ⟨s.toks, ?_⟩, q⟩
      show Value.int ((its.toArray.toList.countP (fun u => PyData.eqv (SeqAt.readOf s.heap u) d) : Nat) : Int) s.toks = Value.int ((ds.countP (fun z => PyData.eqv z d) : Nat) : Int) s.toks
      rw [ec]
section
variable {K : Kw} {m : Bool} {Γ : List Sl} {Q : PyData → Prop} {te ti : TE}
theorem wd_count (h : WD K false Γ te fun d => ∃ ds, d = .list ds ∧ WD K false Γ ti fun x => SeqAt.shaped (.list ds) = true ∧ SeqAt.shaped x = true ∧ Q (.int (ds.countP fun z => PyData.eqv z x : Nat))) : WD K m Γ (tBM K "list" (rCountD K) te (tCons ti tNil)) Q := fun X hK F H σ E C k => by
  subst hK
  refine h X rfl F H σ E _ fun v F1 H1 d l1 E1 r ⟨ds, e, h2⟩ => ?_
  subst e
  cases r with
  | lst ha ra =>
    rename_i a xs
    refine ⟨.inl ⟨rfl, _, SqL.of (E1.le _ _ ha)⟩, h2 X rfl F1 H1 σ E1 _ fun u F2 H2 x l2 E2 ru ⟨s1, s2, q⟩ => ?_⟩
    have r2 : Rp X.K H2 (.ref a) (.list ds) := (Rp.lst (ha) ra).mono (l2.tr E2.le)
    exact ⟨a, u, x, ds, rfl, rfl, Rp.dp _ (SeqAt.canLay_of_shaped s1) r2, Rp.dp _ (SeqAt.canLay_of_shaped s2) (ru.mono E2.le), s1, s2, k _ F2 H2 _ (l1.tr l2) E2 (.int _) q⟩
end
end Pk
end
section
set_option Elab.async false
set_option linter.all false
set_option maxRecDepth 100000
set_option pp.maxSteps 1000
namespace Pk
open PySem PySem.Spec PyProof.Rows L2
/-- the same slots, own things told otherwise -/
structure SameEx (Γ Γ2 : List Sl) : Prop where
  len : Γ2.length = Γ.length
  at_ : ∀ i : Nat, Γ2[i]? = Γ[i]? ∨ ∃ v Φ Φ', Γ[i]? = some (Sl.ex v Φ) ∧ Γ2[i]? = some (Sl.ex v Φ')
section
variable {P : Program} {K : Kw} {mg : Str → Option Value} {base : Heap}
end
end Pk
end
section
set_option Elab.async false
set_option linter.all false
set_option maxRecDepth 100000
set_option pp.maxSteps 1000
namespace Pk
open PySem PySem.Spec PyProof.Rows L2
section
variable {K : Kw} {m : Bool} {Γ : List Sl} {t ta tb tc te : TE} {Q : PyData → List Sl → Prop} {QX : List Sl → Sl → Prop} {P : Po}
theorem wdg_of (h : WD K m Γ t fun d => Q d Γ) : WDg K m Γ t Q := fun X hK F H σ E C k => h X hK F H σ E C fun v F' H' d l E' r q => k v F' H' d Γ l E' r q
/-- arguments that are data -/
def WAg (K : Kw) (m : Bool) (Γ : List Sl) (t : TA) (Q : List PyData → List Sl → Prop) : Prop := ∀ X : Bs, X.K = K → ∀ F H σ, En X F H σ Γ → ∀ C : List V → Hp → Prop,
  (∀ vs F' H' ds Γ', Le F F' → En X F' H' σ Γ' → RpA K (X.ff F' m) vs ds → Q ds Γ' → C vs H') → t σ H C
variable {tr : TA} {QA : List PyData → List Sl → Prop}
theorem wag_nil (q : QA [] Γ) : WAg K m Γ tNil QA := fun X hK F H σ E C k => k [] F H [] Γ Le.rfl' E .nil q
theorem wag_cons (h : WDg K m Γ ta fun d Γ1 => WAg K m Γ1 tr fun ds Γ2 => QA (d :: ds) Γ2) : WAg K m Γ (tCons ta tr) QA := fun X hK F H σ E C k =>
  h X hK F H σ E _ fun v F1 H1 x Γ1 l1 E1 r1 h1 => h1 X hK F1 H1 σ E1 _ fun vs F2 H2 ds Γ2 l2 E2 r2 q => k (v :: vs) F2 H2 _ Γ2 (l1.tr l2) E2 (.cons (Bs.mo r1 l2) r2) q
theorem wag_d (h : WD K m Γ ta fun d => WAg K m Γ tr fun ds Γ2 => QA (d :: ds) Γ2) : WAg K m Γ (tCons ta tr) QA := wag_cons (wdg_of h)
variable {T : List Sl → (List Sl → Sl → Prop) → Prop} {EE : XK}
variable {tt tu : TT} {QT : Bool → List Sl → Prop}
variable {wi : TI} {QI : List PyData → List Sl → Prop} {g : TG} {tbs : TS}
end
end Pk
end
section
set_option Elab.async false
set_option linter.all false
set_option maxRecDepth 100000
namespace Pk
open PySem PySem.Spec PyProof.Rows L2
section
variable {K : Kw} {m : Bool} {Γ : List Sl} {Q : PyData → Prop} {te ti : TE}
end
end Pk
end
section
set_option Elab.async false
set_option linter.all false
set_option maxRecDepth 100000
namespace Pk
open PySem PySem.Spec PyProof.Rows L2
section
variable {K : Kw} {Γ : List Sl}
open Classical in
end
end Pk
end
section
set_option Elab.async false
set_option linter.all false
set_option maxRecDepth 100000
namespace Pk
open PySem PySem.Spec PyProof.Rows L2
/-- pairs that can be sorted by their first ones -/
structure PrD (ps : List (PyData × PyData)) : Prop where
  nd : ps.Nodup
  key : ∀ p ∈ ps, ∀ q ∈ ps, p = q ∨ (PySem.W.alike p.1 q.1 = true ∧ PyData.eqv p.1 q.1 = false)
  self : ∀ p ∈ ps, PySem.W.alike p.1 p.1 = true ∧ PySem.W.alike p.2 p.2 = true
  tup : ∀ p ∈ ps, ∃ xs, p.1 = .tuple xs
  dep : ∀ p ∈ ps, p.1.depth ≤ 50 ∧ p.2.depth ≤ 50
  lay : (PyData.list (ps.map fun p => .tuple [p.1, p.2])).canLay0 = true
  len : ps.length ≤ 100000
section
variable {K : Kw} {m : Bool} {Γ : List Sl} {Q : PyData → Prop} {QX : Sl → Prop} {ta : TE}
end
end Pk
end
section
set_option Elab.async false
set_option linter.all false
set_option maxRecDepth 100000
set_option pp.maxSteps 1000
namespace Pk
open PySem PySem.Spec PyProof.Rows L2

mutual
/-- the addresses that are told -/
def ad : PyData → List Addr
  | .tuple ds => adA ds
  | .list ds => adA ds
  | .dict [(.none, .bool false), (.int a, .list ds)] => a.toNat :: adA ds
  | .dict ((.none, .none) :: r) => adP r
  | .dict ((.none, .bool true) :: r) => adP r
  | _ => []
def adA : List PyData → List Addr
  | [] => []
  | d :: ds => ad d ++ adA ds
def adP : List (PyData × PyData) → List Addr
  | [] => []
  | (_, d) :: r => ad d ++ adP r
end
mutual
/-- the data without addresses -/
def pl : PyData → PyData
  | .tuple ds => .tuple (plA ds)
  | .list ds => .list (plA ds)
  | .dict [(.none, .bool false), (.int _, .list ds)] => .list (plA ds)
  | d => d
def plA : List PyData → List PyData
  | [] => []
  | d :: ds => pl d :: plA ds
end
mutual
/-- all lists are told with their addresses -/
def npl : PyData → Bool
  | .tuple ds => nplA ds
  | .list _ => false
  | .dict [(.none, .bool false), (.int _, .list ds)] => nplA ds
  | .dict _ => false
  | _ => true
def nplA : List PyData → Bool
  | [] => true
  | d :: ds => npl d && nplA ds
end
mutual
/-- the list at a changed -/
def mA (a : Addr) (f : List PyData → List PyData) : PyData → PyData
  | .tuple ds => .tuple (mAs a f ds)
  | .dict [(.none, .bool false), (.int b, .list ds)] => .dict [(.none, .bool false), (.int b, .list (if b = (a : Int) then f (mAs a f ds) else mAs a f ds))]
  | d => d
def mAs (a : Addr) (f : List PyData → List PyData) : List PyData → List PyData
  | [] => []
  | d :: ds => mA a f d :: mAs a f ds
end
/-- a list at a, of es, is in it -/
inductive Oc (a : Addr) (es : List PyData) : PyData → Prop
  | here : Oc a es (listAt a es)
  | tup {d : PyData} {ds : List PyData} : d ∈ ds → Oc a es d → Oc a es (.tuple ds)
  | lst {b : Addr} {d : PyData} {ds : List PyData} : d ∈ ds → Oc a es d → Oc a es (listAt b ds)
theorem ad_at {a : Addr} {ds : List PyData} : ad (listAt a ds) = a :: adA ds := by simp [ad]
theorem ad_tup {ds : List PyData} : ad (.tuple ds) = adA ds := by simp [ad]
theorem adA_cons {d : PyData} {ds : List PyData} : adA (d :: ds) = ad d ++ adA ds := by simp [adA]
theorem adP_map {α : Type} {f : α → PyData} {g : α → PyData} : ∀ {xs : List α}, adP (xs.map fun x => (f x, g x)) = adA (xs.map g)
  | [] => by simp [adP, adA]
  | x :: xs => by rw [List.map_cons, List.map_cons, adP, adA, adP_map]
theorem ad_dictN {ds : NDs} : ad (dictN ds) = adA (ds.map (·.2)) := by
  have : ad (dictN ds) = adP (ds.map fun x => (x.1.data, x.2)) := by simp [ad]
  rw [this, adP_map]
theorem ad_dictF {fs : FDs} : ad (dictF fs) = adA (fs.map (·.2)) := by
  have : ad (dictF fs) = adP (fs.map fun x => (kD x.1, x.2)) := by simp [ad]
  rw [this, adP_map]
theorem adA_flat {ds : List PyData} : adA ds = ds.flatMap ad := by
  induction ds with
  | nil => simp [adA]
  | cons d ds ih => rw [adA_cons, ih]; simp
theorem mem_adA {ds : List PyData} {d : PyData} {a : Addr} (h : d ∈ ds) (k : a ∈ ad d) : a ∈ adA ds := by
  rw [adA_flat]; exact List.mem_flatMap.mpr ⟨d, h, k⟩
theorem pl_at {a : Addr} {ds : List PyData} : pl (listAt a ds) = .list (plA ds) := by simp [pl]
theorem pl_dict {ds : List (PyData × PyData)} (h : isLid ds = false) : pl (.dict ds) = .dict ds := by
  unfold pl
  split <;> first | rfl | (rename_i e; cases e; done) | skip
  all_goals (rename_i e; injection e with e; subst e; cases h)
theorem ad_dct {kvs : List (Key × V)} {ds : List (PyData × PyData)} (t : flatDs ds = true → kvs.map kvD = ds) : ad (.dict ds) = [] := by
  cases hm : isMk ds with
  | true =>
    exfalso
    have e := t (by simp [flatDs, hm])
    rw [← e] at hm
    cases kvs with
    | nil => cases hm
    | cons p q =>
      obtain ⟨k, u⟩ := p
      cases k <;> cases hm
  | false =>
    unfold ad
    split <;> first | rfl | (rename_i e; cases e; done) | (rename_i e; injection e with e; subst e; cases hm; done) | (exfalso; simp_all; done)
theorem npl_tup {ds : List PyData} : npl (.tuple ds) = nplA ds := by simp [npl]
theorem npl_at {a : Addr} {ds : List PyData} : npl (listAt a ds) = nplA ds := by simp [npl]
theorem npl_dict {ds : List (PyData × PyData)} (h : isLid ds = false) : npl (.dict ds) = false := by
  unfold npl
  split <;> first | rfl | (rename_i e; cases e; done) | (rename_i e; injection e with e; subst e; cases h; done) | (exfalso; simp_all; done)
theorem mA_tup {a : Addr} {f : List PyData → List PyData} {ds : List PyData} : mA a f (.tuple ds) = .tuple (mAs a f ds) := by simp [mA]
theorem mA_at {a b : Addr} {f : List PyData → List PyData} {ds : List PyData} : mA a f (listAt b ds) = listAt b (if b = a then f (mAs a f ds) else mAs a f ds) := by
  unfold mA
  by_cases h : b = a
  · subst h; simp
  · have : ¬ ((b : Int) = (a : Int)) := fun z => h (by exact_mod_cast z)
    simp [h, this]
theorem Oc.ad {a : Addr} {es : List PyData} {d : PyData} (h : Oc a es d) : a ∈ ad d := by
  induction h with
  | here => rw [ad_at]; exact List.mem_cons_self
  | tup m _ ih => rw [ad_tup]; exact mem_adA m ih
  | lst m _ ih => rw [ad_at]; exact List.mem_cons_of_mem _ (mem_adA m ih)
section
variable {K : Kw} {F G H : Hp}
/-- what is read may be read without addresses -/
theorem Rp.pl {v : V} {d : PyData} (h : Rp K F v d) : Rp K F v (pl d) :=
  Rp.rec (motive_1 := fun v d _ => Rp K F v (Pk.pl d)) (motive_2 := fun vs ds _ => RpA K F vs (plA ds)) (motive_3 := fun _ _ _ => True)
    (by simp only [Pk.pl]; exact .non) (fun b => by simp only [Pk.pl]; exact .bl b) (fun i => by simp only [Pk.pl]; exact .int i) (fun x => by simp only [Pk.pl]; exact .str x)
    (fun h _ ih => by simp only [Pk.pl]; exact .lst h ih) (fun h _ ih => by simp only [Pk.pl]; exact .tup h ih)
    (fun h t => by rw [pl_dict (isLid_no t)]; exact .dct h t)
    (fun h r _ => by rw [pl_dict (by rfl)]; exact .dcn h r)
    (fun h k r _ => by rw [pl_dict (by rfl)]; exact .dcf h k r)
    (fun h _ ih => by rw [pl_at]; exact .lst h ih)
    (by simp only [plA]; exact .nil) (fun _ _ a b => by simp only [plA]; exact .cons a b) trivial (fun _ _ _ _ _ _ => trivial) h
/-- the lists that are told stand there -/
theorem Rp.ad {v : V} {d : PyData} (h : Rp K F v d) : ∀ a ∈ ad d, ∃ xs, F a = some (.lst xs) :=
  Rp.rec (motive_1 := fun v d _ => ∀ a ∈ Pk.ad d, ∃ xs, F a = some (.lst xs)) (motive_2 := fun vs ds _ => ∀ a ∈ adA ds, ∃ xs, F a = some (.lst xs)) (motive_3 := fun _ ds _ => ∀ a ∈ adA (ds.map (·.2)), ∃ xs, F a = some (.lst xs))
    (by simp [Pk.ad]) (fun b => by simp [Pk.ad]) (fun i => by simp [Pk.ad]) (fun x => by simp [Pk.ad])
    (fun h _ ih => by simp only [Pk.ad]; exact ih) (fun h _ ih => by simp only [Pk.ad]; exact ih)
    (fun h t => by rw [ad_dct t]; simp)
    (fun h r ih => by rw [ad_dictN]; exact ih)
    (fun h k r ih => by rw [ad_dictF]; exact ih)
    (fun {a xs ds} h _ ih => by
      intro b hb
      rw [ad_at] at hb
      rcases List.mem_cons.mp hb with z | z
      · subst z; exact ⟨xs, h⟩
      · exact ih b z)
    (by simp [adA]) (fun _ _ a b => by
      intro c hc
      rw [adA_cons] at hc
      rcases List.mem_append.mp hc with z | z
      · exact a c z
      · exact b c z) (by simp [adA]) (fun _ _ _ _ b d => by
      intro c hc
      rw [List.map_cons, adA_cons] at hc
      rcases List.mem_append.mp hc with z | z
      · exact b c z
      · exact d c z) h
theorem RpA.ad : ∀ {vs : List V} {ds : List PyData}, RpA K F vs ds → ∀ a ∈ adA ds, ∃ xs, F a = some (.lst xs)
  | [], [], _ => by simp [adA]
  | _ :: _, [], h => by cases h
  | [], _ :: _, h => by cases h
  | _ :: vs, d :: ds, h => by
    cases h with
    | cons a b =>
      intro c hc
      rw [adA_cons] at hc
      rcases List.mem_append.mp hc with z | z
      · exact Rp.ad a c z
      · exact RpA.ad b c z
theorem Rp.at_inv {v : V} {a : Addr} {ds : List PyData} (h : Rp K F v (listAt a ds)) : ∃ xs, v = .ref a ∧ F a = some (.lst xs) ∧ RpA K F xs ds := by
  rcases h.dict_inv with ⟨b, kvs, rfl, ha, t⟩ | ⟨b, ep, es, ds', rfl, ez, ha, r⟩ | ⟨_, _, _, _, _, ez, _⟩ | ⟨b, xs, es, rfl, ez, ha, r⟩
  · have e := isLid_no t
    cases e
  · simp at ez
  · simp at ez
  · simp only [List.cons.injEq, Prod.mk.injEq, PyData.int.injEq, PyData.list.injEq, true_and, and_true] at ez
    obtain ⟨e1, e2⟩ := ez
    have : a = b := by exact_mod_cast e1
    subst this e2
    exact ⟨xs, rfl, ha, r⟩
theorem RpA.mem {vs : List V} {ds : List PyData} {d : PyData} (h : RpA K F vs ds) (m : d ∈ ds) : ∃ v ∈ vs, Rp K F v d := by
  obtain ⟨i, hi⟩ := List.getElem?_of_mem m
  obtain ⟨v, hv, r⟩ := h.get hi
  exact ⟨v, List.mem_of_getElem? hv, r⟩
theorem Rp.oc {a : Addr} {es : List PyData} {d : PyData} (o : Oc a es d) : ∀ {v : V}, Rp K F v d → ∃ xs, F a = some (.lst xs) ∧ RpA K F xs es := by
  induction o with
  | here => intro v h; obtain ⟨xs, _, h1, h2⟩ := h.at_inv; exact ⟨xs, h1, h2⟩
  | tup m _ ih =>
    intro v h
    cases h with
    | tup a b => obtain ⟨u, _, r⟩ := b.mem m; exact ih r
  | lst m _ ih =>
    intro v h
    obtain ⟨xs, _, _, b⟩ := h.at_inv
    obtain ⟨u, _, r⟩ := b.mem m
    exact ih r
theorem tupLe_upd {K : PySem.W.Frag} {a : Addr} {xs ys : List V} (ha : G a = some (.lst xs)) : TupLe K G (upd G a (.lst ys)) := by
  have ne : ∀ {b : Addr} {o : HO}, G b = some o → (∀ zs, o ≠ .lst zs) → b ≠ a := fun {b o} h no e => by
    subst e; rw [ha] at h; cases h; exact no _ rfl
  refine ⟨fun b zs h => ?_, fun b fs h => by rw [upd_ne (ne h fun _ w => nomatch w)]; exact h⟩
  rcases h with (h | ⟨o, h⟩) | h
  · exact .inl (.inl (by rw [upd_ne (ne h fun _ w => nomatch w)]; exact h))
  · exact .inl (.inr ⟨o, by rw [upd_ne (ne h fun _ w => nomatch w)]; exact h⟩)
  · exact .inr h
/-- a list that is told by its address is changed -/
theorem Rp.mut {a : Addr} {xs ys : List V} {f : List PyData → List PyData} (ha : G a = some (.lst xs)) (hf : ∀ ds, RpA K (upd G a (.lst ys)) xs ds → RpA K (upd G a (.lst ys)) ys (f ds)) {v : V} {d : PyData} (h : Rp K G v d) : npl d = true → Rp K (upd G a (.lst ys)) v (mA a f d) :=
  Rp.rec (motive_1 := fun v d _ => npl d = true → Rp K (upd G a (.lst ys)) v (mA a f d)) (motive_2 := fun vs ds _ => nplA ds = true → RpA K (upd G a (.lst ys)) vs (mAs a f ds)) (motive_3 := fun _ _ _ => True)
    (fun _ => by simp only [mA]; exact .non) (fun b _ => by simp only [mA]; exact .bl b) (fun i _ => by simp only [mA]; exact .int i) (fun x _ => by simp only [mA]; exact .str x)
    (fun h _ ih n => by simp [npl] at n) (fun h _ ih n => by rw [mA_tup]; rw [npl_tup] at n; exact .tup ((tupLe_upd ha).1 _ _ h) (ih n))
    (fun h t n => by rw [npl_dict (isLid_no t)] at n; cases n)
    (fun h r _ n => by rw [npl_dict (by rfl)] at n; cases n)
    (fun h k r _ n => by rw [npl_dict (by rfl)] at n; cases n)
    (fun {b zs ds} h _ ih n => by
      rw [mA_at]
      rw [npl_at] at n
      have r := ih n
      by_cases e : b = a
      · subst e
        rw [if_pos rfl]
        rw [ha] at h
        cases h
        exact .lid upd_same (hf _ r)
      · rw [if_neg e]
        exact .lid (by rw [upd_ne e]; exact h) r)
    (fun _ => by simp only [mAs]; exact .nil) (fun {v vs d ds} _ _ p q n => by
      simp only [nplA, Bool.and_eq_true] at n
      simp only [mAs]
      exact .cons (p n.1) (q n.2)) trivial (fun _ _ _ _ _ _ => trivial) h
end
mutual
theorem ad_mA {a : Addr} {f : List PyData → List PyData} (hf : ∀ ds, ∀ b ∈ adA (f ds), b ∈ adA ds) : ∀ d : PyData, ∀ b ∈ ad (mA a f d), b ∈ ad d
  | .none, b, h => by simp [mA] at h; exact h
  | .bool _, b, h => by simp [mA] at h; exact h
  | .int _, b, h => by simp [mA] at h; exact h
  | .str _, b, h => by simp [mA] at h; exact h
  | .list _, b, h => by simp [mA] at h; exact h
  | .tuple ds, b, h => by
    rw [mA_tup, ad_tup] at h
    rw [ad_tup]
    exact ad_mAs hf ds b h
  | .dict ds, b, h => by
    unfold mA at h
    split at h
    · rename_i e; cases e
    · rename_i c es e
      injection e with e
      subst e
      simp only [ad] at h ⊢
      rcases List.mem_cons.mp h with z | z
      · rw [z]; exact List.mem_cons_self
      · refine List.mem_cons_of_mem _ ?_
        split at z
        · exact ad_mAs hf es b (hf _ b z)
        · exact ad_mAs hf es b z
    · exact h
theorem ad_mAs {a : Addr} {f : List PyData → List PyData} (hf : ∀ ds, ∀ b ∈ adA (f ds), b ∈ adA ds) : ∀ ds : List PyData, ∀ b ∈ adA (mAs a f ds), b ∈ adA ds
  | [], b, h => by simp [mAs] at h; exact h
  | d :: ds, b, h => by
    rw [mAs, adA_cons] at h
    rw [adA_cons]
    rcases List.mem_append.mp h with z | z
    · exact List.mem_append.mpr (.inl (ad_mA hf d b z))
    · exact List.mem_append.mpr (.inr (ad_mAs hf ds b z))
end
mutual
theorem npl_mA {a : Addr} {f : List PyData → List PyData} (hf : ∀ ds, nplA ds = true → nplA (f ds) = true) : ∀ d : PyData, npl d = true → npl (mA a f d) = true
  | .none, h => by simp [mA, npl]
  | .bool _, h => by simp [mA, npl]
  | .int _, h => by simp [mA, npl]
  | .str _, h => by simp [mA, npl]
  | .list _, h => by simp [npl] at h
  | .tuple ds, h => by
    rw [mA_tup, npl_tup]
    rw [npl_tup] at h
    exact npl_mAs hf ds h
  | .dict ds, h => by
    unfold mA
    split
    · rename_i e; cases e
    · rename_i c es e
      injection e with e
      subst e
      have n : nplA es = true := by simpa [npl] using h
      simp only [npl]
      split
      · exact hf _ (npl_mAs hf es n)
      · exact npl_mAs hf es n
    · exact h
theorem npl_mAs {a : Addr} {f : List PyData → List PyData} (hf : ∀ ds, nplA ds = true → nplA (f ds) = true) : ∀ ds : List PyData, nplA ds = true → nplA (mAs a f ds) = true
  | [], _ => by simp [mAs, nplA]
  | d :: ds, h => by
    simp only [nplA, Bool.and_eq_true] at h
    simp only [mAs, nplA, Bool.and_eq_true]
    exact ⟨npl_mA hf d h.1, npl_mAs hf ds h.2⟩
end
section
variable {K : Kw} {F G H : Hp}
/-- what is told by its addresses is read where these lists stand -/
theorem Rp.cut {G' : Hp} (tl : TupLe K G G') {v : V} {d : PyData} (h : Rp K G v d) : npl d = true → (∀ a ∈ Pk.ad d, G' a = G a) → Rp K G' v d :=
  Rp.rec (motive_1 := fun v d _ => npl d = true → (∀ a ∈ Pk.ad d, G' a = G a) → Rp K G' v d) (motive_2 := fun vs ds _ => nplA ds = true → (∀ a ∈ adA ds, G' a = G a) → RpA K G' vs ds) (motive_3 := fun _ _ _ => True)
    (fun _ _ => .non) (fun b _ _ => .bl b) (fun i _ _ => .int i) (fun x _ _ => .str x)
    (fun h _ ih n => by simp [npl] at n) (fun h _ ih n k => by rw [npl_tup] at n; rw [ad_tup] at k; exact .tup (tl.1 _ _ h) (ih n k))
    (fun h t n => by rw [npl_dict (isLid_no t)] at n; cases n)
    (fun h r _ n => by rw [npl_dict (by rfl)] at n; cases n)
    (fun h k r _ n => by rw [npl_dict (by rfl)] at n; cases n)
    (fun {b zs ds} h _ ih n k => by
      rw [npl_at] at n
      rw [ad_at] at k
      exact .lid ((k b List.mem_cons_self).trans h) (ih n fun a m => k a (List.mem_cons_of_mem _ m)))
    (fun _ _ => .nil) (fun {v vs d ds} _ _ p q n k => by
      simp only [nplA, Bool.and_eq_true] at n
      rw [adA_cons] at k
      exact .cons (p n.1 fun a m => k a (List.mem_append.mpr (.inl m))) (q n.2 fun a m => k a (List.mem_append.mpr (.inr m)))) trivial (fun _ _ _ _ _ _ => trivial) h
end
/-- a tree of one's own: all its lists are one's own; pn: what stands at one of them -/
def AtP (K : Kw) (d : PyData) (pn : Option (Addr × List V)) : Own where
  K := K
  p := fun F H v S => npl d = true ∧ Rp K (lay S H F) v d ∧ (∀ a, S a ↔ a ∈ ad d) ∧ ∀ q, pn = some q → q.1 ∈ ad d ∧ H q.1 = some (.lst q.2)
  vw := some d
  keep := fun {F F' H H' v S} ⟨n, r, hS, hp⟩ le k => ⟨n, r.mono fun a o q => by
    unfold lay at q ⊢
    by_cases h : S a
    · rw [if_pos h] at q ⊢; rw [k a h]; exact q
    · rw [if_neg h] at q ⊢; exact le a o q, hS, fun q e => ⟨(hp q e).1, (k _ ((hS _).mpr (hp q e).1)).trans (hp q e).2⟩⟩
  keepT := fun e => nomatch e
  view := fun {F H v S d'} le ⟨n, r, hS, _⟩ ed => by
    cases ed
    refine ⟨r, fun a sa => ?_⟩
    obtain ⟨xs, h⟩ := r.ad a ((hS a).mp sa)
    rw [lay_at sa] at h
    exact ⟨_, h, rfl⟩
end Pk
end
section
set_option Elab.async false
set_option linter.all false
set_option maxRecDepth 100000
set_option pp.maxSteps 1000
namespace Pk
open PySem PySem.Spec PyProof.Rows L2

mutual
inductive Rw (K : Kw) (F : Hp) : V → PyData → Prop
  | non : Rw K F .non .none
  | bl (b : Bool) : Rw K F (.bl b) (.bool b)
  | int (i : Int) : Rw K F (.int i) (.int i)
  | str (x : Str) : Rw K F (.str x) (.str x)
  | tup {a : Addr} {xs : List V} {ds : List PyData} : SqT K F a xs → RwA K F xs ds → Rw K F (.ref a) (.tuple ds)
  | lid {a : Addr} {b : Int} {ds : List PyData} : b = a → Rw K F (.ref a) (.dict [(.none, .bool false), (.int b, .list ds)])
inductive RwA (K : Kw) (F : Hp) : List V → List PyData → Prop
  | nil : RwA K F [] []
  | cons {v : V} {vs : List V} {d : PyData} {ds : List PyData} : Rw K F v d → RwA K F vs ds → RwA K F (v :: vs) (d :: ds)
end
section
variable {K : Kw} {F G : Hp}
theorem Rp.wk (tl : TupLe K G F) {v : V} {d : PyData} (h : Rp K G v d) : npl d = true → Rw K F v d :=
  Rp.rec (motive_1 := fun v d _ => npl d = true → Rw K F v d) (motive_2 := fun vs ds _ => nplA ds = true → RwA K F vs ds) (motive_3 := fun _ _ _ => True)
    (fun _ => .non) (fun b _ => .bl b) (fun i _ => .int i) (fun x _ => .str x)
    (fun h _ ih n => by simp [npl] at n) (fun h _ ih n => by rw [npl_tup] at n; exact .tup (tl.1 _ _ h) (ih n))
    (fun h t n => by rw [npl_dict (isLid_no t)] at n; cases n)
    (fun h r _ n => by rw [npl_dict (by rfl)] at n; cases n)
    (fun h k r _ n => by rw [npl_dict (by rfl)] at n; cases n)
    (fun {b zs ds} h _ ih n => .lid rfl)
    (fun _ => .nil) (fun {v vs d ds} _ _ p q n => by
      simp only [nplA, Bool.and_eq_true] at n
      exact .cons (p n.1) (q n.2)) trivial (fun _ _ _ _ _ _ => trivial) h
theorem RpA.wk (tl : TupLe K G F) : ∀ {vs : List V} {ds : List PyData}, RpA K G vs ds → nplA ds = true → RwA K F vs ds
  | [], [], _, _ => .nil
  | _ :: _, [], h, _ => by cases h
  | [], _ :: _, h, _ => by cases h
  | _ :: _, _ :: _, h, n => by
    simp only [nplA, Bool.and_eq_true] at n
    cases h with
    | cons a b => exact .cons (a.wk tl n.1) (RpA.wk tl b n.2)
theorem Rw.mono (tl : TupLe K G F) {v : V} {d : PyData} (h : Rw K G v d) : Rw K F v d :=
  Rw.rec (motive_1 := fun v d _ => Rw K F v d) (motive_2 := fun vs ds _ => RwA K F vs ds) .non .bl .int .str (fun h _ ih => .tup (tl.1 _ _ h) ih) (fun e => .lid e) .nil (fun _ _ a b => .cons a b) h
theorem RwA.mono (tl : TupLe K G F) {v : List V} {d : List PyData} (h : RwA K G v d) : RwA K F v d :=
  RwA.rec (motive_1 := fun v d _ => Rw K F v d) (motive_2 := fun vs ds _ => RwA K F vs ds) .non .bl .int .str (fun h _ ih => .tup (tl.1 _ _ h) ih) (fun e => .lid e) .nil (fun _ _ a b => .cons a b) h
theorem Rw.lf {v : V} {d : PyData} (h : Rw K F v d) : Pk.lf d = true → Rp K F v d :=
  Rw.rec (motive_1 := fun v d _ => Pk.lf d = true → Rp K F v d) (motive_2 := fun vs ds _ => lfA ds = true → RpA K F vs ds) (fun _ => .non) (fun b _ => .bl b) (fun i _ => .int i) (fun x _ => .str x)
    (fun h _ ih n => .tup h (ih (by simpa [Pk.lf] using n))) (fun e n => by simp [Pk.lf] at n) (fun _ => .nil) (fun _ _ a b n => by
      simp only [lfA, Bool.and_eq_true] at n
      exact .cons (a n.1) (b n.2)) h
theorem Rw.at_inv {v : V} {a : Addr} {ds : List PyData} (h : Rw K F v (listAt a ds)) : v = .ref a := by
  generalize e : listAt a ds = d at h
  cases h with
  | @lid a' b ds' q =>
    simp only [PyData.dict.injEq, List.cons.injEq, Prod.mk.injEq, PyData.int.injEq, true_and, and_true] at e
    have e2 : (a : Int) = (a' : Int) := e.1.trans q
    have e3 : a = a' := by exact_mod_cast e2
    rw [e3]
  | _ => cases e
theorem RwA.length : ∀ {vs : List V} {ds : List PyData}, RwA K F vs ds → vs.length = ds.length
  | [], [], _ => rfl
  | _ :: _, [], h => by cases h
  | [], _ :: _, h => by cases h
  | _ :: vs, _ :: ds, h => by
    cases h with
    | cons _ b => simp [RwA.length b]
theorem RwA.get : ∀ {vs : List V} {ds : List PyData} {i : Nat} {d : PyData}, RwA K F vs ds → ds[i]? = some d → ∃ v, vs[i]? = some v ∧ Rw K F v d
  | [], [], i, d, _, e => by simp at e
  | _ :: _, [], _, _, h, _ => by cases h
  | [], _ :: _, _, _, h, _ => by cases h
  | v :: vs, x :: ds, 0, d, h, e => by
    cases h with
    | cons a b => simp at e; subst e; exact ⟨v, rfl, a⟩
  | v :: vs, x :: ds, i + 1, d, h, e => by
    cases h with
    | cons a b =>
      obtain ⟨u, h1, h2⟩ := RwA.get (i := i) (d := d) b (by simpa using e)
      exact ⟨u, by simpa using h1, h2⟩
theorem RwA.getV : ∀ {vs : List V} {ds : List PyData} {i : Nat} {v : V}, RwA K F vs ds → vs[i]? = some v → ∃ d, ds[i]? = some d ∧ Rw K F v d
  | [], [], i, d, _, e => by simp at e
  | _ :: _, [], _, _, h, _ => by cases h
  | [], _ :: _, _, _, h, _ => by cases h
  | v :: vs, x :: ds, 0, d, h, e => by
    cases h with
    | cons a b => simp at e; subst e; exact ⟨x, rfl, a⟩
  | v :: vs, x :: ds, i + 1, d, h, e => by
    cases h with
    | cons a b =>
      obtain ⟨u, h1, h2⟩ := RwA.getV (i := i) (v := d) b (by simpa using e)
      exact ⟨u, by simpa using h1, h2⟩
end
section
variable {X : Bs} {F H : Hp} {σ : L2.St} {Γ : List Sl}
theorem cutN_ad {N : Addr → Prop} {K : Kw} {v : V} {d : PyData} (r : Rp K (cutN N F) v d) : ∀ a ∈ ad d, ¬ N a := fun a ha => by
  obtain ⟨xs, h⟩ := r.ad a ha
  exact (cutN_lst h).1
end
section
variable {K : Kw} {m : Bool} {Γ : List Sl} {t te ta : TE} {Q : PyData → Prop} {QX : Sl → Prop} {P : Po} {g : TG}
theorem AgsOk.to {X X' : Bs} {F : Hp} {σ : L2.St} (hK : X'.K = X.K) (hN : ∀ a, X.N a → X'.N a) : ∀ {vs : List V} {as : List Ag}, AgsOk X' true F σ vs as → AgsOk X true F σ vs as
  | _, _, .nil => .nil
  | _, _, .cons (a := .d x) h t => .cons (a := .d x) (by
      have h' : Rp X'.K (cutN X'.N F) _ x := h
      rw [hK] at h'
      exact h'.mono (cutN_mono hN Le.rfl')) (AgsOk.to hK hN t)
  | _, _, .cons (a := .o i) h t => .cons (a := .o i) h (AgsOk.to hK hN t)
def adAg : List Ag → List Addr
  | [] => []
  | .d x :: r => ad x ++ adAg r
  | .o _ :: r => adAg r
theorem AgsOk.ad {X : Bs} {F : Hp} {σ : L2.St} : ∀ {vs : List V} {as : List Ag}, AgsOk X true F σ vs as → ∀ a ∈ adAg as, ¬ X.N a
  | _, _, .nil => fun a h => by cases h
  | _, _, .cons (a := .d x) h t => fun a ha => by
      rcases List.mem_append.mp ha with z | z
      · exact cutN_ad (F := F) (N := X.N) h a z
      · exact AgsOk.ad t a z
  | _, _, .cons (a := .o i) h t => fun a ha => AgsOk.ad t a ha
end
end Pk
end
section
set_option Elab.async false
set_option linter.all false
set_option maxRecDepth 100000
set_option pp.maxSteps 1000
namespace Pk
open PySem PySem.Spec PyProof.Rows L2
section
variable {K : Kw} {m : Bool} {Γ : List Sl} {t te tr : TE} {Q : PyData → Prop} {QX : Sl → Prop} {P : Po} {g : TG} {tb : TS}
open Classical in
theorem AtP.mut {F H : Hp} {v : V} {S : Addr → Prop} {d : PyData} {a : Addr} {xs ys : List V} {f : List PyData → List PyData} (n : npl d = true) (r : Rp K (lay S H F) v d) (hS : ∀ a, S a ↔ a ∈ ad d) (ha : H a = some (.lst xs)) (sa : a ∈ ad d)
    (hf : ∀ ds, RpA K (upd (lay S H F) a (.lst ys)) xs ds → RpA K (upd (lay S H F) a (.lst ys)) ys (f ds)) (hsub : ∀ ds, ∀ b ∈ adA (f ds), b ∈ adA ds) (hnpl : ∀ ds, nplA ds = true → nplA (f ds) = true) :
    npl (mA a f d) = true ∧ Rp K (lay (fun b => b ∈ ad (mA a f d)) (upd H a (.lst ys)) F) v (mA a f d) ∧ ∀ b, b ∈ ad (mA a f d) → S b := by
  have la : lay S H F a = some (.lst xs) := by rw [lay_at ((hS a).mpr sa)]; exact ha
  have hn := npl_mA (a := a) hnpl d n
  have sub : ∀ b, b ∈ ad (mA a f d) → S b := fun b hb => (hS b).mpr (ad_mA hsub d b hb)
  have lS : ∀ b, S b → ∃ zs, lay S H F b = some (.lst zs) := fun b sb => r.ad b ((hS b).mp sb)
  refine ⟨hn, (Rp.mut la hf r n).cut ?_ hn fun b hb => ?_, sub⟩
  · have key : ∀ {b : Addr} {o : HO}, upd (lay S H F) a (.lst ys) b = some o → (∀ zs, o ≠ .lst zs) → lay (fun b => b ∈ ad (mA a f d)) (upd H a (.lst ys)) F b = some o := fun {b o} q no => by
      have ne : b ≠ a := fun e => by subst e; rw [upd_same] at q; cases q; exact no _ rfl
      rw [upd_ne ne] at q
      have nS : ¬ S b := fun sb => by
        obtain ⟨zs, w⟩ := lS b sb
        rw [q] at w; cases w; exact no _ rfl
      unfold lay at q ⊢
      rw [if_neg nS] at q
      rw [if_neg fun h => nS (sub b h)]
      exact q
    refine ⟨fun b zs z => ?_, fun b fs z => key z fun _ w => nomatch w⟩
    rcases z with (z | ⟨o, z⟩) | z
    · exact .inl (.inl (key z fun _ w => nomatch w))
    · exact .inl (.inr ⟨o, key z fun _ w => nomatch w⟩)
    · exact .inr z
  · have sb := sub b hb
    rw [lay_at hb]
    by_cases e : b = a
    · subst e; rw [upd_same, upd_same]
    · rw [upd_ne e, upd_ne e, lay_at sb]
end
end Pk
end
section
set_option Elab.async false
set_option linter.all false
set_option maxRecDepth 100000
set_option pp.maxSteps 1000
namespace Pk
open PySem PySem.Spec PyProof.Rows L2
section
variable {K : Kw} {F : Hp} {N : Addr → Prop}
theorem cutN_not {a : Addr} {o : HO} (h : F a = some o) (n : ∀ xs, o ≠ .lst xs) : cutN N F a = some o := by
  unfold cutN
  split
  · rename_i xs e
    rw [h] at e
    cases e
    exact absurd rfl (n xs)
  · exact h
theorem Rp.cutA {v : V} {d : PyData} (h : Rp K F v d) (hn : npl d = true) (ha : ∀ a ∈ Pk.ad d, ¬ N a) : Rp K (cutN N F) v d := h.cut cutN_tup hn fun a m => cutN_at (ha a m)
theorem RpD.cutA {es : NEs} : ∀ {ds : NDs}, RpD K F es ds → (∀ x ∈ ds, Pk.lf x.1.data = true) → (∀ x ∈ ds, npl x.2 = true) → (∀ x ∈ ds, ∀ a ∈ Pk.ad x.2, ¬ N a) → RpD K (cutN N F) es ds := by
  induction es with
  | nil => intro ds h _ _ _; cases h; exact .nil
  | cons e es ih =>
    intro ds h h1 h2 h3
    cases h with
    | cons a b c => exact .cons (Rp.lfree cutN_tup _ (h1 _ List.mem_cons_self) a) (b.cutA (h2 _ List.mem_cons_self) (h3 _ List.mem_cons_self)) (ih c (fun x hx => h1 x (List.mem_cons_of_mem _ hx)) (fun x hx => h2 x (List.mem_cons_of_mem _ hx)) (fun x hx => h3 x (List.mem_cons_of_mem _ hx)))
theorem Rp.cutD {v : V} {ds : NDs} (h : Rp K F v (dictN ds)) (h1 : ∀ x ∈ ds, Pk.lf x.1.data = true) (h2 : ∀ x ∈ ds, npl x.2 = true) (h3 : ∀ x ∈ ds, ∀ a ∈ Pk.ad x.2, ¬ N a) : Rp K (cutN N F) v (dictN ds) := by
  obtain ⟨a, ep, es, rfl, ha, r⟩ := h.dictN_inv
  exact .dcn (cutN_not ha fun xs e => by unfold dN at e; cases e) (r.cutA h1 h2 h3)
end

section
variable {K : Kw} {N : Addr → Prop} {m : Bool} {Γ : List Sl} {P : Po} {t u : TS} {te ti tx td : TE} {QX : Sl → Prop}
/-- the values without addresses -/
def plN (ds : NDs) : NDs := ds.map fun x => (x.1, pl x.2)
theorem RpD.pl {F : Hp} {es : NEs} : ∀ {ds : NDs}, RpD K F es ds → RpD K F es (plN ds) := by
  induction es with
  | nil => intro ds h; cases h; exact .nil
  | cons e es ih =>
    intro ds h
    cases h with
    | cons a b c => exact .cons a b.pl (ih c)
end
end Pk
end
section
set_option Elab.async false
set_option linter.all false
set_option maxRecDepth 100000
set_option pp.maxSteps 1000
namespace Pk
open PySem PySem.Spec PyProof.Rows L2
section
variable {K : Kw} {m : Bool} {N : Addr → Prop} {Γ : List Sl} {t te tr ta : TE} {Q : PyData → Prop} {QX : Sl → Prop} {P : Po} {g : TG} {tb ts : TS}
end
end Pk
end
section
set_option Elab.async false
set_option linter.all false
set_option maxRecDepth 100000
set_option pp.maxSteps 1000
namespace Pk
open PySem PySem.Spec PyProof.Rows L2
variable {K : Kw} {m : Bool} {Γ : List Sl} {t te tr ta : TE} {Q : PyData → Prop} {QX : Sl → Prop} {P : Po}
end Pk
end
section
set_option Elab.async false
set_option linter.all false
set_option maxRecDepth 100000
set_option pp.maxSteps 1000
namespace Pk
open PySem PySem.Spec PyProof.Rows L2
end Pk
end
section
set_option Elab.async false
set_option linter.all false
set_option maxRecDepth 100000
set_option pp.maxSteps 1000
namespace Pk
open PySem PySem.Spec PyProof.Rows L2
variable {K : Kw} {m : Bool} {Γ : List Sl} {te ti ta tb tk : TE} {Q : PyData → Prop}
end Pk
end
section
set_option Elab.async false
set_option linter.all false
set_option maxRecDepth 100000
set_option pp.maxSteps 1000
namespace PySem.W
open Lean Elab Tactic Meta PySem PySem.Calls PyProof.Rows PyProof.V PySem.Spec
section
variable {prog : Program} {w : World} {K : Type} [DecidableEq K] {knd : KeyKind prog w K} {A : Around} {E : Value → Shared → Prop} {s : Shared}
end
section
variable {prog : Program} {w : World} {K : Type} [DecidableEq K] {knd : HeapKind prog w K} {A : Around} {E : Value → Shared → Prop} {s : Shared}
inductive KeqHitsH {K : Type} [DecidableEq K] (prog : Program) (w : World) (A : Around) (s : Shared) (kb : List (K × Addr × Value)) : List (K × Addr × Value) → Bool → Prop
  | nil : KeqHitsH prog w A s kb [] true
  | miss {k : K} {p : Addr × Value} {r : List (K × Addr × Value)} : atKey kb k = none → KeqHitsH prog w A s kb ((k, p) :: r) false
  | hit {k : K} {p q : Addr × Value} {r : List (K × Addr × Value)} {e b : Bool} : atKey kb k = some q → SeqAt.EqP prog w A s p.2 q.2 e → KeqHitsH prog w A s kb r b → KeqHitsH prog w A s kb ((k, p) :: r) (e && b)
end
end PySem.W
namespace Pk
open PySem PySem.Spec PyProof.Rows L2
section
variable {X : Cx} {pins : List (Addr × Obj)} {σ : L2.St} {H : Hp} {s : Shared}
end
section
variable {K : Kw} {m : Bool} {Γ : List Sl} {Q : PyData → Prop}
end
end Pk
end
section
set_option Elab.async false
set_option linter.all false
set_option maxRecDepth 100000
set_option pp.maxSteps 1000
namespace Pk
open PySem PySem.Spec PyProof.Rows L2
def rInsert : V → List V → Hp → VK → Prop := fun x vs H Q => ∃ (l : Addr) (xs : List V) (i : Int) (y : V), x = .ref l ∧ vs = [.int i, y] ∧ H l = some (.lst xs) ∧ xs.length < sizeLine ∧ 0 ≤ i ∧ i < 2 ^ 63 ∧
    Q .non (upd H l (.lst (xs.take i.toNat ++ [y] ++ xs.drop i.toNat)))
theorem mt_insertI {X : Cx} : MtR X "list.insert" rInsert := mt_insert
variable {K : Kw} {m : Bool} {Γ : List Sl}
/-- xs.insert(i, y), of one's own -/
theorem sj_insG {tr : TA} {P : Po} {i : Nat} {l : Addr} {ds : List PyData} (hi : Γ[i]? = some (.ml m l ds)) (hz : ds.length < 100000) (h : WAg K m Γ tr fun as Γ' => ∃ (n : Nat) (d : PyData), as = [.int (n : Int), d] ∧ n < 100000 ∧ Γ'[i]? = some (.ml m l ds) ∧ P.nx (Γ'.set i (.ml m l (ds.take n ++ [d] ++ ds.drop n)))) : SJ K Γ (tDrop (tBM K "list" rInsert (tVar i) tr)) P := fun X hK F H σ E D hD => by
  subst hK
  obtain ⟨xs, e, hl, fl, r⟩ := E.ml hi
  refine ⟨.ref l, e, .inl ⟨rfl, _, SqL.of hl⟩, h X rfl F H σ E _ fun vs F1 H1 as Γ' l1 E1 rv ⟨n, d, ea, hn, hi', q⟩ => ?_⟩
  subst ea
  obtain ⟨xs1, e1, hl1, fl1, r1⟩ := E1.ml hi'
  cases rv with
  | cons ra rb =>
    cases ra
    cases rb with
    | cons rc rd =>
      rename_i y0 ys0
      cases rd
      refine ⟨l, xs1, (n : Int), _, rfl, rfl, hl1, sz_lt (by rw [r1.length]; exact hz), by omega, by omega, ?_⟩
      have en : ((n : Int)).toNat = n := by omega
      rw [en]
      exact hD.nx F1 _ σ _ (E1.mut hi' (((r1.take n).append (RpA.one rc)).append (r1.drop n))) q
end Pk
end
section
set_option Elab.async false
set_option linter.all false
set_option maxRecDepth 100000
namespace Ps
open PySem PySem.Spec PyProof.Rows L2
section
variable {prog : Program} {w : World} {A : Around} {E : Value → Shared → Prop} {s : Shared}
end
end Ps
namespace Pk
open PySem PySem.Spec PyProof.Rows L2 Ps
end Pk
end
section
set_option Elab.async false
set_option linter.all false
set_option maxRecDepth 100000
set_option pp.maxSteps 1000
namespace Pk
open PySem PySem.Spec PyProof.Rows L2
section
variable {K : Kw} {m : Bool} {Γ : List Sl} {t : TE} {tt tu : TT} {QT : Bool → List Sl → Prop}
variable {tr : TA} {EE : XK} {QX : List Sl → Sl → Prop} {Q : PyData → List Sl → Prop} {T : List Sl → (Sl → Prop) → Prop}
end
end Pk
end
section
set_option Elab.async false
set_option linter.all false
set_option maxRecDepth 100000
set_option pp.maxSteps 1000
namespace Pk
open PySem PySem.Spec PyProof.Rows L2
variable {K : Kw} {m : Bool} {Γ : List Sl} {ta tb tc te : TE} {T : List Sl → (List Sl → Sl → Prop) → Prop} {EE : XK}
end Pk
end
section
set_option Elab.async false
set_option linter.all false
set_option maxRecDepth 100000
set_option maxHeartbeats 1000000
namespace Pz
open PySem PySem.Spec PyProof.Rows L2
section
variable {prog : Program} {w : World} {A : Around} {E : Value → Shared → Prop} {s : Shared}
variable {e it : Addr} {fp : List Addr} {n i : Nat} {c : Int} {P : Nat → Value → Prop} {S : Nat → Heap → Prop} {old : Value}
end
end Pz
namespace Pk
open PySem PySem.Spec PyProof.Rows L2 Pz
variable {K : Kw} {m : Bool} {Γ : List Sl} {Q : PyData → Prop} {te : TE}
end Pk
end
section
set_option Elab.async false
set_option linter.all false
set_option maxRecDepth 100000
namespace Pk
open PySem PySem.Spec PyProof.Rows L2
section
variable {K : Kw} {m : Bool} {Γ : List Sl} {Q : PyData → Prop} {te ti t : TE} {tb : TE} {neg : Bool}
section
variable {F F' : Hp}
theorem RpA.mapTo : ∀ {vs : List V} {ds : List PyData}, (∀ d ∈ ds, ∀ v, Rp K F v d → Rp K F' v d) → RpA K F vs ds → RpA K F' vs ds
  | _, _, _, .nil => .nil
  | _, _, h, .cons r t => .cons (h _ List.mem_cons_self _ r) (RpA.mapTo (fun x hx => h x (List.mem_cons_of_mem _ hx)) t)
theorem Rp.plain (tl : TupLe K F F') (ls : ∀ a xs, F a = some (.lst xs) → F' a = some (.lst xs)) {d : PyData} (nb : NB d) : ∀ {v : V}, Rp K F v d → Rp K F' v d := by
  induction nb with
  | non => intro v h; cases h; exact .non
  | int i => intro v h; cases h; exact .int i
  | str x => intro v h; cases h; exact .str x
  | lst _ ih =>
    intro v h
    cases h with
    | lst ha ra => exact .lst (ls _ _ ha) (ra.mapTo fun d hd v r => ih d hd r)
  | tup _ ih =>
    intro v h
    cases h with
    | tup ha ra => exact .tup (tl.1 _ _ ha) (ra.mapTo fun d hd v r => ih d hd r)
end
theorem AtP.back {F H : Hp} {S : Addr → Prop} {v : V} {d : PyData} (r : Rp K (lay S H F) v d) (hSa : ∀ a, S a ↔ a ∈ ad d) : TupLe K (lay S H F) F := by
  have key : ∀ {b : Addr} {o : HO}, lay S H F b = some o → (∀ zs, o ≠ .lst zs) → F b = some o := fun {b o} q no => by
    by_cases sb : S b
    · obtain ⟨zs, w⟩ := r.ad b ((hSa b).mp sb)
      rw [q] at w; cases w; exact absurd rfl (no _)
    · unfold lay at q; rw [if_neg sb] at q; exact q
  refine ⟨fun b zs z => ?_, fun b fs z => key z fun _ w => nomatch w⟩
  rcases z with (z | ⟨o, z⟩) | z
  · exact .inl (.inl (key z fun _ w => nomatch w))
  · exact .inl (.inr ⟨o, key z fun _ w => nomatch w⟩)
  · exact .inr z
/-- a list comprehension over a list of a tree of one's own, that names lists of its items -/
theorem RwA.append {F : Hp} : ∀ {xs ys : List V} {ds es : List PyData}, RwA K F xs ds → RwA K F ys es → RwA K F (xs ++ ys) (ds ++ es)
  | _, _, _, _, .nil, h => h
  | _, _, _, _, .cons r t, h => .cons r (RwA.append t h)
end
end Pk
end
section
set_option Elab.async false
set_option linter.all false
set_option maxRecDepth 100000
namespace Pk
open PySem PySem.Spec PyProof.Rows L2
def dIsB : R2 := fun x y H Q => ∃ a b, x = .bl a ∧ y = .bl b ∧ Q (.bl (decide (a = b))) H
def dIsNotB : R2 := fun x y H Q => ∃ a b, x = .bl a ∧ y = .bl b ∧ Q (.bl (!decide (a = b))) H
theorem op_isB {X : Cx} : OpR X (compareOp .Is) dIsB := by
  intro pins s σ H x y v u Q I rx ry h
  obtain ⟨m, n, rfl, rfl, q⟩ := h
  cases (show v = Value.bool m from rx)
  cases (show u = Value.bool n from ry)
  by_cases e : m = n
  · subst e
    exact wpAny_is_self rfl ⟨.bl true, H, I, rfl, by simpa using q⟩
  · exact wpAny_is_other rfl (fun z => e (Value.bool.inj z)) ⟨.bl false, H, I, rfl, by simpa [e] using q⟩
theorem op_isNotB {X : Cx} : OpR X (compareOp .IsNot) dIsNotB := by
  intro pins s σ H x y v u Q I rx ry h
  obtain ⟨m, n, rfl, rfl, q⟩ := h
  cases (show v = Value.bool m from rx)
  cases (show u = Value.bool n from ry)
  by_cases e : m = n
  · subst e
    exact wpAny_isNot_self rfl ⟨.bl false, H, I, rfl, by simpa using q⟩
  · exact wpAny_isNot_other rfl (fun z => e (Value.bool.inj z)) ⟨.bl true, H, I, rfl, by simpa [e] using q⟩
section
variable {K : Kw} {m : Bool} {Γ : List Sl} {Q : PyData → Prop} {ta tb tc te : TE}
theorem wd_isB {b : Bool} (h : WD K false Γ ta fun d => ∃ a, d = .bool a ∧ Q (.bool (decide (a = b)))) : WD K m Γ (tOp dIsB ta (tC (.bl b))) Q := fun X hK F H σ E C k =>
  h X hK F H σ E _ fun v F1 H1 d l1 E1 r ⟨a, e, q⟩ => by
    subst e
    cases r
    exact ⟨a, b, rfl, rfl, k _ F1 H1 _ l1 E1 (.bl _) q⟩
theorem wd_isNotB {b : Bool} (h : WD K false Γ ta fun d => ∃ a, d = .bool a ∧ Q (.bool (!decide (a = b)))) : WD K m Γ (tOp dIsNotB ta (tC (.bl b))) Q := fun X hK F H σ E C k =>
  h X hK F H σ E _ fun v F1 H1 d l1 E1 r ⟨a, e, q⟩ => by
    subst e
    cases r
    exact ⟨a, b, rfl, rfl, k _ F1 H1 _ l1 E1 (.bl _) q⟩
variable {T : List Sl → (List Sl → Sl → Prop) → Prop} {EE : XK}
end
end Pk
end
section
set_option Elab.async false
set_option linter.all false
set_option maxRecDepth 100000
namespace Pr
open PySem PySem.Spec PyProof.Rows L2 Pk
structure FnOkG (P : Program) (w : World) (K : PySem.W.Frag) (mg : Str → Option Value) (base : Heap) (CX : CXT) (k : Nat) (f : Addr) (fd : FuncData) (ps : List Str) (sp : Sp) : Prop where
  len : ∀ vs H Q E, sp vs H Q E → vs.length = ps.length
  run : ∀ (A : Around) (outer : List Env) (s : Shared) (H : Hp) (args : Args) (us : List Value) (vs : List V) (Q : VK) (E : XK), Room k A → A.guards = some [] → Env0 P w K mg base A outer s H → BindsTo s fd args (ps.zip us) → Vals vs us → sp vs H Q E →
    codeAny (model P w) A (.call (.ref f) args) (CR CX outer P w H s Q E) s
section
variable {P : Program} {w : World} {K : PySem.W.Frag} {mg : Str → Option Value} {base : Heap} {CX : CXT} {k : Nat} {f : Addr} {fd : FuncData} {ps : List Str} {sp : Sp}
theorem FnOkG.of (F : FnOk P w K mg base CX k f fd ps sp) : FnOkG P w K mg base CX k f fd ps sp :=
  ⟨F.len, fun A outer s H args us vs Q E hr _ e b r h => F.run A outer s H args us vs Q E hr e b r h⟩
theorem FnOkG.mono {j : Nat} (F : FnOkG P w K mg base CX j f fd ps sp) (h : j ≤ k) : FnOkG P w K mg base CX k f fd ps sp :=
  ⟨F.len, fun A outer s H args us vs Q E hr hG e b r q => F.run A outer s H args us vs Q E (hr.mono h) hG e b r q⟩
end
section
variable {P : Program} {K : Kw} {mg : Str → Option Value} {base : Heap}
/-- such a def, as it is called -/
structure CalG (P : Program) (w : World) (K : PySem.W.Frag) (mg : Str → Option Value) (base : Heap) (CX : CXT) (k : Nat) (x : Str) (ps : List Str) (sp : Sp) : Prop where
  ex : ∃ f fd, mg x = some (.ref f) ∧ PySem.W.keepIn K (.ref f) = true ∧ Binds K fd ps [] ∧ FnOkG P w K mg base CX k f fd ps sp
theorem CalG.mono {CX : CXT} {j k : Nat} {x : Str} {ps : List Str} {sp : Sp} (c : CalG P K.w K mg base CX j x ps sp) (h : j ≤ k) : CalG P K.w K mg base CX k x ps sp :=
  let ⟨f, fd, a, b, d, e⟩ := c.ex
  ⟨f, fd, a, b, d, e.mono h⟩
end
section
variable {X : Cx} {k : Nat} {x : Str} {ps : List Str} {sp : Sp} {p pos : Pos} {e : Expr} {es : List Expr} {t : TA}
end
mutual
def rok : PyData → Bool
  | .none | .bool _ | .int _ | .str _ => true
  | .list ds => rokAll ds
  | .tuple ds => rokAll ds
  | .dict kvs => kvs.isEmpty
def rokAll : List PyData → Bool
  | [] => true
  | d :: ds => rok d && rokAll ds
end
section
variable {X : Cx} {pins : List (Addr × Obj)} {σ : L2.St} {H : Hp} {s : Shared}
end
end Pr
namespace Pk
open PySem PySem.Spec PyProof.Rows L2
end Pk
end
section
set_option Elab.async false
set_option linter.all false
set_option maxRecDepth 100000
set_option maxHeartbeats 4000000
namespace Pu
open PySem PySem.Spec PyProof.Rows L2 Pk PySem.SeqAt
-- equal as == tells, where dicts are empty
mutual
def eqe : PyData → PyData → Bool
  | .list xs, .list ys => eqeA xs ys
  | .tuple xs, .tuple ys => eqeA xs ys
  | .dict _, .dict _ => true
  | x, y => PyData.eqv x y
def eqeA : List PyData → List PyData → Bool
  | [], [] => true
  | x :: xs, y :: ys => eqe x y && eqeA xs ys
  | _, _ => false
end
abbrev pairE (xs ys : List PyData) (j : Nat) : Bool := eqe (xs.getD j .none) (ys.getD j .none)
theorem eqeA_eq : ∀ xs ys : List PyData, ((List.range (min xs.length ys.length)).all (pairE xs ys) && xs.length == ys.length) = eqeA xs ys
  | [], [] => rfl
  | [], _ :: _ => by simp [eqeA]
  | _ :: _, [] => by simp [eqeA]
  | x :: xs, y :: ys => by
    have ih := eqeA_eq xs ys
    have e1 : min (x :: xs).length (y :: ys).length = min xs.length ys.length + 1 := by simp only [List.length_cons]; omega
    have e2 : ((x :: xs).length == (y :: ys).length) = (xs.length == ys.length) := by simp
    have e3 : (List.range (min xs.length ys.length + 1)).all (pairE (x :: xs) (y :: ys)) = (eqe x y && (List.range (min xs.length ys.length)).all (pairE xs ys)) := by
      rw [List.range_succ_eq_map, List.all_cons, List.all_map]
      first | rfl | simp [pairE, Function.comp_def]
    rw [e1, e2, e3, eqeA, ← ih, Bool.and_assoc]
theorem eqeA_same {xs ys : List PyData} (h : xs.length = ys.length) : (List.range xs.length).all (pairE xs ys) = eqeA xs ys := by
  have := eqeA_eq xs ys
  rw [← h, Nat.min_self] at this
  simpa using this
theorem eqeA_other {xs ys : List PyData} (h : xs.length ≠ ys.length) : eqeA xs ys = false := by
  rw [← eqeA_eq xs ys]
  simp [h]
mutual
theorem eqe_refl : ∀ d : PyData, eqe d d = true
  | .none => rfl
  | .bool b => by simp [eqe, PyData.eqv]
  | .int i => by simp [eqe, PyData.eqv]
  | .str x => by simp [eqe, PyData.eqv]
  | .list xs => by rw [eqe]; exact eqeA_refl xs
  | .tuple xs => by rw [eqe]; exact eqeA_refl xs
  | .dict _ => by simp [eqe]
theorem eqeA_refl : ∀ xs : List PyData, eqeA xs xs = true
  | [] => rfl
  | x :: xs => by rw [eqeA, eqe_refl x, eqeA_refl xs]; rfl
end
mutual
inductive RdE (h : Heap) : Value → PyData → Prop
  | none : RdE h .none .none
  | bool (b : Bool) : RdE h (.bool b) (.bool b)
  | int (i : Int) (t : Tok) : RdE h (.int i t) (.int i)
  | str (x : Str) (t : Tok) : RdE h (.str x t) (.str x)
  | list {a : Addr} {vs : List Value} {ds : List PyData} : h.IsList a vs.toArray → RdEs h vs ds → RdE h (.ref a) (.list ds)
  | tuple {a : Addr} {vs : List Value} {ds : List PyData} : h.IsTuple a vs.toArray → RdEs h vs ds → RdE h (.ref a) (.tuple ds)
  | dict {a : Addr} {o : Obj} {n : Nat} : (a == sysModules) = false → h.get? a = some o → o.ExactDict → o.data = .dict #[] n → RdE h (.ref a) (.dict [])
inductive RdEs (h : Heap) : List Value → List PyData → Prop
  | nil : RdEs h [] []
  | cons {v : Value} {vs : List Value} {d : PyData} {ds : List PyData} : RdE h v d → RdEs h vs ds → RdEs h (v :: vs) (d :: ds)
end
theorem RdEs.length {h : Heap} : ∀ {vs : List Value} {ds : List PyData}, RdEs h vs ds → vs.length = ds.length
  | [], [], _ => rfl
  | [], _ :: _, r => by cases r
  | _ :: _, [], r => by cases r
  | v :: vs, d :: ds, r => by
    cases r with
    | cons _ b => simp [RdEs.length b]
mutual
theorem RdE.uniq {h : Heap} : ∀ (d e : PyData) {v : Value}, RdE h v d → RdE h v e → d = e
  | .none, _, _, r, q => by cases r; cases q; rfl
  | .bool _, _, _, r, q => by cases r; cases q; rfl
  | .int _, _, _, r, q => by cases r; cases q; rfl
  | .str _, _, _, r, q => by cases r; cases q; rfl
  | .list xs, e, _, r, q => by
    cases r with
    | list h1 h2 =>
      obtain ⟨o, ho, hc, n, hd⟩ := h1
      cases q with
      | list k1 k2 =>
        obtain ⟨o', ho', _, n', hd'⟩ := k1
        rw [ho] at ho'; cases ho'
        rw [hd] at hd'
        injection hd' with e1
        have e2 := congrArg Array.toList e1
        simp only at e2
        subst e2
        rw [RdEs.uniq xs _ h2 k2]
      | tuple k1 k2 =>
        obtain ⟨o', ho', hc', _⟩ := k1
        rw [ho] at ho'; cases ho'
        rw [hc] at hc'
        exact absurd hc' (by decide)
      | dict _ k1 k2 _ =>
        rw [ho] at k1; cases k1
        have k2 := k2.1
        rw [hc] at k2
        exact absurd k2 (by decide)
  | .tuple xs, e, _, r, q => by
    cases r with
    | tuple h1 h2 =>
      obtain ⟨o, ho, hc, n, hd⟩ := h1
      cases q with
      | tuple k1 k2 =>
        obtain ⟨o', ho', _, n', hd'⟩ := k1
        rw [ho] at ho'; cases ho'
        rw [hd] at hd'
        injection hd' with e1
        have e2 := congrArg Array.toList e1
        simp only at e2
        subst e2
        rw [RdEs.uniq xs _ h2 k2]
      | list k1 k2 =>
        obtain ⟨o', ho', hc', _⟩ := k1
        rw [ho] at ho'; cases ho'
        rw [hc] at hc'
        exact absurd hc' (by decide)
      | dict _ k1 k2 _ =>
        rw [ho] at k1; cases k1
        have k2 := k2.1
        rw [hc] at k2
        exact absurd k2 (by decide)
  | .dict _, e, _, r, q => by
    cases r with
    | dict _ h1 h2 _ =>
      cases q with
      | dict => rfl
      | list k1 k2 =>
        obtain ⟨o', ho', hc', _⟩ := k1
        rw [h1] at ho'; cases ho'
        rw [h2.1] at hc'
        exact absurd hc' (by decide)
      | tuple k1 k2 =>
        obtain ⟨o', ho', hc', _⟩ := k1
        rw [h1] at ho'; cases ho'
        rw [h2.1] at hc'
        exact absurd hc' (by decide)
theorem RdEs.uniq {h : Heap} : ∀ (ds es : List PyData) {vs : List Value}, RdEs h vs ds → RdEs h vs es → ds = es
  | [], es, _, r, q => by cases r; cases q; rfl
  | d :: ds, es, _, r, q => by
    cases r with
    | cons a b =>
      cases q with
      | cons a' b' => rw [RdE.uniq d _ a a', RdEs.uniq ds _ b b']
end
section
variable {prog : Program} {w : World} {A : Around} {E : Value → Shared → Prop} {s : Shared}
theorem dict_declines {a : Addr} {x : Value} {T : String} {Q : Value → Shared → Prop} (ha : s.TypeIs (.ref a) "dict") (hx : s.TypeIs x T) (hs : isSubtype (.type T) (.type "dict") = pure false) (h : Q .notImplemented s) : wpAny (model prog w) A (call (.builtin "dict.__eq__") [.ref a, x]) Q E s := by
  refine wpAny_call_entry PySem.F.slot_dict_eq ha PySem.F.entry_dict_eq ?_ (PySem.F.args_dict_eq_2 _ _)
  show wpAny _ _ (Builtin.Dict.dictSlotArgs "__eq__" ⟨[.ref a, x], []⟩ >>= _) _ _ s
  refine wpAny_bind ?_
  unfold Builtin.Dict.dictSlotArgs
  refine wpAny_bind (wpAny_notOrdered_dict ha ?_)
  show wpAny _ _ (pure (Value.ref a, x)) _ _ s
  refine wpAny_pure ?_
  refine wpAny_bind (wpAny_isInstance hx hs ?_)
  simp only [Bool.not_false, if_true]
  refine wpAny_bind (wpAny_rule ?_)
  refine wpAny_bind (wpAny_pure ?_)
  exact wpAny_pure ⟨_, rfl, h⟩
theorem int_declinesB (b : Bool) (l : Addr) (c : Value) (es : Array DictEntry) (n : Nat) (dd : Option Addr) (sl : Array (Option Value)) :
    Meets (Builtin.«int.__eq__» ⟨[.bool b, .ref l], []⟩) (fun _ R s => s.heap.get? l = some { cls := c, dict := dd, data := .dict es n, slots := sl } ∧ R (.ok (.ret .notImplemented)) s) :=
  .of_wp fun prog w A R s h => by obtain ⟨hp, g, d, tk, os⟩ := s; obtain ⟨hl, h⟩ := h; wp_walk using wpAny_loadPart' hl, wpAny_load hl; exact ⟨_, rfl, h⟩
theorem int_declinesI (b : Int) (u : Tok) (l : Addr) (c : Value) (es : Array DictEntry) (n : Nat) (dd : Option Addr) (sl : Array (Option Value)) :
    Meets (Builtin.«int.__eq__» ⟨[.int b u, .ref l], []⟩) (fun _ R s => s.heap.get? l = some { cls := c, dict := dd, data := .dict es n, slots := sl } ∧ R (.ok (.ret .notImplemented)) s) :=
  .of_wp fun prog w A R s h => by obtain ⟨hp, g, d, tk, os⟩ := s; obtain ⟨hl, h⟩ := h; wp_walk using wpAny_loadPart' hl, wpAny_load hl; exact ⟨_, rfl, h⟩
theorem str_declinesD (b : Str) (u : Tok) (l : Addr) (c : Value) (es : Array DictEntry) (n : Nat) (dd : Option Addr) (sl : Array (Option Value)) :
    Meets (Builtin.«str.__eq__» ⟨[.str b u, .ref l], []⟩) (fun _ R s => s.heap.get? l = some { cls := c, dict := dd, data := .dict es n, slots := sl } ∧ R (.ok (.ret .notImplemented)) s) :=
  .of_wp fun prog w A R s h => by obtain ⟨hp, g, d, tk, os⟩ := s; obtain ⟨hl, h⟩ := h; wp_walk using wpAny_loadPart' hl, wpAny_load hl; exact ⟨_, rfl, h⟩
theorem list_declinesD (l b : Addr) (items : Array Value) (es : Array DictEntry) (n n2 : Nat) (dd dd2 : Option Addr) (sl sl2 : Array (Option Value)) :
    Meets (Builtin.«list.__eq__» ⟨[.ref l, .ref b], []⟩) (fun _ R s => s.heap.get? l = some { cls := .type "list", dict := dd, data := .seq items n, slots := sl } ∧ s.heap.get? b = some { cls := .type "dict", dict := dd2, data := .dict es n2, slots := sl2 } ∧ R (.ok (.ret .notImplemented)) s) :=
  .of_wp fun prog w A R s h => by obtain ⟨hp, g, d, tk, os⟩ := s; obtain ⟨hl, hb, h⟩ := h; have f1 := F.sub_dict_list; wp_walk using wpAny_loadPart' hl, wpAny_loadPart' hb; exact ⟨_, rfl, h⟩
theorem tuple_declinesD (l b : Addr) (items : Array Value) (es : Array DictEntry) (n n2 : Nat) (dd dd2 : Option Addr) (sl sl2 : Array (Option Value)) :
    Meets (Builtin.«tuple.__eq__» ⟨[.ref l, .ref b], []⟩) (fun _ R s => s.heap.get? l = some { cls := .type "tuple", dict := dd, data := .seq items n, slots := sl } ∧ s.heap.get? b = some { cls := .type "dict", dict := dd2, data := .dict es n2, slots := sl2 } ∧ R (.ok (.ret .notImplemented)) s) :=
  .of_wp fun prog w A R s h => by obtain ⟨hp, g, d, tk, os⟩ := s; obtain ⟨hl, hb, h⟩ := h; have f1 := F.sub_dict_tuple; wp_walk using wpAny_loadPart' hl, wpAny_loadPart' hb; exact ⟨_, rfl, h⟩
end
section
variable {A : Around} {s : Shared}
/-- an empty dict -/
def D0 (h : Heap) (a : Addr) : Prop := ∃ o n, h.get? a = some o ∧ o.cls = .type "dict" ∧ o.data = .dict #[] n
theorem RcAt.dictN {a : Addr} (hd : D0 s.heap a) (hu : A.units < cLine) : RcAt A s (.ref a) .none false := fun prog w E Q h => by
  obtain ⟨⟨cls, dd, data, sl⟩, n, ho, hc, hd⟩ := hd
  simp only at hc hd
  subst hc hd
  exact rc_eq_decline_or (k := false) ⟨_, ho, rfl⟩ rfl (by decide) F.sub_NoneType_dict F.slot_dict_eq F.slot_NoneType_eq_refl
    (fun _ hq => dict_declines (T := "NoneType") ⟨_, ho, rfl⟩ rfl F.sub_NoneType_dict hq)
    (fun _ hq => call_gives F.slot_NoneType_eq_refl rfl F.entry_NoneType_eq (F.args_NoneType_eq_2 _ _) (NoneType___eq___none_ref_0 a) hq)
    (fun _ hq => wpAny_of_eq (rfl : isSame (.ref a) .none = pure false) hq) (.inr hu) h
theorem RcAt.nDict {a : Addr} (hd : D0 s.heap a) (hu : A.units < cLine) : RcAt A s .none (.ref a) false := fun prog w E Q h => by
  obtain ⟨⟨cls, dd, data, sl⟩, n, ho, hc, hd⟩ := hd
  simp only at hc hd
  subst hc hd
  exact rc_eq_decline_or (k := false) rfl ⟨_, ho, rfl⟩ (by decide) F.sub_dict_NoneType F.slot_NoneType_eq F.slot_dict_eq_refl
    (fun _ hq => call_gives F.slot_NoneType_eq rfl F.entry_NoneType_eq (F.args_NoneType_eq_2 _ _) (NoneType___eq___none_ref_0 a) hq)
    (fun _ hq => dict_declines (T := "NoneType") ⟨_, ho, rfl⟩ rfl F.sub_NoneType_dict hq)
    (fun _ hq => wpAny_of_eq (rfl : isSame .none (.ref a) = pure false) hq) (.inr hu) h
theorem RcAt.dictB {a : Addr} (b : Bool) (hd : D0 s.heap a) (hu : A.units < cLine) : RcAt A s (.ref a) (.bool b) false := fun prog w E Q h => by
  obtain ⟨⟨cls, dd, data, sl⟩, n, ho, hc, hd⟩ := hd
  simp only at hc hd
  subst hc hd
  exact rc_eq_decline_or (k := false) ⟨_, ho, rfl⟩ rfl (by decide) F.sub_bool_dict F.slot_dict_eq F.slot_bool_eq_refl
    (fun _ hq => dict_declines (T := "bool") ⟨_, ho, rfl⟩ rfl F.sub_bool_dict hq)
    (fun _ hq => call_meets F.slot_bool_eq_refl rfl F.entry_int_eq (F.args_int_eq_2 _ _) (int_declinesB b a (.type "dict") #[] n dd sl) ⟨ho, hq⟩)
    (fun _ hq => wpAny_of_eq (rfl : isSame (.ref a) (.bool b) = pure false) hq) (.inr hu) h
theorem RcAt.bDict {a : Addr} (b : Bool) (hd : D0 s.heap a) (hu : A.units < cLine) : RcAt A s (.bool b) (.ref a) false := fun prog w E Q h => by
  obtain ⟨⟨cls, dd, data, sl⟩, n, ho, hc, hd⟩ := hd
  simp only at hc hd
  subst hc hd
  exact rc_eq_decline_or (k := false) rfl ⟨_, ho, rfl⟩ (by decide) F.sub_dict_bool F.slot_bool_eq F.slot_dict_eq_refl
    (fun _ hq => call_meets F.slot_bool_eq rfl F.entry_int_eq (F.args_int_eq_2 _ _) (int_declinesB b a (.type "dict") #[] n dd sl) ⟨ho, hq⟩)
    (fun _ hq => dict_declines (T := "bool") ⟨_, ho, rfl⟩ rfl F.sub_bool_dict hq)
    (fun _ hq => wpAny_of_eq (rfl : isSame (.bool b) (.ref a) = pure false) hq) (.inr hu) h
theorem RcAt.dictI {a : Addr} (b : Int) (u : Tok) (hd : D0 s.heap a) (hu : A.units < cLine) : RcAt A s (.ref a) (.int b u) false := fun prog w E Q h => by
  obtain ⟨⟨cls, dd, data, sl⟩, n, ho, hc, hd⟩ := hd
  simp only at hc hd
  subst hc hd
  exact rc_eq_decline_or (k := false) ⟨_, ho, rfl⟩ (typeIs_int s b u) (by decide) F.sub_int_dict F.slot_dict_eq F.slot_int_eq_refl
    (fun _ hq => dict_declines (T := "int") ⟨_, ho, rfl⟩ (typeIs_int s b u) F.sub_int_dict hq)
    (fun _ hq => call_meets F.slot_int_eq_refl (typeIs_int s b u) F.entry_int_eq (F.args_int_eq_2 _ _) (int_declinesI b u a (.type "dict") #[] n dd sl) ⟨ho, hq⟩)
    (fun _ hq => wpAny_of_eq (rfl : isSame (.ref a) (.int b u) = pure false) hq) (.inr hu) h
theorem RcAt.iDict {a : Addr} (b : Int) (u : Tok) (hd : D0 s.heap a) (hu : A.units < cLine) : RcAt A s (.int b u) (.ref a) false := fun prog w E Q h => by
  obtain ⟨⟨cls, dd, data, sl⟩, n, ho, hc, hd⟩ := hd
  simp only at hc hd
  subst hc hd
  exact rc_eq_decline_or (k := false) (typeIs_int s b u) ⟨_, ho, rfl⟩ (by decide) F.sub_dict_int F.slot_int_eq F.slot_dict_eq_refl
    (fun _ hq => call_meets F.slot_int_eq (typeIs_int s b u) F.entry_int_eq (F.args_int_eq_2 _ _) (int_declinesI b u a (.type "dict") #[] n dd sl) ⟨ho, hq⟩)
    (fun _ hq => dict_declines (T := "int") ⟨_, ho, rfl⟩ (typeIs_int s b u) F.sub_int_dict hq)
    (fun _ hq => wpAny_of_eq (rfl : isSame (.int b u) (.ref a) = pure false) hq) (.inr hu) h
theorem RcAt.dictS {a : Addr} (b : Str) (u : Tok) (hd : D0 s.heap a) (hu : A.units < cLine) : RcAt A s (.ref a) (.str b u) false := fun prog w E Q h => by
  obtain ⟨⟨cls, dd, data, sl⟩, n, ho, hc, hd⟩ := hd
  simp only at hc hd
  subst hc hd
  exact rc_eq_decline_or (k := false) ⟨_, ho, rfl⟩ (typeIs_str s b u) (by decide) F.sub_str_dict F.slot_dict_eq F.slot_str_eq_refl
    (fun _ hq => dict_declines (T := "str") ⟨_, ho, rfl⟩ (typeIs_str s b u) F.sub_str_dict hq)
    (fun _ hq => call_meets F.slot_str_eq_refl (typeIs_str s b u) F.entry_str_eq (F.args_str_eq_2 _ _) (str_declinesD b u a (.type "dict") #[] n dd sl) ⟨ho, hq⟩)
    (fun _ hq => wpAny_of_eq (rfl : isSame (.ref a) (.str b u) = pure false) hq) (.inr hu) h
theorem RcAt.sDict {a : Addr} (b : Str) (u : Tok) (hd : D0 s.heap a) (hu : A.units < cLine) : RcAt A s (.str b u) (.ref a) false := fun prog w E Q h => by
  obtain ⟨⟨cls, dd, data, sl⟩, n, ho, hc, hd⟩ := hd
  simp only at hc hd
  subst hc hd
  exact rc_eq_decline_or (k := false) (typeIs_str s b u) ⟨_, ho, rfl⟩ (by decide) F.sub_dict_str F.slot_str_eq F.slot_dict_eq_refl
    (fun _ hq => call_meets F.slot_str_eq (typeIs_str s b u) F.entry_str_eq (F.args_str_eq_2 _ _) (str_declinesD b u a (.type "dict") #[] n dd sl) ⟨ho, hq⟩)
    (fun _ hq => dict_declines (T := "str") ⟨_, ho, rfl⟩ (typeIs_str s b u) F.sub_str_dict hq)
    (fun _ hq => wpAny_of_eq (rfl : isSame (.str b u) (.ref a) = pure false) hq) (.inr hu) h
theorem ne_of_cls {l b : Addr} {o o' : Obj} (h : s.heap.get? l = some o) (h' : s.heap.get? b = some o') (hc : o.cls ≠ o'.cls) : l ≠ b := fun e => by
  subst e
  rw [h] at h'
  cases h'
  exact hc rfl
theorem RcAt.dictL {a l : Addr} {items : Array Value} (hd : D0 s.heap a) (hl : s.heap.IsList l items) (hu : A.units < cLine) : RcAt A s (.ref a) (.ref l) false := fun prog w E Q h => by
  obtain ⟨⟨cls, dd, data, sl⟩, n, ho, hc, hd⟩ := hd
  obtain ⟨⟨cls2, dd2, data2, sl2⟩, ho2, hc2, n2, hd2⟩ := id hl
  simp only at hc hd hc2 hd2
  subst hc hd hc2 hd2
  exact (rc_eq_decline_or (k := false) ⟨_, ho, rfl⟩ ⟨_, ho2, rfl⟩ (by decide) F.sub_list_dict F.slot_dict_eq F.slot_list_eq_refl
    (fun _ hq => dict_declines (T := "list") ⟨_, ho, rfl⟩ ⟨_, ho2, rfl⟩ F.sub_list_dict hq)
    (fun _ hq => call_meets F.slot_list_eq_refl ⟨_, ho2, rfl⟩ F.entry_list_eq (F.args_list_eq_2 _ _) (list_declinesD l a items #[] n2 n dd2 dd sl2 sl) ⟨ho2, ho, hq⟩)
    (fun _ hq => wpAny_isSame_ref_other' (ne_of_cls ho ho2 (fun z => by simp at z)) ho ho2 (by simp) hq) (.inr hu) h)
theorem RcAt.lDict {a l : Addr} {items : Array Value} (hd : D0 s.heap a) (hl : s.heap.IsList l items) (hu : A.units < cLine) : RcAt A s (.ref l) (.ref a) false := fun prog w E Q h => by
  obtain ⟨⟨cls, dd, data, sl⟩, n, ho, hc, hd⟩ := hd
  obtain ⟨⟨cls2, dd2, data2, sl2⟩, ho2, hc2, n2, hd2⟩ := id hl
  simp only at hc hd hc2 hd2
  subst hc hd hc2 hd2
  exact (rc_eq_decline_or (k := false) ⟨_, ho2, rfl⟩ ⟨_, ho, rfl⟩ (by decide) F.sub_dict_list F.slot_list_eq F.slot_dict_eq_refl
    (fun _ hq => call_meets F.slot_list_eq ⟨_, ho2, rfl⟩ F.entry_list_eq (F.args_list_eq_2 _ _) (list_declinesD l a items #[] n2 n dd2 dd sl2 sl) ⟨ho2, ho, hq⟩)
    (fun _ hq => dict_declines (T := "list") ⟨_, ho, rfl⟩ ⟨_, ho2, rfl⟩ F.sub_list_dict hq)
    (fun _ hq => wpAny_isSame_ref_other' (ne_of_cls ho2 ho (fun z => by simp at z)) ho2 ho (by simp) hq) (.inr hu) h)
theorem RcAt.dictT {a l : Addr} {items : Array Value} (hd : D0 s.heap a) (hl : s.heap.IsTuple l items) (hu : A.units < cLine) : RcAt A s (.ref a) (.ref l) false := fun prog w E Q h => by
  obtain ⟨⟨cls, dd, data, sl⟩, n, ho, hc, hd⟩ := hd
  obtain ⟨⟨cls2, dd2, data2, sl2⟩, ho2, hc2, n2, hd2⟩ := id hl
  simp only at hc hd hc2 hd2
  subst hc hd hc2 hd2
  exact (rc_eq_decline_or (k := false) ⟨_, ho, rfl⟩ ⟨_, ho2, rfl⟩ (by decide) F.sub_tuple_dict F.slot_dict_eq F.slot_tuple_eq_refl
    (fun _ hq => dict_declines (T := "tuple") ⟨_, ho, rfl⟩ ⟨_, ho2, rfl⟩ F.sub_tuple_dict hq)
    (fun _ hq => call_meets F.slot_tuple_eq_refl ⟨_, ho2, rfl⟩ F.entry_tuple_eq (F.args_tuple_eq_2 _ _) (tuple_declinesD l a items #[] n2 n dd2 dd sl2 sl) ⟨ho2, ho, hq⟩)
    (fun _ hq => wpAny_isSame_ref_other (ne_of_cls ho ho2 (fun z => by simp at z)) ho ho2 (by simp) hq) (.inr hu) h)
theorem RcAt.tDict {a l : Addr} {items : Array Value} (hd : D0 s.heap a) (hl : s.heap.IsTuple l items) (hu : A.units < cLine) : RcAt A s (.ref l) (.ref a) false := fun prog w E Q h => by
  obtain ⟨⟨cls, dd, data, sl⟩, n, ho, hc, hd⟩ := hd
  obtain ⟨⟨cls2, dd2, data2, sl2⟩, ho2, hc2, n2, hd2⟩ := id hl
  simp only at hc hd hc2 hd2
  subst hc hd hc2 hd2
  exact (rc_eq_decline_or (k := false) ⟨_, ho2, rfl⟩ ⟨_, ho, rfl⟩ (by decide) F.sub_dict_tuple F.slot_tuple_eq F.slot_dict_eq_refl
    (fun _ hq => call_meets F.slot_tuple_eq ⟨_, ho2, rfl⟩ F.entry_tuple_eq (F.args_tuple_eq_2 _ _) (tuple_declinesD l a items #[] n2 n dd2 dd sl2 sl) ⟨ho2, ho, hq⟩)
    (fun _ hq => dict_declines (T := "tuple") ⟨_, ho, rfl⟩ ⟨_, ho2, rfl⟩ F.sub_tuple_dict hq)
    (fun _ hq => wpAny_isSame_ref_other' (ne_of_cls ho2 ho (fun z => by simp at z)) ho2 ho (by simp) hq) (.inr hu) h)
end
section
mutual
/-- == over data with empty dicts -/
theorem eqAt_E {s : Shared} : ∀ (d e : PyData) {A : Around} {a b : Value}, RdE s.heap a d → RdE s.heap b e → A.units + min d.depth e.depth < cLine → EqAt A s a b (eqe d e)
  | .none, _, A, _, _, ra, rb, hu => by
    cases ra
    cases rb with
    | none => exact EqAt.same _
    | bool y => exact EqAt.none_bool y
    | int y u => exact EqAt.none_int y u
    | str y u => exact EqAt.none_str y u
    | list k1 k2 => exact EqAt.none_list k1 (room_here hu)
    | tuple k1 k2 => exact EqAt.none_tuple k1 (room_here hu)
    | dict k0 k1 k2 k3 =>
      exact fun prog w E Q hq => by
        unfold eqBool
        refine wpAny_holding ?_
        refine wpAny_ite_split (fun hab => absurd (eq_of_beq hab) nofun) (fun _ => ?_)
        exact wpAny_bind ((RcAt.nDict ⟨_, _, k1, k2.1, k3⟩ (room_here hu)) prog w E _ (wpAny_truthy_bool hq))
  | .bool x, _, A, _, _, ra, rb, hu => by
    cases ra
    cases rb with
    | none => exact EqAt.bool_none x
    | bool y => exact EqAt.bool_bool x y
    | int y u => exact EqAt.bool_int x y u
    | str y u => exact EqAt.bool_str x y u
    | list k1 k2 => exact EqAt.bool_list x k1 (room_here hu)
    | tuple k1 k2 => exact EqAt.bool_tuple x k1 (room_here hu)
    | dict k0 k1 k2 k3 =>
      exact fun prog w E Q hq => by
        unfold eqBool
        refine wpAny_holding ?_
        refine wpAny_ite_split (fun hab => absurd (eq_of_beq hab) nofun) (fun _ => ?_)
        exact wpAny_bind ((RcAt.bDict x ⟨_, _, k1, k2.1, k3⟩ (room_here hu)) prog w E _ (wpAny_truthy_bool hq))
  | .int x, _, A, _, _, ra, rb, hu => by
    cases ra with
    | int _ t =>
      cases rb with
      | none => exact EqAt.int_none x t
      | bool y => exact EqAt.int_bool x t y
      | int y u => exact EqAt.int_int x t y u
      | str y u => exact EqAt.int_str x t y u
      | list k1 k2 => exact EqAt.int_list x t k1 (room_here hu)
      | tuple k1 k2 => exact EqAt.int_tuple x t k1 (room_here hu)
      | dict k0 k1 k2 k3 =>
        exact fun prog w E Q hq => by
          unfold eqBool
          refine wpAny_holding ?_
          refine wpAny_ite_split (fun hab => absurd (eq_of_beq hab) nofun) (fun _ => ?_)
          exact wpAny_bind ((RcAt.iDict x t ⟨_, _, k1, k2.1, k3⟩ (room_here hu)) prog w E _ (wpAny_truthy_bool hq))
  | .str x, _, A, _, _, ra, rb, hu => by
    cases ra with
    | str _ t =>
      cases rb with
      | none => exact EqAt.str_none x t
      | bool y => exact EqAt.str_bool x t y
      | int y u => exact EqAt.str_int x t y u
      | str y u => exact EqAt.str_str x t y u
      | list k1 k2 => exact EqAt.str_list x t k1 (room_here hu)
      | tuple k1 k2 => exact EqAt.str_tuple x t k1 (room_here hu)
      | dict k0 k1 k2 k3 =>
        exact fun prog w E Q hq => by
          unfold eqBool
          refine wpAny_holding ?_
          refine wpAny_ite_split (fun hab => absurd (eq_of_beq hab) nofun) (fun _ => ?_)
          exact wpAny_bind ((RcAt.sDict x t ⟨_, _, k1, k2.1, k3⟩ (room_here hu)) prog w E _ (wpAny_truthy_bool hq))
  | .list xs, _, A, _, _, ra, rb, hu => by
    cases ra with
    | @list l vs _ hl hr =>
      cases rb with
      | none => exact EqAt.list_none hl (room_here hu)
      | bool y => exact EqAt.list_bool y hl (room_here hu)
      | int y u => exact EqAt.list_int y u hl (room_here hu)
      | str y u => exact EqAt.list_str y u hl (room_here hu)
      | tuple k1 k2 => exact EqAt.list_tuple hl k1 (room_here hu)
      | dict k0 k1 k2 k3 =>
        exact EqAt.of_refs (fun z => by
          obtain ⟨o, ho, hc, _⟩ := hl
          exact ne_of_cls ho k1 (by rw [hc, k2.1]; decide) z) (RcAt.lDict ⟨_, _, k1, k2.1, k3⟩ hl (room_here hu))
      | @list l' vs' ys hl' hr' =>
        have n1 : vs.toArray.size = xs.length := by simpa using hr.length
        have n2 : vs'.toArray.size = ys.length := by simpa using hr'.length
        show EqAt A s (.ref l) (.ref l') (eqe (.list xs) (.list ys))
        by_cases hll : l = l'
        · subst hll
          have e := RdE.uniq (.list xs) (.list ys) (.list hl hr) (.list hl' hr')
          rw [← e, eqe_refl]
          exact EqAt.same _
        · rw [eqe]
          by_cases hsz : vs.toArray.size = vs'.toArray.size
          · rw [← eqeA_same (by omega : xs.length = ys.length), ← n1]
            refine EqAt.of_refs hll (RcAt.lists hl hl' hsz (room_here hu) fun j j1 j2 => ?_)
            have := eqAt_Es xs ys (A := A.in1) hr hr' (room_in hu) j (by simpa using j1) (by simpa using j2)
            simpa using this
          · rw [eqeA_other (by omega : xs.length ≠ ys.length)]
            exact EqAt.of_refs hll (RcAt.lists_lengths hl hl' (by simpa using hsz) (room_here hu))
  | .tuple xs, _, A, _, _, ra, rb, hu => by
    cases ra with
    | @tuple l vs _ hl hr =>
      cases rb with
      | none => exact EqAt.tuple_none hl (room_here hu)
      | bool y => exact EqAt.tuple_bool y hl (room_here hu)
      | int y u => exact EqAt.tuple_int y u hl (room_here hu)
      | str y u => exact EqAt.tuple_str y u hl (room_here hu)
      | list k1 k2 => exact EqAt.tuple_list hl k1 (room_here hu)
      | dict k0 k1 k2 k3 =>
        exact EqAt.of_refs (fun z => by
          obtain ⟨o, ho, hc, _⟩ := hl
          exact ne_of_cls ho k1 (by rw [hc, k2.1]; decide) z) (RcAt.tDict ⟨_, _, k1, k2.1, k3⟩ hl (room_here hu))
      | @tuple l' vs' ys hl' hr' =>
        have n1 : vs.toArray.size = xs.length := by simpa using hr.length
        have n2 : vs'.toArray.size = ys.length := by simpa using hr'.length
        show EqAt A s (.ref l) (.ref l') (eqe (.tuple xs) (.tuple ys))
        by_cases hll : l = l'
        · subst hll
          have e := RdE.uniq (.tuple xs) (.tuple ys) (.tuple hl hr) (.tuple hl' hr')
          rw [← e, eqe_refl]
          exact EqAt.same _
        · rw [eqe, ← eqeA_eq xs ys, ← n1, ← n2]
          refine EqAt.of_refs hll (RcAt.tuples hl hl' (room_here hu) fun j j1 j2 => ?_)
          have := eqAt_Es xs ys (A := A.in1) hr hr' (room_in hu) j (by simpa using j1) (by simpa using j2)
          simpa using this
  | .dict _, _, A, _, _, ra, rb, hu => by
    cases ra with
    | @dict a o n h0 h1 h2 h3 =>
      have D : D0 s.heap a := ⟨_, _, h1, h2.1, h3⟩
      cases rb with
      | none =>
        exact fun prog w E Q hq => by
          unfold eqBool
          refine wpAny_holding ?_
          refine wpAny_ite_split (fun hab => absurd (eq_of_beq hab) nofun) (fun _ => ?_)
          exact wpAny_bind ((RcAt.dictN D (room_here hu)) prog w E _ (wpAny_truthy_bool hq))
      | bool y =>
        exact fun prog w E Q hq => by
          unfold eqBool
          refine wpAny_holding ?_
          refine wpAny_ite_split (fun hab => absurd (eq_of_beq hab) nofun) (fun _ => ?_)
          exact wpAny_bind ((RcAt.dictB y D (room_here hu)) prog w E _ (wpAny_truthy_bool hq))
      | int y u =>
        exact fun prog w E Q hq => by
          unfold eqBool
          refine wpAny_holding ?_
          refine wpAny_ite_split (fun hab => absurd (eq_of_beq hab) nofun) (fun _ => ?_)
          exact wpAny_bind ((RcAt.dictI y u D (room_here hu)) prog w E _ (wpAny_truthy_bool hq))
      | str y u =>
        exact fun prog w E Q hq => by
          unfold eqBool
          refine wpAny_holding ?_
          refine wpAny_ite_split (fun hab => absurd (eq_of_beq hab) nofun) (fun _ => ?_)
          exact wpAny_bind ((RcAt.dictS y u D (room_here hu)) prog w E _ (wpAny_truthy_bool hq))
      | list k1 k2 =>
        exact EqAt.of_refs (fun z => by
          obtain ⟨o', ho, hc, _⟩ := k1
          exact ne_of_cls h1 ho (by rw [hc, h2.1]; decide) z) (RcAt.dictL D k1 (room_here hu))
      | tuple k1 k2 =>
        exact EqAt.of_refs (fun z => by
          obtain ⟨o', ho, hc, _⟩ := k1
          exact ne_of_cls h1 ho (by rw [hc, h2.1]; decide) z) (RcAt.dictT D k1 (room_here hu))
      | @dict b o' n' k0 k1 k2 k3 =>
        by_cases hab : a = b
        · subst hab
          exact EqAt.same _
        · refine EqAt.of_refs hab fun prog w E Q h => ?_
          have da : s.heap.DictOf (mixKind prog w) a [] := ⟨o, #[], n, h1, h2, h3, (fun _ he => by simp at he), Pairs.nil, List.nodup_nil⟩
          have db : s.heap.DictOf (mixKind prog w) b [] := ⟨o', #[], n', k1, k2, k3, (fun _ he => by simp at he), Pairs.nil, List.nodup_nil⟩
          exact PySem.W.keq_eq (r := true) h0 k0 da db (room_here hu) (fun _ => .nil) h
theorem eqAt_Es {s : Shared} : ∀ (xs ys : List PyData) {A : Around} {vs ws : List Value}, RdEs s.heap vs xs → RdEs s.heap ws ys → A.units + min (PyData.depthAll xs) (PyData.depthAll ys) < cLine → ∀ j (h1 : j < vs.length) (h2 : j < ws.length), EqAt A s vs[j] ws[j] (pairE xs ys j)
  | [], _, _, _, _, ra, _, _, j, h1, _ => by cases ra; exact absurd h1 (Nat.not_lt_zero _)
  | _ :: _, [], _, _, _, _, rb, _, j, _, h2 => by cases rb; exact absurd h2 (Nat.not_lt_zero _)
  | x :: xs, y :: ys, A, _, _, ra, rb, hu, j, h1, h2 => by
    cases ra with
    | cons r rs =>
      cases rb with
      | cons r' rs' =>
        cases j with
        | zero => exact eqAt_E x y r r' (room_head hu)
        | succ j => exact eqAt_Es xs ys rs rs' (room_tail hu) j (Nat.lt_of_succ_lt_succ h1) (Nat.lt_of_succ_lt_succ h2)
end
end
section
variable {X : Cx} {pins : List (Addr × Obj)} {σ : L2.St} {H : Hp} {s : Shared}
mutual
theorem rdE (I : Inv X pins σ H s) {K : Kw} (hK : X.K = K.K) : ∀ (d : PyData) {v : V} {u : Value}, Rp K H v d → RelV v u → Pr.rok d = true → RdE s.heap u d
  | .none, _, _, h, r, _ => by cases h; cases r; exact .none
  | .bool b, _, _, h, r, _ => by cases h; cases r; exact .bool b
  | .int i, _, _, h, r, _ => by
    cases h
    obtain ⟨t, rfl⟩ := r
    exact .int i t
  | .str x, _, _, h, r, _ => by
    cases h
    obtain ⟨t, rfl⟩ := r
    exact .str x t
  | .list ds, _, _, h, r, c => by
    cases h with
    | @lst a xs _ ha hr =>
      cases r
      obtain ⟨its, rv, ⟨o, n, e1, e2, _, e3⟩, _⟩ := I.list (show SqL X.K H a xs by rw [hK]; exact SqL.of ha)
      exact .list ⟨o, e1, e2, n, e3⟩ (rdEs I hK ds hr rv (by simpa [Pr.rok] using c))
  | .tuple ds, _, _, h, r, c => by
    cases h with
    | @tup a xs _ ha hr =>
      cases r
      obtain ⟨its, rv, ⟨o, e1, e2, n, e3⟩, _⟩ := I.tuple (show SqT X.K H a xs by rw [hK]; exact ha)
      exact .tuple ⟨o, e1, e2, n, e3⟩ (rdEs I hK ds hr rv (by simpa [Pr.rok] using c))
  | .dict kvs, _, _, h, r, c => by
    have : kvs = [] := by simpa [Pr.rok] using c
    subst this
    rcases h.dict_inv with ⟨a, ks, rfl, ha, hf⟩ | ⟨a, _, _, _, _, e, _⟩ | ⟨a, _, _, _, _, e, _⟩ | ⟨a, _, _, _, e, _⟩
    · have : ks = [] := by simpa using hf rfl
      subst this
      cases r
      obtain ⟨_, h2, vs, kv, o, es, ep, h3, h4, h5, _, hp, _⟩ := dk_of I.hok ha
      cases kv
      have : es = #[] := by
        have z := Pairs.length (knd := mixKind X.prog X.w) hp
        simpa using z
      subst this
      exact .dict h2 h3 h4 h5
    · cases e
    · cases e
    · cases e
theorem rdEs (I : Inv X pins σ H s) {K : Kw} (hK : X.K = K.K) : ∀ (ds : List PyData) {vs : List V} {us : List Value}, RpA K H vs ds → Vals vs us → Pr.rokAll ds = true → RdEs s.heap us ds
  | [], _, _, h, r, _ => by cases h; cases r; exact .nil
  | d :: ds, _, _, h, r, c => by
    have c' : Pr.rok d = true ∧ Pr.rokAll ds = true := by simpa [Pr.rokAll] using c
    cases h with
    | cons h1 h2 =>
      cases r with
      | cons r1 r2 => exact .cons (rdE I hK d h1 r1 c'.1) (rdEs I hK ds h2 r2 c'.2)
end
theorem RdEs.mem {h : Heap} {x : PyData} : ∀ {vs : List Value} {ds : List PyData}, RdEs h vs ds → ∃ f : Value → PyData, (∀ v ∈ vs, RdE h v (f v) ∧ f v ∈ ds) ∧ (vs.any fun v => eqe (f v) x) = ds.any fun d => eqe d x
  | [], [], _ => ⟨fun _ => .none, ⟨fun _ z => (by cases z), rfl⟩⟩
  | [], _ :: _, r => by cases r
  | _ :: _, [], r => by cases r
  | v :: vs, d :: ds, r => by
    cases r with
    | cons a b =>
      obtain ⟨f, h1, h2⟩ := RdEs.mem (x := x) b
      classical
      have e0 : (fun w : Value => if w = v then d else f w) v = d := if_pos rfl
      have hf : ∀ w ∈ vs, (fun w : Value => if w = v then d else f w) w = f w := fun w hw => by
        by_cases e : w = v
        · subst e
          exact (if_pos rfl).trans (RdE.uniq _ _ a (h1 _ hw).1)
        · exact if_neg e
      generalize (fun w : Value => if w = v then d else f w) = g at e0 hf
      refine ⟨g, fun w hw => ?_, ?_⟩
      · rcases List.mem_cons.mp hw with rfl | hw
        · rw [e0]; exact ⟨a, List.mem_cons_self⟩
        · rw [hf w hw]; exact ⟨(h1 w hw).1, List.mem_cons_of_mem _ (h1 w hw).2⟩
      · rw [List.any_cons, List.any_cons, e0, ← h2]
        congr 1
        apply Bool.eq_iff_iff.mpr
        rw [List.any_eq_true, List.any_eq_true]
        constructor
        · rintro ⟨w, hw, e⟩; exact ⟨w, hw, by rw [← hf w hw]; exact e⟩
        · rintro ⟨w, hw, e⟩; exact ⟨w, hw, by rw [hf w hw]; exact e⟩
end
end Pu
end
section
set_option Elab.async false
set_option linter.all false
set_option maxRecDepth 100000
namespace Pu
open PySem PySem.Spec PyProof.Rows L2 Pk
section
variable {K : Kw} {m : Bool} {Γ : List Sl} {Q : PyData → Prop} {te : TE}
end
theorem strOk_of {x : Str} (h : ∀ c ∈ x.cps.toList, c < 1114112) : PyData.strOk x = true := by
  unfold PyData.strOk
  rw [← Array.all_toList, List.all_eq_true]
  intro c hc
  exact decide_eq_true (by have := h c hc; omega)
theorem cut_mem {x : Str} {lo hi : Option Int} {c : Nat} (h : c ∈ (cutS x lo hi).cps.toList) : c ∈ x.cps.toList := by
  unfold cutS at h
  simp only at h
  exact List.mem_of_mem_drop (List.mem_of_mem_take h)
end Pu
end
section
set_option Elab.async false
set_option linter.all false
set_option maxRecDepth 100000
namespace Pu
open PySem PySem.Spec PyProof.Rows L2 Pk PySem.SeqAt
section
variable {K : Kw} {m : Bool} {Γ : List Sl} {Q : PyData → Prop}
end
end Pu
end
section
set_option Elab.async false
set_option linter.all false
set_option maxRecDepth 100000
namespace Pk
open PySem PySem.Spec PyProof.Rows L2
section
variable {K : Kw} {m : Bool} {Γ : List Sl} {Q : PyData → Prop} {t ta te : TE}
end
end Pk
end
section
set_option Elab.async false
set_option linter.all false
set_option maxRecDepth 100000
namespace Pk
open PySem PySem.Spec PyProof.Rows L2
section
variable {K : Kw} {m : Bool} {Γ : List Sl} {t te tr : TE} {Q : PyData → Prop} {P : Po}
open Classical in
end
end Pk
end
section
set_option Elab.async false
set_option linter.all false
set_option maxRecDepth 100000
namespace Pk
open PySem PySem.Spec PyProof.Rows L2
section
variable {K : Kw} {m : Bool} {Γ : List Sl} {t te tr : TE} {ta : TA} {Q : PyData → Prop} {P : Po}
open Classical in
end
end Pk
end
section
set_option Elab.async false
set_option linter.all false
set_option maxRecDepth 100000
set_option pp.maxSteps 1000
namespace Pk
open PySem PySem.Spec PyProof.Rows L2
section
variable {X : Cx} {pins : List (Addr × Obj)} {σ : L2.St} {H : Hp} {s : Shared} {a : Addr} {y v : V} {u r : Value} {A : Around} {E : Value → Shared → Prop}
end
section
variable {X : Cx} {o e f : Expr} {td ty tx : TE} {apos cpos : Pos}
end
section
variable {K : Kw} {m : Bool} {Γ : List Sl} {ti tx : TE} {Q : PyData → Prop} {QG : PyData → List Sl → Prop} {P : Po}
end
end Pk
end
section
set_option Elab.async false
set_option linter.all false
set_option maxRecDepth 100000
set_option pp.maxSteps 1000
namespace Ps
open PySem PySem.Spec PyProof.Rows L2 HT
theorem adjust_rev (n : Nat) : Builtin.Slice.sliceAdjust none none (-1) (n : Int) = ((n : Int) - 1, -1) := by
  unfold Builtin.Slice.sliceAdjust
  simp
theorem places_rev (n : Nat) : Builtin.Slice.slicePlaces ((n : Int) - 1) (-1) (-1) = n := by
  unfold Builtin.Slice.slicePlaces
  have h1 : ¬ ((-1 : Int) > 0) := by omega
  rw [if_neg h1]
  by_cases h : (n : Int) - 1 > -1
  · rw [if_pos h]
    have e : ((n : Int) - 1 - -1 - 1) / (- -1) = (n : Int) - 1 := by
      have : (- -1 : Int) = 1 := by decide
      rw [this, Int.ediv_one]
      omega
    rw [e]
    omega
  · rw [if_neg h]
    omega
theorem fm_congr {α β : Type} {f g : α → Option β} : ∀ {l : List α}, (∀ x ∈ l, f x = g x) → l.filterMap f = l.filterMap g
  | [], _ => rfl
  | x :: l, h => by
    rw [List.filterMap_cons, List.filterMap_cons, h x List.mem_cons_self, fm_congr fun y hy => h y (List.mem_cons_of_mem _ hy)]
theorem pick_rev (xs : List Value) : (List.range xs.length).filterMap (fun (k : Nat) => xs.toArray[(((xs.length : Nat) : Int) - 1 + (k : Int) * (-1)).toNat]?) = xs.reverse := by
  have e : ∀ k ∈ List.range xs.length, xs.toArray[(((xs.length : Nat) : Int) - 1 + (k : Int) * (-1)).toNat]? = xs.reverse[k]? := fun k hk => by
    have hk' := List.mem_range.mp hk
    have e1 : (((xs.length : Nat) : Int) - 1 + (k : Int) * (-1)).toNat = xs.length - 1 - k := by omega
    rw [e1, List.getElem?_toArray, List.getElem?_reverse hk']
  have e2 : (List.range xs.length).filterMap (fun (k : Nat) => xs.toArray[(((xs.length : Nat) : Int) - 1 + (k : Int) * (-1)).toNat]?) = (List.range xs.length).filterMap fun k => xs.reverse[k]? := fm_congr e
  rw [e2]
  have hl : xs.length = xs.reverse.length := by simp
  rw [hl]
  generalize xs.reverse = ys
  have key : ∀ (zs : List Value), (List.range zs.length).filterMap (fun k => zs[k]?) = zs := fun zs => by
    induction zs with
    | nil => rfl
    | cons z zs ih =>
      rw [List.length_cons, List.range_succ_eq_map, List.filterMap_cons]
      simp only [List.getElem?_cons_zero]
      rw [List.filterMap_map]
      congr 1
  exact key ys
section
variable {prog : Program} {w : World} {A : Around} {E : Value → Shared → Prop} {s : Shared}
theorem applied_rev {sl : Addr} {u : Value} {n : Nat} {Q : Int × Int × Nat → Shared → Prop} (hs : s.heap.IsSliceOf sl .none .none u) (pu : IsPart u (some (-1))) (h : Q ((n : Int) - 1, -1, n) s) : wpAny (model prog w) A (Builtin.Slice.sliceApplied (.ref sl) (pure (n : Int))) Q E s := by
  obtain ⟨os, hos, hcs, hds⟩ := id hs
  unfold Builtin.Slice.sliceApplied Builtin.Slice.sliceFields
  refine wpAny_bind (wpAny_bind (wpAny_field hos hds (x := .none) rfl (wpAny_bind (wpAny_field hos hds (x := .none) rfl (wpAny_bind (wpAny_field hos hds (x := u) rfl (wpAny_pure ?_))))))); refine wpAny_bind (slicePart_ pu ?_)
  show wpAny _ _ (if ((-1 : Int) == 0) = true then _ else _) _ _ s
  rw [if_neg (by decide)]
  refine wpAny_bind (slicePart_ .none (wpAny_bind (slicePart_ .none (wpAny_bind (wpAny_pure ?_)))))
  show wpAny _ _ (match Builtin.Slice.sliceAdjust none none (-1) (n : Int) with | (lo, hi) => pure (lo, (-1 : Int), Builtin.Slice.slicePlaces lo hi (-1))) _ _ s
  rw [adjust_rev n]
  show wpAny _ _ (pure ((n : Int) - 1, (-1 : Int), Builtin.Slice.slicePlaces ((n : Int) - 1) (-1) (-1))) _ _ s
  rw [places_rev]
  exact wpAny_pure h
theorem getItem_rev {t sl : Addr} {its : List Value} {u : Value} {Q : Value → Shared → Prop} (ht : IsTup s.heap t its.toArray) (hs : s.heap.IsSliceOf sl .none .none u) (pu : IsPart u (some (-1)))
    (h : Q (.ref s.heap.objs.size) { s with heap := s.heap.push { cls := .type "tuple", data := .seq its.reverse.toArray } }) (hsz : its.length ≤ sizeLine) : wpAny (model prog w) A (getItem (.ref t) (.ref sl)) Q E s := by
  have hok : sizeOk (.seq its.reverse.toArray) := by
    show its.reverse.toArray.size ≤ sizeLine
    rw [List.size_toArray, List.length_reverse]
    exact hsz
  have hT : s.TypeIs (.ref sl) "slice" := by
    obtain ⟨os, hos, hcs, _⟩ := id hs
    exact ⟨os, hos, hcs⟩
  unfold getItem
  try with_reducible refine wpAny_holding ?_
  first | refine wpAny_bind (wpAny_pure ?_) | skip
  refine wpAny_bind (wpAny_sequenceKey ht.typeIs (by decide) (wpAny_bind (wpAny_callSpecial?_slot (name := Str.ofString "__getitem__") ht.typeIs PyProof.Rows.slot_tuple_getitem (wpAny_call_entry PyProof.Rows.slot_tuple_getitem ht.typeIs entry_tuple_getitem ?_ (args_tuple_getitem _ _)))))
  show wpAny _ _ (Builtin.Tuple.tupleItemsOf (.ref t) >>= _) _ _ s
  refine wpAny_bind (tupleItemsOf_ ht (wpAny_bind (wpAny_typeOf hT ?_)))
  rw [if_pos (by decide)]
  have hap : wpAny (model prog w) A.in1 (Builtin.Slice.sliceApplied (.ref sl) (pure (its.toArray.size : Int))) (fun r s' => r = ((its.length : Int) - 1, -1, its.length) ∧ s' = s) E s := by
    rw [List.size_toArray]
    exact applied_rev hs pu ⟨rfl, rfl⟩
  refine wpAny_bind (wpAny_mono hap (fun r s' ⟨e1, e2⟩ => ?_) fun _ _ z => z)
  subst e1 e2
  have hno : ¬ (((its.length : Int) - 1 == 0 && (-1 : Int) == 1 && its.length == its.toArray.size) = true) := by
    intro q
    rw [Bool.and_eq_true, Bool.and_eq_true] at q
    exact absurd q.1.2 (by decide)
  show wpAny _ _ (if ((its.length : Int) - 1 == 0 && (-1 : Int) == 1 && its.length == its.toArray.size) = true then _ else _) _ _ _
  rw [if_neg hno, pick_rev]
  first
    | exact wpAny_bind (m := Builtin.Tuple.tupleExact _) (wpAny_newObj_type (wpAny_pure ⟨_, rfl, wpAny_pure h⟩) hok)
    | exact wpAny_bind (m := Builtin.Tuple.tupleExact _) (wpAny_newObj_type (wpAny_bind (wpAny_pure (wpAny_pure ⟨_, rfl, wpAny_pure h⟩))) hok)
    | exact wpAny_bind (wpAny_bind (m := Builtin.Tuple.tupleExact _) (wpAny_newObj_type (wpAny_pure (wpAny_pure ⟨_, rfl, wpAny_pure h⟩)) hok))
    | exact wpAny_bind (wpAny_bind (m := Builtin.Tuple.tupleExact _) (wpAny_newObj_type (wpAny_pure ⟨_, rfl, wpAny_pure h⟩) hok))
end
def tRevT (K : PySem.W.Frag) (te : TE) : TE := fun σ H Q => te σ H fun x H1 => ∃ a xs, x = .ref a ∧ SqT K H1 a xs ∧ ∀ p, H1 p = none → Q (.ref p) (upd H1 p (.tup xs.reverse))
theorem pe_revT {X : Cx} {e : Expr} {te : TE} {k : Nat} {p1 p2 p3 pos : Pos} (he : PE X e te) : PE X (.Subscript e (.Slice none none (some (.UnaryOp .USub (.Constant (.int 1) k p1) p2)) p3) pos) (tRevT X.K te) := by
  refine ⟨fun pins s σ H Q I h => ?_⟩
  refine Subscript_ (thn (he.run pins s σ H _ I h) fun v s1 ⟨x, H1, I1, r1, a, xs, ex, hx, q⟩ => ?_)
  subst ex
  cases r1
  have hst : PO X (some (.UnaryOp .USub (.Constant (.int 1) k p1) p2)) (tPart (tUn (rU fun i => .int (-i)) (tC (.int 1)))) := po_some (pe_un un_neg pe_int)
  refine wpAny_Slice (thn (po_none.run pins s1 σ H1 (fun o H2 => o = none ∧ H2 = H1) I1 ⟨rfl, rfl⟩) fun vl s2 ⟨l, H2, I2, pl, el, e2⟩ => ?_)
  subst el e2
  refine thn (po_none.run pins s2 σ H2 (fun o H3 => o = none ∧ H3 = H2) I2 ⟨rfl, rfl⟩) fun vu s3 ⟨u, H3, I3, pu, eu, e3⟩ => ?_
  subst eu e3
  refine thn (hst.run pins s3 σ H3 (fun o H4 => o = some (-1) ∧ H4 = H3) I3 ⟨1, rfl, -1, rfl, rfl, rfl⟩) fun vs s4 ⟨o, H4, I4, ps, eo, e4⟩ => ?_
  subst eo e4
  cases pl
  cases pu
  have I5 : Inv X pins σ H4 { s4 with heap := s4.heap.push { cls := .type "slice", data := .fields #[.none, .none, vs] } } := I4.kept (t' := s4.toks) fun b ob q => Heap.get?_push_of_some _ q
  obtain ⟨its, r, ht, hz⟩ := I5.tuple hx
  have hlen := r.length
  show wpAny (model X.prog X.w) X.A (subscriptTail e (.Slice none none (some (.UnaryOp .USub (.Constant (.int 1) k p1) p2)) p3) (.ref a) (.ref s4.heap.objs.size)) (EP X pins σ Q) X.xe { s4 with heap := s4.heap.push { cls := .type "slice", data := .fields #[.none, .none, vs] } }
  refine tail_any (ops := [.ref a, .ref s4.heap.objs.size]) ht.typeIs (PyProof.Rows.slot_tuple_getitem.lookup) ?_ (by with_unfolding_all rfl)
  refine getItem_rev (its := its) (by simpa using ht) (Heap.IsSliceOf.new _ .none .none vs) ps ?_ (by omega)
  exact ⟨.ref _, _, I5.laid (t' := s4.toks) (o := .tup xs.reverse) (fun b ob q => Heap.get?_push_of_some _ q) (Nat.le_refl _) ⟨by rw [List.length_reverse]; exact hz, _, r.reverse, IsTup.new _ _⟩, rfl, q _ (I5.hok.fresh (Nat.le_refl _))⟩
end Ps
namespace Pk
open PySem PySem.Spec PyProof.Rows L2 Ps
theorem wd_revT {K : Kw} {m : Bool} {Γ : List Sl} {Q : PyData → Prop} {ta : TE} (h : WD K m Γ ta fun x => ∃ ds, x = .tuple ds ∧ Q (.tuple ds.reverse)) : WD K m Γ (tRevT K ta) Q := fun X hK F H σ E C k =>
  h X hK F H σ E _ fun v F1 H1 x l1 E1 r ⟨ds, e, q⟩ => by
    subst e
    subst hK
    cases r with
    | tup h1 r1 =>
      refine ⟨_, _, rfl, sqT_le (E1.lef m) h1, fun p hp => ?_⟩
      obtain ⟨a, b, c⟩ := E1.newT rfl hp (RpA.reverse r1)
      exact k (.ref p) _ _ _ (l1.tr a) b c q
end Pk
end
section
set_option Elab.async false
set_option linter.all false
set_option maxRecDepth 100000
namespace Pk
open PySem PySem.Spec PyProof.Rows L2 PySem.SeqAt
def tEi (t t' : TE) : TE := fun σ H Q => t σ H Q ∨ t' σ H Q
theorem pe_ei {X : Cx} {e : Expr} {t t' : TE} (h : PE X e t) (h' : PE X e t') : PE X e (tEi t t') :=
  ⟨fun pins s σ H Q I q => q.elim (h.run pins s σ H Q I) (h'.run pins s σ H Q I)⟩
def dLeS : R2 := fun x y H Q => ∃ i j, x = .str i ∧ y = .str j ∧ Q (.bl (!decide (j.cps.toList < i.cps.toList))) H
theorem o_leS {X : Cx} : OpR X (compareOp .LtE) dLeS := op_le_str
def rEqNil (K : PySem.W.Frag) : R2 := fun x y H Q => ∃ a xs b, x = .ref a ∧ y = .ref b ∧ SqL K H a xs ∧ SqL K H b [] ∧ Q (.bl xs.isEmpty) H
def rNeNil (K : PySem.W.Frag) : R2 := fun x y H Q => ∃ a xs b, x = .ref a ∧ y = .ref b ∧ SqL K H a xs ∧ SqL K H b [] ∧ Q (.bl !xs.isEmpty) H
theorem nil_key {X : Cx} {pins : List (Addr × Obj)} {s : Shared} {σ : L2.St} {H : Hp} (I : Inv X pins σ H s) {a b : Addr} {xs : List V} (h1 : SqL X.K H a xs) (h2 : SqL X.K H b []) :
    ∃ its : Array Value, s.heap.IsList a its ∧ s.heap.IsList b #[] ∧ its.size = xs.length := by
  obtain ⟨its, r, pl, _⟩ := I.list h1
  obtain ⟨its2, r2, pl2, _⟩ := I.list h2
  cases r2
  obtain ⟨o, n, e1, e2, e3, e4⟩ := pl
  obtain ⟨o', n', f1, f2, f3, f4⟩ := pl2
  exact ⟨its.toArray, ⟨o, e1, e2, n, e4⟩, ⟨o', f1, f2, n', by simpa using f4⟩, by simpa using r.length.symm⟩
theorem op_eqNil {X : Cx} (hu : X.A.units + 65 < cLine) : OpR X (compareOp .Eq) (rEqNil X.K) := by
  intro pins s σ H x y v u Q I rx ry ⟨a, xs, b, ex, ey, h1, h2, q⟩
  subst ex ey
  cases rx
  cases ry
  obtain ⟨its, l1, l2, hz⟩ := nil_key I h1 h2
  have key : RcAt X.A s (.ref a) (.ref b) xs.isEmpty := by
    cases xs with
    | nil =>
      have h := RcAt.lists (A := X.A) (e := fun _ => true) l1 l2 (by simpa using hz) (by omega) fun j j1 j2 => by simp at j2
      have e : (List.range its.size).all (fun _ => true) = true := by simp
      rw [e] at h
      exact h
    | cons x r => exact RcAt.lists_lengths l1 l2 (by simp [hz]) (by omega)
  exact key _ _ _ _ ⟨.bl _, H, I, rfl, q⟩
theorem op_neNil {X : Cx} (hu : X.A.units + 65 < cLine) : OpR X (compareOp .NotEq) (rNeNil X.K) := by
  intro pins s σ H x y v u Q I rx ry ⟨a, xs, b, ex, ey, h1, h2, q⟩
  subst ex ey
  cases rx
  cases ry
  obtain ⟨its, l1, l2, hz⟩ := nil_key I h1 h2
  have key : RcNeAt X.A s (.ref a) (.ref b) (!xs.isEmpty) := by
    cases xs with
    | nil =>
      have h := RcNeAt.lists (A := X.A) (e := fun _ => true) l1 l2 (by simpa using hz) (by omega) fun j j1 j2 => by simp at j2
      have e : (List.range its.size).all (fun _ => true) = true := by simp
      rw [e] at h
      exact h
    | cons x r => exact RcNeAt.lists_lengths l1 l2 (by simp [hz]) (by omega)
  exact key _ _ _ _ ⟨.bl _, H, I, rfl, q⟩
/-- == of the same data, empty dicts in it, told twice -/
def isBox : PyData → Bool
  | .list _ => true
  | .tuple _ => true
  | .dict _ => true
  | _ => false
def rSame (K : PySem.W.Frag) (w : World) : R2 := fun x y H Q => ∃ d, Rp ⟨K, w⟩ H x d ∧ Rp ⟨K, w⟩ H y d ∧ Pr.rok d = true ∧ d.depth ≤ 60 ∧ isBox d = true ∧ Q (.bl true) H
theorem op_same {X : Cx} (hu : X.A.units + 65 < cLine) : OpR X (compareOp .Eq) (rSame X.K X.w) := by
  intro pins s σ H x y v u Q I rx ry ⟨d, hd, he, rd, hz, bx, q⟩
  have a := Pu.rdE (K := ⟨X.K, X.w⟩) I rfl d hd rx rd
  have b := Pu.rdE (K := ⟨X.K, X.w⟩) I rfl d he ry rd
  have hu0 : X.A.units < cLine := by omega
  cases d with
  | list ds =>
    cases a with
    | @list l vs _ hl hr =>
      cases b with
      | @list l' vs' _ hl' hr' =>
        have n1 : vs.toArray.size = ds.length := by simpa using hr.length
        have n2 : vs'.toArray.size = ds.length := by simpa using hr'.length
        have hz' : PyData.depthAll ds ≤ 60 := by
          simp only [PyData.depth] at hz
          omega
        have key : RcAt X.A s (.ref l) (.ref l') true := by
          have e : (List.range ds.length).all (Pu.pairE ds ds) = true := by rw [Pu.eqeA_same rfl]; exact Pu.eqeA_refl ds
          rw [← e, ← n1]
          refine RcAt.lists hl hl' (by omega) hu0 fun j j1 j2 => ?_
          have := Pu.eqAt_Es ds ds (A := X.A.in1) hr hr' (by show X.A.units + 1 + _ < cLine; omega) j (by simpa using j1) (by simpa using j2)
          simpa using this
        exact key _ _ _ _ ⟨.bl _, H, I, rfl, q⟩
  | tuple ds =>
    cases a with
    | @tuple l vs _ hl hr =>
      cases b with
      | @tuple l' vs' _ hl' hr' =>
        have n1 : vs.toArray.size = ds.length := by simpa using hr.length
        have n2 : vs'.toArray.size = ds.length := by simpa using hr'.length
        have hz' : PyData.depthAll ds ≤ 60 := by
          simp only [PyData.depth] at hz
          omega
        have key : RcAt X.A s (.ref l) (.ref l') true := by
          have e : ((List.range (min vs.toArray.size vs'.toArray.size)).all (Pu.pairE ds ds) && vs.toArray.size == vs'.toArray.size) = true := by
            rw [n1, n2, Nat.min_self, Pu.eqeA_same rfl, Pu.eqeA_refl]
            simp
          rw [← e]
          refine RcAt.tuples hl hl' hu0 fun j j1 j2 => ?_
          have := Pu.eqAt_Es ds ds (A := X.A.in1) hr hr' (by show X.A.units + 1 + _ < cLine; omega) j (by simpa using j1) (by simpa using j2)
          simpa using this
        exact key _ _ _ _ ⟨.bl _, H, I, rfl, q⟩
  | dict kvs =>
    cases a with
    | @dict a o n h0 h1 h2 h3 =>
      cases b with
      | @dict b o' n' k0 k1 k2 k3 =>
        have da : s.heap.DictOf (mixKind X.prog X.w) a [] := ⟨o, #[], n, h1, h2, h3, (fun _ he => by simp at he), Pairs.nil, List.nodup_nil⟩
        have db : s.heap.DictOf (mixKind X.prog X.w) b [] := ⟨o', #[], n', k1, k2, k3, (fun _ he => by simp at he), Pairs.nil, List.nodup_nil⟩
        exact PySem.W.keq_eq (r := true) h0 k0 da db hu0 (fun _ => .nil) ⟨.bl _, H, I, rfl, q⟩
  | _ => cases bx
def dEqO (K : PySem.W.Frag) (w : World) : R2 := fun x y H Q => dEq K x y H Q ∨ rSame K w x y H Q
theorem o_eqO {X : Cx} (hu : X.A.units + 65 < cLine) : OpR X (compareOp .Eq) (dEqO X.K X.w) := (o_eq (by omega)).or (op_same hu)
section
variable {K : Kw} {m : Bool} {Γ : List Sl} {Q : PyData → Prop} {t t' : TE}
theorem wd_eiL (h : WD K m Γ t Q) : WD K m Γ (tEi t t') Q := fun X hK F H σ E C k => .inl (h X hK F H σ E C k)
theorem wd_eiR (h : WD K m Γ t' Q) : WD K m Γ (tEi t t') Q := fun X hK F H σ E C k => .inr (h X hK F H σ E C k)
theorem rd_leS {i j : Str} (q : Q (.bool (!decide (j.cps.toList < i.cps.toList)))) : RD K m Γ dLeS (.str i) (.str j) Q := rd_plain (d := .bool _) (fun F H v u C le rv ru k => by
  cases rv
  cases ru
  exact ⟨i, j, rfl, rfl, k _ (.bl _)⟩) q
theorem rd_eqNil {ds : List PyData} (q : Q (.bool (decide (ds = [])))) : RD K m Γ (rEqNil K) (.list ds) (.list []) Q := rd_plain (d := .bool _) (fun F H v u C le rv ru k => by
  cases rv with
  | lst h1 r1 =>
    cases ru with
    | lst h2 r2 =>
      cases r2
      rename_i xs _
      have e : decide (ds = []) = xs.isEmpty := by cases r1 <;> simp
      exact ⟨_, _, _, rfl, rfl, SqL.of (le _ _ h1), SqL.of (le _ _ h2), by rw [← e]; exact k _ (.bl _)⟩) q
theorem rd_neNil {ds : List PyData} (q : Q (.bool (!decide (ds = [])))) : RD K m Γ (rNeNil K) (.list ds) (.list []) Q := rd_plain (d := .bool _) (fun F H v u C le rv ru k => by
  cases rv with
  | lst h1 r1 =>
    cases ru with
    | lst h2 r2 =>
      cases r2
      rename_i xs _
      have e : decide (ds = []) = xs.isEmpty := by cases r1 <;> simp
      exact ⟨_, _, _, rfl, rfl, SqL.of (le _ _ h1), SqL.of (le _ _ h2), by rw [← e]; exact k _ (.bl _)⟩) q
theorem rd_same {d : PyData} (hr : Pr.rok d = true) (hs : ∀ x, d = .str x → PyData.strOk x = true) (hz : d.depth ≤ 60) (q : Q (.bool true)) : RD K m Γ (dEqO K.K K.w) d d Q := by
  have fl : ∀ {e : PyData}, SeqAt.shaped e = true → PyData.eqv e e = true → (Q (.bool true)) → RD K m Γ (dEqO K.K K.w) e e Q := fun {e} sh ev q X hK F H σ E v u rv ru C k => .inl (rd_eq (m := m) (Γ := Γ) (Q := Q) sh sh (by rw [ev]; exact q) X hK F H σ E v u rv ru C k)
  have bx : isBox d = true → RD K m Γ (dEqO K.K K.w) d d Q := fun hb => rd_plain (d := .bool true) (fun F H v u C le rv ru k => .inr ⟨d, rv.mono le, ru.mono le, hr, hz, hb, k _ (.bl _)⟩) q
  cases d with
  | none => exact fl sh_non rfl q
  | bool b => exact fl sh_bool (by simp [PyData.eqv]) q
  | int i => exact fl sh_int (by simp [PyData.eqv]) q
  | str x => exact fl (sh_str (hs x rfl)) (by simp [PyData.eqv]) q
  | list ds => exact bx rfl
  | tuple ds => exact bx rfl
  | dict ds => exact bx rfl
theorem rc_tupleT {ds : List PyData} (q : Q (.tuple ds)) : RC K m Γ (dTuple K) [.tuple ds] Q := fun X hK F H σ E vs rv C k => by
  cases rv with
  | cons a b =>
    cases b
    subst hK
    cases a with
    | tup h1 r1 => exact ⟨_, _, rfl, .inr ⟨sqT_le (E.lef m) h1, k _ F H _ Le.rfl' E (.tup h1 r1) q⟩⟩
end
end Pk
end
section
set_option Elab.async false
set_option linter.all false
set_option maxRecDepth 100000
namespace Sy
open PySem PySem.Spec PyProof.Rows L2 Pk Pz Ps
def topS (i : Nat) : Stmt := PySem.Challenge.pw_pickruns_k01_what_is_a_program.main.body.getD i (.Pass ⟨0, 0, 0, 0⟩)
theorem room1 {k : Nat} {A : Around} (r : Room k A) : A.units + 1 < cLine := by have := r.un; omega
theorem room65 {k : Nat} {A : Around} (r : Room k A) : A.units + 65 < cLine := by have := r.un; omega
abbrev s_is_whole : Stmt := topS 3
theorem sc_is_whole : FnScope ["thing", "low", "high"] ["thing", "low", "high"] (defScope s_is_whole) := ⟨rfl, rfl, rfl, by decide +kernel, rfl, by decide +kernel, by decide +kernel⟩
def t_is_whole (K : PySem.W.Frag) : TS :=
  (tRet (tAndV (tCB (rIsD K) (tCons (tVar 0) (tCons (tC (.ty "int")) tNil))) (tAndV (tNotV (tCB (rIsD K) (tCons (tVar 0) (tCons (tC (.ty "bool")) tNil)))) (tChain dLe dLe (tVar 1) (tVar 0) (tVar 2)))))
theorem wk_is_whole {P : Program} {w : World} {K : PySem.W.Frag} {mg : Str → Option Value} {base : Heap} {k : Nat} (m_isinstance : mg "isinstance" = none) (m_bool : mg "bool" = none) (m_int : mg "int" = none)
    (f : Addr) (cdv : Value) (A : Around) (outer : List Env) (s : Shared) (H : Hp) (E : XK) (hr : Room k (A.deeper (envOfC "is_whole" (defScope s_is_whole) s.heap.objs.size f cdv))) :
    PSs (cxOf CX0 P w K mg base ["thing", "low", "high"] "is_whole" (defScope s_is_whole) f cdv A outer s H E).nox (defBody s_is_whole) (t_is_whole K) := by
  have hu : (cxOf CX0 P w K mg base ["thing", "low", "high"] "is_whole" (defScope s_is_whole) f cdv A outer s H E).nox.A.units + 64 < cLine := hr.units
  have hu5 : (cxOf CX0 P w K mg base ["thing", "low", "high"] "is_whole" (defScope s_is_whole) f cdv A outer s H E).nox.A.units + 65 < cLine := room65 hr
  have hu1 : (cxOf CX0 P w K mg base ["thing", "low", "high"] "is_whole" (defScope s_is_whole) f cdv A outer s H E).nox.A.units + 1 < cLine := room1 hr
  unfold t_is_whole
  exact (pss_one (ps_ret (pe_and (pe_callB call_isD (by rfl) m_isinstance (by decide +kernel) (pa_cons (pv 0) (pa_cons (pe_bltn (by rfl) m_int (by decide +kernel) rfl) pa_nil))) (pe_and (pe_not (pe_callB call_isD (by rfl) m_isinstance (by decide +kernel) (pa_cons (pv 0) (pa_cons (pe_bltn (by rfl) m_bool (by decide +kernel) rfl) pa_nil)))) (pe_one (pe_chain o_le o_le (pv 1) (pv 0) (pv 2)))))))
abbrev s_is_name : Stmt := topS 4
theorem sc_is_name : FnScope ["thing", "sign"] ["thing"] (defScope s_is_name) := ⟨rfl, rfl, rfl, by decide +kernel, rfl, by decide +kernel, by decide +kernel⟩
def t_is_name (K : PySem.W.Frag) : TS :=
  (tRet (tAndV (tCB (rIsD K) (tCons (tVar 0) (tCons (tC (.ty "str")) tNil))) (tAndV (tChain dLe dLe (tC (.int 1)) (tCB (dLen K) (tCons (tVar 0) tNil)) (tC (.int 8))) (tOp (dEq K) (tLc (iStr (tVar 0)) (gName 1) (tTest (tOp (dNotIn K) (tVar 1) (tC (.str "abcdefghijklmnopqrstuvwxyz")))) (tVar 1) [1]) (tLst tNil)))))
theorem wk_is_name {P : Program} {w : World} {K : PySem.W.Frag} {mg : Str → Option Value} {base : Heap} {k : Nat} (m_len : mg "len" = none) (m_isinstance : mg "isinstance" = none) (m_str : mg "str" = none) (g_LETTERS : ∃ t, mg "LETTERS" = some (.str "abcdefghijklmnopqrstuvwxyz" t))
    (f : Addr) (cdv : Value) (A : Around) (outer : List Env) (s : Shared) (H : Hp) (E : XK) (hr : Room k (A.deeper (envOfC "is_name" (defScope s_is_name) s.heap.objs.size f cdv))) :
    PSs (cxOf CX0 P w K mg base ["thing", "sign"] "is_name" (defScope s_is_name) f cdv A outer s H E).nox (defBody s_is_name) (t_is_name K) := by
  obtain ⟨tk_LETTERS, g_LETTERS⟩ := g_LETTERS
  have hu : (cxOf CX0 P w K mg base ["thing", "sign"] "is_name" (defScope s_is_name) f cdv A outer s H E).nox.A.units + 64 < cLine := hr.units
  have hu5 : (cxOf CX0 P w K mg base ["thing", "sign"] "is_name" (defScope s_is_name) f cdv A outer s H E).nox.A.units + 65 < cLine := room65 hr
  have hu1 : (cxOf CX0 P w K mg base ["thing", "sign"] "is_name" (defScope s_is_name) f cdv A outer s H E).nox.A.units + 1 < cLine := room1 hr
  unfold t_is_name
  exact (pss_one (ps_ret (pe_and (pe_callB call_isD (by rfl) m_isinstance (by decide +kernel) (pa_cons (pv 0) (pa_cons (pe_bltn (by rfl) m_str (by decide +kernel) rfl) pa_nil))) (pe_and (pe_chain o_le o_le pe_int (pe_callB o_len (by rfl) m_len (by decide +kernel) (pa_cons (pv 0) pa_nil)) pe_int) (pe_one (pe_cmpR (o_eq hu) (pe_lc (own := [("sign", 1)]) (g := (gName 1)) (tt := (tTest (tOp (dNotIn K) (tVar 1) (tC (.str "abcdefghijklmnopqrstuvwxyz"))))) rfl sc_is_name.nd (pi_str (pv 0)) (blkOk_by (N := ["thing", "sign"]) (sc := defScope s_is_name) (by decide +kernel)) (fun _ _ _ _ _ => (pg_name (i := 1) sc_is_name.nd rfl (by first | exact Or.inl rfl | exact Or.inr rfl))) (fun _ _ _ _ _ => (pts_one (pt_cmpR (o_notIn hu5) (pv 1) (pe_glob (by rfl) g_LETTERS ⟨_, rfl⟩) (by rfl)))) (fun _ _ _ _ _ => (pv 1))) (pe_lst pa_nil) (nomark _)))))))
abbrev s_is_word_of : Stmt := topS 5
theorem sc_is_word_of : FnScope ["thing", "words", "many"] ["thing", "words", "many"] (defScope s_is_word_of) := ⟨rfl, rfl, rfl, by decide +kernel, rfl, by decide +kernel, by decide +kernel⟩
def t_is_word_of (K : PySem.W.Frag) : TS :=
  (tRet (tAndV (tCB (rIsD K) (tCons (tVar 0) (tCons (tC (.ty "tuple")) tNil))) (tAndV (tOp (dEq K) (tCB (dLen K) (tCons (tVar 0) tNil)) (tVar 2)) (tAndV (tCB (rIsD K) (tCons (tOp (rIx K) (tVar 0) (tC (.int 0))) (tCons (tC (.ty "str")) tNil))) (tOp (dIn K) (tOp (rIx K) (tVar 0) (tC (.int 0))) (tVar 1))))))
theorem wk_is_word_of {P : Program} {w : World} {K : PySem.W.Frag} {mg : Str → Option Value} {base : Heap} {k : Nat} (m_isinstance : mg "isinstance" = none) (m_str : mg "str" = none) (m_len : mg "len" = none) (m_tuple : mg "tuple" = none)
    (f : Addr) (cdv : Value) (A : Around) (outer : List Env) (s : Shared) (H : Hp) (E : XK) (hr : Room k (A.deeper (envOfC "is_word_of" (defScope s_is_word_of) s.heap.objs.size f cdv))) :
    PSs (cxOf CX0 P w K mg base ["thing", "words", "many"] "is_word_of" (defScope s_is_word_of) f cdv A outer s H E).nox (defBody s_is_word_of) (t_is_word_of K) := by
  have hu : (cxOf CX0 P w K mg base ["thing", "words", "many"] "is_word_of" (defScope s_is_word_of) f cdv A outer s H E).nox.A.units + 64 < cLine := hr.units
  have hu5 : (cxOf CX0 P w K mg base ["thing", "words", "many"] "is_word_of" (defScope s_is_word_of) f cdv A outer s H E).nox.A.units + 65 < cLine := room65 hr
  have hu1 : (cxOf CX0 P w K mg base ["thing", "words", "many"] "is_word_of" (defScope s_is_word_of) f cdv A outer s H E).nox.A.units + 1 < cLine := room1 hr
  unfold t_is_word_of
  exact (pss_one (ps_ret (pe_and (pe_callB call_isD (by rfl) m_isinstance (by decide +kernel) (pa_cons (pv 0) (pa_cons (pe_bltn (by rfl) m_tuple (by decide +kernel) rfl) pa_nil))) (pe_and (pe_cmpR (o_eq hu) (pe_callB o_len (by rfl) m_len (by decide +kernel) (pa_cons (pv 0) pa_nil)) (pv 2) (nomark _)) (pe_and (pe_callB call_isD (by rfl) m_isinstance (by decide +kernel) (pa_cons (pe_ix ix_seq (pv 0) pe_int (fun _ _ => rfl)) (pa_cons (pe_bltn (by rfl) m_str (by decide +kernel) rfl) pa_nil))) (pe_one (pe_cmpR (o_in hu5) (pe_ix ix_seq (pv 0) pe_int (fun _ _ => rfl)) (pv 1) (by rfl))))))))
abbrev s_is_thing : Stmt := topS 6
theorem sc_is_thing : FnScope ["thing", "m", "boxes", "deep"] ["thing", "m", "boxes", "deep"] (defScope s_is_thing) := ⟨rfl, rfl, rfl, by decide +kernel, rfl, by decide +kernel, by decide +kernel⟩
def t_is_thing (K : PySem.W.Frag) (sp_is_word_of : Sp) (sp_is_thing : Sp) (sp_is_whole : Sp) : TS :=
  (tSeq (tIfS (tTest (tOp (dEq K) (tVar 3) (tC (.int 0)))) (tRet (tC (.bl false))) tNext)
    (tSeq (tIfS (tB (tCall sp_is_word_of [] E0 (tCons (tVar 0) (tCons (tTup (tCons (tC (.str "number")) tNil)) (tCons (tC (.int 2)) tNil))))) (tRet (tCall sp_is_whole [] E0 (tCons (tOp (rIx K) (tVar 0) (tC (.int 1))) (tCons (tC (.int 0)) (tCons (tOp dSub (tVar 1) (tC (.int 1))) tNil))))) tNext)
    (tSeq (tIfS (tB (tCall sp_is_word_of [] E0 (tCons (tVar 0) (tCons (tTup (tCons (tC (.str "box")) tNil)) (tCons (tC (.int 2)) tNil))))) (tRet (tAndV (tCB (rIsD K) (tCons (tOp (rIx K) (tVar 0) (tC (.int 1))) (tCons (tC (.ty "str")) tNil))) (tOp (dIn K) (tOp (rIx K) (tVar 0) (tC (.int 1))) (tVar 2)))) tNext)
    (tSeq (tIfS (tB (tCall sp_is_word_of [] E0 (tCons (tVar 0) (tCons (tTup (tCons (tC (.str "plus")) (tCons (tC (.str "times")) (tCons (tC (.str "less")) (tCons (tC (.str "same")) tNil))))) (tCons (tC (.int 3)) tNil))))) (tRet (tAndV (tCall sp_is_thing [] E0 (tCons (tOp (rIx K) (tVar 0) (tC (.int 1))) (tCons (tVar 1) (tCons (tVar 2) (tCons (tOp dSub (tVar 3) (tC (.int 1))) tNil))))) (tCall sp_is_thing [] E0 (tCons (tOp (rIx K) (tVar 0) (tC (.int 2))) (tCons (tVar 1) (tCons (tVar 2) (tCons (tOp dSub (tVar 3) (tC (.int 1))) tNil))))))) tNext)
    (tRet (tC (.bl false)))))))
theorem wk_is_thing {P : Program} {w : World} {K : PySem.W.Frag} {mg : Str → Option Value} {base : Heap} {k : Nat} {sp_is_word_of : Sp} {sp_is_thing : Sp} {sp_is_whole : Sp}
    (c_is_word_of : Cal P w K mg base CX0 k "is_word_of" ["thing", "words", "many"] sp_is_word_of)
    (c_is_thing : Cal P w K mg base CX0 k "is_thing" ["thing", "m", "boxes", "deep"] sp_is_thing)
    (c_is_whole : Cal P w K mg base CX0 k "is_whole" ["thing", "low", "high"] sp_is_whole) (m_isinstance : mg "isinstance" = none) (m_str : mg "str" = none)
    (f : Addr) (cdv : Value) (A : Around) (outer : List Env) (s : Shared) (H : Hp) (E : XK) (hr : Room k (A.deeper (envOfC "is_thing" (defScope s_is_thing) s.heap.objs.size f cdv))) :
    PSs (cxOf CX0 P w K mg base ["thing", "m", "boxes", "deep"] "is_thing" (defScope s_is_thing) f cdv A outer s H E).nox (defBody s_is_thing) (t_is_thing K sp_is_word_of sp_is_thing sp_is_whole) := by
  have hu : (cxOf CX0 P w K mg base ["thing", "m", "boxes", "deep"] "is_thing" (defScope s_is_thing) f cdv A outer s H E).nox.A.units + 64 < cLine := hr.units
  have hu5 : (cxOf CX0 P w K mg base ["thing", "m", "boxes", "deep"] "is_thing" (defScope s_is_thing) f cdv A outer s H E).nox.A.units + 65 < cLine := room65 hr
  have hu1 : (cxOf CX0 P w K mg base ["thing", "m", "boxes", "deep"] "is_thing" (defScope s_is_thing) f cdv A outer s H E).nox.A.units + 1 < cLine := room1 hr
  unfold t_is_thing
  exact (pss_cons (ps_if (pt_cmpR (o_eq hu) (pv 3) pe_int (nomark _)) (pss_one (ps_ret pe_bl)) pss_nil)
    (pss_cons (ps_if (pt_val (pe_c c_is_word_of hr (by rfl) (pa_cons (pv 0) (pa_cons (pe_tup (pa_cons pe_str pa_nil)) (pa_cons pe_int pa_nil))))) (pss_one (ps_ret (pe_c c_is_whole hr (by rfl) (pa_cons (pe_ix ix_seq (pv 0) pe_int (fun _ _ => rfl)) (pa_cons pe_int (pa_cons (pe_op o_sub (pv 1) pe_int) pa_nil)))))) pss_nil)
    (pss_cons (ps_if (pt_val (pe_c c_is_word_of hr (by rfl) (pa_cons (pv 0) (pa_cons (pe_tup (pa_cons pe_str pa_nil)) (pa_cons pe_int pa_nil))))) (pss_one (ps_ret (pe_and (pe_callB call_isD (by rfl) m_isinstance (by decide +kernel) (pa_cons (pe_ix ix_seq (pv 0) pe_int (fun _ _ => rfl)) (pa_cons (pe_bltn (by rfl) m_str (by decide +kernel) rfl) pa_nil))) (pe_one (pe_cmpR (o_in hu5) (pe_ix ix_seq (pv 0) pe_int (fun _ _ => rfl)) (pv 2) (by rfl)))))) pss_nil)
    (pss_cons (ps_if (pt_val (pe_c c_is_word_of hr (by rfl) (pa_cons (pv 0) (pa_cons (pe_tup (pa_cons pe_str (pa_cons pe_str (pa_cons pe_str (pa_cons pe_str pa_nil))))) (pa_cons pe_int pa_nil))))) (pss_one (ps_ret (pe_and (pe_c c_is_thing hr (by rfl) (pa_cons (pe_ix ix_seq (pv 0) pe_int (fun _ _ => rfl)) (pa_cons (pv 1) (pa_cons (pv 2) (pa_cons (pe_op o_sub (pv 3) pe_int) pa_nil))))) (pe_one (pe_c c_is_thing hr (by rfl) (pa_cons (pe_ix ix_seq (pv 0) pe_int (fun _ _ => rfl)) (pa_cons (pv 1) (pa_cons (pv 2) (pa_cons (pe_op o_sub (pv 3) pe_int) pa_nil))))))))) pss_nil)
    (pss_one (ps_ret pe_bl))))))
abbrev s_are_things : Stmt := topS 7
theorem sc_are_things : FnScope ["thing", "m", "boxes", "one"] ["thing", "m", "boxes"] (defScope s_are_things) := ⟨rfl, rfl, rfl, by decide +kernel, rfl, by decide +kernel, by decide +kernel⟩
def t_are_things (K : PySem.W.Frag) (sp_is_thing : Sp) : TS :=
  (tSeq (tIfS (tOr (tNot (tB (tCB (rIsD K) (tCons (tVar 0) (tCons (tC (.ty "list")) tNil))))) (tNot (tTest (tChain dLe dLe (tC (.int 1)) (tCB (dLen K) (tCons (tVar 0) tNil)) (tC (.int 5)))))) (tRet (tC (.bl false))) tNext)
    (tRet (tOp (rEqNil K) (tLc (iList K (tVar 0)) (gName 3) (tNot (tB (tCall sp_is_thing [] E0 (tCons (tVar 3) (tCons (tVar 1) (tCons (tVar 2) (tCons (tC (.int 4)) tNil))))))) (tVar 3) [3]) (tLst tNil))))
theorem wk_are_things {P : Program} {w : World} {K : PySem.W.Frag} {mg : Str → Option Value} {base : Heap} {k : Nat} {sp_is_thing : Sp}
    (c_is_thing : Cal P w K mg base CX0 k "is_thing" ["thing", "m", "boxes", "deep"] sp_is_thing) (m_len : mg "len" = none) (m_isinstance : mg "isinstance" = none) (m_list : mg "list" = none) (g_DEEPEST : ∃ t, mg "DEEPEST" = some (.int 4 t))
    (f : Addr) (cdv : Value) (A : Around) (outer : List Env) (s : Shared) (H : Hp) (E : XK) (hr : Room k (A.deeper (envOfC "are_things" (defScope s_are_things) s.heap.objs.size f cdv))) :
    PSs (cxOf CX0 P w K mg base ["thing", "m", "boxes", "one"] "are_things" (defScope s_are_things) f cdv A outer s H E).nox (defBody s_are_things) (t_are_things K sp_is_thing) := by
  obtain ⟨tk_DEEPEST, g_DEEPEST⟩ := g_DEEPEST
  have hu : (cxOf CX0 P w K mg base ["thing", "m", "boxes", "one"] "are_things" (defScope s_are_things) f cdv A outer s H E).nox.A.units + 64 < cLine := hr.units
  have hu5 : (cxOf CX0 P w K mg base ["thing", "m", "boxes", "one"] "are_things" (defScope s_are_things) f cdv A outer s H E).nox.A.units + 65 < cLine := room65 hr
  have hu1 : (cxOf CX0 P w K mg base ["thing", "m", "boxes", "one"] "are_things" (defScope s_are_things) f cdv A outer s H E).nox.A.units + 1 < cLine := room1 hr
  unfold t_are_things
  exact (pss_cons (ps_if (PW.pt (pw_or (pt_not (pt_val (pe_callB call_isD (by rfl) m_isinstance (by decide +kernel) (pa_cons (pv 0) (pa_cons (pe_bltn (by rfl) m_list (by decide +kernel) rfl) pa_nil))))) (pw_or1 (pt_not (pt_chain o_le o_le pe_int (pe_callB o_len (by rfl) m_len (by decide +kernel) (pa_cons (pv 0) pa_nil)) pe_int))))) (pss_one (ps_ret pe_bl)) pss_nil)
    (pss_one (ps_ret (pe_cmpR (op_eqNil hu5) (pe_lc (own := [("one", 3)]) (g := (gName 3)) (tt := (tNot (tB (tCall sp_is_thing [] E0 (tCons (tVar 3) (tCons (tVar 1) (tCons (tVar 2) (tCons (tC (.int 4)) tNil)))))))) rfl sc_are_things.nd (pi_list (pv 0)) (blkOk_by (N := ["thing", "m", "boxes", "one"]) (sc := defScope s_are_things) (by decide +kernel)) (fun _ _ _ _ _ => (pg_name (i := 3) sc_are_things.nd rfl (by first | exact Or.inl rfl | exact Or.inr rfl))) (fun _ _ _ _ _ => (pts_one (pt_not (pt_val (pe_c c_is_thing hr (by rfl) (pa_cons (pv 3) (pa_cons (pv 1) (pa_cons (pv 2) (pa_cons (pe_glob (by rfl) g_DEEPEST ⟨_, rfl⟩) pa_nil))))))))) (fun _ _ _ _ _ => (pv 3))) (pe_lst pa_nil) (nomark _)))))
abbrev s_is_row : Stmt := topS 8
theorem sc_is_row : FnScope ["thing", "m", "boxes"] ["thing", "m", "boxes"] (defScope s_is_row) := ⟨rfl, rfl, rfl, by decide +kernel, rfl, by decide +kernel, by decide +kernel⟩
def t_is_row (K : PySem.W.Frag) (sp_are_things : Sp) (sp_is_thing : Sp) (sp_is_word_of : Sp) (sp_is_whole : Sp) : TS :=
  (tSeq (tIfS (tB (tCall sp_is_word_of [] E0 (tCons (tVar 0) (tCons (tTup (tCons (tC (.str "need")) (tCons (tC (.str "give")) tNil))) (tCons (tC (.int 2)) tNil))))) (tRet (tCall sp_is_thing [] E0 (tCons (tOp (rIx K) (tVar 0) (tC (.int 1))) (tCons (tVar 1) (tCons (tVar 2) (tCons (tC (.int 4)) tNil)))))) tNext)
    (tSeq (tIfS (tB (tCall sp_is_word_of [] E0 (tCons (tVar 0) (tCons (tTup (tCons (tC (.str "skip")) tNil)) (tCons (tC (.int 3)) tNil))))) (tRet (tAndV (tCall sp_is_thing [] E0 (tCons (tOp (rIx K) (tVar 0) (tC (.int 1))) (tCons (tVar 1) (tCons (tVar 2) (tCons (tC (.int 4)) tNil))))) (tCall sp_is_whole [] E0 (tCons (tOp (rIx K) (tVar 0) (tC (.int 2))) (tCons (tC (.int 1)) (tCons (tC (.int 30)) tNil)))))) tNext)
    (tSeq (tIfS (tOr (tNot (tB (tCall sp_is_word_of [] E0 (tCons (tVar 0) (tCons (tTup (tCons (tC (.str "set")) (tCons (tC (.str "pick")) tNil))) (tCons (tC (.int 3)) tNil)))))) (tOr (tNot (tB (tCB (rIsD K) (tCons (tOp (rIx K) (tVar 0) (tC (.int 1))) (tCons (tC (.ty "str")) tNil))))) (tTest (tOp (dNotIn K) (tOp (rIx K) (tVar 0) (tC (.int 1))) (tVar 2))))) (tRet (tC (.bl false))) tNext)
    (tSeq (tIfS (tTest (tOp (dEq K) (tOp (rIx K) (tVar 0) (tC (.int 0))) (tC (.str "set")))) (tRet (tCall sp_is_thing [] E0 (tCons (tOp (rIx K) (tVar 0) (tC (.int 2))) (tCons (tVar 1) (tCons (tVar 2) (tCons (tC (.int 4)) tNil)))))) tNext)
    (tRet (tCall sp_are_things [] E0 (tCons (tOp (rIx K) (tVar 0) (tC (.int 2))) (tCons (tVar 1) (tCons (tVar 2) tNil)))))))))
theorem wk_is_row {P : Program} {w : World} {K : PySem.W.Frag} {mg : Str → Option Value} {base : Heap} {k : Nat} {sp_are_things : Sp} {sp_is_thing : Sp} {sp_is_word_of : Sp} {sp_is_whole : Sp}
    (c_are_things : Cal P w K mg base CX0 k "are_things" ["thing", "m", "boxes"] sp_are_things)
    (c_is_thing : Cal P w K mg base CX0 k "is_thing" ["thing", "m", "boxes", "deep"] sp_is_thing)
    (c_is_word_of : Cal P w K mg base CX0 k "is_word_of" ["thing", "words", "many"] sp_is_word_of)
    (c_is_whole : Cal P w K mg base CX0 k "is_whole" ["thing", "low", "high"] sp_is_whole) (m_isinstance : mg "isinstance" = none) (m_str : mg "str" = none) (g_DEEPEST : ∃ t, mg "DEEPEST" = some (.int 4 t))
    (f : Addr) (cdv : Value) (A : Around) (outer : List Env) (s : Shared) (H : Hp) (E : XK) (hr : Room k (A.deeper (envOfC "is_row" (defScope s_is_row) s.heap.objs.size f cdv))) :
    PSs (cxOf CX0 P w K mg base ["thing", "m", "boxes"] "is_row" (defScope s_is_row) f cdv A outer s H E).nox (defBody s_is_row) (t_is_row K sp_are_things sp_is_thing sp_is_word_of sp_is_whole) := by
  obtain ⟨tk_DEEPEST, g_DEEPEST⟩ := g_DEEPEST
  have hu : (cxOf CX0 P w K mg base ["thing", "m", "boxes"] "is_row" (defScope s_is_row) f cdv A outer s H E).nox.A.units + 64 < cLine := hr.units
  have hu5 : (cxOf CX0 P w K mg base ["thing", "m", "boxes"] "is_row" (defScope s_is_row) f cdv A outer s H E).nox.A.units + 65 < cLine := room65 hr
  have hu1 : (cxOf CX0 P w K mg base ["thing", "m", "boxes"] "is_row" (defScope s_is_row) f cdv A outer s H E).nox.A.units + 1 < cLine := room1 hr
  unfold t_is_row
  exact (pss_cons (ps_if (pt_val (pe_c c_is_word_of hr (by rfl) (pa_cons (pv 0) (pa_cons (pe_tup (pa_cons pe_str (pa_cons pe_str pa_nil))) (pa_cons pe_int pa_nil))))) (pss_one (ps_ret (pe_c c_is_thing hr (by rfl) (pa_cons (pe_ix ix_seq (pv 0) pe_int (fun _ _ => rfl)) (pa_cons (pv 1) (pa_cons (pv 2) (pa_cons (pe_glob (by rfl) g_DEEPEST ⟨_, rfl⟩) pa_nil))))))) pss_nil)
    (pss_cons (ps_if (pt_val (pe_c c_is_word_of hr (by rfl) (pa_cons (pv 0) (pa_cons (pe_tup (pa_cons pe_str pa_nil)) (pa_cons pe_int pa_nil))))) (pss_one (ps_ret (pe_and (pe_c c_is_thing hr (by rfl) (pa_cons (pe_ix ix_seq (pv 0) pe_int (fun _ _ => rfl)) (pa_cons (pv 1) (pa_cons (pv 2) (pa_cons (pe_glob (by rfl) g_DEEPEST ⟨_, rfl⟩) pa_nil))))) (pe_one (pe_c c_is_whole hr (by rfl) (pa_cons (pe_ix ix_seq (pv 0) pe_int (fun _ _ => rfl)) (pa_cons pe_int (pa_cons pe_int pa_nil)))))))) pss_nil)
    (pss_cons (ps_if (PW.pt (pw_or (pt_not (pt_val (pe_c c_is_word_of hr (by rfl) (pa_cons (pv 0) (pa_cons (pe_tup (pa_cons pe_str (pa_cons pe_str pa_nil))) (pa_cons pe_int pa_nil)))))) (pw_or (pt_not (pt_val (pe_callB call_isD (by rfl) m_isinstance (by decide +kernel) (pa_cons (pe_ix ix_seq (pv 0) pe_int (fun _ _ => rfl)) (pa_cons (pe_bltn (by rfl) m_str (by decide +kernel) rfl) pa_nil))))) (pw_or1 (pt_cmpR (o_notIn hu5) (pe_ix ix_seq (pv 0) pe_int (fun _ _ => rfl)) (pv 2) (by rfl)))))) (pss_one (ps_ret pe_bl)) pss_nil)
    (pss_cons (ps_if (pt_cmpR (o_eq hu) (pe_ix ix_seq (pv 0) pe_int (fun _ _ => rfl)) pe_str (nomark _)) (pss_one (ps_ret (pe_c c_is_thing hr (by rfl) (pa_cons (pe_ix ix_seq (pv 0) pe_int (fun _ _ => rfl)) (pa_cons (pv 1) (pa_cons (pv 2) (pa_cons (pe_glob (by rfl) g_DEEPEST ⟨_, rfl⟩) pa_nil))))))) pss_nil)
    (pss_one (ps_ret (pe_c c_are_things hr (by rfl) (pa_cons (pe_ix ix_seq (pv 0) pe_int (fun _ _ => rfl)) (pa_cons (pv 1) (pa_cons (pv 2) pa_nil))))))))))
abbrev s_are_boxes : Stmt := topS 9
theorem sc_are_boxes : FnScope ["thing", "name"] ["thing"] (defScope s_are_boxes) := ⟨rfl, rfl, rfl, by decide +kernel, rfl, by decide +kernel, by decide +kernel⟩
def t_are_boxes (K : PySem.W.Frag) (sp_is_name : Sp) : TS :=
  (tSeq (tIfS (tOr (tNot (tB (tCB (rIsD K) (tCons (tVar 0) (tCons (tC (.ty "list")) tNil))))) (tOr (tNot (tTest (tChain dLe dLe (tC (.int 1)) (tCB (dLen K) (tCons (tVar 0) tNil)) (tC (.int 5))))) (tTest (tOp (rNeNil K) (tLc (iList K (tVar 0)) (gName 1) (tNot (tB (tCall sp_is_name [] E0 (tCons (tVar 1) tNil)))) (tVar 1) [1]) (tLst tNil))))) (tRet (tC (.bl false))) tNext)
    (tRet (tOp (dEq K) (tLenSetS K (tVar 0)) (tCB (dLen K) (tCons (tVar 0) tNil)))))
theorem wk_are_boxes {P : Program} {w : World} {K : PySem.W.Frag} {mg : Str → Option Value} {base : Heap} {k : Nat} {sp_is_name : Sp}
    (c_is_name : Cal P w K mg base CX0 k "is_name" ["thing"] sp_is_name) (m_len : mg "len" = none) (m_set : mg "set" = none) (m_isinstance : mg "isinstance" = none) (m_list : mg "list" = none)
    (f : Addr) (cdv : Value) (A : Around) (outer : List Env) (s : Shared) (H : Hp) (E : XK) (hr : Room k (A.deeper (envOfC "are_boxes" (defScope s_are_boxes) s.heap.objs.size f cdv))) :
    PSs (cxOf CX0 P w K mg base ["thing", "name"] "are_boxes" (defScope s_are_boxes) f cdv A outer s H E).nox (defBody s_are_boxes) (t_are_boxes K sp_is_name) := by
  have hu : (cxOf CX0 P w K mg base ["thing", "name"] "are_boxes" (defScope s_are_boxes) f cdv A outer s H E).nox.A.units + 64 < cLine := hr.units
  have hu5 : (cxOf CX0 P w K mg base ["thing", "name"] "are_boxes" (defScope s_are_boxes) f cdv A outer s H E).nox.A.units + 65 < cLine := room65 hr
  have hu1 : (cxOf CX0 P w K mg base ["thing", "name"] "are_boxes" (defScope s_are_boxes) f cdv A outer s H E).nox.A.units + 1 < cLine := room1 hr
  unfold t_are_boxes
  exact (pss_cons (ps_if (PW.pt (pw_or (pt_not (pt_val (pe_callB call_isD (by rfl) m_isinstance (by decide +kernel) (pa_cons (pv 0) (pa_cons (pe_bltn (by rfl) m_list (by decide +kernel) rfl) pa_nil))))) (pw_or (pt_not (pt_chain o_le o_le pe_int (pe_callB o_len (by rfl) m_len (by decide +kernel) (pa_cons (pv 0) pa_nil)) pe_int)) (pw_or1 (pt_cmpR (op_neNil hu5) (pe_lc (own := [("name", 1)]) (g := (gName 1)) (tt := (tNot (tB (tCall sp_is_name [] E0 (tCons (tVar 1) tNil))))) rfl sc_are_boxes.nd (pi_list (pv 0)) (blkOk_by (N := ["thing", "name"]) (sc := defScope s_are_boxes) (by decide +kernel)) (fun _ _ _ _ _ => (pg_name (i := 1) sc_are_boxes.nd rfl (by first | exact Or.inl rfl | exact Or.inr rfl))) (fun _ _ _ _ _ => (pts_one (pt_not (pt_val (pe_c c_is_name hr (by rfl) (pa_cons (pv 1) pa_nil)))))) (fun _ _ _ _ _ => (pv 1))) (pe_lst pa_nil) (nomark _)))))) (pss_one (ps_ret pe_bl)) pss_nil)
    (pss_one (ps_ret (pe_cmpR (o_eq hu) (pe_lenSetS rfl (by rfl) m_len (by rfl) m_set (pv 0)) (pe_callB o_len (by rfl) m_len (by decide +kernel) (pa_cons (pv 0) pa_nil)) (nomark _)))))
abbrev s_is_program : Stmt := topS 10
theorem sc_is_program : FnScope ["thing", "m", "boxes", "rows", "row"] ["thing"] (defScope s_is_program) := ⟨rfl, rfl, rfl, by decide +kernel, rfl, by decide +kernel, by decide +kernel⟩
def t_is_program (K : PySem.W.Frag) (sp_is_row : Sp) (sp_are_boxes : Sp) (sp_is_whole : Sp) : TS :=
  (tSeq (tIfS (tOr (tNot (tB (tCB (rIsD K) (tCons (tVar 0) (tCons (tC (.ty "tuple")) tNil))))) (tTest (tOp (dNe K) (tCB (dLen K) (tCons (tVar 0) tNil)) (tC (.int 3))))) (tRet (tC (.bl false))) tNext)
    (tSeq (tAsg (tVar 0) (gTup K 3 (gCons (gName 1) (gCons (gName 2) (gCons (gName 3) gNil)))))
    (tSeq (tIfS (tOr (tNot (tB (tCall sp_is_whole [] E0 (tCons (tVar 1) (tCons (tC (.int 2)) (tCons (tC (.int 16)) tNil)))))) (tOr (tNot (tB (tCall sp_are_boxes [] E0 (tCons (tVar 2) tNil)))) (tOr (tNot (tB (tCB (rIsD K) (tCons (tVar 3) (tCons (tC (.ty "list")) tNil))))) (tTest (tOp dGt (tCB (dLen K) (tCons (tVar 3) tNil)) (tC (.int 30))))))) (tRet (tC (.bl false))) tNext)
    (tRet (tOp (rEqNil K) (tLc (iList K (tVar 3)) (gName 4) (tNot (tB (tCall sp_is_row [] E0 (tCons (tVar 4) (tCons (tVar 1) (tCons (tVar 2) tNil)))))) (tVar 4) [4]) (tLst tNil))))))
theorem wk_is_program {P : Program} {w : World} {K : PySem.W.Frag} {mg : Str → Option Value} {base : Heap} {k : Nat} {sp_is_row : Sp} {sp_are_boxes : Sp} {sp_is_whole : Sp}
    (c_is_row : Cal P w K mg base CX0 k "is_row" ["thing", "m", "boxes"] sp_is_row)
    (c_are_boxes : Cal P w K mg base CX0 k "are_boxes" ["thing"] sp_are_boxes)
    (c_is_whole : Cal P w K mg base CX0 k "is_whole" ["thing", "low", "high"] sp_is_whole) (m_len : mg "len" = none) (m_isinstance : mg "isinstance" = none) (m_list : mg "list" = none) (m_tuple : mg "tuple" = none)
    (f : Addr) (cdv : Value) (A : Around) (outer : List Env) (s : Shared) (H : Hp) (E : XK) (hr : Room k (A.deeper (envOfC "is_program" (defScope s_is_program) s.heap.objs.size f cdv))) :
    PSs (cxOf CX0 P w K mg base ["thing", "m", "boxes", "rows", "row"] "is_program" (defScope s_is_program) f cdv A outer s H E).nox (defBody s_is_program) (t_is_program K sp_is_row sp_are_boxes sp_is_whole) := by
  have hu : (cxOf CX0 P w K mg base ["thing", "m", "boxes", "rows", "row"] "is_program" (defScope s_is_program) f cdv A outer s H E).nox.A.units + 64 < cLine := hr.units
  have hu5 : (cxOf CX0 P w K mg base ["thing", "m", "boxes", "rows", "row"] "is_program" (defScope s_is_program) f cdv A outer s H E).nox.A.units + 65 < cLine := room65 hr
  have hu1 : (cxOf CX0 P w K mg base ["thing", "m", "boxes", "rows", "row"] "is_program" (defScope s_is_program) f cdv A outer s H E).nox.A.units + 1 < cLine := room1 hr
  unfold t_is_program
  exact (pss_cons (ps_if (PW.pt (pw_or (pt_not (pt_val (pe_callB call_isD (by rfl) m_isinstance (by decide +kernel) (pa_cons (pv 0) (pa_cons (pe_bltn (by rfl) m_tuple (by decide +kernel) rfl) pa_nil))))) (pw_or1 (pt_cmpR (o_ne hu) (pe_callB o_len (by rfl) m_len (by decide +kernel) (pa_cons (pv 0) pa_nil)) pe_int (nomark _))))) (pss_one (ps_ret pe_bl)) pss_nil)
    (pss_cons (ps_asg (pv 0) (pg_tup rfl (pgs_cons (pg_name (i := 1) sc_is_program.nd rfl (by first | exact Or.inl rfl | exact Or.inr rfl)) (pgs_cons (pg_name (i := 2) sc_is_program.nd rfl (by first | exact Or.inl rfl | exact Or.inr rfl)) (pgs_cons (pg_name (i := 3) sc_is_program.nd rfl (by first | exact Or.inl rfl | exact Or.inr rfl)) pgs_nil)))))
    (pss_cons (ps_if (PW.pt (pw_or (pt_not (pt_val (pe_c c_is_whole hr (by rfl) (pa_cons (pv 1) (pa_cons pe_int (pa_cons pe_int pa_nil)))))) (pw_or (pt_not (pt_val (pe_c c_are_boxes hr (by rfl) (pa_cons (pv 2) pa_nil)))) (pw_or (pt_not (pt_val (pe_callB call_isD (by rfl) m_isinstance (by decide +kernel) (pa_cons (pv 3) (pa_cons (pe_bltn (by rfl) m_list (by decide +kernel) rfl) pa_nil))))) (pw_or1 (pt_cmpR o_gt (pe_callB o_len (by rfl) m_len (by decide +kernel) (pa_cons (pv 3) pa_nil)) pe_int (nomark _))))))) (pss_one (ps_ret pe_bl)) pss_nil)
    (pss_one (ps_ret (pe_cmpR (op_eqNil hu5) (pe_lc (own := [("row", 4)]) (g := (gName 4)) (tt := (tNot (tB (tCall sp_is_row [] E0 (tCons (tVar 4) (tCons (tVar 1) (tCons (tVar 2) tNil))))))) rfl sc_is_program.nd (pi_list (pv 3)) (blkOk_by (N := ["thing", "m", "boxes", "rows", "row"]) (sc := defScope s_is_program) (by decide +kernel)) (fun _ _ _ _ _ => (pg_name (i := 4) sc_is_program.nd rfl (by first | exact Or.inl rfl | exact Or.inr rfl))) (fun _ _ _ _ _ => (pts_one (pt_not (pt_val (pe_c c_is_row hr (by rfl) (pa_cons (pv 4) (pa_cons (pv 1) (pa_cons (pv 2) pa_nil)))))))) (fun _ _ _ _ _ => (pv 4))) (pe_lst pa_nil) (nomark _)))))))
abbrev s_l_deck : Stmt := topS 12
theorem sc_l_deck : FnScope ["script", "pools", "k", "cell"] ["script"] (defScope s_l_deck) := ⟨rfl, rfl, rfl, by decide +kernel, rfl, by decide +kernel, by decide +kernel⟩
def t_l_deck (K : PySem.W.Frag) : TS :=
  (tSeq (tAsg (tLst tNil) (gName 1))
    (tSeq (tFor (iRng1 (tCons (tCB (dMax K) (tCons (tC (.int 1)) (tCons (tCB (dMin K) (tCons (tC (.int 63)) (tCons (tCB (dLen K) (tCons (tVar 0) tNil)) tNil))) tNil))) tNil)) (gName 2) (tSeq (tAsg (tC (.int 0)) (gName 3))
    (tSeq (tIfS (tTest (tOp dLt (tVar 2) (tCB (dLen K) (tCons (tVar 0) tNil)))) (tAsg (tOp (rIx K) (tVar 0) (tVar 2)) (gName 3)) tNext)
    (tDrop (tBM K "list" rAppend (tVar 1) (tCons (tLst (tCons (tVar 3) (tCons (tCB dInt (tCons (tOp dGe (tVar 3) (tOp dPow (tC (.int 10)) (tC (.int 18)))) tNil)) (tCons (tOp dMul (tC (.int 31)) (tVar 2)) tNil)))) tNil))))))
    (tRet (tLst (tCons (tVar 1) (tCons (tC (.int 0)) tNil))))))
theorem wk_l_deck {P : Program} {w : World} {K : PySem.W.Frag} {mg : Str → Option Value} {base : Heap} {k : Nat} (m_range : mg "range" = none) (m_max : mg "max" = none) (m_min : mg "min" = none) (m_len : mg "len" = none) (m_int : mg "int" = none)
    (f : Addr) (cdv : Value) (A : Around) (outer : List Env) (s : Shared) (H : Hp) (E : XK) (hr : Room k (A.deeper (envOfC "_law_deck" (defScope s_l_deck) s.heap.objs.size f cdv))) :
    PSs (cxOf CX0 P w K mg base ["script", "pools", "k", "cell"] "_law_deck" (defScope s_l_deck) f cdv A outer s H E).nox (defBody s_l_deck) (t_l_deck K) := by
  have hu : (cxOf CX0 P w K mg base ["script", "pools", "k", "cell"] "_law_deck" (defScope s_l_deck) f cdv A outer s H E).nox.A.units + 64 < cLine := hr.units
  have hu5 : (cxOf CX0 P w K mg base ["script", "pools", "k", "cell"] "_law_deck" (defScope s_l_deck) f cdv A outer s H E).nox.A.units + 65 < cLine := room65 hr
  have hu1 : (cxOf CX0 P w K mg base ["script", "pools", "k", "cell"] "_law_deck" (defScope s_l_deck) f cdv A outer s H E).nox.A.units + 1 < cLine := room1 hr
  unfold t_l_deck
  exact (pss_cons (ps_set (i := 1) sc_l_deck.nd rfl (by first | exact Or.inl rfl | exact Or.inr rfl) (pe_lst pa_nil))
    (pss_cons (ps_for PassesOwn.never rfl (pi_range1 (by rfl) m_range (pa_cons (pe_callB (o_max rfl) (by rfl) m_max (by decide +kernel) (pa_cons pe_int (pa_cons (pe_callB (o_min rfl) (by rfl) m_min (by decide +kernel) (pa_cons pe_int (pa_cons (pe_callB o_len (by rfl) m_len (by decide +kernel) (pa_cons (pv 0) pa_nil)) pa_nil))) pa_nil))) pa_nil)) (pg_name (i := 2) sc_l_deck.nd rfl (by first | exact Or.inl rfl | exact Or.inr rfl)) (pss_cons (ps_set (i := 3) sc_l_deck.nd rfl (by first | exact Or.inl rfl | exact Or.inr rfl) pe_int)
    (pss_cons (ps_if (pt_cmpR o_lt (pv 2) (pe_callB o_len (by rfl) m_len (by decide +kernel) (pa_cons (pv 0) pa_nil)) (nomark _)) (pss_one (ps_set (i := 3) sc_l_deck.nd rfl (by first | exact Or.inl rfl | exact Or.inr rfl) (pe_ix ix_seq (pv 0) (pv 2) (fun _ _ => rfl)))) pss_nil)
    (pss_one (ps_expr (pe_bm PySem.F.plainAttrs_list PySem.F.slot_list_append PySem.F.type_list_append mt_append (pv 1) (pa_cons (pe_lst (pa_cons (pv 3) (pa_cons (pe_callTy o_int (by rfl) m_int (by decide +kernel) (pa_cons (pe_cmpR o_ge (pv 3) (pe_op o_pow pe_int pe_int) (nomark _)) pa_nil)) (pa_cons (pe_op o_mul pe_int (pv 2)) pa_nil)))) pa_nil)))))))
    (pss_one (ps_ret (pe_lst (pa_cons (pv 1) (pa_cons pe_int pa_nil)))))))
abbrev s_l_draw : Stmt := topS 13
theorem sc_l_draw : FnScope ["deck", "many", "pool", "found", "number"] ["deck", "many"] (defScope s_l_draw) := ⟨rfl, rfl, rfl, by decide +kernel, rfl, by decide +kernel, by decide +kernel⟩
def t_l_draw (K : PySem.W.Frag) : TS :=
  (tSeq (tAsg (tOp (rIx K) (tOp (rIx K) (tVar 0) (tC (.int 0))) (tOp dMod (tOp (rIx K) (tVar 0) (tC (.int 1))) (tCB (dLen K) (tCons (tOp (rIx K) (tVar 0) (tC (.int 0))) tNil)))) (gName 2))
    (tSeq (tAsg (tOp (dAdd K) (tOp (rIx K) (tVar 0) (tC (.int 1))) (tC (.int 1))) (gSub (tVar 0) (tC (.int 1)) rSetL))
    (tSeq (tIfS (tAnd (tTest (tOp (dEq K) (tOp (rIx K) (tVar 2) (tC (.int 1))) (tC (.int 1)))) (tTest (tOp dGt (tOp (rIx K) (tVar 2) (tC (.int 0))) (tC (.int 0))))) (tSeq (tAsg (tOp dMod (tOp (rIx K) (tVar 2) (tC (.int 0))) (tVar 1)) (gName 3))
    (tSeq (tAsg (tOp dDiv (tOp (rIx K) (tVar 2) (tC (.int 0))) (tVar 1)) (gSub (tVar 2) (tC (.int 0)) rSetL))
    (tRet (tVar 3)))) tNext)
    (tSeq (tAsg (tOp (dAdd K) (tOp (rIx K) (tVar 2) (tC (.int 2))) (tC (.int 1))) (gSub (tVar 2) (tC (.int 2)) rSetL))
    (tSeq (tAsg (tOp dMod (tOp (dAdd K) (tOp dMod (tOp (rIx K) (tVar 2) (tC (.int 0))) (tC (.int 99999999977))) (tOp dMul (tC (.int 700001)) (tOp (rIx K) (tVar 2) (tC (.int 2))))) (tC (.int 99999999947))) (gName 4))
    (tSeq (tAsg (tOp dMod (tOp dMul (tVar 4) (tVar 4)) (tC (.int 99999999821))) (gName 4))
    (tSeq (tAsg (tOp dMod (tOp dMul (tVar 4) (tOp (dAdd K) (tVar 4) (tC (.int 19)))) (tC (.int 9999999967))) (gName 4))
    (tRet (tOp dMod (tOp dDiv (tVar 4) (tC (.int 13))) (tVar 1))))))))))
theorem wk_l_draw {P : Program} {w : World} {K : PySem.W.Frag} {mg : Str → Option Value} {base : Heap} {k : Nat} (m_len : mg "len" = none)
    (f : Addr) (cdv : Value) (A : Around) (outer : List Env) (s : Shared) (H : Hp) (E : XK) (hr : Room k (A.deeper (envOfC "_law_draw" (defScope s_l_draw) s.heap.objs.size f cdv))) :
    PSs (cxOf CX0 P w K mg base ["deck", "many", "pool", "found", "number"] "_law_draw" (defScope s_l_draw) f cdv A outer s H E).nox (defBody s_l_draw) (t_l_draw K) := by
  have hu : (cxOf CX0 P w K mg base ["deck", "many", "pool", "found", "number"] "_law_draw" (defScope s_l_draw) f cdv A outer s H E).nox.A.units + 64 < cLine := hr.units
  have hu5 : (cxOf CX0 P w K mg base ["deck", "many", "pool", "found", "number"] "_law_draw" (defScope s_l_draw) f cdv A outer s H E).nox.A.units + 65 < cLine := room65 hr
  have hu1 : (cxOf CX0 P w K mg base ["deck", "many", "pool", "found", "number"] "_law_draw" (defScope s_l_draw) f cdv A outer s H E).nox.A.units + 1 < cLine := room1 hr
  unfold t_l_draw
  exact (pss_cons (ps_set (i := 2) sc_l_draw.nd rfl (by first | exact Or.inl rfl | exact Or.inr rfl) (pe_ix ix_seq (pe_ix ix_seq (pv 0) pe_int (fun _ _ => rfl)) (pe_op o_mod (pe_ix ix_seq (pv 0) pe_int (fun _ _ => rfl)) (pe_callB o_len (by rfl) m_len (by decide +kernel) (pa_cons (pe_ix ix_seq (pv 0) pe_int (fun _ _ => rfl)) pa_nil))) (fun _ _ => rfl)))
    (pss_cons (ps_asg (pe_op o_add (pe_ix ix_seq (pv 0) pe_int (fun _ _ => rfl)) pe_int) (pg_sub (pv 0) pe_int set_list))
    (pss_cons (ps_if (PW.pt (pw_and (pt_cmpR (o_eq hu) (pe_ix ix_seq (pv 2) pe_int (fun _ _ => rfl)) pe_int (nomark _)) (pw_and1 (pt_cmpR o_gt (pe_ix ix_seq (pv 2) pe_int (fun _ _ => rfl)) pe_int (nomark _))))) (pss_cons (ps_set (i := 3) sc_l_draw.nd rfl (by first | exact Or.inl rfl | exact Or.inr rfl) (pe_op o_mod (pe_ix ix_seq (pv 2) pe_int (fun _ _ => rfl)) (pv 1)))
    (pss_cons (ps_asg (pe_op o_div (pe_ix ix_seq (pv 2) pe_int (fun _ _ => rfl)) (pv 1)) (pg_sub (pv 2) pe_int set_list))
    (pss_one (ps_ret (pv 3))))) pss_nil)
    (pss_cons (ps_asg (pe_op o_add (pe_ix ix_seq (pv 2) pe_int (fun _ _ => rfl)) pe_int) (pg_sub (pv 2) pe_int set_list))
    (pss_cons (ps_set (i := 4) sc_l_draw.nd rfl (by first | exact Or.inl rfl | exact Or.inr rfl) (pe_op o_mod (pe_op o_add (pe_op o_mod (pe_ix ix_seq (pv 2) pe_int (fun _ _ => rfl)) pe_int) (pe_op o_mul pe_int (pe_ix ix_seq (pv 2) pe_int (fun _ _ => rfl)))) pe_int))
    (pss_cons (ps_set (i := 4) sc_l_draw.nd rfl (by first | exact Or.inl rfl | exact Or.inr rfl) (pe_op o_mod (pe_op o_mul (pv 4) (pv 4)) pe_int))
    (pss_cons (ps_set (i := 4) sc_l_draw.nd rfl (by first | exact Or.inl rfl | exact Or.inr rfl) (pe_op o_mod (pe_op o_mul (pv 4) (pe_op o_add (pv 4) pe_int)) pe_int))
    (pss_one (ps_ret (pe_op o_mod (pe_op o_div (pv 4) pe_int) (pv 1)))))))))))
abbrev s_l_names : Stmt := topS 14
theorem sc_l_names : FnScope ["deck", "letters", "found", "k", "name", "j", "turn"] ["deck"] (defScope s_l_names) := ⟨rfl, rfl, rfl, by decide +kernel, rfl, by decide +kernel, by decide +kernel⟩
def t_l_names (K : PySem.W.Frag) (sp_l_draw : Sp) : TS :=
  (tSeq (tAsg (tC (.str "abcdefghijklmnopqrstuvwxyz")) (gName 1))
    (tSeq (tAsg (tLst tNil) (gName 2))
    (tSeq (tFor (iRng1 (tCons (tOp (dAdd K) (tC (.int 1)) (tCall sp_l_draw [] E0 (tCons (tVar 0) (tCons (tC (.int 5)) tNil)))) tNil)) (gName 3) (tSeq (tAsg (tBM K "str" (rJoin K) (tC (.str "")) (tCons (tLc (iRng1 (tCons (tOp (dAdd K) (tC (.int 1)) (tCall sp_l_draw [] E0 (tCons (tVar 0) (tCons (tC (.int 8)) tNil)))) tNil)) (gName 5) tYes (tOp (rIx K) (tVar 1) (tCall sp_l_draw [] E0 (tCons (tVar 0) (tCons (tC (.int 26)) tNil)))) [5]) tNil)) (gName 4))
    (tSeq (tIfS (tAnd (tTest (tOp (dNe K) (tVar 2) (tLst tNil))) (tTest (tOp (dEq K) (tCall sp_l_draw [] E0 (tCons (tVar 0) (tCons (tC (.int 2)) tNil))) (tC (.int 0))))) (tAsg (tOp (dAdd K) (tSl rSlS (tOp (rIx K) (tVar 2) (tUn dNeg (tC (.int 1)))) tNoPart (tPart (tOp (dAdd K) (tC (.int 1)) (tCall sp_l_draw [] E0 (tCons (tVar 0) (tCons (tC (.int 7)) tNil)))))) (tOp (rIx K) (tVar 1) (tCall sp_l_draw [] E0 (tCons (tVar 0) (tCons (tC (.int 26)) tNil))))) (gName 4)) tNext)
    (tSeq (tIfS (tTest (tOp (dEq K) (tCall sp_l_draw [] E0 (tCons (tVar 0) (tCons (tC (.int 4)) tNil))) (tC (.int 0)))) (tAsg (tOp (rIx K) (tLst (tCons (tC (.str "a")) (tCons (tC (.str "number")) (tCons (tC (.str "box")) (tCons (tC (.str "pick")) (tCons (tC (.str "nothing")) (tCons (tC (.str "set")) tNil))))))) (tCall sp_l_draw [] E0 (tCons (tVar 0) (tCons (tC (.int 6)) tNil)))) (gName 4)) tNext)
    (tSeq (tAsg (tC (.int 0)) (gName 6))
    (tSeq (tWhile (tTest (tOp (dIn K) (tVar 4) (tVar 2))) (tSeq (tAsg (tOp rMulS (tOp (rIx K) (tVar 1) (tVar 6)) (tC (.int 8))) (gName 4))
    (tAsg (tOp (dAdd K) (tVar 6) (tC (.int 1))) (gName 6))))
    (tDrop (tBM K "list" rAppend (tVar 2) (tCons (tVar 4) tNil)))))))))
    (tRet (tVar 2)))))
theorem wk_l_names {P : Program} {w : World} {K : PySem.W.Frag} {mg : Str → Option Value} {base : Heap} {k : Nat} {sp_l_draw : Sp}
    (c_l_draw : Cal P w K mg base CX0 k "_law_draw" ["deck", "many"] sp_l_draw) (m_range : mg "range" = none)
    (f : Addr) (cdv : Value) (A : Around) (outer : List Env) (s : Shared) (H : Hp) (E : XK) (hr : Room k (A.deeper (envOfC "_law_names" (defScope s_l_names) s.heap.objs.size f cdv))) :
    PSs (cxOf CX0 P w K mg base ["deck", "letters", "found", "k", "name", "j", "turn"] "_law_names" (defScope s_l_names) f cdv A outer s H E).nox (defBody s_l_names) (t_l_names K sp_l_draw) := by
  have hu : (cxOf CX0 P w K mg base ["deck", "letters", "found", "k", "name", "j", "turn"] "_law_names" (defScope s_l_names) f cdv A outer s H E).nox.A.units + 64 < cLine := hr.units
  have hu5 : (cxOf CX0 P w K mg base ["deck", "letters", "found", "k", "name", "j", "turn"] "_law_names" (defScope s_l_names) f cdv A outer s H E).nox.A.units + 65 < cLine := room65 hr
  have hu1 : (cxOf CX0 P w K mg base ["deck", "letters", "found", "k", "name", "j", "turn"] "_law_names" (defScope s_l_names) f cdv A outer s H E).nox.A.units + 1 < cLine := room1 hr
  unfold t_l_names
  exact (pss_cons (ps_set (i := 1) sc_l_names.nd rfl (by first | exact Or.inl rfl | exact Or.inr rfl) pe_str)
    (pss_cons (ps_set (i := 2) sc_l_names.nd rfl (by first | exact Or.inl rfl | exact Or.inr rfl) (pe_lst pa_nil))
    (pss_cons (ps_for PassesOwn.never rfl (pi_range1 (by rfl) m_range (pa_cons (pe_op o_add pe_int (pe_c c_l_draw hr (by rfl) (pa_cons (pv 0) (pa_cons pe_int pa_nil)))) pa_nil)) (pg_name (i := 3) sc_l_names.nd rfl (by first | exact Or.inl rfl | exact Or.inr rfl)) (pss_cons (ps_set (i := 4) sc_l_names.nd rfl (by first | exact Or.inl rfl | exact Or.inr rfl) (pe_bm PySem.F.plainAttrs_str PySem.F.slot_str_join PySem.F.type_str_join mt_join pe_str (pa_cons (pe_lc (own := [("j", 5)]) (g := (gName 5)) (tt := tYes) rfl sc_l_names.nd (pi_range1 (by rfl) m_range (pa_cons (pe_op o_add pe_int (pe_c c_l_draw hr (by rfl) (pa_cons (pv 0) (pa_cons pe_int pa_nil)))) pa_nil)) (blkOk_by (N := ["deck", "letters", "found", "k", "name", "j", "turn"]) (sc := defScope s_l_names) (by decide +kernel)) (fun _ _ _ _ _ => (pg_name (i := 5) sc_l_names.nd rfl (by first | exact Or.inl rfl | exact Or.inr rfl))) (fun _ _ _ _ _ => pts_nil) (fun _ _ _ _ _ => (pe_ix ix_seq (pv 1) (pe_c c_l_draw hr (by rfl) (pa_cons (pv 0) (pa_cons pe_int pa_nil))) (fun _ _ => rfl)))) pa_nil)))
    (pss_cons (ps_if (PW.pt (pw_and (pt_cmpR (o_ne hu) (pv 2) (pe_lst pa_nil) (nomark _)) (pw_and1 (pt_cmpR (o_eq hu) (pe_c c_l_draw hr (by rfl) (pa_cons (pv 0) (pa_cons pe_int pa_nil))) pe_int (nomark _))))) (pss_one (ps_set (i := 4) sc_l_names.nd rfl (by first | exact Or.inl rfl | exact Or.inr rfl) (pe_op o_add (pe_slice sl_str (pe_ix ix_seq (pv 2) (pe_un o_neg pe_int) (fun _ _ => rfl)) po_none (po_some (pe_op o_add pe_int (pe_c c_l_draw hr (by rfl) (pa_cons (pv 0) (pa_cons pe_int pa_nil)))))) (pe_ix ix_seq (pv 1) (pe_c c_l_draw hr (by rfl) (pa_cons (pv 0) (pa_cons pe_int pa_nil))) (fun _ _ => rfl))))) pss_nil)
    (pss_cons (ps_if (pt_cmpR (o_eq hu) (pe_c c_l_draw hr (by rfl) (pa_cons (pv 0) (pa_cons pe_int pa_nil))) pe_int (nomark _)) (pss_one (ps_set (i := 4) sc_l_names.nd rfl (by first | exact Or.inl rfl | exact Or.inr rfl) (pe_ix ix_seq (pe_lst (pa_cons pe_str (pa_cons pe_str (pa_cons pe_str (pa_cons pe_str (pa_cons pe_str (pa_cons pe_str pa_nil))))))) (pe_c c_l_draw hr (by rfl) (pa_cons (pv 0) (pa_cons pe_int pa_nil))) (fun _ _ => rfl)))) pss_nil)
    (pss_cons (ps_set (i := 6) sc_l_names.nd rfl (by first | exact Or.inl rfl | exact Or.inr rfl) pe_int)
    (pss_cons (ps_while PassesOwn.never (pt_cmpR (o_in hu5) (pv 4) (pv 2) (by rfl)) (pss_cons (ps_set (i := 4) sc_l_names.nd rfl (by first | exact Or.inl rfl | exact Or.inr rfl) (pe_op op_mulS (pe_ix ix_seq (pv 1) (pv 6) (fun _ _ => rfl)) pe_int))
    (pss_one (ps_set (i := 6) sc_l_names.nd rfl (by first | exact Or.inl rfl | exact Or.inr rfl) (pe_op o_add (pv 6) pe_int)))))
    (pss_one (ps_expr (pe_bm PySem.F.plainAttrs_list PySem.F.slot_list_append PySem.F.type_list_append mt_append (pv 2) (pa_cons (pv 4) pa_nil))))))))))
    (pss_one (ps_ret (pv 2))))))
abbrev s_l_thing : Stmt := topS 15
theorem sc_l_thing : FnScope ["deck", "m", "boxes", "deep", "kind", "thing", "one"] ["deck", "m", "boxes", "deep"] (defScope s_l_thing) := ⟨rfl, rfl, rfl, by decide +kernel, rfl, by decide +kernel, by decide +kernel⟩
def t_l_thing (K : PySem.W.Frag) (sp_l_thing : Sp) (sp_l_draw : Sp) : TS :=
  (tSeq (tAsg (tCall sp_l_draw [] E0 (tCons (tVar 0) (tCons (tC (.int 7)) tNil))) (gName 4))
    (tSeq (tIfS (tOr (tTest (tOp (dEq K) (tVar 3) (tC (.int 1)))) (tTest (tOp dLt (tVar 4) (tC (.int 3))))) (tSeq (tAsg (tTup (tCons (tC (.str "box")) (tCons (tOp (rIx K) (tVar 2) (tCall sp_l_draw [] E0 (tCons (tVar 0) (tCons (tCB (dLen K) (tCons (tVar 2) tNil)) tNil)))) tNil))) (gName 5))
    (tSeq (tIfS (tTest (tOp (dEq K) (tOp dMod (tVar 4) (tC (.int 2))) (tC (.int 0)))) (tAsg (tTup (tCons (tC (.str "number")) (tCons (tOp (rIx K) (tLst (tCons (tC (.int 0)) (tCons (tOp dSub (tVar 1) (tC (.int 1))) (tCons (tCall sp_l_draw [] E0 (tCons (tVar 0) (tCons (tVar 1) tNil))) tNil)))) (tCall sp_l_draw [] E0 (tCons (tVar 0) (tCons (tC (.int 3)) tNil)))) tNil))) (gName 5)) tNext)
    (tRet (tVar 5)))) tNext)
    (tSeq (tAsg (tCall sp_l_thing [] E0 (tCons (tVar 0) (tCons (tVar 1) (tCons (tVar 2) (tCons (tOp dSub (tVar 3) (tC (.int 1))) tNil))))) (gName 6))
    (tRet (tTup (tCons (tOp (rIx K) (tLst (tCons (tC (.str "plus")) (tCons (tC (.str "times")) (tCons (tC (.str "less")) (tCons (tC (.str "same")) tNil))))) (tOp dSub (tVar 4) (tC (.int 3)))) (tCons (tVar 6) (tCons (tCall sp_l_thing [] E0 (tCons (tVar 0) (tCons (tVar 1) (tCons (tVar 2) (tCons (tOp dSub (tVar 3) (tC (.int 1))) tNil))))) tNil))))))))
theorem wk_l_thing {P : Program} {w : World} {K : PySem.W.Frag} {mg : Str → Option Value} {base : Heap} {k : Nat} {sp_l_thing : Sp} {sp_l_draw : Sp}
    (c_l_thing : Cal P w K mg base CX0 k "_law_thing" ["deck", "m", "boxes", "deep"] sp_l_thing)
    (c_l_draw : Cal P w K mg base CX0 k "_law_draw" ["deck", "many"] sp_l_draw) (m_len : mg "len" = none)
    (f : Addr) (cdv : Value) (A : Around) (outer : List Env) (s : Shared) (H : Hp) (E : XK) (hr : Room k (A.deeper (envOfC "_law_thing" (defScope s_l_thing) s.heap.objs.size f cdv))) :
    PSs (cxOf CX0 P w K mg base ["deck", "m", "boxes", "deep", "kind", "thing", "one"] "_law_thing" (defScope s_l_thing) f cdv A outer s H E).nox (defBody s_l_thing) (t_l_thing K sp_l_thing sp_l_draw) := by
  have hu : (cxOf CX0 P w K mg base ["deck", "m", "boxes", "deep", "kind", "thing", "one"] "_law_thing" (defScope s_l_thing) f cdv A outer s H E).nox.A.units + 64 < cLine := hr.units
  have hu5 : (cxOf CX0 P w K mg base ["deck", "m", "boxes", "deep", "kind", "thing", "one"] "_law_thing" (defScope s_l_thing) f cdv A outer s H E).nox.A.units + 65 < cLine := room65 hr
  have hu1 : (cxOf CX0 P w K mg base ["deck", "m", "boxes", "deep", "kind", "thing", "one"] "_law_thing" (defScope s_l_thing) f cdv A outer s H E).nox.A.units + 1 < cLine := room1 hr
  unfold t_l_thing
  exact (pss_cons (ps_set (i := 4) sc_l_thing.nd rfl (by first | exact Or.inl rfl | exact Or.inr rfl) (pe_c c_l_draw hr (by rfl) (pa_cons (pv 0) (pa_cons pe_int pa_nil))))
    (pss_cons (ps_if (PW.pt (pw_or (pt_cmpR (o_eq hu) (pv 3) pe_int (nomark _)) (pw_or1 (pt_cmpR o_lt (pv 4) pe_int (nomark _))))) (pss_cons (ps_set (i := 5) sc_l_thing.nd rfl (by first | exact Or.inl rfl | exact Or.inr rfl) (pe_tup (pa_cons pe_str (pa_cons (pe_ix ix_seq (pv 2) (pe_c c_l_draw hr (by rfl) (pa_cons (pv 0) (pa_cons (pe_callB o_len (by rfl) m_len (by decide +kernel) (pa_cons (pv 2) pa_nil)) pa_nil))) (fun _ _ => rfl)) pa_nil))))
    (pss_cons (ps_if (pt_cmpR (o_eq hu) (pe_op o_mod (pv 4) pe_int) pe_int (nomark _)) (pss_one (ps_set (i := 5) sc_l_thing.nd rfl (by first | exact Or.inl rfl | exact Or.inr rfl) (pe_tup (pa_cons pe_str (pa_cons (pe_ix ix_seq (pe_lst (pa_cons pe_int (pa_cons (pe_op o_sub (pv 1) pe_int) (pa_cons (pe_c c_l_draw hr (by rfl) (pa_cons (pv 0) (pa_cons (pv 1) pa_nil))) pa_nil)))) (pe_c c_l_draw hr (by rfl) (pa_cons (pv 0) (pa_cons pe_int pa_nil))) (fun _ _ => rfl)) pa_nil))))) pss_nil)
    (pss_one (ps_ret (pv 5))))) pss_nil)
    (pss_cons (ps_set (i := 6) sc_l_thing.nd rfl (by first | exact Or.inl rfl | exact Or.inr rfl) (pe_c c_l_thing hr (by rfl) (pa_cons (pv 0) (pa_cons (pv 1) (pa_cons (pv 2) (pa_cons (pe_op o_sub (pv 3) pe_int) pa_nil))))))
    (pss_one (ps_ret (pe_tup (pa_cons (pe_ix ix_seq (pe_lst (pa_cons pe_str (pa_cons pe_str (pa_cons pe_str (pa_cons pe_str pa_nil))))) (pe_op o_sub (pv 4) pe_int) (fun _ _ => rfl)) (pa_cons (pv 6) (pa_cons (pe_c c_l_thing hr (by rfl) (pa_cons (pv 0) (pa_cons (pv 1) (pa_cons (pv 2) (pa_cons (pe_op o_sub (pv 3) pe_int) pa_nil))))) pa_nil)))))))))
abbrev s_l_row : Stmt := topS 16
theorem sc_l_row : FnScope ["deck", "m", "boxes", "kind", "deep", "box", "many", "k"] ["deck", "m", "boxes"] (defScope s_l_row) := ⟨rfl, rfl, rfl, by decide +kernel, rfl, by decide +kernel, by decide +kernel⟩
def t_l_row (K : PySem.W.Frag) (sp_l_thing : Sp) (sp_l_draw : Sp) : TS :=
  (tSeq (tAsg (tCall sp_l_draw [] E0 (tCons (tVar 0) (tCons (tC (.int 12)) tNil))) (gName 3))
    (tSeq (tAsg (tOp (dAdd K) (tC (.int 1)) (tCall sp_l_draw [] E0 (tCons (tVar 0) (tCons (tC (.int 4)) tNil)))) (gName 4))
    (tSeq (tAsg (tOp (rIx K) (tVar 2) (tCall sp_l_draw [] E0 (tCons (tVar 0) (tCons (tCB (dLen K) (tCons (tVar 2) tNil)) tNil)))) (gName 5))
    (tSeq (tIfS (tTest (tOp dLt (tVar 3) (tC (.int 4)))) (tRet (tTup (tCons (tC (.str "set")) (tCons (tVar 5) (tCons (tCall sp_l_thing [] E0 (tCons (tVar 0) (tCons (tVar 1) (tCons (tVar 2) (tCons (tVar 4) tNil))))) tNil))))) tNext)
    (tSeq (tIfS (tTest (tOp dLt (tVar 3) (tC (.int 7)))) (tSeq (tAsg (tOp (rIx K) (tLst (tCons (tC (.int 1)) (tCons (tC (.int 2)) (tCons (tC (.int 4)) (tCons (tC (.int 3)) (tCons (tC (.int 5)) tNil)))))) (tCall sp_l_draw [] E0 (tCons (tVar 0) (tCons (tC (.int 5)) tNil)))) (gName 6))
    (tRet (tTup (tCons (tC (.str "pick")) (tCons (tVar 5) (tCons (tLc (iRng1 (tCons (tVar 6) tNil)) (gName 7) tYes (tCall sp_l_thing [] E0 (tCons (tVar 0) (tCons (tVar 1) (tCons (tVar 2) (tCons (tVar 4) tNil))))) [7]) tNil)))))) tNext)
    (tSeq (tIfS (tTest (tOp dLt (tVar 3) (tC (.int 10)))) (tRet (tTup (tCons (tC (.str "skip")) (tCons (tCall sp_l_thing [] E0 (tCons (tVar 0) (tCons (tVar 1) (tCons (tVar 2) (tCons (tVar 4) tNil))))) (tCons (tOp (rIx K) (tLst (tCons (tC (.int 1)) (tCons (tC (.int 2)) (tCons (tC (.int 3)) (tCons (tOp (dAdd K) (tC (.int 1)) (tCall sp_l_draw [] E0 (tCons (tVar 0) (tCons (tC (.int 30)) tNil)))) tNil))))) (tCall sp_l_draw [] E0 (tCons (tVar 0) (tCons (tC (.int 4)) tNil)))) tNil))))) tNext)
    (tSeq (tIfS (tTest (tOp (dEq K) (tVar 3) (tC (.int 10)))) (tRet (tTup (tCons (tC (.str "need")) (tCons (tTup (tCons (tC (.str "plus")) (tCons (tTup (tCons (tC (.str "number")) (tCons (tC (.int 1)) tNil))) (tCons (tCall sp_l_thing [] E0 (tCons (tVar 0) (tCons (tVar 1) (tCons (tVar 2) (tCons (tCB (dMin K) (tCons (tVar 4) (tCons (tC (.int 3)) tNil))) tNil))))) tNil)))) tNil)))) tNext)
    (tRet (tOp (rIx K) (tLst (tCons (tTup (tCons (tC (.str "need")) (tCons (tCall sp_l_thing [] E0 (tCons (tVar 0) (tCons (tVar 1) (tCons (tVar 2) (tCons (tVar 4) tNil))))) tNil))) (tCons (tTup (tCons (tC (.str "give")) (tCons (tCall sp_l_thing [] E0 (tCons (tVar 0) (tCons (tVar 1) (tCons (tVar 2) (tCons (tVar 4) tNil))))) tNil))) tNil))) (tCall sp_l_draw [] E0 (tCons (tVar 0) (tCons (tC (.int 2)) tNil))))))))))))
theorem wk_l_row {P : Program} {w : World} {K : PySem.W.Frag} {mg : Str → Option Value} {base : Heap} {k : Nat} {sp_l_thing : Sp} {sp_l_draw : Sp}
    (c_l_thing : Cal P w K mg base CX0 k "_law_thing" ["deck", "m", "boxes", "deep"] sp_l_thing)
    (c_l_draw : Cal P w K mg base CX0 k "_law_draw" ["deck", "many"] sp_l_draw) (m_min : mg "min" = none) (m_range : mg "range" = none) (m_len : mg "len" = none)
    (f : Addr) (cdv : Value) (A : Around) (outer : List Env) (s : Shared) (H : Hp) (E : XK) (hr : Room k (A.deeper (envOfC "_law_row" (defScope s_l_row) s.heap.objs.size f cdv))) :
    PSs (cxOf CX0 P w K mg base ["deck", "m", "boxes", "kind", "deep", "box", "many", "k"] "_law_row" (defScope s_l_row) f cdv A outer s H E).nox (defBody s_l_row) (t_l_row K sp_l_thing sp_l_draw) := by
  have hu : (cxOf CX0 P w K mg base ["deck", "m", "boxes", "kind", "deep", "box", "many", "k"] "_law_row" (defScope s_l_row) f cdv A outer s H E).nox.A.units + 64 < cLine := hr.units
  have hu5 : (cxOf CX0 P w K mg base ["deck", "m", "boxes", "kind", "deep", "box", "many", "k"] "_law_row" (defScope s_l_row) f cdv A outer s H E).nox.A.units + 65 < cLine := room65 hr
  have hu1 : (cxOf CX0 P w K mg base ["deck", "m", "boxes", "kind", "deep", "box", "many", "k"] "_law_row" (defScope s_l_row) f cdv A outer s H E).nox.A.units + 1 < cLine := room1 hr
  unfold t_l_row
  exact (pss_cons (ps_set (i := 3) sc_l_row.nd rfl (by first | exact Or.inl rfl | exact Or.inr rfl) (pe_c c_l_draw hr (by rfl) (pa_cons (pv 0) (pa_cons pe_int pa_nil))))
    (pss_cons (ps_set (i := 4) sc_l_row.nd rfl (by first | exact Or.inl rfl | exact Or.inr rfl) (pe_op o_add pe_int (pe_c c_l_draw hr (by rfl) (pa_cons (pv 0) (pa_cons pe_int pa_nil)))))
    (pss_cons (ps_set (i := 5) sc_l_row.nd rfl (by first | exact Or.inl rfl | exact Or.inr rfl) (pe_ix ix_seq (pv 2) (pe_c c_l_draw hr (by rfl) (pa_cons (pv 0) (pa_cons (pe_callB o_len (by rfl) m_len (by decide +kernel) (pa_cons (pv 2) pa_nil)) pa_nil))) (fun _ _ => rfl)))
    (pss_cons (ps_if (pt_cmpR o_lt (pv 3) pe_int (nomark _)) (pss_one (ps_ret (pe_tup (pa_cons pe_str (pa_cons (pv 5) (pa_cons (pe_c c_l_thing hr (by rfl) (pa_cons (pv 0) (pa_cons (pv 1) (pa_cons (pv 2) (pa_cons (pv 4) pa_nil))))) pa_nil)))))) pss_nil)
    (pss_cons (ps_if (pt_cmpR o_lt (pv 3) pe_int (nomark _)) (pss_cons (ps_set (i := 6) sc_l_row.nd rfl (by first | exact Or.inl rfl | exact Or.inr rfl) (pe_ix ix_seq (pe_lst (pa_cons pe_int (pa_cons pe_int (pa_cons pe_int (pa_cons pe_int (pa_cons pe_int pa_nil)))))) (pe_c c_l_draw hr (by rfl) (pa_cons (pv 0) (pa_cons pe_int pa_nil))) (fun _ _ => rfl)))
    (pss_one (ps_ret (pe_tup (pa_cons pe_str (pa_cons (pv 5) (pa_cons (pe_lc (own := [("k", 7)]) (g := (gName 7)) (tt := tYes) rfl sc_l_row.nd (pi_range1 (by rfl) m_range (pa_cons (pv 6) pa_nil)) (blkOk_by (N := ["deck", "m", "boxes", "kind", "deep", "box", "many", "k"]) (sc := defScope s_l_row) (by decide +kernel)) (fun _ _ _ _ _ => (pg_name (i := 7) sc_l_row.nd rfl (by first | exact Or.inl rfl | exact Or.inr rfl))) (fun _ _ _ _ _ => pts_nil) (fun _ _ _ _ _ => (pe_c c_l_thing hr (by rfl) (pa_cons (pv 0) (pa_cons (pv 1) (pa_cons (pv 2) (pa_cons (pv 4) pa_nil))))))) pa_nil))))))) pss_nil)
    (pss_cons (ps_if (pt_cmpR o_lt (pv 3) pe_int (nomark _)) (pss_one (ps_ret (pe_tup (pa_cons pe_str (pa_cons (pe_c c_l_thing hr (by rfl) (pa_cons (pv 0) (pa_cons (pv 1) (pa_cons (pv 2) (pa_cons (pv 4) pa_nil))))) (pa_cons (pe_ix ix_seq (pe_lst (pa_cons pe_int (pa_cons pe_int (pa_cons pe_int (pa_cons (pe_op o_add pe_int (pe_c c_l_draw hr (by rfl) (pa_cons (pv 0) (pa_cons pe_int pa_nil)))) pa_nil))))) (pe_c c_l_draw hr (by rfl) (pa_cons (pv 0) (pa_cons pe_int pa_nil))) (fun _ _ => rfl)) pa_nil)))))) pss_nil)
    (pss_cons (ps_if (pt_cmpR (o_eq hu) (pv 3) pe_int (nomark _)) (pss_one (ps_ret (pe_tup (pa_cons pe_str (pa_cons (pe_tup (pa_cons pe_str (pa_cons (pe_tup (pa_cons pe_str (pa_cons pe_int pa_nil))) (pa_cons (pe_c c_l_thing hr (by rfl) (pa_cons (pv 0) (pa_cons (pv 1) (pa_cons (pv 2) (pa_cons (pe_callB (o_min rfl) (by rfl) m_min (by decide +kernel) (pa_cons (pv 4) (pa_cons pe_int pa_nil))) pa_nil))))) pa_nil)))) pa_nil))))) pss_nil)
    (pss_one (ps_ret (pe_ix ix_seq (pe_lst (pa_cons (pe_tup (pa_cons pe_str (pa_cons (pe_c c_l_thing hr (by rfl) (pa_cons (pv 0) (pa_cons (pv 1) (pa_cons (pv 2) (pa_cons (pv 4) pa_nil))))) pa_nil))) (pa_cons (pe_tup (pa_cons pe_str (pa_cons (pe_c c_l_thing hr (by rfl) (pa_cons (pv 0) (pa_cons (pv 1) (pa_cons (pv 2) (pa_cons (pv 4) pa_nil))))) pa_nil))) pa_nil))) (pe_c c_l_draw hr (by rfl) (pa_cons (pv 0) (pa_cons pe_int pa_nil))) (fun _ _ => rfl)))))))))))
abbrev s_l_bounded : Stmt := topS 17
theorem sc_l_bounded : FnScope ["m", "boxes", "rows", "stores", "box", "runs", "found", "row"] ["m", "boxes", "rows"] (defScope s_l_bounded) := ⟨rfl, rfl, rfl, by decide +kernel, rfl, by decide +kernel, by decide +kernel⟩
def t_l_bounded (K : PySem.W.Frag) : TS :=
  (tSeq (tAsg (tC (.int 1)) (gName 3))
    (tSeq (tFor (iList K (tVar 1)) (gName 4) (tAsg (tOp dMul (tVar 3) (tVar 0)) (gName 3)))
    (tSeq (tAsg (tC (.int 1)) (gName 5))
    (tSeq (tAsg (tLst tNil) (gName 6))
    (tSeq (tFor (iList K (tVar 2)) (gName 7) (tSeq (tIfS (tAnd (tTest (tOp (dEq K) (tOp (rIx K) (tVar 7) (tC (.int 0))) (tC (.str "pick")))) (tAnd (tTest (tOp dGt (tVar 3) (tC (.int 160)))) (tTest (tOp dGt (tOp dMul (tVar 5) (tCB (dLen K) (tCons (tOp (rIx K) (tVar 7) (tC (.int 2))) tNil))) (tC (.int 150)))))) (tAsg (tTup (tCons (tOp (rIx K) (tVar 7) (tC (.int 0))) (tCons (tOp (rIx K) (tVar 7) (tC (.int 1))) (tCons (tSl (rSlL K) (tOp (rIx K) (tVar 7) (tC (.int 2))) tNoPart (tPart (tC (.int 1)))) tNil)))) (gName 7)) tNext)
    (tSeq (tIfS (tTest (tOp (dEq K) (tOp (rIx K) (tVar 7) (tC (.int 0))) (tC (.str "pick")))) (tAsg (tOp dMul (tVar 5) (tCB (dLen K) (tCons (tOp (rIx K) (tVar 7) (tC (.int 2))) tNil))) (gName 5)) tNext)
    (tDrop (tBM K "list" rAppend (tVar 6) (tCons (tVar 7) tNil))))))
    (tRet (tVar 6)))))))
theorem wk_l_bounded {P : Program} {w : World} {K : PySem.W.Frag} {mg : Str → Option Value} {base : Heap} {k : Nat} (m_len : mg "len" = none)
    (f : Addr) (cdv : Value) (A : Around) (outer : List Env) (s : Shared) (H : Hp) (E : XK) (hr : Room k (A.deeper (envOfC "_law_bounded" (defScope s_l_bounded) s.heap.objs.size f cdv))) :
    PSs (cxOf CX0 P w K mg base ["m", "boxes", "rows", "stores", "box", "runs", "found", "row"] "_law_bounded" (defScope s_l_bounded) f cdv A outer s H E).nox (defBody s_l_bounded) (t_l_bounded K) := by
  have hu : (cxOf CX0 P w K mg base ["m", "boxes", "rows", "stores", "box", "runs", "found", "row"] "_law_bounded" (defScope s_l_bounded) f cdv A outer s H E).nox.A.units + 64 < cLine := hr.units
  have hu5 : (cxOf CX0 P w K mg base ["m", "boxes", "rows", "stores", "box", "runs", "found", "row"] "_law_bounded" (defScope s_l_bounded) f cdv A outer s H E).nox.A.units + 65 < cLine := room65 hr
  have hu1 : (cxOf CX0 P w K mg base ["m", "boxes", "rows", "stores", "box", "runs", "found", "row"] "_law_bounded" (defScope s_l_bounded) f cdv A outer s H E).nox.A.units + 1 < cLine := room1 hr
  unfold t_l_bounded
  exact (pss_cons (ps_set (i := 3) sc_l_bounded.nd rfl (by first | exact Or.inl rfl | exact Or.inr rfl) pe_int)
    (pss_cons (ps_for PassesOwn.never rfl (pi_list (pv 1)) (pg_name (i := 4) sc_l_bounded.nd rfl (by first | exact Or.inl rfl | exact Or.inr rfl)) (pss_one (ps_set (i := 3) sc_l_bounded.nd rfl (by first | exact Or.inl rfl | exact Or.inr rfl) (pe_op o_mul (pv 3) (pv 0)))))
    (pss_cons (ps_set (i := 5) sc_l_bounded.nd rfl (by first | exact Or.inl rfl | exact Or.inr rfl) pe_int)
    (pss_cons (ps_set (i := 6) sc_l_bounded.nd rfl (by first | exact Or.inl rfl | exact Or.inr rfl) (pe_lst pa_nil))
    (pss_cons (ps_for PassesOwn.never rfl (pi_list (pv 2)) (pg_name (i := 7) sc_l_bounded.nd rfl (by first | exact Or.inl rfl | exact Or.inr rfl)) (pss_cons (ps_if (PW.pt (pw_and (pt_cmpR (o_eq hu) (pe_ix ix_seq (pv 7) pe_int (fun _ _ => rfl)) pe_str (nomark _)) (pw_and (pt_cmpR o_gt (pv 3) pe_int (nomark _)) (pw_and1 (pt_cmpR o_gt (pe_op o_mul (pv 5) (pe_callB o_len (by rfl) m_len (by decide +kernel) (pa_cons (pe_ix ix_seq (pv 7) pe_int (fun _ _ => rfl)) pa_nil))) pe_int (nomark _)))))) (pss_one (ps_set (i := 7) sc_l_bounded.nd rfl (by first | exact Or.inl rfl | exact Or.inr rfl) (pe_tup (pa_cons (pe_ix ix_seq (pv 7) pe_int (fun _ _ => rfl)) (pa_cons (pe_ix ix_seq (pv 7) pe_int (fun _ _ => rfl)) (pa_cons (pe_slice sl_list (pe_ix ix_seq (pv 7) pe_int (fun _ _ => rfl)) po_none (po_some pe_int)) pa_nil)))))) pss_nil)
    (pss_cons (ps_if (pt_cmpR (o_eq hu) (pe_ix ix_seq (pv 7) pe_int (fun _ _ => rfl)) pe_str (nomark _)) (pss_one (ps_set (i := 5) sc_l_bounded.nd rfl (by first | exact Or.inl rfl | exact Or.inr rfl) (pe_op o_mul (pv 5) (pe_callB o_len (by rfl) m_len (by decide +kernel) (pa_cons (pe_ix ix_seq (pv 7) pe_int (fun _ _ => rfl)) pa_nil))))) pss_nil)
    (pss_one (ps_expr (pe_bm PySem.F.plainAttrs_list PySem.F.slot_list_append PySem.F.type_list_append mt_append (pv 6) (pa_cons (pv 7) pa_nil)))))))
    (pss_one (ps_ret (pv 6))))))))
abbrev s_l_program : Stmt := topS 18
theorem sc_l_program : FnScope ["deck", "m", "boxes", "many", "rows", "k"] ["deck"] (defScope s_l_program) := ⟨rfl, rfl, rfl, by decide +kernel, rfl, by decide +kernel, by decide +kernel⟩
def t_l_program (K : PySem.W.Frag) (sp_l_draw : Sp) (sp_l_thing : Sp) (sp_l_bounded : Sp) (sp_l_row : Sp) (sp_l_names : Sp) : TS :=
  (tSeq (tAsg (tOp (rIx K) (tLst (tCons (tC (.int 2)) (tCons (tC (.int 3)) (tCons (tC (.int 5)) (tCons (tC (.int 16)) (tCons (tOp (dAdd K) (tC (.int 2)) (tCall sp_l_draw [] E0 (tCons (tVar 0) (tCons (tC (.int 15)) tNil)))) tNil)))))) (tCall sp_l_draw [] E0 (tCons (tVar 0) (tCons (tC (.int 5)) tNil)))) (gName 1))
    (tSeq (tAsg (tCall sp_l_names [] E0 (tCons (tVar 0) tNil)) (gName 2))
    (tSeq (tAsg (tOp (rIx K) (tLst (tCons (tCall sp_l_draw [] E0 (tCons (tVar 0) (tCons (tC (.int 4)) tNil))) (tCons (tCall sp_l_draw [] E0 (tCons (tVar 0) (tCons (tC (.int 9)) tNil))) (tCons (tCall sp_l_draw [] E0 (tCons (tVar 0) (tCons (tC (.int 16)) tNil))) (tCons (tCall sp_l_draw [] E0 (tCons (tVar 0) (tCons (tC (.int 31)) tNil))) tNil))))) (tCall sp_l_draw [] E0 (tCons (tVar 0) (tCons (tC (.int 4)) tNil)))) (gName 3))
    (tSeq (tAsg (tCall sp_l_bounded [] E0 (tCons (tVar 1) (tCons (tVar 2) (tCons (tLc (iRng1 (tCons (tVar 3) tNil)) (gName 5) tYes (tCall sp_l_row [] E0 (tCons (tVar 0) (tCons (tVar 1) (tCons (tVar 2) tNil)))) [5]) tNil)))) (gName 4))
    (tSeq (tIfS (tAnd (tTest (tOp (dEq K) (tCall sp_l_draw [] E0 (tCons (tVar 0) (tCons (tC (.int 2)) tNil))) (tC (.int 0)))) (tTest (tOp dLt (tVar 3) (tC (.int 30))))) (tDrop (tBM K "list" rAppend (tVar 4) (tCons (tTup (tCons (tC (.str "give")) (tCons (tCall sp_l_thing [] E0 (tCons (tVar 0) (tCons (tVar 1) (tCons (tVar 2) (tCons (tC (.int 2)) tNil))))) tNil))) tNil))) tNext)
    (tRet (tTup (tCons (tVar 1) (tCons (tVar 2) (tCons (tVar 4) tNil))))))))))
theorem wk_l_program {P : Program} {w : World} {K : PySem.W.Frag} {mg : Str → Option Value} {base : Heap} {k : Nat} {sp_l_draw : Sp} {sp_l_thing : Sp} {sp_l_bounded : Sp} {sp_l_row : Sp} {sp_l_names : Sp}
    (c_l_draw : Cal P w K mg base CX0 k "_law_draw" ["deck", "many"] sp_l_draw)
    (c_l_thing : Cal P w K mg base CX0 k "_law_thing" ["deck", "m", "boxes", "deep"] sp_l_thing)
    (c_l_bounded : Cal P w K mg base CX0 k "_law_bounded" ["m", "boxes", "rows"] sp_l_bounded)
    (c_l_row : Cal P w K mg base CX0 k "_law_row" ["deck", "m", "boxes"] sp_l_row)
    (c_l_names : Cal P w K mg base CX0 k "_law_names" ["deck"] sp_l_names) (m_range : mg "range" = none)
    (f : Addr) (cdv : Value) (A : Around) (outer : List Env) (s : Shared) (H : Hp) (E : XK) (hr : Room k (A.deeper (envOfC "_law_program" (defScope s_l_program) s.heap.objs.size f cdv))) :
    PSs (cxOf CX0 P w K mg base ["deck", "m", "boxes", "many", "rows", "k"] "_law_program" (defScope s_l_program) f cdv A outer s H E).nox (defBody s_l_program) (t_l_program K sp_l_draw sp_l_thing sp_l_bounded sp_l_row sp_l_names) := by
  have hu : (cxOf CX0 P w K mg base ["deck", "m", "boxes", "many", "rows", "k"] "_law_program" (defScope s_l_program) f cdv A outer s H E).nox.A.units + 64 < cLine := hr.units
  have hu5 : (cxOf CX0 P w K mg base ["deck", "m", "boxes", "many", "rows", "k"] "_law_program" (defScope s_l_program) f cdv A outer s H E).nox.A.units + 65 < cLine := room65 hr
  have hu1 : (cxOf CX0 P w K mg base ["deck", "m", "boxes", "many", "rows", "k"] "_law_program" (defScope s_l_program) f cdv A outer s H E).nox.A.units + 1 < cLine := room1 hr
  unfold t_l_program
  exact (pss_cons (ps_set (i := 1) sc_l_program.nd rfl (by first | exact Or.inl rfl | exact Or.inr rfl) (pe_ix ix_seq (pe_lst (pa_cons pe_int (pa_cons pe_int (pa_cons pe_int (pa_cons pe_int (pa_cons (pe_op o_add pe_int (pe_c c_l_draw hr (by rfl) (pa_cons (pv 0) (pa_cons pe_int pa_nil)))) pa_nil)))))) (pe_c c_l_draw hr (by rfl) (pa_cons (pv 0) (pa_cons pe_int pa_nil))) (fun _ _ => rfl)))
    (pss_cons (ps_set (i := 2) sc_l_program.nd rfl (by first | exact Or.inl rfl | exact Or.inr rfl) (pe_c c_l_names hr (by rfl) (pa_cons (pv 0) pa_nil)))
    (pss_cons (ps_set (i := 3) sc_l_program.nd rfl (by first | exact Or.inl rfl | exact Or.inr rfl) (pe_ix ix_seq (pe_lst (pa_cons (pe_c c_l_draw hr (by rfl) (pa_cons (pv 0) (pa_cons pe_int pa_nil))) (pa_cons (pe_c c_l_draw hr (by rfl) (pa_cons (pv 0) (pa_cons pe_int pa_nil))) (pa_cons (pe_c c_l_draw hr (by rfl) (pa_cons (pv 0) (pa_cons pe_int pa_nil))) (pa_cons (pe_c c_l_draw hr (by rfl) (pa_cons (pv 0) (pa_cons pe_int pa_nil))) pa_nil))))) (pe_c c_l_draw hr (by rfl) (pa_cons (pv 0) (pa_cons pe_int pa_nil))) (fun _ _ => rfl)))
    (pss_cons (ps_set (i := 4) sc_l_program.nd rfl (by first | exact Or.inl rfl | exact Or.inr rfl) (pe_c c_l_bounded hr (by rfl) (pa_cons (pv 1) (pa_cons (pv 2) (pa_cons (pe_lc (own := [("k", 5)]) (g := (gName 5)) (tt := tYes) rfl sc_l_program.nd (pi_range1 (by rfl) m_range (pa_cons (pv 3) pa_nil)) (blkOk_by (N := ["deck", "m", "boxes", "many", "rows", "k"]) (sc := defScope s_l_program) (by decide +kernel)) (fun _ _ _ _ _ => (pg_name (i := 5) sc_l_program.nd rfl (by first | exact Or.inl rfl | exact Or.inr rfl))) (fun _ _ _ _ _ => pts_nil) (fun _ _ _ _ _ => (pe_c c_l_row hr (by rfl) (pa_cons (pv 0) (pa_cons (pv 1) (pa_cons (pv 2) pa_nil)))))) pa_nil)))))
    (pss_cons (ps_if (PW.pt (pw_and (pt_cmpR (o_eq hu) (pe_c c_l_draw hr (by rfl) (pa_cons (pv 0) (pa_cons pe_int pa_nil))) pe_int (nomark _)) (pw_and1 (pt_cmpR o_lt (pv 3) pe_int (nomark _))))) (pss_one (ps_expr (pe_bm PySem.F.plainAttrs_list PySem.F.slot_list_append PySem.F.type_list_append mt_append (pv 4) (pa_cons (pe_tup (pa_cons pe_str (pa_cons (pe_c c_l_thing hr (by rfl) (pa_cons (pv 0) (pa_cons (pv 1) (pa_cons (pv 2) (pa_cons pe_int pa_nil))))) pa_nil))) pa_nil)))) pss_nil)
    (pss_one (ps_ret (pe_tup (pa_cons (pv 1) (pa_cons (pv 2) (pa_cons (pv 4) pa_nil)))))))))))
abbrev s_l_deep : Stmt := topS 19
theorem sc_l_deep : FnScope ["thing", "one"] ["thing"] (defScope s_l_deep) := ⟨rfl, rfl, rfl, by decide +kernel, rfl, by decide +kernel, by decide +kernel⟩
def t_l_deep (K : PySem.W.Frag) (sp_l_deep : Sp) : TS :=
  (tSeq (tIfS (tB (tCB (rIsD K) (tCons (tVar 0) (tCons (tC (.ty "list")) tNil)))) (tRet (tLc (iList K (tVar 0)) (gName 1) tYes (tCall sp_l_deep [] E0 (tCons (tVar 1) tNil)) [1])) tNext)
    (tSeq (tIfS (tB (tCB (rIsD K) (tCons (tVar 0) (tCons (tC (.ty "tuple")) tNil)))) (tRet (tCB (dTuple K) (tCons (tLc (iTup K (tVar 0)) (gName 1) tYes (tCall sp_l_deep [] E0 (tCons (tVar 1) tNil)) [1]) tNil))) tNext)
    (tRet (tVar 0))))
theorem wk_l_deep {P : Program} {w : World} {K : PySem.W.Frag} {mg : Str → Option Value} {base : Heap} {k : Nat} {sp_l_deep : Sp}
    (c_l_deep : Cal P w K mg base CX0 k "_law_deep" ["thing"] sp_l_deep) (m_isinstance : mg "isinstance" = none) (m_tuple : mg "tuple" = none) (m_list : mg "list" = none)
    (f : Addr) (cdv : Value) (A : Around) (outer : List Env) (s : Shared) (H : Hp) (E : XK) (hr : Room k (A.deeper (envOfC "_law_deep" (defScope s_l_deep) s.heap.objs.size f cdv))) :
    PSs (cxOf CX0 P w K mg base ["thing", "one"] "_law_deep" (defScope s_l_deep) f cdv A outer s H E).nox (defBody s_l_deep) (t_l_deep K sp_l_deep) := by
  have hu : (cxOf CX0 P w K mg base ["thing", "one"] "_law_deep" (defScope s_l_deep) f cdv A outer s H E).nox.A.units + 64 < cLine := hr.units
  have hu5 : (cxOf CX0 P w K mg base ["thing", "one"] "_law_deep" (defScope s_l_deep) f cdv A outer s H E).nox.A.units + 65 < cLine := room65 hr
  have hu1 : (cxOf CX0 P w K mg base ["thing", "one"] "_law_deep" (defScope s_l_deep) f cdv A outer s H E).nox.A.units + 1 < cLine := room1 hr
  unfold t_l_deep
  exact (pss_cons (ps_if (pt_val (pe_callB call_isD (by rfl) m_isinstance (by decide +kernel) (pa_cons (pv 0) (pa_cons (pe_bltn (by rfl) m_list (by decide +kernel) rfl) pa_nil)))) (pss_one (ps_ret (pe_lc (own := [("one", 1)]) (g := (gName 1)) (tt := tYes) rfl sc_l_deep.nd (pi_list (pv 0)) (blkOk_by (N := ["thing", "one"]) (sc := defScope s_l_deep) (by decide +kernel)) (fun _ _ _ _ _ => (pg_name (i := 1) sc_l_deep.nd rfl (by first | exact Or.inl rfl | exact Or.inr rfl))) (fun _ _ _ _ _ => pts_nil) (fun _ _ _ _ _ => (pe_c c_l_deep hr (by rfl) (pa_cons (pv 1) pa_nil)))))) pss_nil)
    (pss_cons (ps_if (pt_val (pe_callB call_isD (by rfl) m_isinstance (by decide +kernel) (pa_cons (pv 0) (pa_cons (pe_bltn (by rfl) m_tuple (by decide +kernel) rfl) pa_nil)))) (pss_one (ps_ret (pe_callTy o_tuple (by rfl) m_tuple (by decide +kernel) (pa_cons (pe_lc (own := [("one", 1)]) (g := (gName 1)) (tt := tYes) rfl sc_l_deep.nd (pi_tup (pv 0)) (blkOk_by (N := ["thing", "one"]) (sc := defScope s_l_deep) (by decide +kernel)) (fun _ _ _ _ _ => (pg_name (i := 1) sc_l_deep.nd rfl (by first | exact Or.inl rfl | exact Or.inr rfl))) (fun _ _ _ _ _ => pts_nil) (fun _ _ _ _ _ => (pe_c c_l_deep hr (by rfl) (pa_cons (pv 1) pa_nil)))) pa_nil)))) pss_nil)
    (pss_one (ps_ret (pv 0)))))
abbrev s_l_is : Stmt := topS 20
theorem sc_l_is : FnScope ["thing", "low", "high"] ["thing", "low", "high"] (defScope s_l_is) := ⟨rfl, rfl, rfl, by decide +kernel, rfl, by decide +kernel, by decide +kernel⟩
def t_l_is (K : PySem.W.Frag) : TS :=
  (tRet (tAndV (tCB (rIsD K) (tCons (tVar 0) (tCons (tC (.ty "int")) tNil))) (tAndV (tNotV (tCB (rIsD K) (tCons (tVar 0) (tCons (tC (.ty "bool")) tNil)))) (tChain dLe dLe (tVar 1) (tVar 0) (tVar 2)))))
theorem wk_l_is {P : Program} {w : World} {K : PySem.W.Frag} {mg : Str → Option Value} {base : Heap} {k : Nat} (m_isinstance : mg "isinstance" = none) (m_bool : mg "bool" = none) (m_int : mg "int" = none)
    (f : Addr) (cdv : Value) (A : Around) (outer : List Env) (s : Shared) (H : Hp) (E : XK) (hr : Room k (A.deeper (envOfC "_law_is" (defScope s_l_is) s.heap.objs.size f cdv))) :
    PSs (cxOf CX0 P w K mg base ["thing", "low", "high"] "_law_is" (defScope s_l_is) f cdv A outer s H E).nox (defBody s_l_is) (t_l_is K) := by
  have hu : (cxOf CX0 P w K mg base ["thing", "low", "high"] "_law_is" (defScope s_l_is) f cdv A outer s H E).nox.A.units + 64 < cLine := hr.units
  have hu5 : (cxOf CX0 P w K mg base ["thing", "low", "high"] "_law_is" (defScope s_l_is) f cdv A outer s H E).nox.A.units + 65 < cLine := room65 hr
  have hu1 : (cxOf CX0 P w K mg base ["thing", "low", "high"] "_law_is" (defScope s_l_is) f cdv A outer s H E).nox.A.units + 1 < cLine := room1 hr
  unfold t_l_is
  exact (pss_one (ps_ret (pe_and (pe_callB call_isD (by rfl) m_isinstance (by decide +kernel) (pa_cons (pv 0) (pa_cons (pe_bltn (by rfl) m_int (by decide +kernel) rfl) pa_nil))) (pe_and (pe_not (pe_callB call_isD (by rfl) m_isinstance (by decide +kernel) (pa_cons (pv 0) (pa_cons (pe_bltn (by rfl) m_bool (by decide +kernel) rfl) pa_nil)))) (pe_one (pe_chain o_le o_le (pv 1) (pv 0) (pv 2)))))))
abbrev s_l_good_thing : Stmt := topS 21
theorem sc_l_good_thing : FnScope ["thing", "m", "boxes", "deep", "one"] ["thing", "m", "boxes", "deep"] (defScope s_l_good_thing) := ⟨rfl, rfl, rfl, by decide +kernel, rfl, by decide +kernel, by decide +kernel⟩
def t_l_good_thing (K : PySem.W.Frag) (sp_l_good_thing : Sp) (sp_l_is : Sp) : TS :=
  (tSeq (tIfS (tOr (tNot (tB (tCB (rIsD K) (tCons (tVar 0) (tCons (tC (.ty "tuple")) tNil))))) (tOr (tTest (tOp dLt (tCB (dLen K) (tCons (tVar 0) tNil)) (tC (.int 2)))) (tOr (tNot (tB (tCB (rIsD K) (tCons (tOp (rIx K) (tVar 0) (tC (.int 0))) (tCons (tC (.ty "str")) tNil))))) (tTest (tOp dGt (tVar 3) (tC (.int 4))))))) (tRet (tC (.bl false))) tNext)
    (tSeq (tIfS (tAnd (tTest (tOp (dEq K) (tCB (dLen K) (tCons (tVar 0) tNil)) (tC (.int 2)))) (tTest (tOp (dEq K) (tOp (rIx K) (tVar 0) (tC (.int 0))) (tC (.str "number"))))) (tRet (tCall sp_l_is [] E0 (tCons (tOp (rIx K) (tVar 0) (tC (.int 1))) (tCons (tC (.int 0)) (tCons (tOp dSub (tVar 1) (tC (.int 1))) tNil))))) tNext)
    (tSeq (tIfS (tTest (tOp (dEq K) (tCB (dLen K) (tCons (tVar 0) tNil)) (tC (.int 2)))) (tRet (tAndV (tOp (dEq K) (tOp (rIx K) (tVar 0) (tC (.int 0))) (tC (.str "box"))) (tAndV (tCB (rIsD K) (tCons (tOp (rIx K) (tVar 0) (tC (.int 1))) (tCons (tC (.ty "str")) tNil))) (tOp (dIn K) (tOp (rIx K) (tVar 0) (tC (.int 1))) (tVar 2))))) tNext)
    (tSeq (tIfS (tOr (tTest (tOp (dNe K) (tCB (dLen K) (tCons (tVar 0) tNil)) (tC (.int 3)))) (tTest (tOp (dNotIn K) (tOp (rIx K) (tVar 0) (tC (.int 0))) (tLst (tCons (tC (.str "plus")) (tCons (tC (.str "times")) (tCons (tC (.str "less")) (tCons (tC (.str "same")) tNil)))))))) (tRet (tC (.bl false))) tNext)
    (tRet (tOp (rEqNil K) (tLc (iTup K (tSl (rSlA K) (tVar 0) (tPart (tC (.int 1))) tNoPart)) (gName 4) (tNot (tB (tCall sp_l_good_thing [] E0 (tCons (tVar 4) (tCons (tVar 1) (tCons (tVar 2) (tCons (tOp (dAdd K) (tVar 3) (tC (.int 1))) tNil))))))) (tVar 4) [4]) (tLst tNil)))))))
theorem wk_l_good_thing {P : Program} {w : World} {K : PySem.W.Frag} {mg : Str → Option Value} {base : Heap} {k : Nat} {sp_l_good_thing : Sp} {sp_l_is : Sp}
    (c_l_good_thing : Cal P w K mg base CX0 k "_law_good_thing" ["thing", "m", "boxes", "deep"] sp_l_good_thing)
    (c_l_is : Cal P w K mg base CX0 k "_law_is" ["thing", "low", "high"] sp_l_is) (m_len : mg "len" = none) (m_isinstance : mg "isinstance" = none) (m_str : mg "str" = none) (m_tuple : mg "tuple" = none)
    (f : Addr) (cdv : Value) (A : Around) (outer : List Env) (s : Shared) (H : Hp) (E : XK) (hr : Room k (A.deeper (envOfC "_law_good_thing" (defScope s_l_good_thing) s.heap.objs.size f cdv))) :
    PSs (cxOf CX0 P w K mg base ["thing", "m", "boxes", "deep", "one"] "_law_good_thing" (defScope s_l_good_thing) f cdv A outer s H E).nox (defBody s_l_good_thing) (t_l_good_thing K sp_l_good_thing sp_l_is) := by
  have hu : (cxOf CX0 P w K mg base ["thing", "m", "boxes", "deep", "one"] "_law_good_thing" (defScope s_l_good_thing) f cdv A outer s H E).nox.A.units + 64 < cLine := hr.units
  have hu5 : (cxOf CX0 P w K mg base ["thing", "m", "boxes", "deep", "one"] "_law_good_thing" (defScope s_l_good_thing) f cdv A outer s H E).nox.A.units + 65 < cLine := room65 hr
  have hu1 : (cxOf CX0 P w K mg base ["thing", "m", "boxes", "deep", "one"] "_law_good_thing" (defScope s_l_good_thing) f cdv A outer s H E).nox.A.units + 1 < cLine := room1 hr
  unfold t_l_good_thing
  exact (pss_cons (ps_if (PW.pt (pw_or (pt_not (pt_val (pe_callB call_isD (by rfl) m_isinstance (by decide +kernel) (pa_cons (pv 0) (pa_cons (pe_bltn (by rfl) m_tuple (by decide +kernel) rfl) pa_nil))))) (pw_or (pt_cmpR o_lt (pe_callB o_len (by rfl) m_len (by decide +kernel) (pa_cons (pv 0) pa_nil)) pe_int (nomark _)) (pw_or (pt_not (pt_val (pe_callB call_isD (by rfl) m_isinstance (by decide +kernel) (pa_cons (pe_ix ix_seq (pv 0) pe_int (fun _ _ => rfl)) (pa_cons (pe_bltn (by rfl) m_str (by decide +kernel) rfl) pa_nil))))) (pw_or1 (pt_cmpR o_gt (pv 3) pe_int (nomark _))))))) (pss_one (ps_ret pe_bl)) pss_nil)
    (pss_cons (ps_if (PW.pt (pw_and (pt_cmpR (o_eq hu) (pe_callB o_len (by rfl) m_len (by decide +kernel) (pa_cons (pv 0) pa_nil)) pe_int (nomark _)) (pw_and1 (pt_cmpR (o_eq hu) (pe_ix ix_seq (pv 0) pe_int (fun _ _ => rfl)) pe_str (nomark _))))) (pss_one (ps_ret (pe_c c_l_is hr (by rfl) (pa_cons (pe_ix ix_seq (pv 0) pe_int (fun _ _ => rfl)) (pa_cons pe_int (pa_cons (pe_op o_sub (pv 1) pe_int) pa_nil)))))) pss_nil)
    (pss_cons (ps_if (pt_cmpR (o_eq hu) (pe_callB o_len (by rfl) m_len (by decide +kernel) (pa_cons (pv 0) pa_nil)) pe_int (nomark _)) (pss_one (ps_ret (pe_and (pe_cmpR (o_eq hu) (pe_ix ix_seq (pv 0) pe_int (fun _ _ => rfl)) pe_str (nomark _)) (pe_and (pe_callB call_isD (by rfl) m_isinstance (by decide +kernel) (pa_cons (pe_ix ix_seq (pv 0) pe_int (fun _ _ => rfl)) (pa_cons (pe_bltn (by rfl) m_str (by decide +kernel) rfl) pa_nil))) (pe_one (pe_cmpR (o_in hu5) (pe_ix ix_seq (pv 0) pe_int (fun _ _ => rfl)) (pv 2) (by rfl))))))) pss_nil)
    (pss_cons (ps_if (PW.pt (pw_or (pt_cmpR (o_ne hu) (pe_callB o_len (by rfl) m_len (by decide +kernel) (pa_cons (pv 0) pa_nil)) pe_int (nomark _)) (pw_or1 (pt_cmpR (o_notIn hu5) (pe_ix ix_seq (pv 0) pe_int (fun _ _ => rfl)) (pe_lst (pa_cons pe_str (pa_cons pe_str (pa_cons pe_str (pa_cons pe_str pa_nil))))) (by rfl))))) (pss_one (ps_ret pe_bl)) pss_nil)
    (pss_one (ps_ret (pe_cmpR (op_eqNil hu5) (pe_lc (own := [("one", 4)]) (g := (gName 4)) (tt := (tNot (tB (tCall sp_l_good_thing [] E0 (tCons (tVar 4) (tCons (tVar 1) (tCons (tVar 2) (tCons (tOp (dAdd K) (tVar 3) (tC (.int 1))) tNil)))))))) rfl sc_l_good_thing.nd (pi_tup (pe_slice sl_tupA (pv 0) (po_some pe_int) po_none)) (blkOk_by (N := ["thing", "m", "boxes", "deep", "one"]) (sc := defScope s_l_good_thing) (by decide +kernel)) (fun _ _ _ _ _ => (pg_name (i := 4) sc_l_good_thing.nd rfl (by first | exact Or.inl rfl | exact Or.inr rfl))) (fun _ _ _ _ _ => (pts_one (pt_not (pt_val (pe_c c_l_good_thing hr (by rfl) (pa_cons (pv 4) (pa_cons (pv 1) (pa_cons (pv 2) (pa_cons (pe_op o_add (pv 3) pe_int) pa_nil))))))))) (fun _ _ _ _ _ => (pv 4))) (pe_lst pa_nil) (nomark _))))))))
abbrev s_l_good_row : Stmt := topS 22
theorem sc_l_good_row : FnScope ["row", "m", "boxes", "things", "one"] ["row", "m", "boxes"] (defScope s_l_good_row) := ⟨rfl, rfl, rfl, by decide +kernel, rfl, by decide +kernel, by decide +kernel⟩
def t_l_good_row (K : PySem.W.Frag) (sp_l_good_thing : Sp) (sp_l_is : Sp) : TS :=
  (tSeq (tIfS (tOr (tNot (tB (tCB (rIsD K) (tCons (tVar 0) (tCons (tC (.ty "tuple")) tNil))))) (tOr (tTest (tOp dLt (tCB (dLen K) (tCons (tVar 0) tNil)) (tC (.int 2)))) (tNot (tB (tCB (rIsD K) (tCons (tOp (rIx K) (tVar 0) (tC (.int 0))) (tCons (tC (.ty "str")) tNil))))))) (tRet (tC (.bl false))) tNext)
    (tSeq (tIfS (tTest (tOp (dEq K) (tCB (dLen K) (tCons (tVar 0) tNil)) (tC (.int 2)))) (tRet (tAndV (tOp (dIn K) (tOp (rIx K) (tVar 0) (tC (.int 0))) (tLst (tCons (tC (.str "need")) (tCons (tC (.str "give")) tNil)))) (tCall sp_l_good_thing [] E0 (tCons (tOp (rIx K) (tVar 0) (tC (.int 1))) (tCons (tVar 1) (tCons (tVar 2) (tCons (tC (.int 1)) tNil))))))) tNext)
    (tSeq (tIfS (tOr (tTest (tOp (dNe K) (tCB (dLen K) (tCons (tVar 0) tNil)) (tC (.int 3)))) (tTest (tOp (dNotIn K) (tOp (rIx K) (tVar 0) (tC (.int 0))) (tLst (tCons (tC (.str "set")) (tCons (tC (.str "pick")) (tCons (tC (.str "skip")) tNil))))))) (tRet (tC (.bl false))) tNext)
    (tSeq (tIfS (tTest (tOp (dEq K) (tOp (rIx K) (tVar 0) (tC (.int 0))) (tC (.str "skip")))) (tRet (tAndV (tCall sp_l_good_thing [] E0 (tCons (tOp (rIx K) (tVar 0) (tC (.int 1))) (tCons (tVar 1) (tCons (tVar 2) (tCons (tC (.int 1)) tNil))))) (tCall sp_l_is [] E0 (tCons (tOp (rIx K) (tVar 0) (tC (.int 2))) (tCons (tC (.int 1)) (tCons (tC (.int 30)) tNil)))))) tNext)
    (tSeq (tAsg (tLst (tCons (tOp (rIx K) (tVar 0) (tC (.int 2))) tNil)) (gName 3))
    (tSeq (tIfS (tTest (tOp (dEq K) (tOp (rIx K) (tVar 0) (tC (.int 0))) (tC (.str "pick")))) (tSeq (tAsg (tOp (rIx K) (tVar 0) (tC (.int 2))) (gName 3))
    (tIfS (tOr (tNot (tB (tCB (rIsD K) (tCons (tVar 3) (tCons (tC (.ty "list")) tNil))))) (tOr (tTest (tOp dLt (tCB (dLen K) (tCons (tVar 3) tNil)) (tC (.int 1)))) (tTest (tOp dGt (tCB (dLen K) (tCons (tVar 3) tNil)) (tC (.int 5)))))) (tRet (tC (.bl false))) tNext)) tNext)
    (tSeq (tIfS (tOr (tNot (tB (tCB (rIsD K) (tCons (tOp (rIx K) (tVar 0) (tC (.int 1))) (tCons (tC (.ty "str")) tNil))))) (tTest (tOp (dNotIn K) (tOp (rIx K) (tVar 0) (tC (.int 1))) (tVar 2)))) (tRet (tC (.bl false))) tNext)
    (tRet (tOp (rEqNil K) (tLc (iList K (tVar 3)) (gName 4) (tNot (tB (tCall sp_l_good_thing [] E0 (tCons (tVar 4) (tCons (tVar 1) (tCons (tVar 2) (tCons (tC (.int 1)) tNil))))))) (tVar 4) [4]) (tLst tNil))))))))))
theorem wk_l_good_row {P : Program} {w : World} {K : PySem.W.Frag} {mg : Str → Option Value} {base : Heap} {k : Nat} {sp_l_good_thing : Sp} {sp_l_is : Sp}
    (c_l_good_thing : Cal P w K mg base CX0 k "_law_good_thing" ["thing", "m", "boxes", "deep"] sp_l_good_thing)
    (c_l_is : Cal P w K mg base CX0 k "_law_is" ["thing", "low", "high"] sp_l_is) (m_isinstance : mg "isinstance" = none) (m_str : mg "str" = none) (m_len : mg "len" = none) (m_list : mg "list" = none) (m_tuple : mg "tuple" = none)
    (f : Addr) (cdv : Value) (A : Around) (outer : List Env) (s : Shared) (H : Hp) (E : XK) (hr : Room k (A.deeper (envOfC "_law_good_row" (defScope s_l_good_row) s.heap.objs.size f cdv))) :
    PSs (cxOf CX0 P w K mg base ["row", "m", "boxes", "things", "one"] "_law_good_row" (defScope s_l_good_row) f cdv A outer s H E).nox (defBody s_l_good_row) (t_l_good_row K sp_l_good_thing sp_l_is) := by
  have hu : (cxOf CX0 P w K mg base ["row", "m", "boxes", "things", "one"] "_law_good_row" (defScope s_l_good_row) f cdv A outer s H E).nox.A.units + 64 < cLine := hr.units
  have hu5 : (cxOf CX0 P w K mg base ["row", "m", "boxes", "things", "one"] "_law_good_row" (defScope s_l_good_row) f cdv A outer s H E).nox.A.units + 65 < cLine := room65 hr
  have hu1 : (cxOf CX0 P w K mg base ["row", "m", "boxes", "things", "one"] "_law_good_row" (defScope s_l_good_row) f cdv A outer s H E).nox.A.units + 1 < cLine := room1 hr
  unfold t_l_good_row
  exact (pss_cons (ps_if (PW.pt (pw_or (pt_not (pt_val (pe_callB call_isD (by rfl) m_isinstance (by decide +kernel) (pa_cons (pv 0) (pa_cons (pe_bltn (by rfl) m_tuple (by decide +kernel) rfl) pa_nil))))) (pw_or (pt_cmpR o_lt (pe_callB o_len (by rfl) m_len (by decide +kernel) (pa_cons (pv 0) pa_nil)) pe_int (nomark _)) (pw_or1 (pt_not (pt_val (pe_callB call_isD (by rfl) m_isinstance (by decide +kernel) (pa_cons (pe_ix ix_seq (pv 0) pe_int (fun _ _ => rfl)) (pa_cons (pe_bltn (by rfl) m_str (by decide +kernel) rfl) pa_nil))))))))) (pss_one (ps_ret pe_bl)) pss_nil)
    (pss_cons (ps_if (pt_cmpR (o_eq hu) (pe_callB o_len (by rfl) m_len (by decide +kernel) (pa_cons (pv 0) pa_nil)) pe_int (nomark _)) (pss_one (ps_ret (pe_and (pe_cmpR (o_in hu5) (pe_ix ix_seq (pv 0) pe_int (fun _ _ => rfl)) (pe_lst (pa_cons pe_str (pa_cons pe_str pa_nil))) (by rfl)) (pe_one (pe_c c_l_good_thing hr (by rfl) (pa_cons (pe_ix ix_seq (pv 0) pe_int (fun _ _ => rfl)) (pa_cons (pv 1) (pa_cons (pv 2) (pa_cons pe_int pa_nil))))))))) pss_nil)
    (pss_cons (ps_if (PW.pt (pw_or (pt_cmpR (o_ne hu) (pe_callB o_len (by rfl) m_len (by decide +kernel) (pa_cons (pv 0) pa_nil)) pe_int (nomark _)) (pw_or1 (pt_cmpR (o_notIn hu5) (pe_ix ix_seq (pv 0) pe_int (fun _ _ => rfl)) (pe_lst (pa_cons pe_str (pa_cons pe_str (pa_cons pe_str pa_nil)))) (by rfl))))) (pss_one (ps_ret pe_bl)) pss_nil)
    (pss_cons (ps_if (pt_cmpR (o_eq hu) (pe_ix ix_seq (pv 0) pe_int (fun _ _ => rfl)) pe_str (nomark _)) (pss_one (ps_ret (pe_and (pe_c c_l_good_thing hr (by rfl) (pa_cons (pe_ix ix_seq (pv 0) pe_int (fun _ _ => rfl)) (pa_cons (pv 1) (pa_cons (pv 2) (pa_cons pe_int pa_nil))))) (pe_one (pe_c c_l_is hr (by rfl) (pa_cons (pe_ix ix_seq (pv 0) pe_int (fun _ _ => rfl)) (pa_cons pe_int (pa_cons pe_int pa_nil)))))))) pss_nil)
    (pss_cons (ps_set (i := 3) sc_l_good_row.nd rfl (by first | exact Or.inl rfl | exact Or.inr rfl) (pe_lst (pa_cons (pe_ix ix_seq (pv 0) pe_int (fun _ _ => rfl)) pa_nil)))
    (pss_cons (ps_if (pt_cmpR (o_eq hu) (pe_ix ix_seq (pv 0) pe_int (fun _ _ => rfl)) pe_str (nomark _)) (pss_cons (ps_set (i := 3) sc_l_good_row.nd rfl (by first | exact Or.inl rfl | exact Or.inr rfl) (pe_ix ix_seq (pv 0) pe_int (fun _ _ => rfl)))
    (pss_one (ps_if (PW.pt (pw_or (pt_not (pt_val (pe_callB call_isD (by rfl) m_isinstance (by decide +kernel) (pa_cons (pv 3) (pa_cons (pe_bltn (by rfl) m_list (by decide +kernel) rfl) pa_nil))))) (pw_or (pt_cmpR o_lt (pe_callB o_len (by rfl) m_len (by decide +kernel) (pa_cons (pv 3) pa_nil)) pe_int (nomark _)) (pw_or1 (pt_cmpR o_gt (pe_callB o_len (by rfl) m_len (by decide +kernel) (pa_cons (pv 3) pa_nil)) pe_int (nomark _)))))) (pss_one (ps_ret pe_bl)) pss_nil))) pss_nil)
    (pss_cons (ps_if (PW.pt (pw_or (pt_not (pt_val (pe_callB call_isD (by rfl) m_isinstance (by decide +kernel) (pa_cons (pe_ix ix_seq (pv 0) pe_int (fun _ _ => rfl)) (pa_cons (pe_bltn (by rfl) m_str (by decide +kernel) rfl) pa_nil))))) (pw_or1 (pt_cmpR (o_notIn hu5) (pe_ix ix_seq (pv 0) pe_int (fun _ _ => rfl)) (pv 2) (by rfl))))) (pss_one (ps_ret pe_bl)) pss_nil)
    (pss_one (ps_ret (pe_cmpR (op_eqNil hu5) (pe_lc (own := [("one", 4)]) (g := (gName 4)) (tt := (tNot (tB (tCall sp_l_good_thing [] E0 (tCons (tVar 4) (tCons (tVar 1) (tCons (tVar 2) (tCons (tC (.int 1)) tNil)))))))) rfl sc_l_good_row.nd (pi_list (pv 3)) (blkOk_by (N := ["row", "m", "boxes", "things", "one"]) (sc := defScope s_l_good_row) (by decide +kernel)) (fun _ _ _ _ _ => (pg_name (i := 4) sc_l_good_row.nd rfl (by first | exact Or.inl rfl | exact Or.inr rfl))) (fun _ _ _ _ _ => (pts_one (pt_not (pt_val (pe_c c_l_good_thing hr (by rfl) (pa_cons (pv 4) (pa_cons (pv 1) (pa_cons (pv 2) (pa_cons pe_int pa_nil))))))))) (fun _ _ _ _ _ => (pv 4))) (pe_lst pa_nil) (nomark _)))))))))))
abbrev s_l_good_name : Stmt := topS 23
theorem sc_l_good_name : FnScope ["name", "sign"] ["name"] (defScope s_l_good_name) := ⟨rfl, rfl, rfl, by decide +kernel, rfl, by decide +kernel, by decide +kernel⟩
def t_l_good_name (K : PySem.W.Frag) : TS :=
  (tSeq (tIfS (tOr (tNot (tB (tCB (rIsD K) (tCons (tVar 0) (tCons (tC (.ty "str")) tNil))))) (tOr (tTest (tOp dLt (tCB (dLen K) (tCons (tVar 0) tNil)) (tC (.int 1)))) (tTest (tOp dGt (tCB (dLen K) (tCons (tVar 0) tNil)) (tC (.int 8)))))) (tRet (tC (.bl false))) tNext)
    (tRet (tOp (rEqNil K) (tLc (iStr (tVar 0)) (gName 1) (tNot (tTest (tChain dLeS dLeS (tC (.str "a")) (tVar 1) (tC (.str "z"))))) (tVar 1) [1]) (tLst tNil))))
theorem wk_l_good_name {P : Program} {w : World} {K : PySem.W.Frag} {mg : Str → Option Value} {base : Heap} {k : Nat} (m_len : mg "len" = none) (m_isinstance : mg "isinstance" = none) (m_str : mg "str" = none)
    (f : Addr) (cdv : Value) (A : Around) (outer : List Env) (s : Shared) (H : Hp) (E : XK) (hr : Room k (A.deeper (envOfC "_law_good_name" (defScope s_l_good_name) s.heap.objs.size f cdv))) :
    PSs (cxOf CX0 P w K mg base ["name", "sign"] "_law_good_name" (defScope s_l_good_name) f cdv A outer s H E).nox (defBody s_l_good_name) (t_l_good_name K) := by
  have hu : (cxOf CX0 P w K mg base ["name", "sign"] "_law_good_name" (defScope s_l_good_name) f cdv A outer s H E).nox.A.units + 64 < cLine := hr.units
  have hu5 : (cxOf CX0 P w K mg base ["name", "sign"] "_law_good_name" (defScope s_l_good_name) f cdv A outer s H E).nox.A.units + 65 < cLine := room65 hr
  have hu1 : (cxOf CX0 P w K mg base ["name", "sign"] "_law_good_name" (defScope s_l_good_name) f cdv A outer s H E).nox.A.units + 1 < cLine := room1 hr
  unfold t_l_good_name
  exact (pss_cons (ps_if (PW.pt (pw_or (pt_not (pt_val (pe_callB call_isD (by rfl) m_isinstance (by decide +kernel) (pa_cons (pv 0) (pa_cons (pe_bltn (by rfl) m_str (by decide +kernel) rfl) pa_nil))))) (pw_or (pt_cmpR o_lt (pe_callB o_len (by rfl) m_len (by decide +kernel) (pa_cons (pv 0) pa_nil)) pe_int (nomark _)) (pw_or1 (pt_cmpR o_gt (pe_callB o_len (by rfl) m_len (by decide +kernel) (pa_cons (pv 0) pa_nil)) pe_int (nomark _)))))) (pss_one (ps_ret pe_bl)) pss_nil)
    (pss_one (ps_ret (pe_cmpR (op_eqNil hu5) (pe_lc (own := [("sign", 1)]) (g := (gName 1)) (tt := (tNot (tTest (tChain dLeS dLeS (tC (.str "a")) (tVar 1) (tC (.str "z")))))) rfl sc_l_good_name.nd (pi_str (pv 0)) (blkOk_by (N := ["name", "sign"]) (sc := defScope s_l_good_name) (by decide +kernel)) (fun _ _ _ _ _ => (pg_name (i := 1) sc_l_good_name.nd rfl (by first | exact Or.inl rfl | exact Or.inr rfl))) (fun _ _ _ _ _ => (pts_one (pt_not (pt_chain o_leS o_leS pe_str (pv 1) pe_str)))) (fun _ _ _ _ _ => (pv 1))) (pe_lst pa_nil) (nomark _)))))
abbrev s_l_good : Stmt := topS 24
theorem sc_l_good : FnScope ["thing", "boxes", "rows", "name", "row"] ["thing"] (defScope s_l_good) := ⟨rfl, rfl, rfl, by decide +kernel, rfl, by decide +kernel, by decide +kernel⟩
def t_l_good (K : PySem.W.Frag) (sp_l_good_row : Sp) (sp_l_good_name : Sp) (sp_l_is : Sp) : TS :=
  (tSeq (tIfS (tOr (tNot (tB (tCB (rIsD K) (tCons (tVar 0) (tCons (tC (.ty "tuple")) tNil))))) (tOr (tTest (tOp (dNe K) (tCB (dLen K) (tCons (tVar 0) tNil)) (tC (.int 3)))) (tNot (tB (tCall sp_l_is [] E0 (tCons (tOp (rIx K) (tVar 0) (tC (.int 0))) (tCons (tC (.int 2)) (tCons (tC (.int 16)) tNil)))))))) (tRet (tC (.bl false))) tNext)
    (tSeq (tAsg (tSl (rSlA K) (tVar 0) (tPart (tC (.int 1))) tNoPart) (gTup K 2 (gCons (gName 1) (gCons (gName 2) gNil))))
    (tSeq (tIfS (tOr (tNot (tB (tCB (rIsD K) (tCons (tVar 1) (tCons (tC (.ty "list")) tNil))))) (tOr (tNot (tB (tCB (rIsD K) (tCons (tVar 2) (tCons (tC (.ty "list")) tNil))))) (tTest (tOp dGt (tCB (dLen K) (tCons (tVar 2) tNil)) (tC (.int 30)))))) (tRet (tC (.bl false))) tNext)
    (tSeq (tIfS (tOr (tTest (tOp dLt (tCB (dLen K) (tCons (tVar 1) tNil)) (tC (.int 1)))) (tOr (tTest (tOp dGt (tCB (dLen K) (tCons (tVar 1) tNil)) (tC (.int 5)))) (tTest (tOp (rNeNil K) (tLc (iList K (tVar 1)) (gName 3) (tNot (tB (tCall sp_l_good_name [] E0 (tCons (tVar 3) tNil)))) (tVar 3) [3]) (tLst tNil))))) (tRet (tC (.bl false))) tNext)
    (tSeq (tIfS (tTest (tOp (rNeNil K) (tLc (iList K (tVar 1)) (gName 3) (tTest (tOp dGt (tBM K "list" (rCountD K) (tVar 1) (tCons (tVar 3) tNil)) (tC (.int 1)))) (tVar 3) [3]) (tLst tNil))) (tRet (tC (.bl false))) tNext)
    (tRet (tOp (rEqNil K) (tLc (iList K (tVar 2)) (gName 4) (tNot (tB (tCall sp_l_good_row [] E0 (tCons (tVar 4) (tCons (tOp (rIx K) (tVar 0) (tC (.int 0))) (tCons (tVar 1) tNil)))))) (tVar 4) [4]) (tLst tNil))))))))
theorem wk_l_good {P : Program} {w : World} {K : PySem.W.Frag} {mg : Str → Option Value} {base : Heap} {k : Nat} {sp_l_good_row : Sp} {sp_l_good_name : Sp} {sp_l_is : Sp}
    (c_l_good_row : Cal P w K mg base CX0 k "_law_good_row" ["row", "m", "boxes"] sp_l_good_row)
    (c_l_good_name : Cal P w K mg base CX0 k "_law_good_name" ["name"] sp_l_good_name)
    (c_l_is : Cal P w K mg base CX0 k "_law_is" ["thing", "low", "high"] sp_l_is) (m_len : mg "len" = none) (m_isinstance : mg "isinstance" = none) (m_list : mg "list" = none) (m_tuple : mg "tuple" = none)
    (f : Addr) (cdv : Value) (A : Around) (outer : List Env) (s : Shared) (H : Hp) (E : XK) (hr : Room k (A.deeper (envOfC "_law_good" (defScope s_l_good) s.heap.objs.size f cdv))) :
    PSs (cxOf CX0 P w K mg base ["thing", "boxes", "rows", "name", "row"] "_law_good" (defScope s_l_good) f cdv A outer s H E).nox (defBody s_l_good) (t_l_good K sp_l_good_row sp_l_good_name sp_l_is) := by
  have hu : (cxOf CX0 P w K mg base ["thing", "boxes", "rows", "name", "row"] "_law_good" (defScope s_l_good) f cdv A outer s H E).nox.A.units + 64 < cLine := hr.units
  have hu5 : (cxOf CX0 P w K mg base ["thing", "boxes", "rows", "name", "row"] "_law_good" (defScope s_l_good) f cdv A outer s H E).nox.A.units + 65 < cLine := room65 hr
  have hu1 : (cxOf CX0 P w K mg base ["thing", "boxes", "rows", "name", "row"] "_law_good" (defScope s_l_good) f cdv A outer s H E).nox.A.units + 1 < cLine := room1 hr
  unfold t_l_good
  exact (pss_cons (ps_if (PW.pt (pw_or (pt_not (pt_val (pe_callB call_isD (by rfl) m_isinstance (by decide +kernel) (pa_cons (pv 0) (pa_cons (pe_bltn (by rfl) m_tuple (by decide +kernel) rfl) pa_nil))))) (pw_or (pt_cmpR (o_ne hu) (pe_callB o_len (by rfl) m_len (by decide +kernel) (pa_cons (pv 0) pa_nil)) pe_int (nomark _)) (pw_or1 (pt_not (pt_val (pe_c c_l_is hr (by rfl) (pa_cons (pe_ix ix_seq (pv 0) pe_int (fun _ _ => rfl)) (pa_cons pe_int (pa_cons pe_int pa_nil)))))))))) (pss_one (ps_ret pe_bl)) pss_nil)
    (pss_cons (ps_asg (pe_slice sl_tupA (pv 0) (po_some pe_int) po_none) (pg_tup rfl (pgs_cons (pg_name (i := 1) sc_l_good.nd rfl (by first | exact Or.inl rfl | exact Or.inr rfl)) (pgs_cons (pg_name (i := 2) sc_l_good.nd rfl (by first | exact Or.inl rfl | exact Or.inr rfl)) pgs_nil))))
    (pss_cons (ps_if (PW.pt (pw_or (pt_not (pt_val (pe_callB call_isD (by rfl) m_isinstance (by decide +kernel) (pa_cons (pv 1) (pa_cons (pe_bltn (by rfl) m_list (by decide +kernel) rfl) pa_nil))))) (pw_or (pt_not (pt_val (pe_callB call_isD (by rfl) m_isinstance (by decide +kernel) (pa_cons (pv 2) (pa_cons (pe_bltn (by rfl) m_list (by decide +kernel) rfl) pa_nil))))) (pw_or1 (pt_cmpR o_gt (pe_callB o_len (by rfl) m_len (by decide +kernel) (pa_cons (pv 2) pa_nil)) pe_int (nomark _)))))) (pss_one (ps_ret pe_bl)) pss_nil)
    (pss_cons (ps_if (PW.pt (pw_or (pt_cmpR o_lt (pe_callB o_len (by rfl) m_len (by decide +kernel) (pa_cons (pv 1) pa_nil)) pe_int (nomark _)) (pw_or (pt_cmpR o_gt (pe_callB o_len (by rfl) m_len (by decide +kernel) (pa_cons (pv 1) pa_nil)) pe_int (nomark _)) (pw_or1 (pt_cmpR (op_neNil hu5) (pe_lc (own := [("name", 3)]) (g := (gName 3)) (tt := (tNot (tB (tCall sp_l_good_name [] E0 (tCons (tVar 3) tNil))))) rfl sc_l_good.nd (pi_list (pv 1)) (blkOk_by (N := ["thing", "boxes", "rows", "name", "row"]) (sc := defScope s_l_good) (by decide +kernel)) (fun _ _ _ _ _ => (pg_name (i := 3) sc_l_good.nd rfl (by first | exact Or.inl rfl | exact Or.inr rfl))) (fun _ _ _ _ _ => (pts_one (pt_not (pt_val (pe_c c_l_good_name hr (by rfl) (pa_cons (pv 3) pa_nil)))))) (fun _ _ _ _ _ => (pv 3))) (pe_lst pa_nil) (nomark _)))))) (pss_one (ps_ret pe_bl)) pss_nil)
    (pss_cons (ps_if (pt_cmpR (op_neNil hu5) (pe_lc (own := [("name", 3)]) (g := (gName 3)) (tt := (tTest (tOp dGt (tBM K "list" (rCountD K) (tVar 1) (tCons (tVar 3) tNil)) (tC (.int 1))))) rfl sc_l_good.nd (pi_list (pv 1)) (blkOk_by (N := ["thing", "boxes", "rows", "name", "row"]) (sc := defScope s_l_good) (by decide +kernel)) (fun _ _ _ _ _ => (pg_name (i := 3) sc_l_good.nd rfl (by first | exact Or.inl rfl | exact Or.inr rfl))) (fun _ _ _ _ _ => (pts_one (pt_cmpR o_gt (pe_bm PySem.F.plainAttrs_list PySem.F.slot_list_count PySem.F.type_list_count (mt_countD hu5) (pv 1) (pa_cons (pv 3) pa_nil)) pe_int (nomark _)))) (fun _ _ _ _ _ => (pv 3))) (pe_lst pa_nil) (nomark _)) (pss_one (ps_ret pe_bl)) pss_nil)
    (pss_one (ps_ret (pe_cmpR (op_eqNil hu5) (pe_lc (own := [("row", 4)]) (g := (gName 4)) (tt := (tNot (tB (tCall sp_l_good_row [] E0 (tCons (tVar 4) (tCons (tOp (rIx K) (tVar 0) (tC (.int 0))) (tCons (tVar 1) tNil))))))) rfl sc_l_good.nd (pi_list (pv 2)) (blkOk_by (N := ["thing", "boxes", "rows", "name", "row"]) (sc := defScope s_l_good) (by decide +kernel)) (fun _ _ _ _ _ => (pg_name (i := 4) sc_l_good.nd rfl (by first | exact Or.inl rfl | exact Or.inr rfl))) (fun _ _ _ _ _ => (pts_one (pt_not (pt_val (pe_c c_l_good_row hr (by rfl) (pa_cons (pv 4) (pa_cons (pe_ix ix_seq (pv 0) pe_int (fun _ _ => rfl)) (pa_cons (pv 1) pa_nil)))))))) (fun _ _ _ _ _ => (pv 4))) (pe_lst pa_nil) (nomark _)))))))))
abbrev s_l_odd : Stmt := topS 25
theorem sc_l_odd : FnScope ["deck", "thing", "some", "at", "signs", "sign", "words"] ["deck", "thing"] (defScope s_l_odd) := ⟨rfl, rfl, rfl, by decide +kernel, rfl, by decide +kernel, by decide +kernel⟩
def t_l_odd (K : PySem.W.Frag) (sp_l_draw : Sp) : TS :=
  (tSeq (tAsg (tLst (tCons (tC .non) (tCons (tC (.int 5)) (tCons (tUn dNeg (tC (.int 1))) (tCons (tC (.bl true)) (tCons (tC (.bl false)) (tCons (tC (.str "")) (tCons (tC (.str "a")) (tCons (tTup tNil) (tCons (tLst tNil) (tCons tDNewK (tCons (tOp dPow (tC (.int 10)) (tC (.int 25))) (tCons (tLst (tCons (tVar 1) tNil)) (tCons (tTup (tCons (tVar 1) tNil)) (tCons (tTup (tCons (tC (.str "number")) (tCons (tC (.int 0)) tNil))) (tCons (tC (.str "number")) tNil)))))))))))))))) (gName 2))
    (tSeq (tIfS (tB (tCB (rIsD K) (tCons (tVar 1) (tCons (tC (.ty "str")) tNil)))) (tSeq (tAsg (tCall sp_l_draw [] E0 (tCons (tVar 0) (tCons (tOp (dAdd K) (tCB (dLen K) (tCons (tVar 1) tNil)) (tC (.int 1))) tNil))) (gName 3))
    (tSeq (tAsg (tC (.str " !#$&'()*+,-./0123456789:;<=>?@ABCDEFGHIJKLMNOPQRSTUVWXYZ[]^_`{|}~z	\n")) (gName 4))
    (tSeq (tAsg (tOp (rIx K) (tVar 4) (tCall sp_l_draw [] E0 (tCons (tVar 0) (tCons (tCB (dLen K) (tCons (tVar 4) tNil)) tNil)))) (gName 5))
    (tSeq (tAsg (tOp (dAdd K) (tVar 2) (tLst (tCons (tOp (dAdd K) (tOp (dAdd K) (tSl rSlS (tVar 1) tNoPart (tPart (tVar 3))) (tVar 5)) (tSl rSlS (tVar 1) (tPart (tVar 3)) tNoPart)) (tCons (tOp (dAdd K) (tOp (dAdd K) (tSl rSlS (tVar 1) tNoPart (tPart (tVar 3))) (tVar 5)) (tSl rSlS (tVar 1) (tPart (tOp (dAdd K) (tVar 3) (tC (.int 1)))) tNoPart)) (tCons (tOp (dAdd K) (tVar 1) (tC (.str "aaaaaaaa"))) tNil))))) (gName 2))
    (tSeq (tAsg (tLst (tCons (tC (.str "set")) (tCons (tC (.str "pick")) (tCons (tC (.str "need")) (tCons (tC (.str "skip")) (tCons (tC (.str "give")) (tCons (tC (.str "plus")) (tCons (tC (.str "times")) (tCons (tC (.str "less")) (tCons (tC (.str "same")) (tCons (tC (.str "box")) tNil))))))))))) (gName 6))
    (tDrop (tBM K "list" rAppend (tVar 2) (tCons (tOp (rIx K) (tVar 6) (tCall sp_l_draw [] E0 (tCons (tVar 0) (tCons (tC (.int 10)) tNil)))) tNil)))))))) tNext)
    (tSeq (tIfS (tB (tCB (rIsD K) (tCons (tVar 1) (tCons (tC (.ty "int")) tNil)))) (tAsg (tOp (dAdd K) (tVar 2) (tLst (tCons (tOp (dAdd K) (tVar 1) (tC (.int 1))) (tCons (tOp dSub (tVar 1) (tC (.int 1))) (tCons (tOp dSub (tC (.int 0)) (tVar 1)) (tCons (tC (.int 17)) (tCons (tC (.int 1)) (tCons (tC (.int 31)) tNil)))))))) (gName 2)) tNext)
    (tSeq (tIfS (tB (tCB (rIsDT K) (tCons (tVar 1) (tCons (tTup (tCons (tC (.ty "list")) (tCons (tC (.ty "tuple")) tNil))) tNil)))) (tAsg (tOp (dAdd K) (tVar 2) (tLst (tCons (tCB (dList K) (tCons (tVar 1) tNil)) (tCons (tCB (dTuple K) (tCons (tVar 1) tNil)) (tCons (tOp (dAdd K) (tVar 1) (tVar 1)) (tCons (tEi (tSl (rSlL K) (tVar 1) (tPart (tC (.int 1))) tNoPart) (tSl (rSlA K) (tVar 1) (tPart (tC (.int 1))) tNoPart)) (tCons (tEi (tSl (rSlL K) (tVar 1) tNoPart (tPart (tUn dNeg (tC (.int 1))))) (tSl (rSlA K) (tVar 1) tNoPart (tPart (tUn dNeg (tC (.int 1)))))) (tCons (tEi (tRevL K (tVar 1)) (tRevT K (tVar 1))) tNil)))))))) (gName 2)) tNext)
    (tRet (tOp (rIx K) (tVar 2) (tCall sp_l_draw [] E0 (tCons (tVar 0) (tCons (tCB (dLen K) (tCons (tVar 2) tNil)) tNil)))))))))
theorem wk_l_odd {P : Program} {w : World} {K : PySem.W.Frag} {mg : Str → Option Value} {base : Heap} {k : Nat} {sp_l_draw : Sp}
    (c_l_draw : Cal P w K mg base CX0 k "_law_draw" ["deck", "many"] sp_l_draw) (m_len : mg "len" = none) (m_isinstance : mg "isinstance" = none) (m_tuple : mg "tuple" = none) (m_list : mg "list" = none) (m_int : mg "int" = none) (m_str : mg "str" = none)
    (f : Addr) (cdv : Value) (A : Around) (outer : List Env) (s : Shared) (H : Hp) (E : XK) (hr : Room k (A.deeper (envOfC "_law_odd" (defScope s_l_odd) s.heap.objs.size f cdv))) :
    PSs (cxOf CX0 P w K mg base ["deck", "thing", "some", "at", "signs", "sign", "words"] "_law_odd" (defScope s_l_odd) f cdv A outer s H E).nox (defBody s_l_odd) (t_l_odd K sp_l_draw) := by
  have hu : (cxOf CX0 P w K mg base ["deck", "thing", "some", "at", "signs", "sign", "words"] "_law_odd" (defScope s_l_odd) f cdv A outer s H E).nox.A.units + 64 < cLine := hr.units
  have hu5 : (cxOf CX0 P w K mg base ["deck", "thing", "some", "at", "signs", "sign", "words"] "_law_odd" (defScope s_l_odd) f cdv A outer s H E).nox.A.units + 65 < cLine := room65 hr
  have hu1 : (cxOf CX0 P w K mg base ["deck", "thing", "some", "at", "signs", "sign", "words"] "_law_odd" (defScope s_l_odd) f cdv A outer s H E).nox.A.units + 1 < cLine := room1 hr
  unfold t_l_odd
  exact (pss_cons (ps_set (i := 2) sc_l_odd.nd rfl (by first | exact Or.inl rfl | exact Or.inr rfl) (pe_lst (pa_cons pe_non (pa_cons pe_int (pa_cons (pe_un o_neg pe_int) (pa_cons pe_bl (pa_cons pe_bl (pa_cons pe_str (pa_cons pe_str (pa_cons (pe_tup pa_nil) (pa_cons (pe_lst pa_nil) (pa_cons pe_dnewK (pa_cons (pe_op o_pow pe_int pe_int) (pa_cons (pe_lst (pa_cons (pv 1) pa_nil)) (pa_cons (pe_tup (pa_cons (pv 1) pa_nil)) (pa_cons (pe_tup (pa_cons pe_str (pa_cons pe_int pa_nil))) (pa_cons pe_str pa_nil)))))))))))))))))
    (pss_cons (ps_if (pt_val (pe_callB call_isD (by rfl) m_isinstance (by decide +kernel) (pa_cons (pv 1) (pa_cons (pe_bltn (by rfl) m_str (by decide +kernel) rfl) pa_nil)))) (pss_cons (ps_set (i := 3) sc_l_odd.nd rfl (by first | exact Or.inl rfl | exact Or.inr rfl) (pe_c c_l_draw hr (by rfl) (pa_cons (pv 0) (pa_cons (pe_op o_add (pe_callB o_len (by rfl) m_len (by decide +kernel) (pa_cons (pv 1) pa_nil)) pe_int) pa_nil))))
    (pss_cons (ps_set (i := 4) sc_l_odd.nd rfl (by first | exact Or.inl rfl | exact Or.inr rfl) pe_str)
    (pss_cons (ps_set (i := 5) sc_l_odd.nd rfl (by first | exact Or.inl rfl | exact Or.inr rfl) (pe_ix ix_seq (pv 4) (pe_c c_l_draw hr (by rfl) (pa_cons (pv 0) (pa_cons (pe_callB o_len (by rfl) m_len (by decide +kernel) (pa_cons (pv 4) pa_nil)) pa_nil))) (fun _ _ => rfl)))
    (pss_cons (ps_set (i := 2) sc_l_odd.nd rfl (by first | exact Or.inl rfl | exact Or.inr rfl) (pe_op o_add (pv 2) (pe_lst (pa_cons (pe_op o_add (pe_op o_add (pe_slice sl_str (pv 1) po_none (po_some (pv 3))) (pv 5)) (pe_slice sl_str (pv 1) (po_some (pv 3)) po_none)) (pa_cons (pe_op o_add (pe_op o_add (pe_slice sl_str (pv 1) po_none (po_some (pv 3))) (pv 5)) (pe_slice sl_str (pv 1) (po_some (pe_op o_add (pv 3) pe_int)) po_none)) (pa_cons (pe_op o_add (pv 1) pe_str) pa_nil))))))
    (pss_cons (ps_set (i := 6) sc_l_odd.nd rfl (by first | exact Or.inl rfl | exact Or.inr rfl) (pe_lst (pa_cons pe_str (pa_cons pe_str (pa_cons pe_str (pa_cons pe_str (pa_cons pe_str (pa_cons pe_str (pa_cons pe_str (pa_cons pe_str (pa_cons pe_str (pa_cons pe_str pa_nil))))))))))))
    (pss_one (ps_expr (pe_bm PySem.F.plainAttrs_list PySem.F.slot_list_append PySem.F.type_list_append mt_append (pv 2) (pa_cons (pe_ix ix_seq (pv 6) (pe_c c_l_draw hr (by rfl) (pa_cons (pv 0) (pa_cons pe_int pa_nil))) (fun _ _ => rfl)) pa_nil))))))))) pss_nil)
    (pss_cons (ps_if (pt_val (pe_callB call_isD (by rfl) m_isinstance (by decide +kernel) (pa_cons (pv 1) (pa_cons (pe_bltn (by rfl) m_int (by decide +kernel) rfl) pa_nil)))) (pss_one (ps_set (i := 2) sc_l_odd.nd rfl (by first | exact Or.inl rfl | exact Or.inr rfl) (pe_op o_add (pv 2) (pe_lst (pa_cons (pe_op o_add (pv 1) pe_int) (pa_cons (pe_op o_sub (pv 1) pe_int) (pa_cons (pe_op o_sub pe_int (pv 1)) (pa_cons pe_int (pa_cons pe_int (pa_cons pe_int pa_nil)))))))))) pss_nil)
    (pss_cons (ps_if (pt_val (pe_callB call_isDT (by rfl) m_isinstance (by decide +kernel) (pa_cons (pv 1) (pa_cons (pe_tup (pa_cons (pe_bltn (by rfl) m_list (by decide +kernel) rfl) (pa_cons (pe_bltn (by rfl) m_tuple (by decide +kernel) rfl) pa_nil))) pa_nil)))) (pss_one (ps_set (i := 2) sc_l_odd.nd rfl (by first | exact Or.inl rfl | exact Or.inr rfl) (pe_op o_add (pv 2) (pe_lst (pa_cons (pe_callTy o_list (by rfl) m_list (by decide +kernel) (pa_cons (pv 1) pa_nil)) (pa_cons (pe_callTy o_tuple (by rfl) m_tuple (by decide +kernel) (pa_cons (pv 1) pa_nil)) (pa_cons (pe_op o_add (pv 1) (pv 1)) (pa_cons (pe_ei (pe_slice sl_list (pv 1) (po_some pe_int) po_none) (pe_slice sl_tupA (pv 1) (po_some pe_int) po_none)) (pa_cons (pe_ei (pe_slice sl_list (pv 1) po_none (po_some (pe_un o_neg pe_int))) (pe_slice sl_tupA (pv 1) po_none (po_some (pe_un o_neg pe_int)))) (pa_cons (pe_ei (pe_revL (pv 1)) (pe_revT (pv 1))) pa_nil)))))))))) pss_nil)
    (pss_one (ps_ret (pe_ix ix_seq (pv 2) (pe_c c_l_draw hr (by rfl) (pa_cons (pv 0) (pa_cons (pe_callB o_len (by rfl) m_len (by decide +kernel) (pa_cons (pv 2) pa_nil)) pa_nil))) (fun _ _ => rfl))))))))
abbrev s_l_changed : Stmt := topS 26
theorem sc_l_changed : FnScope ["deck", "thing", "deep", "at", "new"] ["deck", "thing", "deep"] (defScope s_l_changed) := ⟨rfl, rfl, rfl, by decide +kernel, rfl, by decide +kernel, by decide +kernel⟩
def t_l_changed (K : PySem.W.Frag) (sp_l_odd : Sp) (sp_l_draw : Sp) (sp_l_changed : Sp) : TS :=
  (tSeq (tIfS (tAnd (tB (tCB (rIsDT K) (tCons (tVar 1) (tCons (tTup (tCons (tC (.ty "list")) (tCons (tC (.ty "tuple")) tNil))) tNil)))) (tAnd (tTest (tOp dGt (tCB (dLen K) (tCons (tVar 1) tNil)) (tC (.int 0)))) (tAnd (tTest (tOp dLt (tVar 2) (tC (.int 9)))) (tTest (tOp dGt (tCall sp_l_draw [] E0 (tCons (tVar 0) (tCons (tC (.int 6)) tNil))) (tC (.int 0))))))) (tSeq (tAsg (tCall sp_l_draw [] E0 (tCons (tVar 0) (tCons (tCB (dLen K) (tCons (tVar 1) tNil)) tNil))) (gName 3))
    (tSeq (tAsg (tLst (tCons (tCall sp_l_changed [] E0 (tCons (tVar 0) (tCons (tOp (rIx K) (tVar 1) (tVar 3)) (tCons (tOp (dAdd K) (tVar 2) (tC (.int 1))) tNil)))) tNil)) (gName 4))
    (tSeq (tIfS (tB (tCB (rIsD K) (tCons (tVar 1) (tCons (tC (.ty "tuple")) tNil)))) (tAsg (tCB (dTuple K) (tCons (tVar 4) tNil)) (gName 4)) tNext)
    (tRet (tOp (dAdd K) (tOp (dAdd K) (tEi (tSl (rSlL K) (tVar 1) tNoPart (tPart (tVar 3))) (tSl (rSlA K) (tVar 1) tNoPart (tPart (tVar 3)))) (tVar 4)) (tEi (tSl (rSlL K) (tVar 1) (tPart (tOp (dAdd K) (tVar 3) (tC (.int 1)))) tNoPart) (tSl (rSlA K) (tVar 1) (tPart (tOp (dAdd K) (tVar 3) (tC (.int 1)))) tNoPart))))))) tNext)
    (tRet (tCall sp_l_odd [] E0 (tCons (tVar 0) (tCons (tVar 1) tNil)))))
theorem wk_l_changed {P : Program} {w : World} {K : PySem.W.Frag} {mg : Str → Option Value} {base : Heap} {k : Nat} {sp_l_odd : Sp} {sp_l_draw : Sp} {sp_l_changed : Sp}
    (c_l_odd : Cal P w K mg base CX0 k "_law_odd" ["deck", "thing"] sp_l_odd)
    (c_l_draw : Cal P w K mg base CX0 k "_law_draw" ["deck", "many"] sp_l_draw)
    (c_l_changed : Cal P w K mg base CX0 k "_law_changed" ["deck", "thing", "deep"] sp_l_changed) (m_len : mg "len" = none) (m_isinstance : mg "isinstance" = none) (m_tuple : mg "tuple" = none) (m_list : mg "list" = none)
    (f : Addr) (cdv : Value) (A : Around) (outer : List Env) (s : Shared) (H : Hp) (E : XK) (hr : Room k (A.deeper (envOfC "_law_changed" (defScope s_l_changed) s.heap.objs.size f cdv))) :
    PSs (cxOf CX0 P w K mg base ["deck", "thing", "deep", "at", "new"] "_law_changed" (defScope s_l_changed) f cdv A outer s H E).nox (defBody s_l_changed) (t_l_changed K sp_l_odd sp_l_draw sp_l_changed) := by
  have hu : (cxOf CX0 P w K mg base ["deck", "thing", "deep", "at", "new"] "_law_changed" (defScope s_l_changed) f cdv A outer s H E).nox.A.units + 64 < cLine := hr.units
  have hu5 : (cxOf CX0 P w K mg base ["deck", "thing", "deep", "at", "new"] "_law_changed" (defScope s_l_changed) f cdv A outer s H E).nox.A.units + 65 < cLine := room65 hr
  have hu1 : (cxOf CX0 P w K mg base ["deck", "thing", "deep", "at", "new"] "_law_changed" (defScope s_l_changed) f cdv A outer s H E).nox.A.units + 1 < cLine := room1 hr
  unfold t_l_changed
  exact (pss_cons (ps_if (PW.pt (pw_and (pt_val (pe_callB call_isDT (by rfl) m_isinstance (by decide +kernel) (pa_cons (pv 1) (pa_cons (pe_tup (pa_cons (pe_bltn (by rfl) m_list (by decide +kernel) rfl) (pa_cons (pe_bltn (by rfl) m_tuple (by decide +kernel) rfl) pa_nil))) pa_nil)))) (pw_and (pt_cmpR o_gt (pe_callB o_len (by rfl) m_len (by decide +kernel) (pa_cons (pv 1) pa_nil)) pe_int (nomark _)) (pw_and (pt_cmpR o_lt (pv 2) pe_int (nomark _)) (pw_and1 (pt_cmpR o_gt (pe_c c_l_draw hr (by rfl) (pa_cons (pv 0) (pa_cons pe_int pa_nil))) pe_int (nomark _))))))) (pss_cons (ps_set (i := 3) sc_l_changed.nd rfl (by first | exact Or.inl rfl | exact Or.inr rfl) (pe_c c_l_draw hr (by rfl) (pa_cons (pv 0) (pa_cons (pe_callB o_len (by rfl) m_len (by decide +kernel) (pa_cons (pv 1) pa_nil)) pa_nil))))
    (pss_cons (ps_set (i := 4) sc_l_changed.nd rfl (by first | exact Or.inl rfl | exact Or.inr rfl) (pe_lst (pa_cons (pe_c c_l_changed hr (by rfl) (pa_cons (pv 0) (pa_cons (pe_ix ix_seq (pv 1) (pv 3) (fun _ _ => rfl)) (pa_cons (pe_op o_add (pv 2) pe_int) pa_nil)))) pa_nil)))
    (pss_cons (ps_if (pt_val (pe_callB call_isD (by rfl) m_isinstance (by decide +kernel) (pa_cons (pv 1) (pa_cons (pe_bltn (by rfl) m_tuple (by decide +kernel) rfl) pa_nil)))) (pss_one (ps_set (i := 4) sc_l_changed.nd rfl (by first | exact Or.inl rfl | exact Or.inr rfl) (pe_callTy o_tuple (by rfl) m_tuple (by decide +kernel) (pa_cons (pv 4) pa_nil)))) pss_nil)
    (pss_one (ps_ret (pe_op o_add (pe_op o_add (pe_ei (pe_slice sl_list (pv 1) po_none (po_some (pv 3))) (pe_slice sl_tupA (pv 1) po_none (po_some (pv 3)))) (pv 4)) (pe_ei (pe_slice sl_list (pv 1) (po_some (pe_op o_add (pv 3) pe_int)) po_none) (pe_slice sl_tupA (pv 1) (po_some (pe_op o_add (pv 3) pe_int)) po_none)))))))) pss_nil)
    (pss_one (ps_ret (pe_c c_l_odd hr (by rfl) (pa_cons (pv 0) (pa_cons (pv 1) pa_nil))))))
abbrev s_l_within : Stmt := topS 27
theorem sc_l_within : FnScope ["deck", "m", "boxes", "deep", "thing", "k", "word", "some"] ["deck", "m", "boxes", "deep"] (defScope s_l_within) := ⟨rfl, rfl, rfl, by decide +kernel, rfl, by decide +kernel, by decide +kernel⟩
def t_l_within (K : PySem.W.Frag) (sp_l_draw : Sp) : TS :=
  (tSeq (tAsg (tTup (tCons (tC (.str "box")) (tCons (tOp (rIx K) (tVar 2) (tCall sp_l_draw [] E0 (tCons (tVar 0) (tCons (tCB (dLen K) (tCons (tVar 2) tNil)) tNil)))) tNil))) (gName 4))
    (tSeq (tFor (iRng1 (tCons (tOp dSub (tVar 3) (tC (.int 1))) tNil)) (gName 5) (tSeq (tAsg (tOp (rIx K) (tLst (tCons (tC (.str "plus")) (tCons (tC (.str "times")) (tCons (tC (.str "less")) (tCons (tC (.str "same")) tNil))))) (tCall sp_l_draw [] E0 (tCons (tVar 0) (tCons (tC (.int 4)) tNil)))) (gName 6))
    (tSeq (tAsg (tLst (tCons (tTup (tCons (tVar 6) (tCons (tVar 4) (tCons (tTup (tCons (tC (.str "number")) (tCons (tC (.int 0)) tNil))) tNil)))) (tCons (tTup (tCons (tVar 6) (tCons (tTup (tCons (tC (.str "number")) (tCons (tOp dSub (tVar 1) (tC (.int 1))) tNil))) (tCons (tVar 4) tNil)))) (tCons (tTup (tCons (tVar 6) (tCons (tVar 4) (tCons (tVar 4) tNil)))) tNil)))) (gName 7))
    (tAsg (tOp (rIx K) (tVar 7) (tCall sp_l_draw [] E0 (tCons (tVar 0) (tCons (tC (.int 3)) tNil)))) (gName 4)))))
    (tRet (tVar 4))))
theorem wk_l_within {P : Program} {w : World} {K : PySem.W.Frag} {mg : Str → Option Value} {base : Heap} {k : Nat} {sp_l_draw : Sp}
    (c_l_draw : Cal P w K mg base CX0 k "_law_draw" ["deck", "many"] sp_l_draw) (m_range : mg "range" = none) (m_len : mg "len" = none)
    (f : Addr) (cdv : Value) (A : Around) (outer : List Env) (s : Shared) (H : Hp) (E : XK) (hr : Room k (A.deeper (envOfC "_law_within" (defScope s_l_within) s.heap.objs.size f cdv))) :
    PSs (cxOf CX0 P w K mg base ["deck", "m", "boxes", "deep", "thing", "k", "word", "some"] "_law_within" (defScope s_l_within) f cdv A outer s H E).nox (defBody s_l_within) (t_l_within K sp_l_draw) := by
  have hu : (cxOf CX0 P w K mg base ["deck", "m", "boxes", "deep", "thing", "k", "word", "some"] "_law_within" (defScope s_l_within) f cdv A outer s H E).nox.A.units + 64 < cLine := hr.units
  have hu5 : (cxOf CX0 P w K mg base ["deck", "m", "boxes", "deep", "thing", "k", "word", "some"] "_law_within" (defScope s_l_within) f cdv A outer s H E).nox.A.units + 65 < cLine := room65 hr
  have hu1 : (cxOf CX0 P w K mg base ["deck", "m", "boxes", "deep", "thing", "k", "word", "some"] "_law_within" (defScope s_l_within) f cdv A outer s H E).nox.A.units + 1 < cLine := room1 hr
  unfold t_l_within
  exact (pss_cons (ps_set (i := 4) sc_l_within.nd rfl (by first | exact Or.inl rfl | exact Or.inr rfl) (pe_tup (pa_cons pe_str (pa_cons (pe_ix ix_seq (pv 2) (pe_c c_l_draw hr (by rfl) (pa_cons (pv 0) (pa_cons (pe_callB o_len (by rfl) m_len (by decide +kernel) (pa_cons (pv 2) pa_nil)) pa_nil))) (fun _ _ => rfl)) pa_nil))))
    (pss_cons (ps_for PassesOwn.never rfl (pi_range1 (by rfl) m_range (pa_cons (pe_op o_sub (pv 3) pe_int) pa_nil)) (pg_name (i := 5) sc_l_within.nd rfl (by first | exact Or.inl rfl | exact Or.inr rfl)) (pss_cons (ps_set (i := 6) sc_l_within.nd rfl (by first | exact Or.inl rfl | exact Or.inr rfl) (pe_ix ix_seq (pe_lst (pa_cons pe_str (pa_cons pe_str (pa_cons pe_str (pa_cons pe_str pa_nil))))) (pe_c c_l_draw hr (by rfl) (pa_cons (pv 0) (pa_cons pe_int pa_nil))) (fun _ _ => rfl)))
    (pss_cons (ps_set (i := 7) sc_l_within.nd rfl (by first | exact Or.inl rfl | exact Or.inr rfl) (pe_lst (pa_cons (pe_tup (pa_cons (pv 6) (pa_cons (pv 4) (pa_cons (pe_tup (pa_cons pe_str (pa_cons pe_int pa_nil))) pa_nil)))) (pa_cons (pe_tup (pa_cons (pv 6) (pa_cons (pe_tup (pa_cons pe_str (pa_cons (pe_op o_sub (pv 1) pe_int) pa_nil))) (pa_cons (pv 4) pa_nil)))) (pa_cons (pe_tup (pa_cons (pv 6) (pa_cons (pv 4) (pa_cons (pv 4) pa_nil)))) pa_nil)))))
    (pss_one (ps_set (i := 4) sc_l_within.nd rfl (by first | exact Or.inl rfl | exact Or.inr rfl) (pe_ix ix_seq (pv 7) (pe_c c_l_draw hr (by rfl) (pa_cons (pv 0) (pa_cons pe_int pa_nil))) (fun _ _ => rfl)))))))
    (pss_one (ps_ret (pv 4)))))
abbrev s_l_row_of : Stmt := topS 28
theorem sc_l_row_of : FnScope ["deck", "boxes", "thing", "box", "things", "k", "some"] ["deck", "boxes", "thing"] (defScope s_l_row_of) := ⟨rfl, rfl, rfl, by decide +kernel, rfl, by decide +kernel, by decide +kernel⟩
def t_l_row_of (K : PySem.W.Frag) (sp_l_draw : Sp) : TS :=
  (tSeq (tAsg (tOp (rIx K) (tVar 1) (tCall sp_l_draw [] E0 (tCons (tVar 0) (tCons (tCB (dLen K) (tCons (tVar 1) tNil)) tNil)))) (gName 3))
    (tSeq (tAsg (tLc (iRng1 (tCons (tCall sp_l_draw [] E0 (tCons (tVar 0) (tCons (tC (.int 5)) tNil))) tNil)) (gName 5) tYes (tTup (tCons (tC (.str "box")) (tCons (tVar 3) tNil))) [5]) (gName 4))
    (tSeq (tDrop (tBM K "list" rInsert (tVar 4) (tCons (tCall sp_l_draw [] E0 (tCons (tVar 0) (tCons (tOp (dAdd K) (tCB (dLen K) (tCons (tVar 4) tNil)) (tC (.int 1))) tNil))) (tCons (tVar 2) tNil))))
    (tSeq (tAsg (tLst (tCons (tTup (tCons (tC (.str "need")) (tCons (tVar 2) tNil))) (tCons (tTup (tCons (tC (.str "give")) (tCons (tVar 2) tNil))) (tCons (tTup (tCons (tC (.str "set")) (tCons (tVar 3) (tCons (tVar 2) tNil)))) (tCons (tTup (tCons (tC (.str "skip")) (tCons (tVar 2) (tCons (tOp (dAdd K) (tC (.int 1)) (tCall sp_l_draw [] E0 (tCons (tVar 0) (tCons (tC (.int 30)) tNil)))) tNil)))) tNil))))) (gName 6))
    (tRet (tOp (rIx K) (tOp (dAdd K) (tVar 6) (tLst (tCons (tTup (tCons (tC (.str "pick")) (tCons (tVar 3) (tCons (tVar 4) tNil)))) tNil))) (tCall sp_l_draw [] E0 (tCons (tVar 0) (tCons (tC (.int 5)) tNil)))))))))
theorem wk_l_row_of {P : Program} {w : World} {K : PySem.W.Frag} {mg : Str → Option Value} {base : Heap} {k : Nat} {sp_l_draw : Sp}
    (c_l_draw : Cal P w K mg base CX0 k "_law_draw" ["deck", "many"] sp_l_draw) (m_len : mg "len" = none) (m_range : mg "range" = none)
    (f : Addr) (cdv : Value) (A : Around) (outer : List Env) (s : Shared) (H : Hp) (E : XK) (hr : Room k (A.deeper (envOfC "_law_row_of" (defScope s_l_row_of) s.heap.objs.size f cdv))) :
    PSs (cxOf CX0 P w K mg base ["deck", "boxes", "thing", "box", "things", "k", "some"] "_law_row_of" (defScope s_l_row_of) f cdv A outer s H E).nox (defBody s_l_row_of) (t_l_row_of K sp_l_draw) := by
  have hu : (cxOf CX0 P w K mg base ["deck", "boxes", "thing", "box", "things", "k", "some"] "_law_row_of" (defScope s_l_row_of) f cdv A outer s H E).nox.A.units + 64 < cLine := hr.units
  have hu5 : (cxOf CX0 P w K mg base ["deck", "boxes", "thing", "box", "things", "k", "some"] "_law_row_of" (defScope s_l_row_of) f cdv A outer s H E).nox.A.units + 65 < cLine := room65 hr
  have hu1 : (cxOf CX0 P w K mg base ["deck", "boxes", "thing", "box", "things", "k", "some"] "_law_row_of" (defScope s_l_row_of) f cdv A outer s H E).nox.A.units + 1 < cLine := room1 hr
  unfold t_l_row_of
  exact (pss_cons (ps_set (i := 3) sc_l_row_of.nd rfl (by first | exact Or.inl rfl | exact Or.inr rfl) (pe_ix ix_seq (pv 1) (pe_c c_l_draw hr (by rfl) (pa_cons (pv 0) (pa_cons (pe_callB o_len (by rfl) m_len (by decide +kernel) (pa_cons (pv 1) pa_nil)) pa_nil))) (fun _ _ => rfl)))
    (pss_cons (ps_setLc (i := 4) (own := [("k", 5)]) (g := (gName 5)) (tt := tYes) rfl sc_l_row_of.nd rfl rfl (sw_true rfl rfl rfl (by decide +kernel)) (pi_range1 (by rfl) m_range (pa_cons (pe_c c_l_draw hr (by rfl) (pa_cons (pv 0) (pa_cons pe_int pa_nil))) pa_nil)) (blkOk_by (N := ["deck", "boxes", "thing", "box", "things", "k", "some"]) (sc := defScope s_l_row_of) (by decide +kernel)) (fun _ _ _ _ _ => (pg_name (i := 5) sc_l_row_of.nd rfl (by first | exact Or.inl rfl | exact Or.inr rfl))) (fun _ _ _ _ _ => pts_nil) (fun _ _ _ _ _ => (pe_tup (pa_cons pe_str (pa_cons (pv 3) pa_nil)))))
    (pss_cons (ps_expr (pe_bm PySem.F.plainAttrs_list PySem.F.slot_list_insert PySem.F.type_list_insert mt_insertI (pv 4) (pa_cons (pe_c c_l_draw hr (by rfl) (pa_cons (pv 0) (pa_cons (pe_op o_add (pe_callB o_len (by rfl) m_len (by decide +kernel) (pa_cons (pv 4) pa_nil)) pe_int) pa_nil))) (pa_cons (pv 2) pa_nil))))
    (pss_cons (ps_set (i := 6) sc_l_row_of.nd rfl (by first | exact Or.inl rfl | exact Or.inr rfl) (pe_lst (pa_cons (pe_tup (pa_cons pe_str (pa_cons (pv 2) pa_nil))) (pa_cons (pe_tup (pa_cons pe_str (pa_cons (pv 2) pa_nil))) (pa_cons (pe_tup (pa_cons pe_str (pa_cons (pv 3) (pa_cons (pv 2) pa_nil)))) (pa_cons (pe_tup (pa_cons pe_str (pa_cons (pv 2) (pa_cons (pe_op o_add pe_int (pe_c c_l_draw hr (by rfl) (pa_cons (pv 0) (pa_cons pe_int pa_nil)))) pa_nil)))) pa_nil))))))
    (pss_one (ps_ret (pe_ix ix_seq (pe_op o_add (pv 6) (pe_lst (pa_cons (pe_tup (pa_cons pe_str (pa_cons (pv 3) (pa_cons (pv 4) pa_nil)))) pa_nil))) (pe_c c_l_draw hr (by rfl) (pa_cons (pv 0) (pa_cons pe_int pa_nil))) (fun _ _ => rfl))))))))
abbrev s_l_fitting : Stmt := topS 29
theorem sc_l_fitting : FnScope ["deck", "way", "m", "boxes", "beyond", "row"] ["deck", "way"] (defScope s_l_fitting) := ⟨rfl, rfl, rfl, by decide +kernel, rfl, by decide +kernel, by decide +kernel⟩
def t_l_fitting (K : PySem.W.Frag) (sp_l_row_of : Sp) (sp_l_within : Sp) (sp_l_draw : Sp) : TS :=
  (tSeq (tAsg (tOp (rIx K) (tLst (tCons (tC (.int 2)) (tCons (tC (.int 16)) tNil))) (tCall sp_l_draw [] E0 (tCons (tVar 0) (tCons (tC (.int 2)) tNil)))) (gName 2))
    (tSeq (tAsg (tOp (rIx K) (tLst (tCons (tLst (tCons (tC (.str "a")) (tCons (tC (.str "b")) tNil))) (tCons (tLst (tCons (tC (.str "abcdefgh")) tNil)) (tCons (tLst (tCons (tC (.str "a")) (tCons (tC (.str "ab")) (tCons (tC (.str "b")) (tCons (tC (.str "c")) (tCons (tC (.str "z")) tNil)))))) tNil)))) (tCall sp_l_draw [] E0 (tCons (tVar 0) (tCons (tC (.int 3)) tNil)))) (gName 3))
    (tSeq (tAsg (tCall sp_l_draw [] E0 (tCons (tVar 0) (tCons (tC (.int 2)) tNil))) (gName 4))
    (tSeq (tAsg (tTup (tCons (tC (.str "give")) (tCons (tCall sp_l_within [] E0 (tCons (tVar 0) (tCons (tVar 2) (tCons (tVar 3) (tCons (tC (.int 4)) tNil))))) tNil))) (gName 5))
    (tSeq (tIfS (tTest (tOp (dEq K) (tVar 1) (tC (.int 0)))) (tRet (tTup (tCons (tOp (rIx K) (tLst (tCons (tC (.int 1)) (tCons (tC (.int 2)) (tCons (tC (.int 16)) (tCons (tC (.int 17)) tNil))))) (tCall sp_l_draw [] E0 (tCons (tVar 0) (tCons (tC (.int 4)) tNil)))) (tCons (tVar 3) (tCons (tLst tNil) tNil))))) tNext)
    (tSeq (tIfS (tTest (tOp (dEq K) (tVar 1) (tC (.int 1)))) (tRet (tTup (tCons (tVar 2) (tCons (tSl (rSlL K) (tLst (tCons (tC (.str "a")) (tCons (tC (.str "b")) (tCons (tC (.str "c")) (tCons (tC (.str "d")) (tCons (tC (.str "e")) (tCons (tC (.str "f")) tNil))))))) tNoPart (tPart (tOp (dAdd K) (tC (.int 5)) (tVar 4)))) (tCons (tLst (tCons (tOp (dAdd K) (tSl (rSlA K) (tVar 5) tNoPart (tPart (tC (.int 1)))) (tTup (tCons (tTup (tCons (tC (.str "number")) (tCons (tC (.int 1)) tNil))) tNil))) tNil)) tNil))))) tNext)
    (tSeq (tIfS (tTest (tOp (dEq K) (tVar 1) (tC (.int 2)))) (tRet (tTup (tCons (tVar 2) (tCons (tVar 3) (tCons (tOp dMul (tLst (tCons (tVar 5) tNil)) (tOp (dAdd K) (tC (.int 30)) (tVar 4))) tNil))))) tNext)
    (tSeq (tIfS (tTest (tOp (dEq K) (tVar 1) (tC (.int 3)))) (tRet (tTup (tCons (tVar 2) (tCons (tVar 3) (tCons (tLst (tCons (tTup (tCons (tC (.str "give")) (tCons (tTup (tCons (tC (.str "number")) (tCons (tOp (dAdd K) (tOp dSub (tVar 2) (tC (.int 1))) (tVar 4)) tNil))) tNil))) tNil)) tNil))))) tNext)
    (tSeq (tIfS (tTest (tOp (dEq K) (tVar 1) (tC (.int 4)))) (tRet (tTup (tCons (tVar 2) (tCons (tVar 3) (tCons (tLst (tCons (tTup (tCons (tC (.str "pick")) (tCons (tOp (rIx K) (tVar 3) (tC (.int 0))) (tCons (tOp dMul (tLst (tCons (tOp (rIx K) (tVar 5) (tC (.int 1))) tNil)) (tOp (rIx K) (tLst (tCons (tC (.int 0)) (tCons (tC (.int 1)) (tCons (tC (.int 5)) (tCons (tC (.int 6)) tNil))))) (tCall sp_l_draw [] E0 (tCons (tVar 0) (tCons (tC (.int 4)) tNil))))) tNil)))) tNil)) tNil))))) tNext)
    (tSeq (tIfS (tTest (tOp (dEq K) (tVar 1) (tC (.int 5)))) (tRet (tTup (tCons (tVar 2) (tCons (tVar 3) (tCons (tLst (tCons (tTup (tCons (tC (.str "skip")) (tCons (tOp (rIx K) (tVar 5) (tC (.int 1))) (tCons (tOp (rIx K) (tLst (tCons (tC (.int 0)) (tCons (tC (.int 1)) (tCons (tC (.int 30)) (tCons (tC (.int 31)) tNil))))) (tCall sp_l_draw [] E0 (tCons (tVar 0) (tCons (tC (.int 4)) tNil)))) tNil)))) tNil)) tNil))))) tNext)
    (tSeq (tIfS (tTest (tOp (dEq K) (tVar 1) (tC (.int 6)))) (tRet (tTup (tCons (tVar 2) (tCons (tVar 3) (tCons (tLst (tCons (tCall sp_l_row_of [] E0 (tCons (tVar 0) (tCons (tVar 3) (tCons (tCall sp_l_within [] E0 (tCons (tVar 0) (tCons (tVar 2) (tCons (tVar 3) (tCons (tOp (dAdd K) (tC (.int 4)) (tVar 4)) tNil))))) tNil)))) tNil)) tNil))))) tNext)
    (tRet (tTup (tCons (tVar 2) (tCons (tLst (tCons (tSl rSlS (tC (.str "abcdefghi")) tNoPart (tPart (tOp (dAdd K) (tC (.int 8)) (tVar 4)))) tNil)) (tCons (tLst tNil) tNil))))))))))))))))
theorem wk_l_fitting {P : Program} {w : World} {K : PySem.W.Frag} {mg : Str → Option Value} {base : Heap} {k : Nat} {sp_l_row_of : Sp} {sp_l_within : Sp} {sp_l_draw : Sp}
    (c_l_row_of : Cal P w K mg base CX0 k "_law_row_of" ["deck", "boxes", "thing"] sp_l_row_of)
    (c_l_within : Cal P w K mg base CX0 k "_law_within" ["deck", "m", "boxes", "deep"] sp_l_within)
    (c_l_draw : Cal P w K mg base CX0 k "_law_draw" ["deck", "many"] sp_l_draw)
    (f : Addr) (cdv : Value) (A : Around) (outer : List Env) (s : Shared) (H : Hp) (E : XK) (hr : Room k (A.deeper (envOfC "_law_fitting" (defScope s_l_fitting) s.heap.objs.size f cdv))) :
    PSs (cxOf CX0 P w K mg base ["deck", "way", "m", "boxes", "beyond", "row"] "_law_fitting" (defScope s_l_fitting) f cdv A outer s H E).nox (defBody s_l_fitting) (t_l_fitting K sp_l_row_of sp_l_within sp_l_draw) := by
  have hu : (cxOf CX0 P w K mg base ["deck", "way", "m", "boxes", "beyond", "row"] "_law_fitting" (defScope s_l_fitting) f cdv A outer s H E).nox.A.units + 64 < cLine := hr.units
  have hu5 : (cxOf CX0 P w K mg base ["deck", "way", "m", "boxes", "beyond", "row"] "_law_fitting" (defScope s_l_fitting) f cdv A outer s H E).nox.A.units + 65 < cLine := room65 hr
  have hu1 : (cxOf CX0 P w K mg base ["deck", "way", "m", "boxes", "beyond", "row"] "_law_fitting" (defScope s_l_fitting) f cdv A outer s H E).nox.A.units + 1 < cLine := room1 hr
  unfold t_l_fitting
  exact (pss_cons (ps_set (i := 2) sc_l_fitting.nd rfl (by first | exact Or.inl rfl | exact Or.inr rfl) (pe_ix ix_seq (pe_lst (pa_cons pe_int (pa_cons pe_int pa_nil))) (pe_c c_l_draw hr (by rfl) (pa_cons (pv 0) (pa_cons pe_int pa_nil))) (fun _ _ => rfl)))
    (pss_cons (ps_set (i := 3) sc_l_fitting.nd rfl (by first | exact Or.inl rfl | exact Or.inr rfl) (pe_ix ix_seq (pe_lst (pa_cons (pe_lst (pa_cons pe_str (pa_cons pe_str pa_nil))) (pa_cons (pe_lst (pa_cons pe_str pa_nil)) (pa_cons (pe_lst (pa_cons pe_str (pa_cons pe_str (pa_cons pe_str (pa_cons pe_str (pa_cons pe_str pa_nil)))))) pa_nil)))) (pe_c c_l_draw hr (by rfl) (pa_cons (pv 0) (pa_cons pe_int pa_nil))) (fun _ _ => rfl)))
    (pss_cons (ps_set (i := 4) sc_l_fitting.nd rfl (by first | exact Or.inl rfl | exact Or.inr rfl) (pe_c c_l_draw hr (by rfl) (pa_cons (pv 0) (pa_cons pe_int pa_nil))))
    (pss_cons (ps_set (i := 5) sc_l_fitting.nd rfl (by first | exact Or.inl rfl | exact Or.inr rfl) (pe_tup (pa_cons pe_str (pa_cons (pe_c c_l_within hr (by rfl) (pa_cons (pv 0) (pa_cons (pv 2) (pa_cons (pv 3) (pa_cons pe_int pa_nil))))) pa_nil))))
    (pss_cons (ps_if (pt_cmpR (o_eq hu) (pv 1) pe_int (nomark _)) (pss_one (ps_ret (pe_tup (pa_cons (pe_ix ix_seq (pe_lst (pa_cons pe_int (pa_cons pe_int (pa_cons pe_int (pa_cons pe_int pa_nil))))) (pe_c c_l_draw hr (by rfl) (pa_cons (pv 0) (pa_cons pe_int pa_nil))) (fun _ _ => rfl)) (pa_cons (pv 3) (pa_cons (pe_lst pa_nil) pa_nil)))))) pss_nil)
    (pss_cons (ps_if (pt_cmpR (o_eq hu) (pv 1) pe_int (nomark _)) (pss_one (ps_ret (pe_tup (pa_cons (pv 2) (pa_cons (pe_slice sl_list (pe_lst (pa_cons pe_str (pa_cons pe_str (pa_cons pe_str (pa_cons pe_str (pa_cons pe_str (pa_cons pe_str pa_nil))))))) po_none (po_some (pe_op o_add pe_int (pv 4)))) (pa_cons (pe_lst (pa_cons (pe_op o_add (pe_slice sl_tupA (pv 5) po_none (po_some pe_int)) (pe_tup (pa_cons (pe_tup (pa_cons pe_str (pa_cons pe_int pa_nil))) pa_nil))) pa_nil)) pa_nil)))))) pss_nil)
    (pss_cons (ps_if (pt_cmpR (o_eq hu) (pv 1) pe_int (nomark _)) (pss_one (ps_ret (pe_tup (pa_cons (pv 2) (pa_cons (pv 3) (pa_cons (pe_op o_mul (pe_lst (pa_cons (pv 5) pa_nil)) (pe_op o_add pe_int (pv 4))) pa_nil)))))) pss_nil)
    (pss_cons (ps_if (pt_cmpR (o_eq hu) (pv 1) pe_int (nomark _)) (pss_one (ps_ret (pe_tup (pa_cons (pv 2) (pa_cons (pv 3) (pa_cons (pe_lst (pa_cons (pe_tup (pa_cons pe_str (pa_cons (pe_tup (pa_cons pe_str (pa_cons (pe_op o_add (pe_op o_sub (pv 2) pe_int) (pv 4)) pa_nil))) pa_nil))) pa_nil)) pa_nil)))))) pss_nil)
    (pss_cons (ps_if (pt_cmpR (o_eq hu) (pv 1) pe_int (nomark _)) (pss_one (ps_ret (pe_tup (pa_cons (pv 2) (pa_cons (pv 3) (pa_cons (pe_lst (pa_cons (pe_tup (pa_cons pe_str (pa_cons (pe_ix ix_seq (pv 3) pe_int (fun _ _ => rfl)) (pa_cons (pe_op o_mul (pe_lst (pa_cons (pe_ix ix_seq (pv 5) pe_int (fun _ _ => rfl)) pa_nil)) (pe_ix ix_seq (pe_lst (pa_cons pe_int (pa_cons pe_int (pa_cons pe_int (pa_cons pe_int pa_nil))))) (pe_c c_l_draw hr (by rfl) (pa_cons (pv 0) (pa_cons pe_int pa_nil))) (fun _ _ => rfl))) pa_nil)))) pa_nil)) pa_nil)))))) pss_nil)
    (pss_cons (ps_if (pt_cmpR (o_eq hu) (pv 1) pe_int (nomark _)) (pss_one (ps_ret (pe_tup (pa_cons (pv 2) (pa_cons (pv 3) (pa_cons (pe_lst (pa_cons (pe_tup (pa_cons pe_str (pa_cons (pe_ix ix_seq (pv 5) pe_int (fun _ _ => rfl)) (pa_cons (pe_ix ix_seq (pe_lst (pa_cons pe_int (pa_cons pe_int (pa_cons pe_int (pa_cons pe_int pa_nil))))) (pe_c c_l_draw hr (by rfl) (pa_cons (pv 0) (pa_cons pe_int pa_nil))) (fun _ _ => rfl)) pa_nil)))) pa_nil)) pa_nil)))))) pss_nil)
    (pss_cons (ps_if (pt_cmpR (o_eq hu) (pv 1) pe_int (nomark _)) (pss_one (ps_ret (pe_tup (pa_cons (pv 2) (pa_cons (pv 3) (pa_cons (pe_lst (pa_cons (pe_c c_l_row_of hr (by rfl) (pa_cons (pv 0) (pa_cons (pv 3) (pa_cons (pe_c c_l_within hr (by rfl) (pa_cons (pv 0) (pa_cons (pv 2) (pa_cons (pv 3) (pa_cons (pe_op o_add pe_int (pv 4)) pa_nil))))) pa_nil)))) pa_nil)) pa_nil)))))) pss_nil)
    (pss_one (ps_ret (pe_tup (pa_cons (pv 2) (pa_cons (pe_lst (pa_cons (pe_slice sl_str pe_str po_none (po_some (pe_op o_add pe_int (pv 4)))) pa_nil)) (pa_cons (pe_lst pa_nil) pa_nil)))))))))))))))))
abbrev s_l_right : Stmt := topS 30
theorem sc_l_right : FnScope ["thing", "due", "handed", "found"] ["thing"] (defScope s_l_right) := ⟨rfl, rfl, rfl, by decide +kernel, rfl, by decide +kernel, by decide +kernel⟩
def t_l_right (K : PySem.W.Frag) (w : World) (sp_is_program : Sp) (sp_l_deep : Sp) (sp_l_good : Sp) : TS :=
  (tSeq (tAsg (tCall sp_l_good [] E0 (tCons (tVar 0) tNil)) (gName 1))
    (tSeq (tAsg (tCall sp_l_deep [] E0 (tCons (tVar 0) tNil)) (gName 2))
    (tSeq (tAsg (tCall sp_is_program [] E0 (tCons (tVar 2) tNil)) (gName 3))
    (tRet (tAndV (tCB (rIsD K) (tCons (tVar 3) (tCons (tC (.ty "bool")) tNil))) (tAndV (tOp (dEq K) (tVar 3) (tVar 1)) (tOp (dEqO K w) (tVar 2) (tVar 0))))))))
theorem wk_l_right {P : Program} {w : World} {K : PySem.W.Frag} {mg : Str → Option Value} {base : Heap} {k : Nat} {sp_is_program : Sp} {sp_l_deep : Sp} {sp_l_good : Sp}
    (c_is_program : Cal P w K mg base CX0 k "is_program" ["thing"] sp_is_program)
    (c_l_deep : Cal P w K mg base CX0 k "_law_deep" ["thing"] sp_l_deep)
    (c_l_good : Cal P w K mg base CX0 k "_law_good" ["thing"] sp_l_good) (m_isinstance : mg "isinstance" = none) (m_bool : mg "bool" = none)
    (f : Addr) (cdv : Value) (A : Around) (outer : List Env) (s : Shared) (H : Hp) (E : XK) (hr : Room k (A.deeper (envOfC "_law_right" (defScope s_l_right) s.heap.objs.size f cdv))) :
    PSs (cxOf CX0 P w K mg base ["thing", "due", "handed", "found"] "_law_right" (defScope s_l_right) f cdv A outer s H E).nox (defBody s_l_right) (t_l_right K w sp_is_program sp_l_deep sp_l_good) := by
  have hu : (cxOf CX0 P w K mg base ["thing", "due", "handed", "found"] "_law_right" (defScope s_l_right) f cdv A outer s H E).nox.A.units + 64 < cLine := hr.units
  have hu5 : (cxOf CX0 P w K mg base ["thing", "due", "handed", "found"] "_law_right" (defScope s_l_right) f cdv A outer s H E).nox.A.units + 65 < cLine := room65 hr
  have hu1 : (cxOf CX0 P w K mg base ["thing", "due", "handed", "found"] "_law_right" (defScope s_l_right) f cdv A outer s H E).nox.A.units + 1 < cLine := room1 hr
  unfold t_l_right
  exact (pss_cons (ps_set (i := 1) sc_l_right.nd rfl (by first | exact Or.inl rfl | exact Or.inr rfl) (pe_c c_l_good hr (by rfl) (pa_cons (pv 0) pa_nil)))
    (pss_cons (ps_set (i := 2) sc_l_right.nd rfl (by first | exact Or.inl rfl | exact Or.inr rfl) (pe_c c_l_deep hr (by rfl) (pa_cons (pv 0) pa_nil)))
    (pss_cons (ps_set (i := 3) sc_l_right.nd rfl (by first | exact Or.inl rfl | exact Or.inr rfl) (pe_c c_is_program hr (by rfl) (pa_cons (pv 2) pa_nil)))
    (pss_one (ps_ret (pe_and (pe_callB call_isD (by rfl) m_isinstance (by decide +kernel) (pa_cons (pv 3) (pa_cons (pe_bltn (by rfl) m_bool (by decide +kernel) rfl) pa_nil))) (pe_and (pe_cmpR (o_eq hu) (pv 3) (pv 1) (nomark _)) (pe_one (pe_cmpR (o_eqO hu5) (pv 2) (pv 0) (nomark _))))))))))
abbrev s_law : Stmt := topS 31
theorem sc_law : FnScope ["script", "deck", "k", "program", "turn", "way", "things", "thing", "deep", "five", "good", "bad"] ["script"] (defScope s_law) := ⟨rfl, rfl, rfl, by decide +kernel, rfl, by decide +kernel, by decide +kernel⟩
def t_law (K : PySem.W.Frag) (sp_is_program : Sp) (sp_l_right : Sp) (sp_l_fitting : Sp) (sp_l_changed : Sp) (sp_l_program : Sp) (sp_l_deck : Sp) : TS :=
  (tSeq (tAsg (tCall sp_l_deck [] E0 (tCons (tVar 0) tNil)) (gName 1))
    (tSeq (tFor (iRng1 (tCons (tC (.int 4)) tNil)) (gName 2) (tSeq (tAsg (tCall sp_l_program [] E0 (tCons (tVar 1) tNil)) (gName 3))
    (tSeq (tIfS (tTest (tOp dIsNotB (tCall sp_is_program [] E0 (tCons (tVar 3) tNil)) (tC (.bl true)))) (tRet (tC (.bl false))) tNext)
    (tFor (iRng1 (tCons (tC (.int 10)) tNil)) (gName 4) (tIfS (tNot (tB (tCall sp_l_right [] E0 (tCons (tCall sp_l_changed [] E0 (tCons (tVar 1) (tCons (tVar 3) (tCons (tC (.int 0)) tNil)))) tNil)))) (tRet (tC (.bl false))) tNext)))))
    (tSeq (tFor (iRng1 (tCons (tC (.int 8)) tNil)) (gName 5) (tFor (iRng1 (tCons (tOp (dAdd K) (tC (.int 3)) (tOp dMul (tC (.int 7)) (tCB dInt (tCons (tOp (dEq K) (tVar 5) (tC (.int 6))) tNil)))) tNil)) (gName 4) (tIfS (tNot (tB (tCall sp_l_right [] E0 (tCons (tCall sp_l_fitting [] E0 (tCons (tVar 1) (tCons (tVar 5) tNil))) tNil)))) (tRet (tC (.bl false))) tNext)))
    (tSeq (tAsg (tLst (tCons (tC .non) (tCons (tC (.int 5)) (tCons (tC (.str "")) (tCons (tTup tNil) (tCons (tLst tNil) (tCons tDNewK (tCons (tC (.bl true)) (tCons (tTup (tCons (tC (.int 2)) (tCons (tLst (tCons (tC (.str "a")) tNil)) tNil))) (tCons (tTup (tCons (tC (.int 2)) (tCons (tLst (tCons (tC (.str "a")) tNil)) (tCons (tLst tNil) (tCons (tC (.int 0)) tNil))))) (tCons (tLst (tCons (tC (.int 2)) (tCons (tLst (tCons (tC (.str "a")) tNil)) (tCons (tLst tNil) tNil)))) (tCons (tTup (tCons (tC (.int 2)) (tCons (tLst (tCons (tC (.str "a")) tNil)) (tCons (tLst tNil) tNil)))) tNil)))))))))))) (gName 6))
    (tSeq (tAsg (tOp (dAdd K) (tVar 6) (tLst (tCons (tTup (tCons (tC (.int 2)) (tCons (tLst tNil) (tCons (tLst tNil) tNil)))) (tCons (tTup (tCons (tC (.int 2)) (tCons (tLst (tCons (tC (.str "a")) (tCons (tC (.str "a")) tNil))) (tCons (tLst tNil) tNil)))) (tCons (tTup (tCons (tC (.int 1)) (tCons (tLst (tCons (tC (.str "a")) tNil)) (tCons (tLst tNil) tNil)))) tNil))))) (gName 6))
    (tSeq (tFor (iList K (tOp (dAdd K) (tVar 6) (tLst (tCons (tTup (tCons (tC (.int 2)) (tCons (tLst (tCons (tC (.str "a")) tNil)) (tCons (tLst (tCons (tTup (tCons (tC (.str "set")) (tCons (tC (.str "a")) (tCons (tTup (tCons (tC (.str "box")) (tCons (tC (.str "b")) tNil))) tNil)))) tNil)) tNil)))) tNil)))) (gName 7) (tIfS (tNot (tB (tCall sp_l_right [] E0 (tCons (tVar 7) tNil)))) (tRet (tC (.bl false))) tNext))
    (tSeq (tAsg (tTup (tCons (tC (.str "box")) (tCons (tC (.str "a")) tNil))) (gName 8))
    (tSeq (tFor (iRng1 (tCons (tC (.int 3)) tNil)) (gName 2) (tAsg (tTup (tCons (tC (.str "plus")) (tCons (tVar 8) (tCons (tTup (tCons (tC (.str "number")) (tCons (tC (.int 1)) tNil))) tNil)))) (gName 8)))
    (tSeq (tAsg (tTup (tCons (tC (.str "less")) (tCons (tVar 8) (tCons (tVar 8) tNil)))) (gName 9))
    (tSeq (tFor (iList K (tLst (tCons (tTup (tCons (tTup (tCons (tC (.str "set")) (tCons (tC (.str "a")) (tCons (tVar 8) tNil)))) (tCons (tTup (tCons (tC (.str "set")) (tCons (tC (.str "a")) (tCons (tVar 9) tNil)))) tNil))) (tCons (tTup (tCons (tTup (tCons (tC (.str "skip")) (tCons (tVar 8) (tCons (tC (.int 1)) tNil)))) (tCons (tTup (tCons (tC (.str "skip")) (tCons (tVar 9) (tCons (tC (.int 1)) tNil)))) tNil))) tNil)))) (gTup K 2 (gCons (gName 10) (gCons (gName 11) gNil))) (tIfS (tOr (tTest (tOp dIsNotB (tCall sp_is_program [] E0 (tCons (tTup (tCons (tC (.int 2)) (tCons (tLst (tCons (tC (.str "a")) tNil)) (tCons (tLst (tCons (tVar 10) tNil)) tNil)))) tNil)) (tC (.bl true)))) (tTest (tOp dIsNotB (tCall sp_is_program [] E0 (tCons (tTup (tCons (tC (.int 2)) (tCons (tLst (tCons (tC (.str "a")) tNil)) (tCons (tLst (tCons (tVar 11) tNil)) tNil)))) tNil)) (tC (.bl false))))) (tRet (tC (.bl false))) tNext))
    (tSeq (tIfS (tTest (tOp dIsNotB (tCall sp_is_program [] E0 (tCons (tTup (tCons (tC (.int 2)) (tCons (tLst (tCons (tC (.str "a")) tNil)) (tCons (tLst (tCons (tTup (tCons (tC (.str "pick")) (tCons (tC (.str "a")) (tCons (tLst (tCons (tVar 8) (tCons (tVar 8) tNil))) tNil)))) tNil)) tNil)))) tNil)) (tC (.bl true)))) (tRet (tC (.bl false))) tNext)
    (tSeq (tFor (iList K (tLst (tCons (tTup (tCons (tC (.str "pick")) (tCons (tC (.str "a")) (tCons (tLst (tCons (tVar 8) (tCons (tVar 9) tNil))) tNil)))) (tCons (tTup (tCons (tC (.str "pick")) (tCons (tC (.str "a")) (tCons (tLst (tCons (tVar 9) tNil)) tNil)))) (tCons (tTup (tCons (tC (.str "need")) (tCons (tVar 9) tNil))) tNil))))) (gName 11) (tIfS (tTest (tOp dIsNotB (tCall sp_is_program [] E0 (tCons (tTup (tCons (tC (.int 2)) (tCons (tLst (tCons (tC (.str "a")) tNil)) (tCons (tLst (tCons (tVar 11) tNil)) tNil)))) tNil)) (tC (.bl false)))) (tRet (tC (.bl false))) tNext))
    (tSeq (tIfS (tTest (tOp dIsNotB (tCall sp_is_program [] E0 (tCons (tTup (tCons (tC (.int 2)) (tCons (tLst (tCons (tC (.str "a")) tNil)) (tCons (tLst (tCons (tTup (tCons (tC (.str "give")) (tCons (tVar 8) tNil))) tNil)) tNil)))) tNil)) (tC (.bl true)))) (tRet (tC (.bl false))) tNext)
    (tSeq (tIfS (tTest (tOp dIsNotB (tCall sp_is_program [] E0 (tCons (tTup (tCons (tC (.int 2)) (tCons (tLst (tCons (tC (.str "a")) tNil)) (tCons (tLst (tCons (tTup (tCons (tC (.str "give")) (tCons (tVar 9) tNil))) tNil)) tNil)))) tNil)) (tC (.bl false)))) (tRet (tC (.bl false))) tNext)
    (tSeq (tFor (iRng1 (tCons (tC (.int 90)) tNil)) (gName 2) (tAsg (tTup (tCons (tC (.str "plus")) (tCons (tVar 8) (tCons (tTup (tCons (tC (.str "number")) (tCons (tC (.int 1)) tNil))) tNil)))) (gName 8)))
    (tRet (tOp dIsB (tCall sp_is_program [] E0 (tCons (tTup (tCons (tC (.int 2)) (tCons (tLst (tCons (tC (.str "a")) tNil)) (tCons (tLst (tCons (tTup (tCons (tC (.str "give")) (tCons (tVar 8) tNil))) tNil)) tNil)))) tNil)) (tC (.bl false)))))))))))))))))))
theorem wk_law {P : Program} {w : World} {K : PySem.W.Frag} {mg : Str → Option Value} {base : Heap} {k : Nat} {sp_is_program : Sp} {sp_l_right : Sp} {sp_l_fitting : Sp} {sp_l_changed : Sp} {sp_l_program : Sp} {sp_l_deck : Sp}
    (c_is_program : Cal P w K mg base CX0 k "is_program" ["thing"] sp_is_program)
    (c_l_right : Cal P w K mg base CX0 k "_law_right" ["thing"] sp_l_right)
    (c_l_fitting : Cal P w K mg base CX0 k "_law_fitting" ["deck", "way"] sp_l_fitting)
    (c_l_changed : Cal P w K mg base CX0 k "_law_changed" ["deck", "thing", "deep"] sp_l_changed)
    (c_l_program : Cal P w K mg base CX0 k "_law_program" ["deck"] sp_l_program)
    (c_l_deck : Cal P w K mg base CX0 k "_law_deck" ["script"] sp_l_deck) (m_range : mg "range" = none) (m_int : mg "int" = none)
    (f : Addr) (cdv : Value) (A : Around) (outer : List Env) (s : Shared) (H : Hp) (E : XK) (hr : Room k (A.deeper (envOfC "law" (defScope s_law) s.heap.objs.size f cdv))) :
    PSs (cxOf CX0 P w K mg base ["script", "deck", "k", "program", "turn", "way", "things", "thing", "deep", "five", "good", "bad"] "law" (defScope s_law) f cdv A outer s H E).nox (defBody s_law) (t_law K sp_is_program sp_l_right sp_l_fitting sp_l_changed sp_l_program sp_l_deck) := by
  have hu : (cxOf CX0 P w K mg base ["script", "deck", "k", "program", "turn", "way", "things", "thing", "deep", "five", "good", "bad"] "law" (defScope s_law) f cdv A outer s H E).nox.A.units + 64 < cLine := hr.units
  have hu5 : (cxOf CX0 P w K mg base ["script", "deck", "k", "program", "turn", "way", "things", "thing", "deep", "five", "good", "bad"] "law" (defScope s_law) f cdv A outer s H E).nox.A.units + 65 < cLine := room65 hr
  have hu1 : (cxOf CX0 P w K mg base ["script", "deck", "k", "program", "turn", "way", "things", "thing", "deep", "five", "good", "bad"] "law" (defScope s_law) f cdv A outer s H E).nox.A.units + 1 < cLine := room1 hr
  unfold t_law
  exact (pss_cons (ps_set (i := 1) sc_law.nd rfl (by first | exact Or.inl rfl | exact Or.inr rfl) (pe_c c_l_deck hr (by rfl) (pa_cons (pv 0) pa_nil)))
    (pss_cons (ps_for PassesOwn.never rfl (pi_range1 (by rfl) m_range (pa_cons pe_int pa_nil)) (pg_name (i := 2) sc_law.nd rfl (by first | exact Or.inl rfl | exact Or.inr rfl)) (pss_cons (ps_set (i := 3) sc_law.nd rfl (by first | exact Or.inl rfl | exact Or.inr rfl) (pe_c c_l_program hr (by rfl) (pa_cons (pv 1) pa_nil)))
    (pss_cons (ps_if (pt_cmpR op_isNotB (pe_c c_is_program hr (by rfl) (pa_cons (pv 3) pa_nil)) pe_bl (by rfl)) (pss_one (ps_ret pe_bl)) pss_nil)
    (pss_one (ps_for PassesOwn.never rfl (pi_range1 (by rfl) m_range (pa_cons pe_int pa_nil)) (pg_name (i := 4) sc_law.nd rfl (by first | exact Or.inl rfl | exact Or.inr rfl)) (pss_one (ps_if (pt_not (pt_val (pe_c c_l_right hr (by rfl) (pa_cons (pe_c c_l_changed hr (by rfl) (pa_cons (pv 1) (pa_cons (pv 3) (pa_cons pe_int pa_nil)))) pa_nil)))) (pss_one (ps_ret pe_bl)) pss_nil)))))))
    (pss_cons (ps_for PassesOwn.never rfl (pi_range1 (by rfl) m_range (pa_cons pe_int pa_nil)) (pg_name (i := 5) sc_law.nd rfl (by first | exact Or.inl rfl | exact Or.inr rfl)) (pss_one (ps_for PassesOwn.never rfl (pi_range1 (by rfl) m_range (pa_cons (pe_op o_add pe_int (pe_op o_mul pe_int (pe_callTy o_int (by rfl) m_int (by decide +kernel) (pa_cons (pe_cmpR (o_eq hu) (pv 5) pe_int (nomark _)) pa_nil)))) pa_nil)) (pg_name (i := 4) sc_law.nd rfl (by first | exact Or.inl rfl | exact Or.inr rfl)) (pss_one (ps_if (pt_not (pt_val (pe_c c_l_right hr (by rfl) (pa_cons (pe_c c_l_fitting hr (by rfl) (pa_cons (pv 1) (pa_cons (pv 5) pa_nil))) pa_nil)))) (pss_one (ps_ret pe_bl)) pss_nil)))))
    (pss_cons (ps_set (i := 6) sc_law.nd rfl (by first | exact Or.inl rfl | exact Or.inr rfl) (pe_lst (pa_cons pe_non (pa_cons pe_int (pa_cons pe_str (pa_cons (pe_tup pa_nil) (pa_cons (pe_lst pa_nil) (pa_cons pe_dnewK (pa_cons pe_bl (pa_cons (pe_tup (pa_cons pe_int (pa_cons (pe_lst (pa_cons pe_str pa_nil)) pa_nil))) (pa_cons (pe_tup (pa_cons pe_int (pa_cons (pe_lst (pa_cons pe_str pa_nil)) (pa_cons (pe_lst pa_nil) (pa_cons pe_int pa_nil))))) (pa_cons (pe_lst (pa_cons pe_int (pa_cons (pe_lst (pa_cons pe_str pa_nil)) (pa_cons (pe_lst pa_nil) pa_nil)))) (pa_cons (pe_tup (pa_cons pe_int (pa_cons (pe_lst (pa_cons pe_str pa_nil)) (pa_cons (pe_lst pa_nil) pa_nil)))) pa_nil)))))))))))))
    (pss_cons (ps_set (i := 6) sc_law.nd rfl (by first | exact Or.inl rfl | exact Or.inr rfl) (pe_op o_add (pv 6) (pe_lst (pa_cons (pe_tup (pa_cons pe_int (pa_cons (pe_lst pa_nil) (pa_cons (pe_lst pa_nil) pa_nil)))) (pa_cons (pe_tup (pa_cons pe_int (pa_cons (pe_lst (pa_cons pe_str (pa_cons pe_str pa_nil))) (pa_cons (pe_lst pa_nil) pa_nil)))) (pa_cons (pe_tup (pa_cons pe_int (pa_cons (pe_lst (pa_cons pe_str pa_nil)) (pa_cons (pe_lst pa_nil) pa_nil)))) pa_nil))))))
    (pss_cons (ps_for PassesOwn.never rfl (pi_list (pe_op o_add (pv 6) (pe_lst (pa_cons (pe_tup (pa_cons pe_int (pa_cons (pe_lst (pa_cons pe_str pa_nil)) (pa_cons (pe_lst (pa_cons (pe_tup (pa_cons pe_str (pa_cons pe_str (pa_cons (pe_tup (pa_cons pe_str (pa_cons pe_str pa_nil))) pa_nil)))) pa_nil)) pa_nil)))) pa_nil)))) (pg_name (i := 7) sc_law.nd rfl (by first | exact Or.inl rfl | exact Or.inr rfl)) (pss_one (ps_if (pt_not (pt_val (pe_c c_l_right hr (by rfl) (pa_cons (pv 7) pa_nil)))) (pss_one (ps_ret pe_bl)) pss_nil)))
    (pss_cons (ps_set (i := 8) sc_law.nd rfl (by first | exact Or.inl rfl | exact Or.inr rfl) (pe_tup (pa_cons pe_str (pa_cons pe_str pa_nil))))
    (pss_cons (ps_for PassesOwn.never rfl (pi_range1 (by rfl) m_range (pa_cons pe_int pa_nil)) (pg_name (i := 2) sc_law.nd rfl (by first | exact Or.inl rfl | exact Or.inr rfl)) (pss_one (ps_set (i := 8) sc_law.nd rfl (by first | exact Or.inl rfl | exact Or.inr rfl) (pe_tup (pa_cons pe_str (pa_cons (pv 8) (pa_cons (pe_tup (pa_cons pe_str (pa_cons pe_int pa_nil))) pa_nil)))))))
    (pss_cons (ps_set (i := 9) sc_law.nd rfl (by first | exact Or.inl rfl | exact Or.inr rfl) (pe_tup (pa_cons pe_str (pa_cons (pv 8) (pa_cons (pv 8) pa_nil)))))
    (pss_cons (ps_for PassesOwn.never rfl (pi_list (pe_lst (pa_cons (pe_tup (pa_cons (pe_tup (pa_cons pe_str (pa_cons pe_str (pa_cons (pv 8) pa_nil)))) (pa_cons (pe_tup (pa_cons pe_str (pa_cons pe_str (pa_cons (pv 9) pa_nil)))) pa_nil))) (pa_cons (pe_tup (pa_cons (pe_tup (pa_cons pe_str (pa_cons (pv 8) (pa_cons pe_int pa_nil)))) (pa_cons (pe_tup (pa_cons pe_str (pa_cons (pv 9) (pa_cons pe_int pa_nil)))) pa_nil))) pa_nil)))) (pg_tup rfl (pgs_cons (pg_name (i := 10) sc_law.nd rfl (by first | exact Or.inl rfl | exact Or.inr rfl)) (pgs_cons (pg_name (i := 11) sc_law.nd rfl (by first | exact Or.inl rfl | exact Or.inr rfl)) pgs_nil))) (pss_one (ps_if (PW.pt (pw_or (pt_cmpR op_isNotB (pe_c c_is_program hr (by rfl) (pa_cons (pe_tup (pa_cons pe_int (pa_cons (pe_lst (pa_cons pe_str pa_nil)) (pa_cons (pe_lst (pa_cons (pv 10) pa_nil)) pa_nil)))) pa_nil)) pe_bl (by rfl)) (pw_or1 (pt_cmpR op_isNotB (pe_c c_is_program hr (by rfl) (pa_cons (pe_tup (pa_cons pe_int (pa_cons (pe_lst (pa_cons pe_str pa_nil)) (pa_cons (pe_lst (pa_cons (pv 11) pa_nil)) pa_nil)))) pa_nil)) pe_bl (by rfl))))) (pss_one (ps_ret pe_bl)) pss_nil)))
    (pss_cons (ps_if (pt_cmpR op_isNotB (pe_c c_is_program hr (by rfl) (pa_cons (pe_tup (pa_cons pe_int (pa_cons (pe_lst (pa_cons pe_str pa_nil)) (pa_cons (pe_lst (pa_cons (pe_tup (pa_cons pe_str (pa_cons pe_str (pa_cons (pe_lst (pa_cons (pv 8) (pa_cons (pv 8) pa_nil))) pa_nil)))) pa_nil)) pa_nil)))) pa_nil)) pe_bl (by rfl)) (pss_one (ps_ret pe_bl)) pss_nil)
    (pss_cons (ps_for PassesOwn.never rfl (pi_list (pe_lst (pa_cons (pe_tup (pa_cons pe_str (pa_cons pe_str (pa_cons (pe_lst (pa_cons (pv 8) (pa_cons (pv 9) pa_nil))) pa_nil)))) (pa_cons (pe_tup (pa_cons pe_str (pa_cons pe_str (pa_cons (pe_lst (pa_cons (pv 9) pa_nil)) pa_nil)))) (pa_cons (pe_tup (pa_cons pe_str (pa_cons (pv 9) pa_nil))) pa_nil))))) (pg_name (i := 11) sc_law.nd rfl (by first | exact Or.inl rfl | exact Or.inr rfl)) (pss_one (ps_if (pt_cmpR op_isNotB (pe_c c_is_program hr (by rfl) (pa_cons (pe_tup (pa_cons pe_int (pa_cons (pe_lst (pa_cons pe_str pa_nil)) (pa_cons (pe_lst (pa_cons (pv 11) pa_nil)) pa_nil)))) pa_nil)) pe_bl (by rfl)) (pss_one (ps_ret pe_bl)) pss_nil)))
    (pss_cons (ps_if (pt_cmpR op_isNotB (pe_c c_is_program hr (by rfl) (pa_cons (pe_tup (pa_cons pe_int (pa_cons (pe_lst (pa_cons pe_str pa_nil)) (pa_cons (pe_lst (pa_cons (pe_tup (pa_cons pe_str (pa_cons (pv 8) pa_nil))) pa_nil)) pa_nil)))) pa_nil)) pe_bl (by rfl)) (pss_one (ps_ret pe_bl)) pss_nil)
    (pss_cons (ps_if (pt_cmpR op_isNotB (pe_c c_is_program hr (by rfl) (pa_cons (pe_tup (pa_cons pe_int (pa_cons (pe_lst (pa_cons pe_str pa_nil)) (pa_cons (pe_lst (pa_cons (pe_tup (pa_cons pe_str (pa_cons (pv 9) pa_nil))) pa_nil)) pa_nil)))) pa_nil)) pe_bl (by rfl)) (pss_one (ps_ret pe_bl)) pss_nil)
    (pss_cons (ps_for PassesOwn.never rfl (pi_range1 (by rfl) m_range (pa_cons pe_int pa_nil)) (pg_name (i := 2) sc_law.nd rfl (by first | exact Or.inl rfl | exact Or.inr rfl)) (pss_one (ps_set (i := 8) sc_law.nd rfl (by first | exact Or.inl rfl | exact Or.inr rfl) (pe_tup (pa_cons pe_str (pa_cons (pv 8) (pa_cons (pe_tup (pa_cons pe_str (pa_cons pe_int pa_nil))) pa_nil)))))))
    (pss_one (ps_ret (pe_cmpR op_isB (pe_c c_is_program hr (by rfl) (pa_cons (pe_tup (pa_cons pe_int (pa_cons (pe_lst (pa_cons pe_str pa_nil)) (pa_cons (pe_lst (pa_cons (pe_tup (pa_cons pe_str (pa_cons (pv 8) pa_nil))) pa_nil)) pa_nil)))) pa_nil)) pe_bl (by rfl)))))))))))))))))))
end Sy
end
section
set_option Elab.async false
set_option linter.all false
set_option maxRecDepth 100000
set_option pp.maxSteps 600
open PySem L2 Pk
local macro_rules | `(tactic| walk_at "sh") => `(tactic| first | exact sh_int | exact sh_bool | exact sh_non | exact sh_nil | exact sh_str (by decide +kernel) | assumption)
local macro_rules | `(tactic| walk_at "v1") => `(tactic| first
  | (with_reducible refine wd_int ?_) | (with_reducible refine wd_str ?_) | (with_reducible refine wd_bl ?_) | (with_reducible refine wd_non ?_)
  | ((with_reducible apply wd_var); exact rfl) | ((with_reducible apply wd_varN); exact rfl)
  | ((with_reducible apply wd_ixm); exact rfl)
  | ((with_reducible apply wd_lenM); exact rfl) | ((with_reducible apply wd_lenScript); exact rfl) | ((with_reducible apply wd_ixScript); exact rfl)
  | (with_reducible refine wd_op ?_) | (with_reducible refine wd_un ?_)
  | (with_reducible refine rd_add ?_) | (with_reducible refine rd_sub ?_) | (with_reducible refine rd_lt ?_) | (with_reducible refine rd_le ?_) | (with_reducible refine rd_gt ?_) | (with_reducible refine rd_ge ?_) | (with_reducible refine ru_neg ?_)
  | ((with_reducible refine rd_eq ?ev_h ?ev_k ?_); (case ev_h => walk_at "sh"); (case ev_k => walk_at "sh")) | ((with_reducible refine rd_ne ?ev_h ?ev_k ?_); (case ev_h => walk_at "sh"); (case ev_k => walk_at "sh"))
  | ((with_reducible refine rd_mod ?ev_h ?_); case ev_h => first | decide | assumption | omega) | ((with_reducible refine rd_div ?ev_h ?ev_k ?_); (case ev_h => first | decide | assumption | omega); (case ev_k => first | decide | assumption | omega))
  | ((with_reducible refine rd_pow ?ev_h ?_); case ev_h => exact ⟨by decide, by decide, by decide⟩)
  | ((with_reducible refine rd_mul ?ev_h ?_); case ev_h => first | exact .inr ⟨by decide, by decide⟩ | exact .inl ⟨by decide, by decide⟩ | exact .inl ⟨by omega, by omega⟩ | exact .inr ⟨by omega, by omega⟩)
  | (with_reducible refine rc_lenL ?_) | (with_reducible refine rc_lenT ?_) | (with_reducible refine rc_max2 ?_) | (with_reducible refine rc_min2 ?_) | (with_reducible refine rc_intB ?_) | (with_reducible refine rc_intI ?_) | (with_reducible refine rc_listL ?_) | (with_reducible refine rc_listT ?_) | (with_reducible refine rc_tupleL ?_)
  | ((with_reducible apply rd_ixT); exact rfl)
  | ((with_reducible apply rd_ixL); exact rfl)
  | ((with_reducible refine wd_isi ?ev_h ?_); case ev_h => decide) | ((with_reducible refine wd_isi2 ?ev_h ?ev_k ?_); (case ev_h => decide); (case ev_k => decide))
  | (with_reducible refine wd_tup2 ?_) | (with_reducible refine wd_tup1 ?_) | (with_reducible refine wd_tup3 ?_) | (with_reducible refine wd_tup0 ?_)
  | (with_reducible refine wd_lst0 ?_) | (with_reducible refine wd_lst1 ?_) | (with_reducible refine wd_lst2 ?_) | (with_reducible refine wd_lst3 ?_) | (with_reducible refine wd_lst4 ?_) | (with_reducible refine wd_lst5 ?_) | (with_reducible refine wd_lst6 ?_)
  | ((with_reducible apply wd_callO0); exact rfl) | ((with_reducible apply wd_callO1); exact rfl) | ((with_reducible apply wd_callO2); exact rfl) | ((with_reducible apply wd_callO3); exact rfl)
  | (with_reducible refine wd_call1 ?_) | (with_reducible refine wd_call2 ?_) | (with_reducible refine wd_call3 ?_) | (with_reducible refine wd_call4 ?_) | (with_reducible refine wd_call0 ?_)
  | (with_reducible refine wd_cb1 ?_) | (with_reducible refine wd_cb2 ?_)
  | (with_reducible refine wd_rev ?_) | (with_reducible refine wd_lrg1 ?_) | (with_reducible refine wd_sl ?_) | (with_reducible refine wo_no ?_) | (with_reducible refine wo_some ?_)
  | (with_reducible refine wd_andV ?_) | (with_reducible refine wd_orV ?_) | (with_reducible refine wd_notV ?_) | (with_reducible refine wd_if ?_) | (with_reducible refine wd_chain ?_)
  | (with_reducible refine wt_test ?_) | (with_reducible refine wt_B ?_) | (with_reducible refine wt_not ?_) | (with_reducible refine wt_and ?_) | (with_reducible refine wt_or ?_) | (with_reducible refine wt_yes ?_)
  | (with_reducible refine gj_name ?_) | (with_reducible refine gj_tup rfl ?_) | (with_reducible refine gjs_cons ?_) | (with_reducible refine gjs_nil ?_))
local macro_rules | `(tactic| walk_at "v") => `(tactic| repeat walk_at "v1")
local macro_rules | `(tactic| walk_at "x") => `(tactic| refine ⟨_, rfl, ?_⟩)
local macro_rules | `(tactic| walk_at "vx") => `(tactic| repeat (first | walk_at "v1" | (with_reducible refine ⟨_, rfl, ?_⟩)))
namespace Dk
open PySem PySem.Spec PyProof.Rows L2 Pk Sy
def PoolOk (nss : List (List Int)) : Prop := 1 ≤ nss.length ∧ nss.length ≤ 63 ∧ ∀ ns ∈ nss, ∃ a f c, ns = [a, f, c]
def PoolN (n : Nat) (nss : List (List Int)) : Prop := nss.length = n ∧ ∀ ns ∈ nss, ∃ a f c, ns = [a, f, c]
abbrev Dck (K : Kw) : Own := DeckO K PoolOk
def T_deck (K : Kw) : List Sl → (Sl → Prop) → Prop := fun Γ Q => ∃ v ns, Γ = [.ex v (ScriptO K ns)] ∧ ns.length ≤ 63 ∧ ∀ v', Q (.ex v' (Dck K))
def T_draw (K : Kw) : List Sl → (Sl → Prop) → Prop := fun Γ Q => ∃ v many, Γ = [.ex v (Dck K), .dat false (.int many)] ∧ 0 < many ∧ many < 1000000 ∧ ∀ r, 0 ≤ r → r < many → Q (.dat true (.int r))
section
variable {K : Kw} {m : Bool} {v : V} {Q : PyData → Prop}
theorem use_draw {n : Int} (h0 : 0 < n) (h1 : n < 1000000) (q : ∀ r, 0 ≤ r → r < n → Q (.int r)) : T_draw K [.ex v (Dck K), .dat false (.int n)] (asD m Q) := ⟨v, n, rfl, h0, h1, fun r a b => asD_new (q r a b)⟩
theorem use_drawN {n : Nat} (h0 : 0 < n) (h1 : n < 1000000) (q : ∀ r : Nat, r < n → Q (.int r)) : T_draw K [.ex v (Dck K), .dat false (.int n)] (asD m Q) := use_draw (by omega) (by omega) fun r a b => by
  obtain ⟨k, rfl⟩ := Int.eq_ofNat_of_zero_le a
  exact q k (by omega)
end
section
variable {P : Program} {K : Kw} {mg : Str → Option Value} {base : Heap} {k : Nat}
theorem sj_poolsImp {Γ : List Sl} {P : Po} {ts : TS} (i : Nat) {v : V} {PP PP' : List (List Int) → Prop} (hi : Γ[i]? = some (.ex v (PoolsO K PP))) (hp : ∀ nss, PP nss → PP' nss) (kk : SJ K (Γ.set i (.ex v (PoolsO K PP'))) ts P) : SJ K Γ ts P :=
  sj_retell (s' := .ex v (PoolsO K PP')) hi (fun X F H ov S hK ⟨e, hk, l, qs, ev, ⟨nss, h1, h2, h3, h4, h5⟩, hS⟩ => ⟨e, hk, l, qs, ev, ⟨nss, h1, h2, h3, hp nss h4, h5⟩, hS⟩) kk
theorem ok_deck (D : Def K mg "_law_deck" s_l_deck ["script"]) (m_range : mg "range" = none) (m_max : mg "max" = none) (m_min : mg "min" = none) (m_len : mg "len" = none) (m_int : mg "int" = none) : Cal P K.w K mg base CX0 (k + 1) "_law_deck" ["script"] (spG K (T_deck K)) := by
  refine cal_g D sc_l_deck (fun Γ Qr ⟨v, ns, e, _⟩ => by subst e; exact ⟨rfl, noMl_ex noMl_nil⟩) fun f cdv A outer s H E hr => ⟨_, wk_l_deck m_range m_max m_min m_len m_int f cdv A outer s H E hr, ?_⟩
  rintro Γ Qr ⟨v, ns, rfl, hns, q⟩
  show SJ K [.ex v (ScriptO K ns), .no, .no, .no] (t_l_deck K) _
  unfold t_l_deck
  refine sj_seq (sj_setX (wx_lst0 false fun l => ?_))
  show SJ K [.ex v (ScriptO K ns), .ml false l [], .no, .no] _ _
  refine sj_pools0 1 (l := l) (m := false) (PP := PoolN 0) rfl ⟨rfl, fun _ z => by cases z⟩ ?_
  show SJ K [.ex v (ScriptO K ns), .ex (.ref l) (PoolsO K (PoolN 0)), .no, .no] _ _
  refine sj_cut (fun Γ' => ∃ n s2 s3, 1 ≤ n ∧ n ≤ 63 ∧ Γ' = [.ex v (ScriptO K ns), .ex (.ref l) (PoolsO K (PoolN n)), s2, s3]) ?_ ?_
  · refine sj_for false (wi_rng ?_)
    walk_at "v"
    obtain ⟨n, hn1, hn2, en⟩ : ∃ n : Nat, 1 ≤ n ∧ n ≤ 63 ∧ max 1 (min 63 (ns.length : Int)) = n := ⟨(max 1 (min 63 (ns.length : Int))).toNat, by omega, by omega, by omega⟩
    rw [en]
    refine ⟨n, rfl, ⟨by omega, by omega⟩, fun i Γ' => ∃ s2 s3, Γ' = [.ex v (ScriptO K ns), .ex (.ref l) (PoolsO K (PoolN i)), s2, s3], ⟨.no, .no, rfl⟩, ?_, ?_⟩
    · rintro i d Γ' hd ⟨s2, s3, rfl⟩
      obtain ⟨hin, rfl⟩ := rangeD_of hd
      rw [Int.zero_add]
      have hi : i < 63 := by simp at hin; omega
      refine gj_name ?_
      show SJ K [.ex v (ScriptO K ns), .ex (.ref l) (PoolsO K (PoolN i)), .dat false (.int i), s3] _ _
      refine sj_seq (sj_set false ?_)
      walk_at "v"
      show SJ K [.ex v (ScriptO K ns), .ex (.ref l) (PoolsO K (PoolN i)), .dat false (.int i), .dat false (.int 0)] _ _
      refine sj_cut (fun Γ' => ∃ c : Int, Γ' = [.ex v (ScriptO K ns), .ex (.ref l) (PoolsO K (PoolN i)), .dat false (.int i), .dat false (.int c)]) (sj_if ?_) ?_
      · walk_at "v"
        walk_at "x"
        refine iteD (fun hlt => ?_) (fun hge => ?_)
        · refine sj_set false ?_
          walk_at "v"
          have hk : i < ns.length := by omega
          exact ⟨i, ns[i], rfl, atI_of (n := i) rfl (by simp [hk]), ns[i], rfl⟩
        · exact sj_next ⟨0, rfl⟩
      · rintro _ ⟨c, rfl⟩
        refine sj_appPool (i := 1) (l := l) (PP := PoolN i) (PP' := PoolN (i + 1)) rfl (fun nss h => by rw [h.1]; omega) (wx_lst3 false ?_)
        walk_at "v"
        intro l'
        refine ⟨false, l', [c, if decide ((10 : Int) ^ (18 : Int).toNat ≤ c) then 1 else 0, 31 * (i : Int)], rfl, fun nss h => ⟨by simp [h.1], fun x hx => ?_⟩, ⟨_, _, rfl⟩⟩
        rcases List.mem_append.mp hx with z | z
        · exact h.2 x z
        · simp at z
          exact ⟨_, _, _, z⟩
    · rintro Γ' ⟨s2, s3, rfl⟩
      rw [rangeD_len]
      exact ⟨n, s2, s3, hn1, hn2, by simp⟩
  · rintro _ ⟨n, s2, s3, h1, h2, rfl⟩
    refine sj_poolsImp 1 (v := .ref l) (PP := PoolN n) (PP' := PoolOk) rfl (fun nss h => ⟨by rw [h.1]; exact h1, by rw [h.1]; exact h2, h.2⟩) ?_
    exact sj_retDeck (i := 1) (l := l) rfl fun v' => ⟨keep_ex keep_nil, q v'⟩
theorem mod_ix {n : Int} {len : Nat} (h : 1 ≤ len) : ∃ j : Nat, j < len ∧ n % (len : Int) = (j : Int) := by
  have h0 := Int.emod_nonneg n (show (len : Int) ≠ 0 by omega)
  have h1 := Int.emod_lt_of_pos n (show (0 : Int) < len by omega)
  exact ⟨(n % (len : Int)).toNat, by omega, by omega⟩
theorem ok_draw (D : Def K mg "_law_draw" s_l_draw ["deck", "many"]) (m_len : mg "len" = none) : Cal P K.w K mg base CX0 (k + 1) "_law_draw" ["deck", "many"] (spG K (T_draw K)) := by
  refine cal_g D sc_l_draw (fun Γ Qr ⟨v, many, e, _⟩ => by subst e; exact ⟨rfl, noMl_ex (noMl_dat noMl_nil)⟩) fun f cdv A outer s H E hr => ⟨_, wk_l_draw m_len f cdv A outer s H E hr, ?_⟩
  rintro Γ Qr ⟨v, many, rfl, h0, h1, q⟩
  show SJ K [.ex v (Dck K), .dat false (.int many), .no, .no, .no] (t_l_draw K) _
  unfold t_l_draw
  intro X hK F H σ E Dd hD
  subst hK
  obtain ⟨t, l, qs, n, nss, er, ev, ht, hl, hn, nd, hp, hq, close⟩ := E.deck (i := 0) (v := v) (PP := PoolOk) rfl
  subst er
  obtain ⟨um, em, rm⟩ := E.dat (i := 1) (m := false) (d := .int many) rfl
  cases rm
  obtain ⟨b0, b1, b2, b3, b4, rfl⟩ : ∃ b0 b1 b2 b3 b4, σ = [b0, b1, b2, b3, b4] := by
    have hlen : σ.length = 5 := E.len
    match σ, hlen with
    | [b0, b1, b2, b3, b4], _ => exact ⟨_, _, _, _, _, rfl⟩
  cases ev
  cases em
  obtain ⟨hp1, hp2, hp3⟩ := hp
  obtain ⟨j, hj, ej⟩ := mod_ix (n := n) (len := qs.length) (by omega)
  have hqj : qs[j]? = some qs[j] := by simp [hj]
  obtain ⟨pl, hpl⟩ : ∃ pl, qs[j] = pl := ⟨_, rfl⟩
  rw [hpl] at hqj
  have hnj : nss[j]? = some (nss[j]'(by omega)) := by simp [show j < nss.length by omega]
  obtain ⟨a, g, c, e3⟩ := hp3 _ (List.mem_of_getElem? hnj)
  rw [e3] at hnj
  have hpool : H pl = some (.lst [.int a, .int g, .int c]) := hq j pl _ hqj hnj
  have pmem : pl ∈ qs := List.mem_of_getElem? hqj
  have nd1 : t ≠ l ∧ t ∉ qs := by simpa using (List.nodup_cons.mp nd).1
  have nd2 := (List.nodup_cons.mp (List.nodup_cons.mp nd).2)
  have ptne : pl ≠ t := fun z => nd1.2 (z ▸ pmem)
  -- pool
  refine ⟨_, rfl, .inl ⟨t, [.ref l, .int n], 0, .ref l, rfl, rfl, SqL.of ht, rfl, ?_⟩⟩
  refine ⟨_, rfl, .inl ⟨t, [.ref l, .int n], 1, .int n, rfl, rfl, SqL.of ht, rfl, ?_⟩⟩
  refine ⟨_, rfl, .inl ⟨t, [.ref l, .int n], 0, .ref l, rfl, rfl, SqL.of ht, rfl, ?_⟩⟩
  refine ⟨_, qs.length, rfl, .inl ⟨_, SqL.of hl, by simp⟩, ?_⟩
  refine ⟨n, qs.length, rfl, rfl, by omega, ?_⟩
  refine .inl ⟨l, qs.map V.ref, n % (qs.length : Int), .ref pl, rfl, rfl, SqL.of hl, ?_, ?_⟩
  · rw [ej, atI_ofNat, List.getElem?_map, hqj]; rfl
  -- deck[1]
  refine ⟨_, rfl, .inl ⟨t, [.ref l, .int n], 1, .int n, rfl, rfl, SqL.of ht, rfl, ?_⟩⟩
  refine .inl ⟨n, 1, rfl, rfl, ?_⟩
  refine ⟨_, rfl, t, [.ref l, .int n], 1, 1, rfl, rfl, ht, rfl, ?_⟩
  show tSeq _ _ Dd [some (.ref t), some (.int many), some (.ref pl), b3, b4] (upd H t (.lst [.ref l, .int (n + 1)]))
  obtain ⟨H1, eH1⟩ : ∃ H1, H1 = upd H t (.lst [.ref l, .int (n + 1)]) := ⟨_, rfl⟩
  rw [← eH1]
  have h1t : H1 t = some (.lst [.ref l, .int (n + 1)]) := by rw [eH1, upd_same]
  have h1p : H1 pl = some (.lst [.int a, .int g, .int c]) := by rw [eH1, upd_ne ptne]; exact hpool
  have h1o : ∀ x, x ≠ t → H1 x = H x := fun x hx => by rw [eH1, upd_ne hx]
  -- behind a change of the pool
  have done : ∀ (a' g' c' : Int) (u3 u4 : Option V), En X F (upd H1 pl (.lst [.int a', .int g', .int c'])) [some (.ref t), some (.int many), some (.ref pl), u3, u4] [.ex (.ref t) (Dck X.K), .dat false (.int many), .no, .no, .no] := fun a' g' c' u3 u4 => by
    have E1 := close (upd H1 pl (.lst [.int a', .int g', .int c'])) (n + 1) (nss.set j [a', g', c']) (fun x hx hxq => ?_) ?_ (by simpa using hn) ⟨by simpa using hp1, by simpa using hp2, fun ns hns => ?_⟩ fun i b ns hb hns => ?_
    · exact ((E1.noset (i := 2) rfl (some (.ref pl))).noset (i := 3) rfl u3).noset (i := 4) rfl u4
    · have xp : x ≠ pl := fun z => hxq (by rw [z]; exact pmem)
      rw [upd_ne xp, h1o x hx]
    · rw [upd_ne (Ne.symm ptne), h1t]
    · rcases List.mem_or_eq_of_mem_set hns with z | z
      · exact hp3 ns z
      · exact ⟨_, _, _, z⟩
    · by_cases hij : i = j
      · subst hij
        rw [hb] at hqj
        cases hqj
        rw [List.getElem?_set_self (by omega)] at hns
        cases hns
        rw [upd_same]
        rfl
      · rw [List.getElem?_set_ne (Ne.symm hij)] at hns
        have bne : b ≠ pl := fun z => by
          subst z
          have hi : i < qs.length := (List.getElem?_eq_some_iff.mp hb).1
          exact hij ((List.getElem?_inj hi nd2.2).mp (hb.trans hqj.symm))
        have bt : b ≠ t := fun z => nd1.2 (by rw [← z]; exact List.mem_of_getElem? hb)
        rw [upd_ne bne, h1o b bt]
        exact hq i b ns hb hns
  have fin : ∀ (a' g' c' : Int) (u3 u4 : Option V) (r : Int), 0 ≤ r → r < many → Dd.rt (.int r) (upd H1 pl (.lst [.int a', .int g', .int c'])) := fun a' g' c' u3 u4 r r0 r1 =>
    hD.rt F _ _ _ (.int r) (.dat true (.int r)) ((done a' g' c' u3 u4).pushD (m := true) (.int r)) ⟨keep_ex (keep_dat keep_nil), q r r0 r1⟩
  have emod : ∀ z : Int, 0 ≤ z % many ∧ z % many < many := fun z => ⟨Int.emod_nonneg _ (by omega), Int.emod_lt_of_pos _ h0⟩
  have rest : tSeq (tAsg (tOp (dAdd X.K) (tOp (rIx X.K) (tVar 2) (tC (.int 2))) (tC (.int 1))) (gSub (tVar 2) (tC (.int 2)) rSetL)) (tSeq (tAsg (tOp dMod (tOp (dAdd X.K) (tOp dMod (tOp (rIx X.K) (tVar 2) (tC (.int 0))) (tC (.int 99999999977))) (tOp dMul (tC (.int 700001)) (tOp (rIx X.K) (tVar 2) (tC (.int 2))))) (tC (.int 99999999947))) (gName 4))
    (tSeq (tAsg (tOp dMod (tOp dMul (tVar 4) (tVar 4)) (tC (.int 99999999821))) (gName 4))
    (tSeq (tAsg (tOp dMod (tOp dMul (tVar 4) (tOp (dAdd X.K) (tVar 4) (tC (.int 19)))) (tC (.int 9999999967))) (gName 4))
    (tRet (tOp dMod (tOp dDiv (tVar 4) (tC (.int 13))) (tVar 1)))))) Dd [some (.ref t), some (.int many), some (.ref pl), b3, b4] H1 := by
    refine ⟨_, rfl, .inl ⟨pl, _, 2, .int c, rfl, rfl, SqL.of h1p, rfl, ?_⟩⟩
    refine .inl ⟨c, 1, rfl, rfl, ?_⟩
    refine ⟨_, rfl, pl, _, 2, 2, rfl, rfl, h1p, rfl, ?_⟩
    show tSeq _ _ Dd [some (.ref t), some (.int many), some (.ref pl), b3, b4] (upd H1 pl (.lst [.int a, .int g, .int (c + 1)]))
    obtain ⟨H2, eH2⟩ : ∃ H2, H2 = upd H1 pl (.lst [.int a, .int g, .int (c + 1)]) := ⟨_, rfl⟩
    have h2p : H2 pl = some (.lst [.int a, .int g, .int (c + 1)]) := by rw [eH2, upd_same]
    rw [← eH2]
    refine ⟨_, rfl, .inl ⟨pl, _, 0, .int a, rfl, rfl, SqL.of h2p, rfl, ?_⟩⟩
    refine ⟨a, 99999999977, rfl, rfl, (show (0 : Int) < 99999999977 by decide), ?_⟩
    refine ⟨_, rfl, .inl ⟨pl, _, 2, .int (c + 1), rfl, rfl, SqL.of h2p, rfl, ?_⟩⟩
    refine .inl ⟨700001, c + 1, rfl, rfl, .inl ⟨by decide, by decide⟩, ?_⟩
    refine .inl ⟨_, _, rfl, rfl, ?_⟩
    refine ⟨_, 99999999947, rfl, rfl, (show (0 : Int) < 99999999947 by decide), ?_⟩
    show tSeq _ _ Dd [some (.ref t), some (.int many), some (.ref pl), b3, some (.int ((a % 99999999977 + 700001 * (c + 1)) % 99999999947))] H2
    generalize hy : (a % 99999999977 + 700001 * (c + 1)) % 99999999947 = y
    have y0 : 0 ≤ y := by omega
    have y1 : y < 99999999947 := by omega
    show tSeq _ _ Dd [some (.ref t), some (.int many), some (.ref pl), b3, some (.int y)] H2
    refine ⟨_, rfl, _, rfl, .inl ⟨y, y, rfl, rfl, .inl ⟨by omega, by omega⟩, ?_⟩⟩
    refine ⟨_, 99999999821, rfl, rfl, (show (0 : Int) < 99999999821 by decide), ?_⟩
    show tSeq _ _ Dd [some (.ref t), some (.int many), some (.ref pl), b3, some (.int (y * y % 99999999821))] H2
    generalize hz : y * y % 99999999821 = z
    have z0 : 0 ≤ z := by omega
    have z1 : z < 99999999821 := by omega
    show tSeq _ _ Dd [some (.ref t), some (.int many), some (.ref pl), b3, some (.int z)] H2
    refine ⟨_, rfl, _, rfl, .inl ⟨z, 19, rfl, rfl, ?_⟩⟩
    refine .inl ⟨z, z + 19, rfl, rfl, .inl ⟨by omega, by omega⟩, ?_⟩
    refine ⟨_, 9999999967, rfl, rfl, (show (0 : Int) < 9999999967 by decide), ?_⟩
    show tRet (tOp dMod (tOp dDiv (tVar 4) (tC (.int 13))) (tVar 1)) Dd [some (.ref t), some (.int many), some (.ref pl), b3, some (.int (z * (z + 19) % 9999999967))] H2
    generalize z * (z + 19) % 9999999967 = u
    show tRet (tOp dMod (tOp dDiv (tVar 4) (tC (.int 13))) (tVar 1)) Dd [some (.ref t), some (.int many), some (.ref pl), b3, some (.int u)] H2
    refine ⟨_, rfl, u, 13, rfl, rfl, ⟨by decide, by decide⟩, ?_⟩
    refine ⟨_, rfl, u / 13, many, rfl, rfl, h0, ?_⟩
    rw [eH2]
    exact fin a g (c + 1) none none _ (emod _).1 (emod _).2
  -- the test
  refine ⟨_, rfl, .inl ⟨pl, _, 1, .int g, rfl, rfl, SqL.of h1p, rfl, ?_⟩⟩
  refine ⟨.int g, .int 1, .int g, .int 1, sh_int, sh_int, ?_⟩
  refine ⟨_, rfl, iteB (fun e1 => ?_) (fun e1 => iteF' rfl rest)⟩
  refine ⟨_, rfl, .inl ⟨pl, _, 0, .int a, rfl, rfl, SqL.of h1p, rfl, ?_⟩⟩
  refine ⟨a, 0, rfl, rfl, _, rfl, iteD (fun hpos => ?_) (fun _ => rest)⟩
  refine ⟨_, rfl, .inl ⟨pl, _, 0, .int a, rfl, rfl, SqL.of h1p, rfl, ?_⟩⟩
  refine ⟨_, rfl, a, many, rfl, rfl, h0, ?_⟩
  show tSeq _ _ { Dd with nx := _ } [some (.ref t), some (.int many), some (.ref pl), some (.int (a % many)), b4] H1
  refine ⟨_, rfl, .inl ⟨pl, _, 0, .int a, rfl, rfl, SqL.of h1p, rfl, ?_⟩⟩
  refine ⟨_, rfl, a, many, rfl, rfl, ⟨h0, by omega⟩, ?_⟩
  refine ⟨_, rfl, pl, _, 0, 0, rfl, rfl, h1p, rfl, ?_⟩
  refine ⟨_, rfl, ?_⟩
  exact fin (a / many) g c none none _ (emod _).1 (emod _).2
end
end Dk
end
section
set_option Elab.async false
set_option linter.all false
set_option maxRecDepth 100000
set_option pp.maxSteps 600
open PySem L2 Pk
local macro_rules | `(tactic| walk_at "sh") => `(tactic| first | exact sh_int | exact sh_bool | exact sh_non | exact sh_nil | exact sh_str (by decide +kernel) | assumption)
local macro_rules | `(tactic| walk_at "v1") => `(tactic| first
  | (with_reducible refine wd_int ?_) | (with_reducible refine wd_str ?_) | (with_reducible refine wd_bl ?_) | (with_reducible refine wd_non ?_)
  | ((with_reducible apply wd_var); exact rfl) | ((with_reducible apply wd_varN); exact rfl)
  | ((with_reducible apply wd_ixm); exact rfl)
  | ((with_reducible apply wd_lenM); exact rfl) | ((with_reducible apply wd_lenScript); exact rfl) | ((with_reducible apply wd_ixScript); exact rfl)
  | (with_reducible refine wd_op ?_) | (with_reducible refine wd_un ?_)
  | (with_reducible refine rd_add ?_) | (with_reducible refine rd_sub ?_) | (with_reducible refine rd_lt ?_) | (with_reducible refine rd_le ?_) | (with_reducible refine rd_gt ?_) | (with_reducible refine rd_ge ?_) | (with_reducible refine ru_neg ?_)
  | ((with_reducible refine rd_eq ?ev_h ?ev_k ?_); (case ev_h => walk_at "sh"); (case ev_k => walk_at "sh")) | ((with_reducible refine rd_ne ?ev_h ?ev_k ?_); (case ev_h => walk_at "sh"); (case ev_k => walk_at "sh"))
  | ((with_reducible refine rd_mod ?ev_h ?_); case ev_h => first | decide | assumption | omega) | ((with_reducible refine rd_div ?ev_h ?ev_k ?_); (case ev_h => first | decide | assumption | omega); (case ev_k => first | decide | assumption | omega))
  | ((with_reducible refine rd_pow ?ev_h ?_); case ev_h => exact ⟨by decide, by decide, by decide⟩)
  | ((with_reducible refine rd_mul ?ev_h ?_); case ev_h => first | exact .inr ⟨by decide, by decide⟩ | exact .inl ⟨by decide, by decide⟩ | exact .inl ⟨by omega, by omega⟩ | exact .inr ⟨by omega, by omega⟩)
  | (with_reducible refine rc_lenL ?_) | (with_reducible refine rc_lenT ?_) | (with_reducible refine rc_max2 ?_) | (with_reducible refine rc_min2 ?_) | (with_reducible refine rc_intB ?_) | (with_reducible refine rc_intI ?_) | (with_reducible refine rc_listL ?_) | (with_reducible refine rc_listT ?_) | (with_reducible refine rc_tupleL ?_)
  | ((with_reducible apply rd_ixT); exact rfl)
  | ((with_reducible apply rd_ixL); exact rfl)
  | ((with_reducible refine wd_isi ?ev_h ?_); case ev_h => decide) | ((with_reducible refine wd_isi2 ?ev_h ?ev_k ?_); (case ev_h => decide); (case ev_k => decide))
  | (with_reducible refine wd_tup2 ?_) | (with_reducible refine wd_tup1 ?_) | (with_reducible refine wd_tup3 ?_) | (with_reducible refine wd_tup0 ?_)
  | (with_reducible refine wd_lst0 ?_) | (with_reducible refine wd_lst1 ?_) | (with_reducible refine wd_lst2 ?_) | (with_reducible refine wd_lst3 ?_) | (with_reducible refine wd_lst4 ?_) | (with_reducible refine wd_lst5 ?_) | (with_reducible refine wd_lst6 ?_)
  | ((with_reducible apply wd_callO0); exact rfl) | ((with_reducible apply wd_callO1); exact rfl) | ((with_reducible apply wd_callO2); exact rfl) | ((with_reducible apply wd_callO3); exact rfl)
  | (with_reducible refine wd_call1 ?_) | (with_reducible refine wd_call2 ?_) | (with_reducible refine wd_call3 ?_) | (with_reducible refine wd_call4 ?_) | (with_reducible refine wd_call0 ?_)
  | (with_reducible refine wd_cb1 ?_) | (with_reducible refine wd_cb2 ?_)
  | (with_reducible refine wd_rev ?_) | (with_reducible refine wd_lrg1 ?_) | (with_reducible refine wd_sl ?_) | (with_reducible refine wo_no ?_) | (with_reducible refine wo_some ?_)
  | (with_reducible refine wd_andV ?_) | (with_reducible refine wd_orV ?_) | (with_reducible refine wd_notV ?_) | (with_reducible refine wd_if ?_) | (with_reducible refine wd_chain ?_)
  | (with_reducible refine wt_test ?_) | (with_reducible refine wt_B ?_) | (with_reducible refine wt_not ?_) | (with_reducible refine wt_and ?_) | (with_reducible refine wt_or ?_) | (with_reducible refine wt_yes ?_)
  | (with_reducible refine gj_name ?_) | (with_reducible refine gj_tup rfl ?_) | (with_reducible refine gjs_cons ?_) | (with_reducible refine gjs_nil ?_))
local macro_rules | `(tactic| walk_at "v") => `(tactic| repeat walk_at "v1")
local macro_rules | `(tactic| walk_at "x") => `(tactic| refine ⟨_, rfl, ?_⟩)
local macro_rules | `(tactic| walk_at "vx") => `(tactic| repeat (first | walk_at "v1" | (with_reducible refine ⟨_, rfl, ?_⟩)))
namespace Dk
open PySem PySem.Spec PyProof.Rows L2 Pk Sy
def T_names (K : Kw) : List Sl → (Sl → Prop) → Prop := fun Γ Q => ∃ v, Γ = [.ex v (Dck K)] ∧ ∀ l bs, BsOk bs → Q (.ml false l (bs.map PyData.str))
structure MB (m : Nat) (bs : List Str) : Prop where
  m2 : 2 ≤ m
  m16 : m ≤ 16
  bs : BsOk bs
def T_thing (n : Nat) (K : Kw) : List Sl → (Sl → Prop) → Prop := fun Γ Q => ∃ v, ∃ m : Nat, ∃ bs, ∃ deep : Nat, Γ = [.ex v (Dck K), .dat false (.int m), .dat false (bsD bs), .dat false (.int deep)] ∧ MB m bs ∧ 1 ≤ deep ∧ deep ≤ n ∧ ∀ t : Th, t.Ok m bs deep → Q (.dat true t.d)
def T_row (K : Kw) : List Sl → (Sl → Prop) → Prop := fun Γ Q => ∃ v, ∃ m : Nat, ∃ bs, Γ = [.ex v (Dck K), .dat false (.int m), .dat false (bsD bs)] ∧ MB m bs ∧ ∀ r : Rw, r.Ok m bs → Q (.dat false r.d)
abbrev rwsD (rows : List Rw) : PyData := .list (rows.map Rw.d)
def T_bounded (K : Kw) : List Sl → (Sl → Prop) → Prop := fun Γ Q => ∃ m : Nat, ∃ bs, ∃ rows : List Rw, Γ = [.dat false (.int m), .dat false (bsD bs), .dat false (rwsD rows)] ∧ MB m bs ∧ rows.length ≤ 30 ∧ (∀ r ∈ rows, r.Ok m bs) ∧ ∀ l (rows' : List Rw), rows'.length = rows.length → (∀ r ∈ rows', r.Ok m bs) → Q (.ml false l (rows'.map Rw.d))
def T_program (K : Kw) : List Sl → (Sl → Prop) → Prop := fun Γ Q => ∃ v, Γ = [.ex v (Dck K)] ∧ ∀ p : Pg, p.Ok → Q (.dat false p.d)
section
variable {K : Kw} {m : Bool} {v : V} {Q : PyData → Prop} {Γ : List Sl}
theorem use_thing {N mm deep : Nat} {bs : List Str} (h : MB mm bs) (h1 : 1 ≤ deep) (hn : deep ≤ N) (q : ∀ t : Th, t.Ok mm bs deep → Q t.d) : T_thing N K [.ex v (Dck K), .dat false (.int mm), .dat false (bsD bs), .dat false (.int deep)] (asD m Q) := ⟨v, mm, bs, deep, rfl, h, h1, hn, fun t ht => asD_new (q t ht)⟩
/-- a box of the boxes, at a drawn place -/
theorem rd_box {bs : List Str} {r : Nat} (h : r < bs.length) (q : ∀ x ∈ bs, Q (.str x)) : RD K m Γ (rIx K) (bsD bs) (.int r) Q := rd_selN r rfl (d := .str bs[r]) (by simp [h]) (q _ (List.getElem_mem h))
theorem rd_letter {r : Nat} (h : r < 26) (q : ltr (97 + r) → Q (.str (one (97 + r)))) : RD K m Γ (rIx K) (.str LET) (.int r) Q := rd_ixS (c := 97 + r) (by rw [let_len]; decide) (by rw [atI_ofNat]; exact let_at h) (q ⟨by omega, by omega⟩)
end
theorem list_of {α : Type} {f : α → PyData} {Pr : α → Prop} : ∀ {acc : List PyData}, (∀ y ∈ acc, ∃ t, Pr t ∧ y = f t) → ∃ ts : List α, acc = ts.map f ∧ ∀ t ∈ ts, Pr t
  | [], _ => ⟨[], rfl, fun _ z => by cases z⟩
  | y :: acc, h => by
    obtain ⟨t, ht, e⟩ := h y List.mem_cons_self
    obtain ⟨ts, e2, h2⟩ := list_of (acc := acc) fun z hz => h z (List.mem_cons_of_mem _ hz)
    refine ⟨t :: ts, by rw [List.map_cons, e, e2], fun x hx => ?_⟩
    rcases List.mem_cons.mp hx with z | z
    · rw [z]; exact ht
    · exact h2 x z
theorem names_any {bs : List Str} {x : Str} : ((bs.map PyData.str).any fun z => PyData.eqv z (.str x)) = decide (x ∈ bs) := by
  induction bs with
  | nil => simp
  | cons b bs ih =>
    rw [List.map_cons, List.any_cons, ih, eqv_str]
    by_cases h : b = x
    · simp [h]
    · have : ¬ x = b := fun z => h z.symm
      simp [h, this]
section
variable {P : Program} {K : Kw} {mg : Str → Option Value} {base : Heap} {k : Nat}
theorem ok_names (D : Def K mg "_law_names" s_l_names ["deck"]) (c_draw : Cal P K.w K mg base CX0 k "_law_draw" ["deck", "many"] (spG K (T_draw K))) (m_range : mg "range" = none) : Cal P K.w K mg base CX0 (k + 1) "_law_names" ["deck"] (spG K (T_names K)) := by
  refine cal_g D sc_l_names (fun Γ Qr ⟨v, e, _⟩ => by subst e; exact ⟨rfl, noMl_ex noMl_nil⟩) fun f cdv A outer s H E hr => ⟨_, wk_l_names c_draw m_range f cdv A outer s H E hr, ?_⟩
  rintro Γ Qr ⟨v, rfl, q⟩
  show SJ K [.ex v (Dck K), .no, .no, .no, .no, .no, .no] (t_l_names K _) _
  unfold t_l_names
  refine sj_seq (sj_set false ?_)
  walk_at "v"
  refine sj_seq (sj_setX (wx_lst0 false fun l => ?_))
  show SJ K [.ex v (Dck K), .dat false (.str LET), .ml false l (([] : List Str).map PyData.str), .no, .no, .no, .no] _ _
  refine sj_cut (fun Γ' => ∃ bs s1 s3 s4 s5 s6, BsOk bs ∧ Γ' = [.ex v (Dck K), s1, .ml false l (bs.map PyData.str), s3, s4, s5, s6]) ?_ ?_
  · refine sj_for false (wi_rng ?_)
    walk_at "v"
    refine use_drawN (n := 5) (by decide) (by decide) fun r hr => ?_
    walk_at "v"
    refine ⟨1 + (r : Int), rfl, ⟨by omega, by omega⟩, fun i Γ' => ∃ bs s3 s4 s6, bs.length = i ∧ bs.Nodup ∧ (∀ x ∈ bs, NameOk x) ∧ Γ' = [.ex v (Dck K), .dat false (.str LET), .ml false l (bs.map PyData.str), s3, s4, .no, s6], ⟨[], .no, .no, .no, rfl, List.nodup_nil, fun _ z => (by cases z), rfl⟩, ?_, ?_⟩
    · rintro i d Γ' hd ⟨bs, s3, s4, s6, hlen, hnd, hnm, rfl⟩
      obtain ⟨hin, rfl⟩ := rangeD_of hd
      subst hlen
      have hb4 : bs.length ≤ 4 := by omega
      refine gj_name ?_
      rw [Int.zero_add]
      show SJ K [.ex v (Dck K), .dat false (.str LET), .ml false l (bs.map PyData.str), .dat false (.int bs.length), s4, .no, s6] _ _
      -- name
      refine sj_seq (sj_set false (wd_join (wd_lcF (mi := false) (fun _ _ y => ∃ c, ltr c ∧ y = .str (one c)) (wipeOk_no rfl wipeOk_nil) gwn (wi_rng ?_))))
      walk_at "v"
      refine use_drawN (n := 8) (by decide) (by decide) fun r8 hr8 => ?_
      walk_at "v"
      refine ⟨_, rfl, ⟨by omega, by omega⟩, by rw [rangeD_len]; omega, fun j d hj => ?_, fun acc hal hac => ?_⟩
      · refine gj_name ⟨rfl, ?_⟩
        walk_at "v"
        refine use_drawN (n := 26) (by decide) (by decide) fun r26 hr26 => ?_
        exact rd_letter hr26 fun hl => ⟨_, hl, rfl⟩
      rw [rangeD_len] at hal
      have hcs : ∃ cs : List Nat, acc = cs.map (fun c => PyData.str (one c)) ∧ ∀ c ∈ cs, ltr c := by
        have hall : ∀ y ∈ acc, ∃ c, ltr c ∧ y = .str (one c) := fun y hy => by
          obtain ⟨j, hj⟩ := List.getElem?_of_mem hy
          have hjl : j < acc.length := (List.getElem?_eq_some_iff.mp hj).1
          exact hac j _ y (rangeD_get (by omega)) hj
        clear hac hal
        induction acc with
        | nil => exact ⟨[], rfl, fun _ z => by cases z⟩
        | cons y acc ih =>
          obtain ⟨c, hc, e⟩ := hall y List.mem_cons_self
          obtain ⟨cs, e2, h2⟩ := ih fun z hz => hall z (List.mem_cons_of_mem _ hz)
          refine ⟨c :: cs, by rw [List.map_cons, e, e2], fun x hx => ?_⟩
          rcases List.mem_cons.mp hx with z | z
          · rw [z]; exact hc
          · exact h2 x z
      obtain ⟨cs, rfl, hcl⟩ := hcs
      rw [List.length_map] at hal
      have hz : ((cs.map one).map (·.length)).sum + (cs.map one).length * ("" : Str).length ≤ 16777216 := by
        rw [join_sum]
        have : ("" : Str).length = 0 := by decide +kernel
        rw [this]
        omega
      refine ⟨cs.map one, by simp, hz, ?_⟩
      have hnm0 : NameOk (Txt.join "" (cs.map one)) := join_name (by omega) (by omega) hcl
      obtain ⟨nm0, en0⟩ : ∃ nm0, Txt.join "" (cs.map one) = nm0 := ⟨_, rfl⟩
      rw [en0] at hnm0 ⊢
      show SJ K [.ex v (Dck K), .dat false (.str LET), .ml false l (bs.map PyData.str), .dat false (.int bs.length), .dat false (.str nm0), .no, s6] _ _
      refine sj_cut (fun Γ' => ∃ nm, NameOk nm ∧ Γ' = [.ex v (Dck K), .dat false (.str LET), .ml false l (bs.map PyData.str), .dat false (.int bs.length), .dat false (.str nm), .no, s6]) (sj_if (wt_thaw ?_)) ?_
      · show WT K [.ex v (Dck K), .dat false (.str LET), .dat false (bsD bs), .dat false (.int bs.length), .dat false (.str nm0), .no, s6.frz] _ _
        walk_at "v"
        refine rd_ne (bs_sh hnm) sh_nil ⟨_, rfl, ?_⟩
        rw [eqv_nil]
        refine iteB (fun hne => ?_) (fun _ => iteF' rfl (sj_next ⟨nm0, hnm0, rfl⟩))
        walk_at "v"
        refine use_drawN (n := 2) (by decide) (by decide) fun r2 hr2 => ?_
        walk_at "v"
        refine ⟨_, rfl, ?_⟩
        rw [eqv_int]
        refine iteD (fun h0 => ?_) (fun _ => sj_next ⟨nm0, hnm0, rfl⟩)
        obtain ⟨bs', x, rfl⟩ : ∃ bs' x, bs = bs' ++ [x] := by
          have : bs ≠ [] := fun z => by rw [z] at hne; simp at hne
          exact ⟨bs.dropLast, bs.getLast this, (List.dropLast_concat_getLast this).symm⟩
        have hx : NameOk x := hnm x (by simp)
        refine sj_set false ?_
        refine wd_op (wd_slS ?_)
        refine wd_ixm (m := false) (l := l) (ds := (bs' ++ [x]).map PyData.str) rfl ?_
        walk_at "v"
        refine ⟨-1, .str x, rfl, by rw [List.map_append]; exact atI_lastD, x, rfl, by have := hx.2.1; omega, ?_⟩
        walk_at "v"
        refine use_drawN (n := 7) (by decide) (by decide) fun r7 hr7 => ?_
        walk_at "v"
        refine ⟨_, rfl, ?_⟩
        walk_at "v"
        refine use_drawN (n := 26) (by decide) (by decide) fun r26 hr26 => ?_
        refine rd_letter hr26 fun hl => ?_
        have ec : (1 + (r7 : Int)) = ((1 + r7 : Nat) : Int) := by omega
        rw [ec]
        have hn := cut_name (n := 1 + r7) hx (by omega) (by omega) hl
        refine rd_addS ?_ ⟨_, hn, rfl⟩
        have h8 := hn.2.1
        have : (cutS x none (some ((1 + r7 : Nat) : Int)) ++ one (97 + r26)).length = (cutS x none (some ((1 + r7 : Nat) : Int))).length + (one (97 + r26)).length := by
          rw [str_len, app_cps, List.length_append, ← str_len, ← str_len]
        omega
      rintro _ ⟨nm1, hnm1, rfl⟩
      refine sj_cut (fun Γ' => ∃ nm, NameOk nm ∧ Γ' = [.ex v (Dck K), .dat false (.str LET), .ml false l (bs.map PyData.str), .dat false (.int bs.length), .dat false (.str nm), .no, s6]) (sj_if ?_) ?_
      · walk_at "v"
        refine use_drawN (n := 4) (by decide) (by decide) fun r4 hr4 => ?_
        walk_at "v"
        refine ⟨_, rfl, ?_⟩
        rw [eqv_int]
        refine iteD (fun h0 => ?_) (fun _ => sj_next ⟨nm1, hnm1, rfl⟩)
        refine sj_set false ?_
        walk_at "v"
        refine use_draw (n := 6) (by decide) (by decide) fun r6 a6 b6 => ?_
        refine rd_sel a6 b6 fun d hd => ?_
        have tab : ∀ y ∈ [("a" : Str), "number", "box", "pick", "nothing", "set"], 1 ≤ y.length ∧ y.length ≤ 8 ∧ y.cps.toList.all (fun c => decide (97 ≤ c) && decide (c ≤ 122)) = true := by decide +kernel
        have nmk : ∀ y ∈ [("a" : Str), "number", "box", "pick", "nothing", "set"], NameOk y := fun y hy => by
          obtain ⟨t1, t2, t3⟩ := tab y hy
          refine ⟨t1, t2, fun c hc => ?_⟩
          have := List.all_eq_true.mp t3 c hc
          simp at this
          exact this
        simp only [List.mem_cons, List.not_mem_nil, or_false] at hd
        rcases hd with z | z | z | z | z | z
        all_goals (rw [z]; exact ⟨_, nmk _ (by simp), rfl⟩)
      rintro _ ⟨nm2, hnm2, rfl⟩
      refine sj_seq (sj_set false ?_)
      walk_at "v"
      show SJ K [.ex v (Dck K), .dat false (.str LET), .ml false l (bs.map PyData.str), .dat false (.int bs.length), .dat false (.str nm2), .no, .dat false (.int 0)] _ _
      refine sj_cut (fun Γ' => ∃ nm s6, NameOk nm ∧ nm ∉ bs ∧ Γ' = [.ex v (Dck K), .dat false (.str LET), .ml false l (bs.map PyData.str), .dat false (.int bs.length), .dat false (.str nm), .no, s6]) ?_ ?_
      · refine sj_while (fun n Γ' => ∃ nm t, NameOk nm ∧ n + t = bs.length + 1 ∧ (∀ i, i + 1 < t → rep8 i ∈ bs) ∧ (0 < t → nm = rep8 (t - 1)) ∧ Γ' = [.ex v (Dck K), .dat false (.str LET), .ml false l (bs.map PyData.str), .dat false (.int bs.length), .dat false (.str nm), .no, .dat false (.int (t : Nat))]) (bs.length + 1) ⟨nm2, 0, hnm2, rfl, fun i h => by omega, fun h => by omega, rfl⟩ ?_
        rintro n Γ' ⟨nm, t, hn, hnt, hrep, hlast, rfl⟩
        refine wt_thaw ?_
        show WT K [.ex v (Dck K), .dat false (.str LET), .dat false (bsD bs), .dat false (.int bs.length), .dat false (.str nm), .no, .dat false (.int (t : Nat))] _ _
        walk_at "v"
        refine rd_in (sh_str hn.strOk) (bs_sh hnm) ⟨_, rfl, ?_⟩
        rw [names_any]
        refine iteD (fun hmem => ?_) (fun hno => ⟨nm, _, hn, hno, rfl⟩)
        have hrep' : ∀ i, i < t → rep8 i ∈ bs := fun i hi => by
          by_cases h : i + 1 < t
          · exact hrep i h
          · have : i = t - 1 := by omega
            rw [this, ← hlast (by omega)]
            exact hmem
        have ht := rep_le hrep'
        refine sj_seq (sj_set false ?_)
        walk_at "v"
        refine rd_letter (r := t) (by omega) fun hl => ?_
        walk_at "v"
        refine rd_mulS (mulOk8 _) ?_
        rw [mul8]
        show SJ K [.ex v (Dck K), .dat false (.str LET), .ml false l (bs.map PyData.str), .dat false (.int bs.length), .dat false (.str (rep8 t)), .no, .dat false (.int (t : Nat))] _ _
        refine sj_set false ?_
        walk_at "v"
        exact ⟨n - 1, by omega, rep8 t, t + 1, rep8_name (by omega), by omega, fun i h => hrep' i (by omega), fun _ => rfl, rfl⟩
      rintro _ ⟨nm, s6', hn, hno, rfl⟩
      refine sj_app (i := 2) (l := l) (ds := bs.map PyData.str) rfl (by rw [List.length_map]; omega) ?_
      walk_at "v"
      refine ⟨bs ++ [nm], .dat false (.int bs.length), .dat false (.str nm), s6', by simp, ?_, fun x hx => ?_, by simp⟩
      · refine List.nodup_append.mpr ⟨hnd, by simp, fun a ha b hb => ?_⟩
        simp at hb
        rw [hb]
        exact fun z => hno (z ▸ ha)
      · rcases List.mem_append.mp hx with z | z
        · exact hnm x z
        · simp at z; rw [z]; exact hn
    · rintro Γ' ⟨bs, s3, s4, s6, hlen, hnd, hnm, rfl⟩
      rw [rangeD_len] at hlen
      exact ⟨bs, _, s3, s4, _, s6, ⟨by omega, by omega, hnd, hnm⟩, rfl⟩
  · rintro _ ⟨bs, s1, s3, s4, s5, s6, hb, rfl⟩
    exact sj_retM (i := 2) (l := l) (ds := bs.map PyData.str) rfl ⟨keep_ex keep_nil, q l bs hb⟩
end
end Dk
end
section
set_option Elab.async false
set_option linter.all false
set_option maxRecDepth 100000
set_option pp.maxSteps 600
open PySem L2 Pk
local macro_rules | `(tactic| walk_at "sh") => `(tactic| first | exact sh_int | exact sh_bool | exact sh_non | exact sh_nil | exact sh_str (by decide +kernel) | assumption)
local macro_rules | `(tactic| walk_at "v1") => `(tactic| first
  | (with_reducible refine wd_int ?_) | (with_reducible refine wd_str ?_) | (with_reducible refine wd_bl ?_) | (with_reducible refine wd_non ?_)
  | ((with_reducible apply wd_var); exact rfl) | ((with_reducible apply wd_varN); exact rfl)
  | ((with_reducible apply wd_ixm); exact rfl)
  | ((with_reducible apply wd_lenM); exact rfl) | ((with_reducible apply wd_lenScript); exact rfl) | ((with_reducible apply wd_ixScript); exact rfl)
  | (with_reducible refine wd_op ?_) | (with_reducible refine wd_un ?_)
  | (with_reducible refine rd_add ?_) | (with_reducible refine rd_sub ?_) | (with_reducible refine rd_lt ?_) | (with_reducible refine rd_le ?_) | (with_reducible refine rd_gt ?_) | (with_reducible refine rd_ge ?_) | (with_reducible refine ru_neg ?_)
  | ((with_reducible refine rd_eq ?ev_h ?ev_k ?_); (case ev_h => walk_at "sh"); (case ev_k => walk_at "sh")) | ((with_reducible refine rd_ne ?ev_h ?ev_k ?_); (case ev_h => walk_at "sh"); (case ev_k => walk_at "sh"))
  | ((with_reducible refine rd_mod ?ev_h ?_); case ev_h => first | decide | assumption | omega) | ((with_reducible refine rd_div ?ev_h ?ev_k ?_); (case ev_h => first | decide | assumption | omega); (case ev_k => first | decide | assumption | omega))
  | ((with_reducible refine rd_pow ?ev_h ?_); case ev_h => exact ⟨by decide, by decide, by decide⟩)
  | ((with_reducible refine rd_mul ?ev_h ?_); case ev_h => first | exact .inr ⟨by decide, by decide⟩ | exact .inl ⟨by decide, by decide⟩ | exact .inl ⟨by omega, by omega⟩ | exact .inr ⟨by omega, by omega⟩)
  | (with_reducible refine rc_lenL ?_) | (with_reducible refine rc_lenT ?_) | (with_reducible refine rc_max2 ?_) | (with_reducible refine rc_min2 ?_) | (with_reducible refine rc_intB ?_) | (with_reducible refine rc_intI ?_) | (with_reducible refine rc_listL ?_) | (with_reducible refine rc_listT ?_) | (with_reducible refine rc_tupleL ?_)
  | ((with_reducible apply rd_ixT); exact rfl)
  | ((with_reducible apply rd_ixL); exact rfl)
  | ((with_reducible refine wd_isi ?ev_h ?_); case ev_h => decide) | ((with_reducible refine wd_isi2 ?ev_h ?ev_k ?_); (case ev_h => decide); (case ev_k => decide))
  | (with_reducible refine wd_tup2 ?_) | (with_reducible refine wd_tup1 ?_) | (with_reducible refine wd_tup3 ?_) | (with_reducible refine wd_tup0 ?_)
  | (with_reducible refine wd_lst0 ?_) | (with_reducible refine wd_lst1 ?_) | (with_reducible refine wd_lst2 ?_) | (with_reducible refine wd_lst3 ?_) | (with_reducible refine wd_lst4 ?_) | (with_reducible refine wd_lst5 ?_) | (with_reducible refine wd_lst6 ?_)
  | ((with_reducible apply wd_callO0); exact rfl) | ((with_reducible apply wd_callO1); exact rfl) | ((with_reducible apply wd_callO2); exact rfl) | ((with_reducible apply wd_callO3); exact rfl)
  | (with_reducible refine wd_call1 ?_) | (with_reducible refine wd_call2 ?_) | (with_reducible refine wd_call3 ?_) | (with_reducible refine wd_call4 ?_) | (with_reducible refine wd_call0 ?_)
  | (with_reducible refine wd_cb1 ?_) | (with_reducible refine wd_cb2 ?_)
  | (with_reducible refine wd_rev ?_) | (with_reducible refine wd_lrg1 ?_) | (with_reducible refine wd_sl ?_) | (with_reducible refine wo_no ?_) | (with_reducible refine wo_some ?_)
  | (with_reducible refine wd_andV ?_) | (with_reducible refine wd_orV ?_) | (with_reducible refine wd_notV ?_) | (with_reducible refine wd_if ?_) | (with_reducible refine wd_chain ?_)
  | (with_reducible refine wt_test ?_) | (with_reducible refine wt_B ?_) | (with_reducible refine wt_not ?_) | (with_reducible refine wt_and ?_) | (with_reducible refine wt_or ?_) | (with_reducible refine wt_yes ?_)
  | (with_reducible refine gj_name ?_) | (with_reducible refine gj_tup rfl ?_) | (with_reducible refine gjs_cons ?_) | (with_reducible refine gjs_nil ?_))
local macro_rules | `(tactic| walk_at "v") => `(tactic| repeat walk_at "v1")
local macro_rules | `(tactic| walk_at "x") => `(tactic| refine ⟨_, rfl, ?_⟩)
local macro_rules | `(tactic| walk_at "vx") => `(tactic| repeat (first | walk_at "v1" | (with_reducible refine ⟨_, rfl, ?_⟩)))
namespace Dk
open PySem PySem.Spec PyProof.Rows L2 Pk Sy
section
variable {P : Program} {K : Kw} {mg : Str → Option Value} {base : Heap} {k : Nat}
theorem ok_thing (D : Def K mg "_law_thing" s_l_thing ["deck", "m", "boxes", "deep"]) (m_len : mg "len" = none) (c_draw : Cal P K.w K mg base CX0 k "_law_draw" ["deck", "many"] (spG K (T_draw K))) : ∀ n, Cal P K.w K mg base CX0 (k + n) "_law_thing" ["deck", "m", "boxes", "deep"] (spG K (T_thing n K))
  | 0 => by
    refine (cal_no D).imp fun vs H Q E h => ?_
    obtain ⟨_, _, _, _, _, _, _, _, _, ⟨v, m, bs, deep, _, _, h1, h0, _⟩, _⟩ := h
    omega
  | n + 1 => by
    have ih := ok_thing D m_len c_draw n
    refine cal_g D sc_l_thing (fun Γ Qr ⟨v, m, bs, deep, e, _⟩ => by subst e; exact ⟨rfl, noMl_ex (noMl_dat (noMl_dat (noMl_dat noMl_nil)))⟩) fun f cdv A outer s H E hr => ⟨_, wk_l_thing ih (c_draw.mono (by omega)) m_len f cdv A outer s H E hr, ?_⟩
    rintro Γ Qr ⟨v, m, bs, deep, rfl, hmb, hd1, hdn, q⟩
    have hl0 := hmb.bs.len0
    have hl5 := hmb.bs.len5
    have hm2 := hmb.m2
    have hm16 := hmb.m16
    show SJ K [.ex v (Dck K), .dat false (.int m), .dat false (bsD bs), .dat false (.int deep), .no, .no, .no] (t_l_thing K _ _) _
    unfold t_l_thing
    refine sj_seq (sj_set false ?_)
    walk_at "v"
    refine use_drawN (n := 7) (by decide) (by decide) fun kind hk => ?_
    show SJ K [.ex v (Dck K), .dat false (.int m), .dat false (bsD bs), .dat false (.int deep), .dat false (.int kind), .no, .no] _ _
    have leaf : SJ K [.ex v (Dck K), .dat false (.int m), .dat false (bsD bs), .dat false (.int deep), .dat false (.int kind), .no, .no] (tSeq (tAsg (tTup (tCons (tC (.str "box")) (tCons (tOp (rIx K) (tVar 2) (tCall (spG K (T_draw K)) [] E0 (tCons (tVar 0) (tCons (tCB (dLen K) (tCons (tVar 2) tNil)) tNil)))) tNil))) (gName 5))
      (tSeq (tIfS (tTest (tOp (dEq K) (tOp dMod (tVar 4) (tC (.int 2))) (tC (.int 0)))) (tAsg (tTup (tCons (tC (.str "number")) (tCons (tOp (rIx K) (tLst (tCons (tC (.int 0)) (tCons (tOp dSub (tVar 1) (tC (.int 1))) (tCons (tCall (spG K (T_draw K)) [] E0 (tCons (tVar 0) (tCons (tVar 1) tNil))) tNil)))) (tCall (spG K (T_draw K)) [] E0 (tCons (tVar 0) (tCons (tC (.int 3)) tNil)))) tNil))) (gName 5)) tNext)
      (tRet (tVar 5)))) { retP [.ex v (Dck K), .dat false (.int m), .dat false (bsD bs), .dat false (.int deep)] Qr with nx := fun Γ' => SJ K Γ' (tSeq (tAsg (tCall (spG K (T_thing n K)) [] E0 (tCons (tVar 0) (tCons (tVar 1) (tCons (tVar 2) (tCons (tOp dSub (tVar 3) (tC (.int 1))) tNil))))) (gName 6))
        (tRet (tTup (tCons (tOp (rIx K) (tLst (tCons (tC (.str "plus")) (tCons (tC (.str "times")) (tCons (tC (.str "less")) (tCons (tC (.str "same")) tNil))))) (tOp dSub (tVar 4) (tC (.int 3)))) (tCons (tVar 6) (tCons (tCall (spG K (T_thing n K)) [] E0 (tCons (tVar 0) (tCons (tVar 1) (tCons (tVar 2) (tCons (tOp dSub (tVar 3) (tC (.int 1))) tNil))))) tNil)))))) (retP [.ex v (Dck K), .dat false (.int m), .dat false (bsD bs), .dat false (.int deep)] Qr) } := by
      refine sj_seq (sj_set true (wd_lf ?_))
      walk_at "v"
      rw [List.length_map]
      refine use_drawN (n := bs.length) (by omega) (by omega) fun r hr => ?_
      refine rd_box hr fun x hx => ⟨rfl, ?_⟩
      have okb : (Th.box x).Ok m bs deep := by
        obtain ⟨j, rfl⟩ := Nat.exists_eq_add_of_le hd1
        rw [Nat.add_comm]
        exact hx
      show SJ K [.ex v (Dck K), .dat false (.int m), .dat false (bsD bs), .dat false (.int deep), .dat false (.int kind), .dat true (Th.box x).d, .no] _ _
      refine sj_cut (fun Γ' => ∃ t : Th, t.Ok m bs deep ∧ Γ' = [.ex v (Dck K), .dat false (.int m), .dat false (bsD bs), .dat false (.int deep), .dat false (.int kind), .dat true t.d, .no]) (sj_if ?_) ?_
      · walk_at "v"
        refine ⟨_, rfl, ?_⟩
        rw [eqv_int]
        refine iteD (fun h0 => ?_) (fun _ => sj_next ⟨_, okb, rfl⟩)
        refine sj_set true (wd_lf ?_)
        walk_at "v"
        refine use_drawN (n := m) (by omega) (by omega) fun rm hrm => ?_
        walk_at "v"
        refine use_draw (n := 3) (by decide) (by decide) fun r3 a3 b3 => ?_
        refine rd_sel a3 b3 fun d hd => ?_
        have key : ∃ n : Nat, n < m ∧ d = .int n := by
          simp at hd
          rcases hd with z | z | z
          · exact ⟨0, by omega, z⟩
          · exact ⟨m - 1, by omega, by rw [z]; congr 1; omega⟩
          · exact ⟨rm, hrm, z⟩
        obtain ⟨n0, hn0, rfl⟩ := key
        have okn : (Th.num n0).Ok m bs deep := by
          obtain ⟨j, rfl⟩ := Nat.exists_eq_add_of_le hd1
          rw [Nat.add_comm]
          exact hn0
        exact ⟨rfl, Th.num n0, okn, rfl⟩
      rintro _ ⟨t, ht, rfl⟩
      refine sj_retD true ?_
      walk_at "v"
      exact ⟨keep_ex (keep_dat (keep_dat (keep_dat keep_nil))), q t ht⟩
    refine sj_seq (sj_if ?_)
    walk_at "v"
    refine ⟨_, rfl, ?_⟩
    rw [eqv_int]
    refine iteD (fun h1 => iteT' rfl leaf) (fun hne => ?_)
    walk_at "v"
    refine ⟨_, rfl, ?_⟩
    refine iteD (fun h1 => leaf) (fun hk3 => sj_next ?_)
    have hdd : ((deep : Int) - 1) = ((deep - 1 : Nat) : Int) := by omega
    refine sj_seq (sj_set true ?_)
    walk_at "v"
    rw [hdd]
    refine use_thing hmb (by omega) (by omega) fun t1 ht1 => ?_
    show SJ K [.ex v (Dck K), .dat false (.int m), .dat false (bsD bs), .dat false (.int deep), .dat false (.int kind), .no, .dat true t1.d] _ _
    refine sj_retD true (wd_lf ?_)
    refine wd_tup3 ?_
    walk_at "v"
    have hkk : ∃ o : Op, atI [PyData.str "plus", .str "times", .str "less", .str "same"] ((kind : Int) - 3) = some (.str o.w) := by
      have h4 : kind = 3 ∨ kind = 4 ∨ kind = 5 ∨ kind = 6 := by omega
      rcases h4 with z | z | z | z <;> subst z
      · exact ⟨.plus, rfl⟩
      · exact ⟨.times, rfl⟩
      · exact ⟨.less, rfl⟩
      · exact ⟨.same, rfl⟩
    obtain ⟨o, ho⟩ := hkk
    refine rd_ixL ho ?_
    walk_at "v"
    rw [hdd]
    refine use_thing hmb (by omega) (by omega) fun t2 ht2 => ?_
    have okk : (Th.op o t1 t2).Ok m bs deep := by
      obtain ⟨j, rfl⟩ := Nat.exists_eq_add_of_le hd1
      have e : 1 + j - 1 = j := by omega
      rw [e] at ht1 ht2
      rw [Nat.add_comm]
      exact ⟨ht1, ht2⟩
    exact ⟨Th.lf (.op o t1 t2), keep_ex (keep_dat (keep_dat (keep_dat keep_nil))), q _ okk⟩
theorem ok_row (D : Def K mg "_law_row" s_l_row ["deck", "m", "boxes"]) (c_thing : Cal P K.w K mg base CX0 k "_law_thing" ["deck", "m", "boxes", "deep"] (spG K (T_thing 4 K))) (c_draw : Cal P K.w K mg base CX0 k "_law_draw" ["deck", "many"] (spG K (T_draw K))) (m_min : mg "min" = none) (m_range : mg "range" = none) (m_len : mg "len" = none) : Cal P K.w K mg base CX0 (k + 1) "_law_row" ["deck", "m", "boxes"] (spG K (T_row K)) := by
  refine cal_g D sc_l_row (fun Γ Qr ⟨v, m, bs, e, _⟩ => by subst e; exact ⟨rfl, noMl_ex (noMl_dat (noMl_dat noMl_nil))⟩) fun f cdv A outer s H E hr => ⟨_, wk_l_row c_thing c_draw m_min m_range m_len f cdv A outer s H E hr, ?_⟩
  rintro Γ Qr ⟨v, m, bs, rfl, hmb, q⟩
  have hl0 := hmb.bs.len0
  have hl5 := hmb.bs.len5
  have hm2 := hmb.m2
  have hm16 := hmb.m16
  have kp : ∀ {Γ'}, Keep [.ex v (Dck K), .dat false (.int m), .dat false (bsD bs)] (.ex v (Dck K) :: .dat false (.int m) :: .dat false (bsD bs) :: Γ') := fun {Γ'} => keep_ex (keep_dat (keep_dat keep_nil))
  show SJ K [.ex v (Dck K), .dat false (.int m), .dat false (bsD bs), .no, .no, .no, .no, .no] (t_l_row K _ _) _
  unfold t_l_row
  refine sj_seq (sj_set false ?_)
  walk_at "v"
  refine use_drawN (n := 12) (by decide) (by decide) fun kind hk => ?_
  refine sj_seq (sj_set false ?_)
  walk_at "v"
  refine use_drawN (n := 4) (by decide) (by decide) fun r4 hr4 => ?_
  walk_at "v"
  have ed : (1 + (r4 : Int)) = ((1 + r4 : Nat) : Int) := by omega
  rw [ed]
  obtain ⟨deep, hdeep⟩ : ∃ deep, 1 + r4 = deep := ⟨_, rfl⟩
  rw [hdeep]
  refine sj_seq (sj_set false ?_)
  walk_at "v"
  rw [List.length_map]
  refine use_drawN (n := bs.length) (by omega) (by omega) fun rb hrb => ?_
  refine rd_box hrb fun x hx => ?_
  show SJ K [.ex v (Dck K), .dat false (.int m), .dat false (bsD bs), .dat false (.int kind), .dat false (.int deep), .dat false (.str x), .no, .no] _ _
  have d1 : 1 ≤ deep := by omega
  have d4 : deep ≤ 4 := by omega
  refine sj_seq (sj_if ?_)
  walk_at "v"
  refine ⟨_, rfl, iteD (fun h => ?_) (fun h4 => sj_next ?_)⟩
  · refine sj_retD false (wd_tup3 ?_)
    walk_at "v"
    refine use_thing hmb d1 d4 fun t ht => ?_
    exact ⟨kp, q (.set x t) ⟨hx, ht.mono d4⟩⟩
  refine sj_seq (sj_if ?_)
  walk_at "v"
  refine ⟨_, rfl, iteD (fun h => ?_) (fun h7 => sj_next ?_)⟩
  · refine sj_seq (sj_set false ?_)
    walk_at "v"
    refine use_draw (n := 5) (by decide) (by decide) fun r5 a5 b5 => ?_
    refine rd_sel a5 b5 fun d hd => ?_
    have key : ∃ n : Nat, 1 ≤ n ∧ n ≤ 5 ∧ d = .int n := by
      simp at hd
      rcases hd with z | z | z | z | z
      · exact ⟨1, by decide, by decide, z⟩
      · exact ⟨2, by decide, by decide, z⟩
      · exact ⟨4, by decide, by decide, z⟩
      · exact ⟨3, by decide, by decide, z⟩
      · exact ⟨5, by decide, by decide, z⟩
    obtain ⟨n, hn1, hn5, rfl⟩ := key
    show SJ K [.ex v (Dck K), .dat false (.int m), .dat false (bsD bs), .dat false (.int kind), .dat false (.int deep), .dat false (.str x), .dat false (.int n), .no] _ _
    refine sj_retD false (wd_tup3 ?_)
    walk_at "v"
    refine wd_lcF (mi := false) (fun _ _ y => ∃ t : Th, t.Ok m bs deep ∧ y = t.d) (wipeOk_no rfl wipeOk_nil) gwn (wi_rng ?_)
    walk_at "v"
    refine ⟨_, rfl, ⟨by omega, by omega⟩, by rw [rangeD_len]; omega, fun j d hj => ?_, fun acc hal hac => ?_⟩
    · refine gj_name ⟨rfl, ?_⟩
      walk_at "v"
      exact use_thing hmb d1 d4 fun t ht => ⟨t, ht, rfl⟩
    rw [rangeD_len] at hal
    have hall : ∀ y ∈ acc, ∃ t : Th, t.Ok m bs deep ∧ y = t.d := fun y hy => by
      obtain ⟨j, hj⟩ := List.getElem?_of_mem hy
      have hjl : j < acc.length := (List.getElem?_eq_some_iff.mp hj).1
      exact hac j _ y (rangeD_get (by omega)) hj
    obtain ⟨ts, rfl, hts⟩ := list_of hall
    rw [List.length_map] at hal
    exact ⟨kp, q (.pick x ts) ⟨hx, by omega, by omega, fun t ht => (hts t ht).mono d4⟩⟩
  refine sj_seq (sj_if ?_)
  walk_at "v"
  refine ⟨_, rfl, iteD (fun h => ?_) (fun h10 => sj_next ?_)⟩
  · refine sj_retD false (wd_tup3 ?_)
    walk_at "v"
    refine use_thing hmb d1 d4 fun t ht => ?_
    walk_at "v"
    refine use_drawN (n := 30) (by decide) (by decide) fun r30 hr30 => ?_
    walk_at "v"
    refine use_draw (n := 4) (by decide) (by decide) fun rr a b => ?_
    refine rd_sel a b fun d hd => ?_
    have key : ∃ n : Nat, 1 ≤ n ∧ n ≤ 30 ∧ d = .int n := by
      simp at hd
      rcases hd with z | z | z | z
      · exact ⟨1, by decide, by decide, z⟩
      · exact ⟨2, by decide, by decide, z⟩
      · exact ⟨3, by decide, by decide, z⟩
      · exact ⟨1 + r30, by omega, by omega, by rw [z]; congr 1⟩
    obtain ⟨n, hn1, hn30, rfl⟩ := key
    exact ⟨kp, q (.skip t n) ⟨ht.mono d4, hn1, hn30⟩⟩
  refine sj_seq (sj_if ?_)
  walk_at "v"
  refine ⟨_, rfl, ?_⟩
  rw [eqv_int]
  refine iteD (fun h => ?_) (fun hne => sj_next ?_)
  · refine sj_retD false (wd_tup2 ?_)
    walk_at "v"
    obtain ⟨qd, em, q1, q3⟩ : ∃ qd : Nat, min (deep : Int) 3 = (qd : Int) ∧ 1 ≤ qd ∧ qd ≤ 3 := by
      by_cases h3 : deep ≤ 3
      · exact ⟨deep, by omega, d1, h3⟩
      · exact ⟨3, by omega, by decide, by decide⟩
    rw [em]
    refine use_thing hmb q1 (by omega) fun t ht => ?_
    refine ⟨kp, q (.need (.op .plus (.num 1) t)) ⟨?_, ht.mono (by omega)⟩⟩
    show 1 < m
    omega
  refine sj_retD false ?_
  walk_at "v"
  refine use_thing hmb d1 d4 fun t1 ht1 => ?_
  walk_at "v"
  refine use_thing hmb d1 d4 fun t2 ht2 => ?_
  walk_at "v"
  refine use_draw (n := 2) (by decide) (by decide) fun rr a b => ?_
  refine rd_sel a b fun d hd => ?_
  simp only [List.mem_cons, List.not_mem_nil, or_false] at hd
  rcases hd with z | z <;> subst z
  · exact ⟨kp, q (.need t1) (ht1.mono d4)⟩
  · exact ⟨kp, q (.give t2) (ht2.mono d4)⟩
theorem ok_bounded (D : Def K mg "_law_bounded" s_l_bounded ["m", "boxes", "rows"]) (m_len : mg "len" = none) : Cal P K.w K mg base CX0 (k + 1) "_law_bounded" ["m", "boxes", "rows"] (spG K (T_bounded K)) := by
  refine cal_g D sc_l_bounded (fun Γ Qr ⟨m, bs, rows, e, _⟩ => by subst e; exact ⟨rfl, noMl_dat (noMl_dat (noMl_dat noMl_nil))⟩) fun f cdv A outer s H E hr => ⟨_, wk_l_bounded m_len f cdv A outer s H E hr, ?_⟩
  rintro Γ Qr ⟨m, bs, rows, rfl, hmb, hr30, hrows, q⟩
  have hl5 := hmb.bs.len5
  have hm16 := hmb.m16
  show SJ K [.dat false (.int m), .dat false (bsD bs), .dat false (rwsD rows), .no, .no, .no, .no, .no] (t_l_bounded K) _
  unfold t_l_bounded
  refine sj_seq (sj_set false ?_)
  walk_at "v"
  refine sj_cut (fun Γ' => ∃ (st : Int) (s4 : Sl), Γ' = [.dat false (.int m), .dat false (bsD bs), .dat false (rwsD rows), .dat false (.int st), s4, .no, .no, .no]) ?_ ?_
  · refine sj_for false (wi_list ?_)
    walk_at "v"
    refine ⟨_, rfl, fun i Γ' => ∃ (st : Int) (s4 : Sl), Γ' = [.dat false (.int m), .dat false (bsD bs), .dat false (rwsD rows), .dat false (.int st), s4, .no, .no, .no], ⟨1, .no, rfl⟩, ?_, fun Γ' h => h⟩
    rintro i d Γ' hd ⟨st, s4, rfl⟩
    refine gj_name (sj_set false ?_)
    walk_at "v"
    exact ⟨_, _, rfl⟩
  rintro _ ⟨st, s4, rfl⟩
  refine sj_seq (sj_set false ?_)
  walk_at "v"
  refine sj_seq (sj_setX (wx_lst0 false fun l => ?_))
  show SJ K [.dat false (.int m), .dat false (bsD bs), .dat false (rwsD rows), .dat false (.int st), s4, .dat false (.int 1), .ml false l (([] : List Rw).map Rw.d), .no] _ _
  refine sj_cut (fun Γ' => ∃ (rows' : List Rw) (s5 s7 : Sl), rows'.length = rows.length ∧ (∀ r ∈ rows', r.Ok m bs) ∧ Γ' = [.dat false (.int m), .dat false (bsD bs), .dat false (rwsD rows), .dat false (.int st), s4, s5, .ml false l (rows'.map Rw.d), s7]) ?_ ?_
  · refine sj_for false (wi_list ?_)
    walk_at "v"
    refine ⟨_, rfl, fun i Γ' => ∃ (rows' : List Rw) (rn : Int) (s7 : Sl), rows'.length = i ∧ (∀ r ∈ rows', r.Ok m bs) ∧ Γ' = [.dat false (.int m), .dat false (bsD bs), .dat false (rwsD rows), .dat false (.int st), s4, .dat false (.int rn), .ml false l (rows'.map Rw.d), s7], ⟨[], 1, .no, rfl, fun _ z => (by cases z), rfl⟩, ?_, ?_⟩
    · rintro i d Γ' hd ⟨rows', rn, s7, hlen, hok, rfl⟩
      rw [List.getElem?_map] at hd
      cases hri : rows[i]? with
      | none => rw [hri] at hd; cases hd
      | some r0 =>
        rw [hri] at hd
        cases hd
        have hil : i < rows.length := (List.getElem?_eq_some_iff.mp hri).1
        have hr0 := hrows r0 (List.mem_of_getElem? hri)
        refine gj_name ?_
        show SJ K [.dat false (.int m), .dat false (bsD bs), .dat false (rwsD rows), .dat false (.int st), s4, .dat false (.int rn), .ml false l (rows'.map Rw.d), .dat false r0.d] _ _
        refine sj_cut (fun Γ' => ∃ r1 : Rw, r1.Ok m bs ∧ Γ' = [.dat false (.int m), .dat false (bsD bs), .dat false (rwsD rows), .dat false (.int st), s4, .dat false (.int rn), .ml false l (rows'.map Rw.d), .dat false r1.d]) (sj_if ?_) ?_
        · have no : SJ K [.dat false (.int m), .dat false (bsD bs), .dat false (rwsD rows), .dat false (.int st), s4, .dat false (.int rn), .ml false l (rows'.map Rw.d), .dat false r0.d] tNext { nx := fun Γ' => ∃ r1 : Rw, r1.Ok m bs ∧ Γ' = [.dat false (.int m), .dat false (bsD bs), .dat false (rwsD rows), .dat false (.int st), s4, .dat false (.int rn), .ml false l (rows'.map Rw.d), .dat false r1.d], rt := (retP [.dat false (.int m), .dat false (bsD bs), .dat false (rwsD rows)] Qr).rt } := sj_next ⟨r0, hr0, rfl⟩
          walk_at "v"
          refine rd_row0 ?_
          walk_at "v"
          refine rd_eq (sh_str r0.w_ok) (sh_str (ok_w (by simp))) ⟨_, rfl, ?_⟩
          rw [Rw.eqP]
          cases r0 with
          | pick x ts =>
            refine iteT' rfl ?_
            walk_at "v"
            refine ⟨_, rfl, iteD (fun _ => ?_) (fun _ => iteF' rfl (sj_next ⟨_, hr0, rfl⟩))⟩
            walk_at "v"
            refine rd_ixT (d := .list (ts.map Th.d)) rfl ?_
            refine rc_lenL ?_
            rw [List.length_map]
            have h5 := hr0.2.2.1
            walk_at "v"
            refine ⟨_, rfl, iteD (fun _ => ?_) (fun _ => sj_next ⟨_, hr0, rfl⟩)⟩
            refine sj_set false (wd_tup3 ?_)
            refine wd_op (wd_var rfl (wd_int (rd_ixT (d := .str "pick") rfl ?_)))
            refine wd_op (wd_var rfl (wd_int (rd_ixT (d := .str x) rfl ?_)))
            refine wd_sl (wd_op (wd_var rfl (wd_int (rd_ixT (d := .list (ts.map Th.d)) rfl ⟨_, rfl, ?_⟩))))
            walk_at "v"
            refine ⟨1, rfl, ?_⟩
            refine ⟨.pick x (ts.take 1), ⟨hr0.1, ?_, ?_, fun t ht => hr0.2.2.2 t (List.mem_of_mem_take ht)⟩, ?_⟩
            · rw [List.length_take]; have := hr0.2.1; omega
            · rw [List.length_take]; omega
            · have : Pk.cutD (ts.map Th.d) none (some 1) = (ts.take 1).map Th.d := by
                have h1 := hr0.2.1
                have : min 1 ts.length = 1 := by omega
                simp [Pk.cutD, HT.sIx, List.map_take, this]
              rw [this]
              rfl
          | set x t => exact iteF' rfl (iteF' rfl (sj_next ⟨_, hr0, rfl⟩))
          | need t => exact iteF' rfl (iteF' rfl (sj_next ⟨_, hr0, rfl⟩))
          | skip t k => exact iteF' rfl (iteF' rfl (sj_next ⟨_, hr0, rfl⟩))
          | give t => exact iteF' rfl (iteF' rfl (sj_next ⟨_, hr0, rfl⟩))
        rintro _ ⟨r1, hr1, rfl⟩
        refine sj_cut (fun Γ' => ∃ rn' : Int, Γ' = [.dat false (.int m), .dat false (bsD bs), .dat false (rwsD rows), .dat false (.int st), s4, .dat false (.int rn'), .ml false l (rows'.map Rw.d), .dat false r1.d]) (sj_if ?_) ?_
        · walk_at "v"
          refine rd_row0 ?_
          walk_at "v"
          refine rd_eq (sh_str r1.w_ok) (sh_str (ok_w (by simp))) ⟨_, rfl, ?_⟩
          rw [Rw.eqP]
          cases r1 with
          | pick x ts =>
            refine iteT' rfl (sj_set false ?_)
            walk_at "v"
            refine rd_ixT (d := .list (ts.map Th.d)) rfl ?_
            refine rc_lenL ?_
            rw [List.length_map]
            have h5 := hr1.2.2.1
            walk_at "v"
            exact ⟨_, rfl⟩
          | set x t => exact iteF' rfl (sj_next ⟨rn, rfl⟩)
          | need t => exact iteF' rfl (sj_next ⟨rn, rfl⟩)
          | skip t k => exact iteF' rfl (sj_next ⟨rn, rfl⟩)
          | give t => exact iteF' rfl (sj_next ⟨rn, rfl⟩)
        rintro _ ⟨rn', rfl⟩
        refine sj_app (i := 6) (l := l) (ds := rows'.map Rw.d) rfl (by rw [List.length_map]; omega) ?_
        walk_at "v"
        refine ⟨rows' ++ [r1], rn', .dat false r1.d, by simp [hlen], fun r hr => ?_, by simp⟩
        rcases List.mem_append.mp hr with z | z
        · exact hok r z
        · simp at z; rw [z]; exact hr1
    · rintro Γ' ⟨rows', rn, s7, hlen, hok, rfl⟩
      rw [List.length_map] at hlen
      exact ⟨rows', _, s7, hlen, hok, rfl⟩
  rintro _ ⟨rows', s5, s7, hlen, hok, rfl⟩
  exact sj_retM (i := 6) (l := l) (ds := rows'.map Rw.d) rfl ⟨keep_dat (keep_dat (keep_dat keep_nil)), q l rows' hlen hok⟩
theorem ok_program (D : Def K mg "_law_program" s_l_program ["deck"]) (c_draw : Cal P K.w K mg base CX0 k "_law_draw" ["deck", "many"] (spG K (T_draw K))) (c_thing : Cal P K.w K mg base CX0 k "_law_thing" ["deck", "m", "boxes", "deep"] (spG K (T_thing 4 K))) (c_bounded : Cal P K.w K mg base CX0 k "_law_bounded" ["m", "boxes", "rows"] (spG K (T_bounded K))) (c_row : Cal P K.w K mg base CX0 k "_law_row" ["deck", "m", "boxes"] (spG K (T_row K))) (c_names : Cal P K.w K mg base CX0 k "_law_names" ["deck"] (spG K (T_names K))) (m_range : mg "range" = none) : Cal P K.w K mg base CX0 (k + 1) "_law_program" ["deck"] (spG K (T_program K)) := by
  refine cal_g D sc_l_program (fun Γ Qr ⟨v, e, _⟩ => by subst e; exact ⟨rfl, noMl_ex noMl_nil⟩) fun f cdv A outer s H E hr => ⟨_, wk_l_program c_draw c_thing c_bounded c_row c_names m_range f cdv A outer s H E hr, ?_⟩
  rintro Γ Qr ⟨v, rfl, q⟩
  show SJ K [.ex v (Dck K), .no, .no, .no, .no, .no] (t_l_program K _ _ _ _ _) _
  unfold t_l_program
  refine sj_seq (sj_set false ?_)
  walk_at "v"
  refine use_drawN (n := 15) (by decide) (by decide) fun r15 hr15 => ?_
  walk_at "v"
  refine use_draw (n := 5) (by decide) (by decide) fun r5 a5 b5 => ?_
  refine rd_sel a5 b5 fun d hd => ?_
  have key : ∃ m : Nat, 2 ≤ m ∧ m ≤ 16 ∧ d = .int m := by
    simp at hd
    rcases hd with z | z | z | z | z
    · exact ⟨2, by decide, by decide, z⟩
    · exact ⟨3, by decide, by decide, z⟩
    · exact ⟨5, by decide, by decide, z⟩
    · exact ⟨16, by decide, by decide, z⟩
    · exact ⟨2 + r15, by omega, by omega, by rw [z]; congr 1⟩
  obtain ⟨m, hm2, hm16, rfl⟩ := key
  refine sj_seq (sj_set false (wd_callO0 rfl ⟨v, rfl, fun l bs hbs => asD_ml ?_⟩))
  have hmb : MB m bs := ⟨hm2, hm16, hbs⟩
  refine sj_seq (sj_set false ?_)
  walk_at "v"
  refine use_drawN (n := 4) (by decide) (by decide) fun k1 hk1 => ?_
  walk_at "v"
  refine use_drawN (n := 9) (by decide) (by decide) fun k2 hk2 => ?_
  walk_at "v"
  refine use_drawN (n := 16) (by decide) (by decide) fun k3 hk3 => ?_
  walk_at "v"
  refine use_drawN (n := 31) (by decide) (by decide) fun k4 hk4 => ?_
  walk_at "v"
  refine use_draw (n := 4) (by decide) (by decide) fun r4 a4 b4 => ?_
  refine rd_sel a4 b4 fun d hd => ?_
  have key : ∃ n : Nat, n ≤ 30 ∧ d = .int n := by
    simp at hd
    rcases hd with z | z | z | z
    · exact ⟨k1, by omega, z⟩
    · exact ⟨k2, by omega, z⟩
    · exact ⟨k3, by omega, z⟩
    · exact ⟨k4, by omega, z⟩
  obtain ⟨n, hn30, rfl⟩ := key
  show SJ K [.ex v (Dck K), .dat false (.int m), .dat false (bsD bs), .dat false (.int n), .no, .no] _ _
  refine sj_seq (sj_setX (wx_call3 ?_))
  walk_at "v"
  refine wd_lcF (mi := false) (fun _ _ y => ∃ r : Rw, r.Ok m bs ∧ y = r.d) (wipeOk_no rfl wipeOk_nil) gwn (wi_rng ?_)
  walk_at "v"
  refine ⟨_, rfl, ⟨by omega, by omega⟩, by rw [rangeD_len]; omega, fun j d hj => ?_, fun acc hal hac => ?_⟩
  · refine gj_name ⟨rfl, ?_⟩
    walk_at "v"
    exact ⟨v, m, bs, rfl, hmb, fun r hr => asD_dat ⟨r, hr, rfl⟩⟩
  rw [rangeD_len] at hal
  have hall : ∀ y ∈ acc, ∃ r : Rw, r.Ok m bs ∧ y = r.d := fun y hy => by
    obtain ⟨j, hj⟩ := List.getElem?_of_mem hy
    have hjl : j < acc.length := (List.getElem?_eq_some_iff.mp hj).1
    exact hac j _ y (rangeD_get (by omega)) hj
  obtain ⟨rows0, rfl, hrows0⟩ := list_of hall
  rw [List.length_map] at hal
  refine ⟨m, bs, rows0, rfl, hmb, by omega, hrows0, fun l rows hlen hrows => ?_⟩
  show SJ K [.ex v (Dck K), .dat false (.int m), .dat false (bsD bs), .dat false (.int n), .ml false l (rows.map Rw.d), .no] _ _
  refine sj_cut (fun Γ' => ∃ rows : List Rw, rows.length ≤ 30 ∧ (∀ r ∈ rows, r.Ok m bs) ∧ Γ' = [.ex v (Dck K), .dat false (.int m), .dat false (bsD bs), .dat false (.int n), .ml false l (rows.map Rw.d), .no]) (sj_if ?_) ?_
  · walk_at "v"
    refine use_drawN (n := 2) (by decide) (by decide) fun r2 hr2 => ?_
    walk_at "v"
    refine ⟨_, rfl, ?_⟩
    rw [eqv_int]
    refine iteD (fun _ => ?_) (fun _ => iteF' rfl (sj_next ⟨rows, by omega, hrows, rfl⟩))
    walk_at "v"
    refine ⟨_, rfl, iteD (fun h30 => ?_) (fun _ => sj_next ⟨rows, by omega, hrows, rfl⟩)⟩
    refine sj_app (i := 4) (l := l) (ds := rows.map Rw.d) rfl (by rw [List.length_map]; omega) (wd_tup2 ?_)
    walk_at "v"
    refine use_thing (deep := 2) hmb (by decide) (by decide) fun t ht => ?_
    refine ⟨rows ++ [.give t], by simp; omega, fun r hr => ?_, by simp [Rw.d]⟩
    rcases List.mem_append.mp hr with z | z
    · exact hrows r z
    · simp at z; rw [z]; exact Th.Ok.mono ht (by decide)
  rintro _ ⟨rows, hr30, hrows, rfl⟩
  refine sj_frz 4 (l := l) (m := false) (ds := rows.map Rw.d) rfl ?_
  show SJ K [.ex v (Dck K), .dat false (.int m), .dat false (bsD bs), .dat false (.int n), .dat false (rwsD rows), .no] _ _
  refine sj_retD false (wd_tup3 ?_)
  walk_at "v"
  exact ⟨keep_ex keep_nil, q ⟨m, bs, rows⟩ ⟨hm2, hm16, hbs, hr30, hrows⟩⟩
end
end Dk
end
section
set_option Elab.async false
set_option linter.all false
set_option maxRecDepth 100000
namespace Dk
open PySem PySem.Spec PyProof.Rows L2 Pk
section
variable {K : Kw} {m : Bool} {Γ : List Sl} {Q : PyData → Prop} {te ti : TE}
end
def Th.w : Th → Str
  | .num _ => "number" | .box _ => "box" | .op o _ _ => o.w
theorem Th.w_ok (t : Th) : PyData.strOk t.w = true := by
  cases t with
  | num n => exact ok_w (by simp [Th.w])
  | box x => exact ok_w (by simp [Th.w])
  | op o a b => exact op_ok o
end Dk
end
section
set_option Elab.async false
set_option linter.all false
set_option maxRecDepth 100000
set_option pp.maxSteps 600
open PySem L2 Pk
local macro_rules | `(tactic| walk_at "sh") => `(tactic| first | exact sh_int | exact sh_bool | exact sh_non | exact sh_nil | exact sh_str (by decide +kernel) | assumption)
local macro_rules | `(tactic| walk_at "v1") => `(tactic| first
  | (with_reducible refine wd_int ?_) | (with_reducible refine wd_str ?_) | (with_reducible refine wd_bl ?_) | (with_reducible refine wd_non ?_)
  | ((with_reducible apply wd_var); exact rfl) | ((with_reducible apply wd_varN); exact rfl)
  | ((with_reducible apply wd_ixm); exact rfl)
  | ((with_reducible apply wd_lenM); exact rfl) | ((with_reducible apply wd_lenScript); exact rfl) | ((with_reducible apply wd_ixScript); exact rfl)
  | (with_reducible refine wd_op ?_) | (with_reducible refine wd_un ?_)
  | (with_reducible refine rd_add ?_) | (with_reducible refine rd_sub ?_) | (with_reducible refine rd_lt ?_) | (with_reducible refine rd_le ?_) | (with_reducible refine rd_gt ?_) | (with_reducible refine rd_ge ?_) | (with_reducible refine ru_neg ?_)
  | ((with_reducible refine rd_eq ?ev_h ?ev_k ?_); (case ev_h => walk_at "sh"); (case ev_k => walk_at "sh")) | ((with_reducible refine rd_ne ?ev_h ?ev_k ?_); (case ev_h => walk_at "sh"); (case ev_k => walk_at "sh"))
  | ((with_reducible refine rd_mod ?ev_h ?_); case ev_h => first | decide | assumption | omega) | ((with_reducible refine rd_div ?ev_h ?ev_k ?_); (case ev_h => first | decide | assumption | omega); (case ev_k => first | decide | assumption | omega))
  | ((with_reducible refine rd_pow ?ev_h ?_); case ev_h => exact ⟨by decide, by decide, by decide⟩)
  | ((with_reducible refine rd_mul ?ev_h ?_); case ev_h => first | exact .inr ⟨by decide, by decide⟩ | exact .inl ⟨by decide, by decide⟩ | exact .inl ⟨by omega, by omega⟩ | exact .inr ⟨by omega, by omega⟩)
  | (with_reducible refine rc_lenL ?_) | (with_reducible refine rc_lenT ?_) | (with_reducible refine rc_max2 ?_) | (with_reducible refine rc_min2 ?_) | (with_reducible refine rc_intB ?_) | (with_reducible refine rc_intI ?_) | (with_reducible refine rc_listL ?_) | (with_reducible refine rc_listT ?_) | (with_reducible refine rc_tupleL ?_)
  | ((with_reducible apply rd_ixT); exact rfl)
  | ((with_reducible apply rd_ixL); exact rfl)
  | ((with_reducible refine wd_isi ?ev_h ?_); case ev_h => decide) | ((with_reducible refine wd_isi2 ?ev_h ?ev_k ?_); (case ev_h => decide); (case ev_k => decide))
  | (with_reducible refine wd_tup2 ?_) | (with_reducible refine wd_tup1 ?_) | (with_reducible refine wd_tup3 ?_) | (with_reducible refine wd_tup0 ?_)
  | (with_reducible refine wd_lst0 ?_) | (with_reducible refine wd_lst1 ?_) | (with_reducible refine wd_lst2 ?_) | (with_reducible refine wd_lst3 ?_) | (with_reducible refine wd_lst4 ?_) | (with_reducible refine wd_lst5 ?_) | (with_reducible refine wd_lst6 ?_)
  | ((with_reducible apply wd_callO0); exact rfl) | ((with_reducible apply wd_callO1); exact rfl) | ((with_reducible apply wd_callO2); exact rfl) | ((with_reducible apply wd_callO3); exact rfl)
  | (with_reducible refine wd_call1 ?_) | (with_reducible refine wd_call2 ?_) | (with_reducible refine wd_call3 ?_) | (with_reducible refine wd_call4 ?_) | (with_reducible refine wd_call0 ?_)
  | (with_reducible refine wd_cb1 ?_) | (with_reducible refine wd_cb2 ?_)
  | (with_reducible refine wd_rev ?_) | (with_reducible refine wd_lrg1 ?_) | (with_reducible refine wd_sl ?_) | (with_reducible refine wo_no ?_) | (with_reducible refine wo_some ?_)
  | (with_reducible refine wd_andV ?_) | (with_reducible refine wd_orV ?_) | (with_reducible refine wd_notV ?_) | (with_reducible refine wd_if ?_) | (with_reducible refine wd_chain ?_)
  | (with_reducible refine wt_test ?_) | (with_reducible refine wt_B ?_) | (with_reducible refine wt_not ?_) | (with_reducible refine wt_and ?_) | (with_reducible refine wt_or ?_) | (with_reducible refine wt_yes ?_)
  | (with_reducible refine gj_name ?_) | (with_reducible refine gj_tup rfl ?_) | (with_reducible refine gjs_cons ?_) | (with_reducible refine gjs_nil ?_))
local macro_rules | `(tactic| walk_at "v") => `(tactic| repeat walk_at "v1")
local macro_rules | `(tactic| walk_at "x") => `(tactic| refine ⟨_, rfl, ?_⟩)
local macro_rules | `(tactic| walk_at "vx") => `(tactic| repeat (first | walk_at "v1" | (with_reducible refine ⟨_, rfl, ?_⟩)))
namespace Dk
open PySem PySem.Spec PyProof.Rows L2 Pk Sy Pz
def isWhole (d : PyData) (lo hi : Int) : Bool := match d with
  | .int n => decide (lo ≤ n) && decide (n ≤ hi)
  | _ => false
def T_whole (K : Kw) : List Sl → (Sl → Prop) → Prop := fun Γ Q => ∃ d lo hi, Γ = [.dat false d, .dat false (.int lo), .dat false (.int hi)] ∧ Q (.dat true (.bool (isWhole d lo hi)))
section
variable {K : Kw} {m : Bool} {Γ : List Sl} {Q : PyData → Prop}
end
section
variable {P : Program} {K : Kw} {mg : Str → Option Value} {base : Heap} {k : Nat}
theorem ok_whole (D : Def K mg "is_whole" s_is_whole ["thing", "low", "high"]) (m_isinstance : mg "isinstance" = none) (m_bool : mg "bool" = none) (m_int : mg "int" = none) : Cal P K.w K mg base CX0 (k + 1) "is_whole" ["thing", "low", "high"] (spG K (T_whole K)) := by
  refine cal_g D sc_is_whole (fun Γ Qr ⟨d, lo, hi, e, _⟩ => by subst e; exact ⟨rfl, noMl_dat (noMl_dat (noMl_dat noMl_nil))⟩) fun f cdv A outer s H E hr => ⟨_, wk_is_whole m_isinstance m_bool m_int f cdv A outer s H E hr, ?_⟩
  rintro Γ Qr ⟨d, lo, hi, rfl, q⟩
  show SJ K [.dat false d, .dat false (.int lo), .dat false (.int hi)] (t_is_whole K) _
  unfold t_is_whole
  have kp : ∀ {Γ'}, Keep [.dat false d, .dat false (.int lo), .dat false (.int hi)] (.dat false d :: .dat false (.int lo) :: .dat false (.int hi) :: Γ') := fun {Γ'} => keep_dat (keep_dat (keep_dat keep_nil))
  refine sj_retD true (wd_lf (wd_andV (wd_isi (by decide) (wd_var rfl ⟨_, rfl, ?_⟩))))
  cases d with
  | int n =>
    refine iteT' rfl (wd_andV (wd_notV (wd_isi (by decide) (wd_var rfl ⟨_, rfl, _, rfl, iteT' rfl ?_⟩))))
    refine wd_chain ?_
    walk_at "v"
    refine ⟨_, rfl, ?_⟩
    refine iteD (fun h => ?_) (fun h => ⟨rfl, kp, ?_⟩)
    · walk_at "v"
      refine ⟨_, rfl, rfl, kp, ?_⟩
      have : isWhole (.int n) lo hi = decide (n ≤ hi) := by simp [isWhole, h]
      rw [← this]
      exact q
    · have : isWhole (.int n) lo hi = false := by simp [isWhole, h]
      rw [← this]
      exact q
  | bool b =>
    refine iteT' rfl (wd_andV (wd_notV (wd_isi (by decide) (wd_var rfl ⟨_, rfl, _, rfl, iteF' rfl ?_⟩))))
    exact ⟨rfl, kp, q⟩
  | none => exact iteF' rfl ⟨rfl, kp, q⟩
  | str x => exact iteF' rfl ⟨rfl, kp, q⟩
  | list x => exact iteF' rfl ⟨rfl, kp, q⟩
  | tuple x => exact iteF' rfl ⟨rfl, kp, q⟩
  | dict x => exact iteF' (by simp only [isTy, tyN]; split <;> rfl) ⟨rfl, kp, q⟩
end
end Dk
end
section
set_option Elab.async false
set_option linter.all false
set_option maxRecDepth 100000
set_option pp.maxSteps 600
namespace Dk
open PySem PySem.Spec PyProof.Rows L2 Pk Sy
/-- any data, at most n within one another, lists and texts at most b long -/
def Od (b : Nat) : Nat → PyData → Prop
  | _, .none => True
  | _, .bool _ => True
  | _, .int _ => True
  | _, .str x => PyData.strOk x = true ∧ x.length ≤ b
  | 0, .list _ => False
  | 0, .tuple _ => False
  | n + 1, .list ds => ds.length ≤ b ∧ ∀ d ∈ ds, Od b n d
  | n + 1, .tuple ds => ds.length ≤ b ∧ ∀ d ∈ ds, Od b n d
  | _, .dict kvs => kvs = []
theorem Od.up {b b' : Nat} (hb : b ≤ b') : ∀ {n n' : Nat} {d : PyData}, Od b n d → n ≤ n' → Od b' n' d
  | n, n', .none, h, l => by cases n' <;> trivial
  | n, n', .bool _, h, l => by cases n' <;> trivial
  | n, n', .int _, h, l => by cases n' <;> trivial
  | n, n', .str x, h, l => by
    have h : PyData.strOk x = true ∧ x.length ≤ b := by cases n <;> exact h
    have : PyData.strOk x = true ∧ x.length ≤ b' := ⟨h.1, by omega⟩
    cases n' <;> exact this
  | 0, n', .list _, h, l => h.elim
  | 0, n', .tuple _, h, l => h.elim
  | n + 1, 0, .list _, h, l => by omega
  | n + 1, 0, .tuple _, h, l => by omega
  | n + 1, n' + 1, .list ds, h, l => ⟨Nat.le_trans h.1 hb, fun d hd => (h.2 d hd).up hb (by omega)⟩
  | n + 1, n' + 1, .tuple ds, h, l => ⟨Nat.le_trans h.1 hb, fun d hd => (h.2 d hd).up hb (by omega)⟩
  | n, n', .dict kvs, h, l => by
    have h : kvs = [] := by cases n <;> exact h
    cases n' <;> exact h
theorem Od.str {b n : Nat} {x : Str} (h : Od b n (.str x)) : PyData.strOk x = true ∧ x.length ≤ b := by cases n <;> exact h
theorem Od.dict {b n : Nat} {kvs : List (PyData × PyData)} (h : Od b n (.dict kvs)) : kvs = [] := by cases n <;> exact h
theorem Od.lst {b n : Nat} {ds : List PyData} (h : Od b n (.list ds)) : ds.length ≤ b ∧ ∃ n', n = n' + 1 ∧ ∀ d ∈ ds, Od b n' d := by
  cases n with
  | zero => exact h.elim
  | succ n => exact ⟨h.1, n, rfl, h.2⟩
theorem Od.tup {b n : Nat} {ds : List PyData} (h : Od b n (.tuple ds)) : ds.length ≤ b ∧ ∃ n', n = n' + 1 ∧ ∀ d ∈ ds, Od b n' d := by
  cases n with
  | zero => exact h.elim
  | succ n => exact ⟨h.1, n, rfl, h.2⟩
theorem od_str {b n : Nat} {x : Str} (h : PyData.strOk x = true) (hl : x.length ≤ b) : Od b n (.str x) := by cases n <;> exact ⟨h, hl⟩
theorem od_int {b n : Nat} {i : Int} : Od b n (.int i) := by cases n <;> trivial
theorem od_bool {b n : Nat} {i : Bool} : Od b n (.bool i) := by cases n <;> trivial
theorem od_non {b n : Nat} : Od b n .none := by cases n <;> trivial
theorem od_dict {b n : Nat} : Od b n (.dict []) := by cases n <;> rfl
theorem rokAll_of : ∀ {ds : List PyData}, (∀ d ∈ ds, Pr.rok d = true) → Pr.rokAll ds = true
  | [], _ => rfl
  | d :: ds, h => by
    simp only [Pr.rokAll, Bool.and_eq_true]
    exact ⟨h d List.mem_cons_self, rokAll_of fun x hx => h x (List.mem_cons_of_mem _ hx)⟩
theorem depthAll_of {n : Nat} : ∀ {ds : List PyData}, (∀ d ∈ ds, d.depth ≤ n) → PyData.depthAll ds ≤ n
  | [], _ => by simp [PyData.depthAll]
  | d :: ds, h => by
    have a := h d List.mem_cons_self
    have b := depthAll_of (ds := ds) fun x hx => h x (List.mem_cons_of_mem _ hx)
    simp only [PyData.depthAll]
    omega
theorem Od.rok {b : Nat} : ∀ {n : Nat} {d : PyData}, Od b n d → Pr.rok d = true
  | n, .none, h => rfl
  | n, .bool _, h => rfl
  | n, .int _, h => rfl
  | n, .str _, h => rfl
  | 0, .list _, h => h.elim
  | 0, .tuple _, h => h.elim
  | n + 1, .list ds, h => by simp only [Pr.rok]; exact rokAll_of fun d hd => (h.2 d hd).rok
  | n + 1, .tuple ds, h => by simp only [Pr.rok]; exact rokAll_of fun d hd => (h.2 d hd).rok
  | n, .dict kvs, h => by rw [h.dict]; rfl
theorem Od.depth {b : Nat} : ∀ {n : Nat} {d : PyData}, Od b n d → d.depth ≤ n + 1
  | n, .none, h => by simp [PyData.depth]
  | n, .bool _, h => by simp [PyData.depth]
  | n, .int _, h => by simp [PyData.depth]
  | n, .str _, h => by simp [PyData.depth]
  | 0, .list _, h => h.elim
  | 0, .tuple _, h => h.elim
  | n + 1, .list ds, h => by
    have := depthAll_of (n := n + 1) fun d hd => (h.2 d hd).depth
    simp only [PyData.depth]
    omega
  | n + 1, .tuple ds, h => by
    have := depthAll_of (n := n + 1) fun d hd => (h.2 d hd).depth
    simp only [PyData.depth]
    omega
  | n, .dict kvs, h => by rw [h.dict]; simp [PyData.depth, PyData.depthKv]
/-- what is no odd thing of these kinds is none of them by isinstance -/
def isLB : PyData → Bool
  | .list _ => true
  | _ => false
def isTB : PyData → Bool
  | .tuple _ => true
  | _ => false
def isSB : PyData → Bool
  | .str _ => true
  | _ => false
theorem isTy_tup (d : PyData) : isTy d "tuple" = isTB d := by
  cases d with
  | dict ds => simp only [isTy, tyN]; split <;> rfl
  | _ => rfl
theorem isTy_str (d : PyData) : isTy d "str" = isSB d := by
  cases d with
  | dict ds => simp only [isTy, tyN]; split <;> rfl
  | _ => rfl
theorem isTy_lst {b n : Nat} {d : PyData} (h : Od b n d) : isTy d "list" = isLB d := by
  cases d with
  | dict ds =>
    have := h.dict
    subst this
    rfl
  | _ => rfl
def itemAt : PyData → Nat → PyData
  | .tuple ds, i => ds.getD i .none
  | _, _ => .none
def wordB (ws : List Str) (many : Nat) : PyData → Bool
  | .tuple (.str a :: ds) => decide (ds.length + 1 = many) && decide (a ∈ ws)
  | _ => false
def strIn (bs : List Str) : PyData → Bool
  | .str x => decide (x ∈ bs)
  | _ => false
def OPS : List Str := ["plus", "times", "less", "same"]
def thingB (m : Int) (bs : List Str) : Nat → PyData → Bool
  | 0, _ => false
  | n + 1, d =>
    if wordB ["number"] 2 d = true then isWhole (itemAt d 1) 0 (m - 1)
    else if wordB ["box"] 2 d = true then strIn bs (itemAt d 1)
    else if wordB OPS 3 d = true then thingB m bs n (itemAt d 1) && thingB m bs n (itemAt d 2)
    else false
theorem thingB_succ (m : Int) (bs : List Str) (n : Nat) (d : PyData) : thingB m bs (n + 1) d = (if wordB ["number"] 2 d = true then isWhole (itemAt d 1) 0 (m - 1)
    else if wordB ["box"] 2 d = true then strIn bs (itemAt d 1)
    else if wordB OPS 3 d = true then thingB m bs n (itemAt d 1) && thingB m bs n (itemAt d 2)
    else false) := rfl
def thingsB (m : Int) (bs : List Str) : PyData → Bool
  | .list ds => decide (1 ≤ ds.length) && decide (ds.length ≤ 5) && ds.all (thingB m bs 4)
  | _ => false
def rowB (m : Int) (bs : List Str) (d : PyData) : Bool :=
  if wordB ["need", "give"] 2 d = true then thingB m bs 4 (itemAt d 1)
  else if wordB ["skip"] 3 d = true then thingB m bs 4 (itemAt d 1) && isWhole (itemAt d 2) 1 30
  else if wordB ["set", "pick"] 3 d = false then false
  else if strIn bs (itemAt d 1) = false then false
  else if wordB ["set"] 3 d = true then thingB m bs 4 (itemAt d 2)
  else thingsB m bs (itemAt d 2)
def ltrB (c : Nat) : Bool := decide (97 ≤ c) && decide (c ≤ 122)
def nameB : PyData → Bool
  | .str x => decide (1 ≤ x.length) && decide (x.length ≤ 8) && x.cps.toList.all ltrB
  | _ => false
def strsOf : List PyData → List Str
  | [] => []
  | .str x :: ds => x :: strsOf ds
  | _ :: ds => strsOf ds
def boxesB : PyData → Bool
  | .list ds => decide (1 ≤ ds.length) && decide (ds.length ≤ 5) && ds.all nameB && decide (strsOf ds).Nodup
  | _ => false
def progB : PyData → Bool
  | .tuple [.int m, .list bs, .list rows] => decide (2 ≤ m) && decide (m ≤ 16) && boxesB (.list bs) && decide (rows.length ≤ 30) && rows.all (rowB m (strsOf bs))
  | _ => false
theorem strsOf_map (bs : List Str) : strsOf (bs.map PyData.str) = bs := by
  induction bs with
  | nil => rfl
  | cons x r ih => simp only [List.map_cons, strsOf, ih]
theorem names_are : ∀ {ds : List PyData}, ds.all nameB = true → ∃ bs : List Str, ds = bs.map PyData.str
  | [], _ => ⟨[], rfl⟩
  | d :: ds, h => by
    simp only [List.all_cons, Bool.and_eq_true] at h
    obtain ⟨bs, e⟩ := names_are h.2
    cases d with
    | str x => exact ⟨x :: bs, by rw [e]; rfl⟩
    | _ => cases h.1
theorem nameB_ok {x : Str} (h : nameB (.str x) = true) : NameOk x := by
  simp only [nameB, Bool.and_eq_true, decide_eq_true_eq, List.all_eq_true] at h
  refine ⟨h.1.1, h.1.2, fun c hc => ?_⟩
  have := h.2 c hc
  simp only [ltrB, Bool.and_eq_true, decide_eq_true_eq] at this
  exact this
theorem nameB_of {x : Str} (h : NameOk x) : nameB (.str x) = true := by
  simp only [nameB, Bool.and_eq_true, decide_eq_true_eq, List.all_eq_true]
  refine ⟨⟨h.1, h.2.1⟩, fun c hc => ?_⟩
  have := h.2.2 c hc
  simp only [ltrB, Bool.and_eq_true, decide_eq_true_eq]
  exact this
theorem thingB_of {m : Nat} {bs : List Str} : ∀ {n : Nat} {t : Th}, t.Ok m bs n → thingB m bs n t.d = true
  | 0, t, h => by cases h
  | n + 1, .num k, h => by
    have h : k < m := h
    have e : wordB ["number"] 2 (Th.num k).d = true := by
      show (decide (1 + 1 = 2) && decide (("number" : Str) ∈ [("number" : Str)])) = true
      decide +kernel
    rw [thingB_succ, if_pos e]
    simp only [Th.d, itemAt, List.getD_cons_succ, List.getD_cons_zero, isWhole]
    simp
    omega
  | n + 1, .box x, h => by
    have h : x ∈ bs := h
    have e : wordB ["number"] 2 (Th.box x).d = false := by
      show (decide (1 + 1 = 2) && decide (("box" : Str) ∈ [("number" : Str)])) = false
      decide +kernel
    have e2 : wordB ["box"] 2 (Th.box x).d = true := by
      show (decide (1 + 1 = 2) && decide (("box" : Str) ∈ [("box" : Str)])) = true
      decide +kernel
    rw [thingB_succ, if_neg (by rw [e]; decide), if_pos e2]
    exact decide_eq_true h
  | n + 1, .op o a b, h => by
    have e : wordB ["number"] 2 (Th.op o a b).d = false := by cases o <;> rfl
    have e2 : wordB ["box"] 2 (Th.op o a b).d = false := by cases o <;> rfl
    have e3 : wordB OPS 3 (Th.op o a b).d = true := by
      show (decide (2 + 1 = 3) && decide (o.w ∈ OPS)) = true
      cases o <;> decide +kernel
    rw [thingB_succ, if_neg (by rw [e]; decide), if_neg (by rw [e2]; decide), if_pos e3]
    have h1 := thingB_of h.1
    have h2 := thingB_of h.2
    show (thingB m bs n a.d && thingB m bs n b.d) = true
    rw [h1, h2]
    rfl
theorem rowB_of {m : Nat} {bs : List Str} {r : Rw} (h : r.Ok m bs) : rowB m bs r.d = true := by
  unfold rowB
  cases r with
  | need t =>
    rw [if_pos (by show (decide (1 + 1 = 2) && decide (("need" : Str) ∈ [("need" : Str), "give"])) = true; decide +kernel)]
    exact thingB_of h
  | give t =>
    rw [if_pos (by show (decide (1 + 1 = 2) && decide (("give" : Str) ∈ [("need" : Str), "give"])) = true; decide +kernel)]
    exact thingB_of h
  | skip t k =>
    rw [if_neg (by show ¬ (decide (2 + 1 = 2) && decide (("skip" : Str) ∈ [("need" : Str), "give"])) = true; decide +kernel), if_pos (by show (decide (2 + 1 = 3) && decide (("skip" : Str) ∈ [("skip" : Str)])) = true; decide +kernel)]
    have h1 := thingB_of h.1
    have h2 := h.2.1
    have h3 := h.2.2
    show (thingB m bs 4 t.d && isWhole (.int k) 1 30) = true
    rw [h1]
    simp [isWhole]
    omega
  | set x t =>
    rw [if_neg (by show ¬ (decide (2 + 1 = 2) && decide (("set" : Str) ∈ [("need" : Str), "give"])) = true; decide +kernel), if_neg (by show ¬ (decide (2 + 1 = 3) && decide (("set" : Str) ∈ [("skip" : Str)])) = true; decide +kernel),
      if_neg (by show ¬ (decide (2 + 1 = 3) && decide (("set" : Str) ∈ [("set" : Str), "pick"])) = false; decide +kernel)]
    have hx : x ∈ bs := h.1
    rw [if_neg (by show ¬ decide (x ∈ bs) = false; rw [decide_eq_true hx]; decide), if_pos (by show (decide (2 + 1 = 3) && decide (("set" : Str) ∈ [("set" : Str)])) = true; decide +kernel)]
    exact thingB_of h.2
  | pick x ts =>
    rw [if_neg (by show ¬ (decide (2 + 1 = 2) && decide (("pick" : Str) ∈ [("need" : Str), "give"])) = true; decide +kernel), if_neg (by show ¬ (decide (2 + 1 = 3) && decide (("pick" : Str) ∈ [("skip" : Str)])) = true; decide +kernel),
      if_neg (by show ¬ (decide (2 + 1 = 3) && decide (("pick" : Str) ∈ [("set" : Str), "pick"])) = false; decide +kernel)]
    have hx : x ∈ bs := h.1
    rw [if_neg (by show ¬ decide (x ∈ bs) = false; rw [decide_eq_true hx]; decide), if_neg (by show ¬ (decide (2 + 1 = 3) && decide (("pick" : Str) ∈ [("set" : Str)])) = true; decide +kernel)]
    show (decide (1 ≤ (ts.map Th.d).length) && decide ((ts.map Th.d).length ≤ 5) && (ts.map Th.d).all (thingB m bs 4)) = true
    rw [List.length_map, decide_eq_true h.2.1, decide_eq_true h.2.2.1, Bool.true_and, Bool.true_and, List.all_eq_true]
    intro y hy
    obtain ⟨t, ht, rfl⟩ := List.mem_map.mp hy
    exact thingB_of (h.2.2.2 t ht)
theorem boxesB_of {bs : List Str} (h : BsOk bs) : boxesB (bsD bs) = true := by
  show (decide (1 ≤ (bs.map PyData.str).length) && decide ((bs.map PyData.str).length ≤ 5) && (bs.map PyData.str).all nameB && decide (strsOf (bs.map PyData.str)).Nodup) = true
  rw [List.length_map, strsOf_map, decide_eq_true h.len0, decide_eq_true h.len5, decide_eq_true h.nd]
  simp only [Bool.true_and, Bool.and_true, List.all_eq_true]
  intro y hy
  obtain ⟨x, hx, rfl⟩ := List.mem_map.mp hy
  exact nameB_of (h.nm x hx)
theorem progB_of {p : Pg} (h : p.Ok) : progB p.d = true := by
  have h2 := h.m2
  have h16 := h.m16
  show (decide (2 ≤ (p.m : Int)) && decide ((p.m : Int) ≤ 16) && boxesB (bsD p.bs) && decide ((p.rows.map Rw.d).length ≤ 30) && (p.rows.map Rw.d).all (rowB p.m (strsOf (p.bs.map PyData.str)))) = true
  rw [boxesB_of h.bs, strsOf_map, List.length_map, decide_eq_true h.r30, decide_eq_true (by omega), decide_eq_true (by omega)]
  simp only [Bool.true_and, List.all_eq_true]
  intro y hy
  obtain ⟨r, hr, rfl⟩ := List.mem_map.mp hy
  exact rowB_of (h.rows r hr)
theorem od_t2 {b n : Nat} {x y : PyData} (hb : 3 ≤ b) (hx : Od b n x) (hy : Od b n y) : Od b (n + 1) (.tuple [x, y]) := ⟨by simp; omega, fun d hd => by
  have : d = x ∨ d = y := by simpa using hd
  rcases this with e | e <;> subst e <;> assumption⟩
theorem od_t3 {b n : Nat} {x y z : PyData} (hb : 3 ≤ b) (hx : Od b n x) (hy : Od b n y) (hz : Od b n z) : Od b (n + 1) (.tuple [x, y, z]) := ⟨by simp; omega, fun d hd => by
  have : d = x ∨ d = y ∨ d = z := by simpa using hd
  rcases this with e | e | e <;> subst e <;> assumption⟩
theorem od_w {b n : Nat} {x : Str} (hb : 8 ≤ b) (h : x ∈ [("number" : Str), "box", "set", "pick", "need", "skip", "give", "plus", "times", "less", "same"]) : Od b n (.str x) := by
  have : PyData.strOk x = true ∧ x.length ≤ 8 := by
    revert x
    decide +kernel
  exact od_str this.1 (by omega)
theorem od_name {b n : Nat} {x : Str} (hb : 8 ≤ b) (h : NameOk x) : Od b n (.str x) := od_str h.strOk (by have := h.2.1; omega)
theorem od_th {b m : Nat} {bs : List Str} (hb : 8 ≤ b) (hbs : ∀ x ∈ bs, NameOk x) : ∀ {n : Nat} {t : Th}, t.Ok m bs n → Od b n t.d
  | 0, t, h => by cases h
  | n + 1, .num k, h => od_t2 (by omega) (od_w hb (by decide +kernel)) od_int
  | n + 1, .box x, h => od_t2 (by omega) (od_w hb (by decide +kernel)) (od_name hb (hbs x h))
  | n + 1, .op o x y, h => od_t3 (by omega) (od_w hb (by cases o <;> decide +kernel)) (od_th hb hbs h.1) (od_th hb hbs h.2)
theorem od_rw {b m : Nat} {bs : List Str} (hb : 8 ≤ b) (hbs : ∀ x ∈ bs, NameOk x) {r : Rw} (h : r.Ok m bs) : Od b 6 r.d := by
  have th : ∀ t : Th, t.Ok m bs 4 → Od b 5 t.d := fun t ht => (od_th hb hbs ht).up (Nat.le_refl _) (by omega)
  cases r with
  | set x t => exact od_t3 (by omega) (od_w hb (by decide +kernel)) (od_name hb (hbs x h.1)) (th t h.2)
  | pick x ts =>
    refine od_t3 (by omega) (od_w hb (by decide +kernel)) (od_name hb (hbs x h.1)) ⟨by rw [List.length_map]; have := h.2.2.1; omega, fun d hd => ?_⟩
    obtain ⟨t, ht, rfl⟩ := List.mem_map.mp hd
    exact od_th hb hbs (h.2.2.2 t ht)
  | need t => exact od_t2 (by omega) (od_w hb (by decide +kernel)) (th t h)
  | give t => exact od_t2 (by omega) (od_w hb (by decide +kernel)) (th t h)
  | skip t k => exact od_t3 (by omega) (od_w hb (by decide +kernel)) (th t h.1) od_int
theorem od_bs {b n : Nat} {bs : List Str} (hb : 8 ≤ b) (hl : bs.length ≤ b) (hbs : ∀ x ∈ bs, NameOk x) : Od b (n + 1) (bsD bs) := ⟨by rw [List.length_map]; exact hl, fun d hd => by
  obtain ⟨x, hx, rfl⟩ := List.mem_map.mp hd
  exact od_name hb (hbs x hx)⟩
theorem od_pg {b : Nat} (hb : 30 ≤ b) {p : Pg} (h : p.Ok) : Od b 8 p.d := by
  refine od_t3 (by omega) od_int (od_bs (by omega) (by have := h.bs.len5; omega) h.bs.nm) ⟨by rw [List.length_map]; have := h.r30; omega, fun d hd => ?_⟩
  obtain ⟨r, hr, rfl⟩ := List.mem_map.mp hd
  exact od_rw (by omega) h.bs.nm (h.rows r hr)
end Dk
end
section
set_option Elab.async false
set_option linter.all false
set_option maxRecDepth 100000
set_option pp.maxSteps 600
open PySem L2 Pk
local macro_rules | `(tactic| walk_at "sh") => `(tactic| first | exact sh_int | exact sh_bool | exact sh_non | exact sh_nil | exact sh_str (by decide +kernel) | assumption)
local macro_rules | `(tactic| walk_at "v1") => `(tactic| first
  | (with_reducible refine wd_int ?_) | (with_reducible refine wd_str ?_) | (with_reducible refine wd_bl ?_) | (with_reducible refine wd_non ?_)
  | ((with_reducible apply wd_var); exact rfl) | ((with_reducible apply wd_varN); exact rfl)
  | ((with_reducible apply wd_ixm); exact rfl)
  | ((with_reducible apply wd_lenM); exact rfl) | ((with_reducible apply wd_lenScript); exact rfl) | ((with_reducible apply wd_ixScript); exact rfl)
  | (with_reducible refine wd_op ?_) | (with_reducible refine wd_un ?_)
  | (with_reducible refine rd_add ?_) | (with_reducible refine rd_sub ?_) | (with_reducible refine rd_lt ?_) | (with_reducible refine rd_le ?_) | (with_reducible refine rd_gt ?_) | (with_reducible refine rd_ge ?_) | (with_reducible refine ru_neg ?_)
  | ((with_reducible refine rd_eq ?ev_h ?ev_k ?_); (case ev_h => walk_at "sh"); (case ev_k => walk_at "sh")) | ((with_reducible refine rd_ne ?ev_h ?ev_k ?_); (case ev_h => walk_at "sh"); (case ev_k => walk_at "sh"))
  | ((with_reducible refine rd_mod ?ev_h ?_); case ev_h => first | decide | assumption | omega) | ((with_reducible refine rd_div ?ev_h ?ev_k ?_); (case ev_h => first | decide | assumption | omega); (case ev_k => first | decide | assumption | omega))
  | ((with_reducible refine rd_pow ?ev_h ?_); case ev_h => exact ⟨by decide, by decide, by decide⟩)
  | ((with_reducible refine rd_mul ?ev_h ?_); case ev_h => first | exact .inr ⟨by decide, by decide⟩ | exact .inl ⟨by decide, by decide⟩ | exact .inl ⟨by omega, by omega⟩ | exact .inr ⟨by omega, by omega⟩)
  | (with_reducible refine rc_lenL ?_) | (with_reducible refine rc_lenT ?_) | (with_reducible refine rc_max2 ?_) | (with_reducible refine rc_min2 ?_) | (with_reducible refine rc_intB ?_) | (with_reducible refine rc_intI ?_) | (with_reducible refine rc_listL ?_) | (with_reducible refine rc_listT ?_) | (with_reducible refine rc_tupleL ?_)
  | ((with_reducible apply rd_ixT); exact rfl)
  | ((with_reducible apply rd_ixL); exact rfl)
  | ((with_reducible refine wd_isi ?ev_h ?_); case ev_h => decide) | ((with_reducible refine wd_isi2 ?ev_h ?ev_k ?_); (case ev_h => decide); (case ev_k => decide))
  | (with_reducible refine wd_tup2 ?_) | (with_reducible refine wd_tup1 ?_) | (with_reducible refine wd_tup3 ?_) | (with_reducible refine wd_tup0 ?_)
  | (with_reducible refine wd_lst0 ?_) | (with_reducible refine wd_lst1 ?_) | (with_reducible refine wd_lst2 ?_) | (with_reducible refine wd_lst3 ?_) | (with_reducible refine wd_lst4 ?_) | (with_reducible refine wd_lst5 ?_) | (with_reducible refine wd_lst6 ?_)
  | ((with_reducible apply wd_callO0); exact rfl) | ((with_reducible apply wd_callO1); exact rfl) | ((with_reducible apply wd_callO2); exact rfl) | ((with_reducible apply wd_callO3); exact rfl)
  | (with_reducible refine wd_call1 ?_) | (with_reducible refine wd_call2 ?_) | (with_reducible refine wd_call3 ?_) | (with_reducible refine wd_call4 ?_) | (with_reducible refine wd_call0 ?_)
  | (with_reducible refine wd_cb1 ?_) | (with_reducible refine wd_cb2 ?_)
  | (with_reducible refine wd_rev ?_) | (with_reducible refine wd_lrg1 ?_) | (with_reducible refine wd_sl ?_) | (with_reducible refine wo_no ?_) | (with_reducible refine wo_some ?_)
  | (with_reducible refine wd_andV ?_) | (with_reducible refine wd_orV ?_) | (with_reducible refine wd_notV ?_) | (with_reducible refine wd_if ?_) | (with_reducible refine wd_chain ?_)
  | (with_reducible refine wt_test ?_) | (with_reducible refine wt_B ?_) | (with_reducible refine wt_not ?_) | (with_reducible refine wt_and ?_) | (with_reducible refine wt_or ?_) | (with_reducible refine wt_yes ?_)
  | (with_reducible refine gj_name ?_) | (with_reducible refine gj_tup rfl ?_) | (with_reducible refine gjs_cons ?_) | (with_reducible refine gjs_nil ?_))
local macro_rules | `(tactic| walk_at "v") => `(tactic| repeat walk_at "v1")
local macro_rules | `(tactic| walk_at "x") => `(tactic| refine ⟨_, rfl, ?_⟩)
local macro_rules | `(tactic| walk_at "vx") => `(tactic| repeat (first | walk_at "v1" | (with_reducible refine ⟨_, rfl, ?_⟩)))
namespace Dk
open PySem PySem.Spec PyProof.Rows L2 Pk Sy
def Oe (d : PyData) : Prop := ∃ n, Od 1000 n d
def BsW (bs : List Str) : Prop := bs.length ≤ 5 ∧ ∀ x ∈ bs, NameOk x
theorem Oe.tup {ds : List PyData} (h : Oe (.tuple ds)) : ds.length ≤ 1000 ∧ ∀ d ∈ ds, Oe d := by
  obtain ⟨n, h⟩ := h
  obtain ⟨a, n', _, b⟩ := h.tup
  exact ⟨a, fun d hd => ⟨n', b d hd⟩⟩
theorem Oe.lst {ds : List PyData} (h : Oe (.list ds)) : ds.length ≤ 1000 ∧ ∀ d ∈ ds, Oe d := by
  obtain ⟨n, h⟩ := h
  obtain ⟨a, n', _, b⟩ := h.lst
  exact ⟨a, fun d hd => ⟨n', b d hd⟩⟩
theorem Oe.str {x : Str} (h : Oe (.str x)) : PyData.strOk x = true ∧ x.length ≤ 1000 := h.elim fun _ h => h.str
theorem Oe.isL {d : PyData} (h : Oe d) : isTy d "list" = isLB d := h.elim fun _ h => isTy_lst h
def T_nameO (K : Kw) : List Sl → (Sl → Prop) → Prop := fun Γ Q => ∃ d, Γ = [.dat false d] ∧ Oe d ∧ Q (.dat true (.bool (nameB d)))
def T_wordO (K : Kw) : List Sl → (Sl → Prop) → Prop := fun Γ Q => ∃ (d : PyData) (ws : List Str) (many : Nat), Γ = [.dat false d, .dat false (.tuple (ws.map PyData.str)), .dat false (.int many)] ∧ Oe d ∧ (∀ x ∈ ws, PyData.strOk x = true) ∧ 1 ≤ many ∧ Q (.dat true (.bool (wordB ws many d)))
def T_thingO (n : Nat) (K : Kw) : List Sl → (Sl → Prop) → Prop := fun Γ Q => ∃ (d : PyData) (m : Int) (bs : List Str) (deep : Nat), Γ = [.dat false d, .dat false (.int m), .dat false (bsD bs), .dat false (.int deep)] ∧ Oe d ∧ BsW bs ∧ deep ≤ n ∧ Q (.dat true (.bool (thingB m bs deep d)))
def T_thingsO (K : Kw) : List Sl → (Sl → Prop) → Prop := fun Γ Q => ∃ (d : PyData) (m : Int) (bs : List Str), Γ = [.dat false d, .dat false (.int m), .dat false (bsD bs)] ∧ Oe d ∧ BsW bs ∧ Q (.dat true (.bool (thingsB m bs d)))
def T_rowO (K : Kw) : List Sl → (Sl → Prop) → Prop := fun Γ Q => ∃ (d : PyData) (m : Int) (bs : List Str), Γ = [.dat false d, .dat false (.int m), .dat false (bsD bs)] ∧ Oe d ∧ BsW bs ∧ Q (.dat true (.bool (rowB m bs d)))
def T_boxesO (K : Kw) : List Sl → (Sl → Prop) → Prop := fun Γ Q => ∃ d, Γ = [.dat false d] ∧ Oe d ∧ Q (.dat true (.bool (boxesB d)))
def T_progO (K : Kw) : List Sl → (Sl → Prop) → Prop := fun Γ Q => ∃ d, Γ = [.dat false d] ∧ Oe d ∧ Q (.dat true (.bool (progB d)))
theorem wordB_len {ws : List Str} {many : Nat} {ds : List PyData} (h : ¬ ds.length = many) : wordB ws many (.tuple ds) = false := by
  rcases ds with _ | ⟨x, r⟩
  · rfl
  · cases x with
    | str a =>
      show (decide (r.length + 1 = many) && decide (a ∈ ws)) = false
      rw [decide_eq_false (by simpa using h)]
      rfl
    | _ => rfl
theorem wordB_inv {ws : List Str} {many : Nat} {d : PyData} (h : wordB ws many d = true) : ∃ a r, d = .tuple (.str a :: r) ∧ r.length + 1 = many ∧ a ∈ ws := by
  unfold wordB at h
  split at h
  · rename_i a r
    simp only [Bool.and_eq_true, decide_eq_true_eq] at h
    exact ⟨a, r, rfl, h.1, h.2⟩
  · cases h
theorem wordB_inv2 {ws : List Str} {d : PyData} (h : wordB ws 2 d = true) : ∃ a y, a ∈ ws ∧ d = .tuple [.str a, y] := by
  obtain ⟨a, r, rfl, hr, ha⟩ := wordB_inv h
  rcases r with _ | ⟨y, _ | ⟨z, r⟩⟩
  · simp at hr
  · exact ⟨a, y, ha, rfl⟩
  · simp at hr
theorem wordB_inv3 {ws : List Str} {d : PyData} (h : wordB ws 3 d = true) : ∃ a y z, a ∈ ws ∧ d = .tuple [.str a, y, z] := by
  obtain ⟨a, r, rfl, hr, ha⟩ := wordB_inv h
  rcases r with _ | ⟨y, _ | ⟨z, _ | ⟨u, r⟩⟩⟩
  · simp at hr
  · simp at hr
  · exact ⟨a, y, z, ha, rfl⟩
  · simp at hr
theorem at0 {x : PyData} {r : List PyData} : atI (x :: r) 0 = some x := by
  show atI (x :: r) ((0 : Nat) : Int) = some x
  rw [atI_ofNat]
  rfl
theorem fil_all {α : Type} (p : α → Bool) (ds : List α) : decide ((ds.filter fun w => !p w) = []) = ds.all p := by
  rw [Bool.eq_iff_iff, decide_eq_true_iff, List.filter_eq_nil_iff, List.all_eq_true]
  constructor
  · intro h w m; simpa using h w m
  · intro h w m; simpa using h w m
theorem occ_iff (c : Nat) : (Builtin.Str.occurrences LET ⟨#[c]⟩ 0 LET.length 1).isEmpty = !ltrB c := by
  have h := PySem.StrLaws.found_one LET c
  have h2 : decide (c ∈ LET.cps.toList) = ltrB c := by
    have z : LET.cps.toList = (List.range 26).map (97 + ·) := by decide +kernel
    rw [z, Bool.eq_iff_iff, decide_eq_true_iff]
    simp only [List.mem_map, List.mem_range, ltrB, Bool.and_eq_true, decide_eq_true_eq]
    constructor
    · rintro ⟨r, hr, rfl⟩; omega
    · rintro ⟨h1, h2⟩; exact ⟨c - 97, by omega, by omega⟩
  rw [← h2, ← h, Bool.not_not]
theorem strOk_cp {x : Str} (h : PyData.strOk x = true) {c : Nat} (hc : c ∈ x.cps.toList) : c < 1114112 := by
  unfold PyData.strOk at h
  rw [← Array.all_toList, List.all_eq_true] at h
  simpa using h c hc
theorem eqv_lnil (ds : List PyData) : PyData.eqv (.list ds) (.list []) = decide (ds = []) := by cases ds <;> simp [PyData.eqv, PyData.eqvAll]
theorem ws_sh {ws : List Str} (h : ∀ x ∈ ws, PyData.strOk x = true) : SeqAt.shaped (.tuple (ws.map PyData.str)) = true := sh_of (n := 1) (fun x hx => by
  obtain ⟨y, hy, rfl⟩ := List.mem_map.mp hx
  exact dep_str (h y hy)) (by decide)
theorem dc_inv {xs : List Str} : Ps.dc xs xs.length = xs.length → xs.Nodup := fun h => by
  have key : ∀ i, i ≤ xs.length → Ps.dc xs i = i → (xs.take i).Nodup := by
    intro i
    induction i with
    | zero => intro _ _; simp
    | succ i ih =>
      intro hl he
      have hle := Ps.dc_le xs i
      unfold Ps.dc at he
      split at he
      · omega
      · rename_i hn
        have hi : i < xs.length := hl
        rw [List.take_succ, List.getElem?_eq_getElem hi]
        have e : xs.getD i Str.empty = xs[i] := by rw [List.getD_eq_getElem?_getD, List.getElem?_eq_getElem hi]; rfl
        rw [e] at hn
        refine List.nodup_append.mpr ⟨ih (by omega) (by omega), by simp, fun a ha b hb => ?_⟩
        have : b = xs[i] := by simpa using hb
        rintro rfl
        exact hn (this ▸ ha)
  have := key xs.length (Nat.le_refl _) h
  rwa [List.take_length] at this
theorem dc_dec (xs : List Str) : decide (((Ps.dc xs xs.length : Nat) : Int) = (xs.length : Int)) = decide xs.Nodup := by
  apply decide_eq_decide.mpr
  constructor
  · intro h; exact dc_inv (by omega)
  · intro h; rw [Ps.dc_nd h _ (Nat.le_refl _)]
theorem ok1 : ∀ x ∈ [("number" : Str)], PyData.strOk x = true := by decide +kernel
theorem ok2 : ∀ x ∈ [("box" : Str)], PyData.strOk x = true := by decide +kernel
theorem ok3 : ∀ x ∈ OPS, PyData.strOk x = true := by decide +kernel
theorem ok4 : ∀ x ∈ [("need" : Str), "give"], PyData.strOk x = true := by decide +kernel
theorem ok5 : ∀ x ∈ [("skip" : Str)], PyData.strOk x = true := by decide +kernel
theorem ok6 : ∀ x ∈ [("set" : Str), "pick"], PyData.strOk x = true := by decide +kernel
section
variable {K : Kw} {m : Bool} {Γ : List Sl} {Q : PyData → Prop} {ta tb tc td : TE}
theorem rd_notInS {i j : Str} (q : Q (.bool (!(!(Builtin.Str.occurrences j i 0 j.length 1).isEmpty)))) : RD K m Γ (dNotIn K) (.str i) (.str j) Q := rd_plain (d := .bool _) (fun F H v u C le rv ru k => by
  cases rv
  cases ru
  exact .inr (.inl ⟨i, j, rfl, rfl, k _ (.bl _)⟩)) q
theorem wd_tup4 (h : WD K m Γ ta fun x => WD K m Γ tb fun y => WD K m Γ tc fun z => WD K m Γ td fun u => Q (.tuple [x, y, z, u])) : WD K m Γ (tTup (tCons ta (tCons tb (tCons tc (tCons td tNil))))) Q := wd_tup (wa_d (h.mono fun x h => wa_d (h.mono fun y h => wa_d (h.mono fun z h => wa_d (h.mono fun u q => wa_nil ⟨_, rfl, le_lit rfl, q⟩)))))
theorem use_word {d : PyData} {ws : List Str} {many : Nat} (hd : Oe d) (ok : ∀ x ∈ ws, PyData.strOk x = true) (h1 : 1 ≤ many) (q : Q (.bool (wordB ws many d))) : T_wordO K [.dat false d, .dat false (.tuple (ws.map PyData.str)), .dat false (.int many)] (asD m Q) := ⟨d, ws, many, rfl, hd, ok, h1, asD_new q⟩
end
section
variable {P : Program} {K : Kw} {mg : Str → Option Value} {base : Heap} {k : Nat}
theorem ok_nameO (D : Def K mg "is_name" s_is_name ["thing"]) (m_len : mg "len" = none) (m_isinstance : mg "isinstance" = none) (m_str : mg "str" = none) (g_LETTERS : ∃ t, mg "LETTERS" = some (.str "abcdefghijklmnopqrstuvwxyz" t)) : Cal P K.w K mg base CX0 (k + 1) "is_name" ["thing"] (spG K (T_nameO K)) := by
  refine cal_g D sc_is_name (fun Γ Qr ⟨x, e, _⟩ => by subst e; exact ⟨rfl, noMl_dat noMl_nil⟩) fun f cdv A outer s H E hr => ⟨_, wk_is_name m_len m_isinstance m_str g_LETTERS f cdv A outer s H E hr, ?_⟩
  rintro Γ Qr ⟨d, rfl, hd, q⟩
  show SJ K [.dat false d, .no] (t_is_name K) _
  unfold t_is_name
  have kp : ∀ {Γ'}, Keep [.dat false d] (.dat false d :: Γ') := fun {Γ'} => keep_dat keep_nil
  refine sj_retD true <| wd_lf <| wd_andV <| wd_isi (by decide) <| wd_var rfl ⟨_, rfl, ?_⟩
  rw [isTy_str]
  cases d with
  | str x =>
    have hx := hd.str
    have eq : nameB (.str x) = (decide (1 ≤ x.length) && decide (x.length ≤ 8) && x.cps.toList.all ltrB) := rfl
    refine iteT' rfl <| wd_andV <| wd_chain <| wd_int <| wd_cb1 <| wd_var rfl <| rc_lenS (by omega) <| rd_le ⟨_, rfl, ?_⟩
    refine iteD (fun h1 => ?_) (fun h1 => ⟨_, rfl, iteF' rfl ⟨rfl, kp, ?_⟩⟩)
    · refine wd_int <| rd_le ⟨_, rfl, _, rfl, iteD (fun h2 => ?_) (fun h2 => ⟨rfl, kp, ?_⟩)⟩
      · refine wd_op <| wd_lcPa (mi := false) (α := Nat) (fun c => .str ⟨#[c]⟩) (fun c => !ltrB c) (fun c => .str ⟨#[c]⟩) (wipeOk_no rfl wipeOk_nil) gwn <| wi_str <| wd_var rfl ⟨x, rfl, x.cps.toList, rfl, by rw [← str_len]; omega, fun i c hc => gj_name ⟨rfl, ?_⟩, ?_⟩
        · refine wt_test <| wd_op <| wd_var rfl <| wd_str <| rd_notInS ⟨_, rfl, ?_, fun hb => wd_var rfl rfl⟩
          rw [Bool.not_not]
          exact occ_iff c
        · refine wd_lst0 <| rd_eq (sh_of (n := 1) (fun y hy => ?_) (by decide)) sh_nil ⟨rfl, kp, ?_⟩
          · obtain ⟨c, hc, rfl⟩ := List.mem_map.mp hy
            refine dep_str (Pu.strOk_of fun c' hc' => ?_)
            have : c' = c := by simpa using hc'
            subst this
            exact strOk_cp hx.1 (List.mem_filter.mp hc).1
          · have e : PyData.eqv (.list ((x.cps.toList.filter fun c => !ltrB c).map fun c => PyData.str ⟨#[c]⟩)) (.list []) = nameB (.str x) := by
              rw [eqv_lnil, eq, decide_eq_true (by omega : 1 ≤ x.length), decide_eq_true (by omega : x.length ≤ 8)]
              simp only [Bool.true_and]
              rw [← fil_all ltrB]
              apply decide_eq_decide.mpr
              rw [List.map_eq_nil_iff]
            rw [e]
            exact q
      · rw [eq, decide_eq_false (by omega : ¬ x.length ≤ 8), Bool.and_false, Bool.false_and] at q
        exact q
    · rw [eq, decide_eq_false (by omega : ¬ 1 ≤ x.length), Bool.false_and, Bool.false_and] at q
      exact q
  | _ => exact iteF' rfl ⟨rfl, kp, q⟩
theorem ok_wordO (D : Def K mg "is_word_of" s_is_word_of ["thing", "words", "many"]) (m_isinstance : mg "isinstance" = none) (m_str : mg "str" = none) (m_len : mg "len" = none) (m_tuple : mg "tuple" = none) : Cal P K.w K mg base CX0 (k + 1) "is_word_of" ["thing", "words", "many"] (spG K (T_wordO K)) := by
  refine cal_g D sc_is_word_of (fun Γ Qr ⟨a, ws, many, e, _⟩ => by subst e; exact ⟨rfl, noMl_dat (noMl_dat (noMl_dat noMl_nil))⟩) fun f cdv A outer s H E hr => ⟨_, wk_is_word_of m_isinstance m_str m_len m_tuple f cdv A outer s H E hr, ?_⟩
  rintro Γ Qr ⟨d, ws, many, rfl, hd, hw, h1, q⟩
  show SJ K [.dat false d, .dat false (.tuple (ws.map PyData.str)), .dat false (.int many)] (t_is_word_of K) _
  unfold t_is_word_of
  have kp : ∀ {Γ'}, Keep [.dat false d, .dat false (.tuple (ws.map PyData.str)), .dat false (.int many)] (.dat false d :: .dat false (.tuple (ws.map PyData.str)) :: .dat false (.int many) :: Γ') := fun {Γ'} => keep_dat (keep_dat (keep_dat keep_nil))
  refine sj_retD true <| wd_lf <| wd_andV <| wd_isi (by decide) <| wd_var rfl ⟨_, rfl, ?_⟩
  rw [isTy_tup]
  cases d with
  | tuple ds =>
    refine iteT' rfl <| wd_andV <| wd_op <| wd_cb1 <| wd_var rfl <| rc_lenT <| wd_var rfl <| rd_eq sh_int sh_int ⟨_, rfl, ?_⟩
    rw [eqv_int]
    refine iteD (fun h => ?_) (fun h => ⟨rfl, kp, ?_⟩)
    · rcases ds with _ | ⟨x, r⟩
      · simp at h; omega
      refine wd_andV <| wd_isi (by decide) <| wd_op <| wd_var rfl <| wd_int <| rd_ixT at0 ⟨_, rfl, ?_⟩
      rw [isTy_str]
      cases x with
      | str a =>
        have ha := (hd.tup.2 _ List.mem_cons_self).str.1
        refine iteT' rfl <| wd_op <| wd_op <| wd_var rfl <| wd_int <| rd_ixT at0 <| wd_var rfl <| rd_inT (sh_str ha) (ws_sh hw) ⟨rfl, kp, ?_⟩
        rw [names_any]
        have e : wordB ws many (.tuple (.str a :: r)) = decide (a ∈ ws) := by
          show (decide (r.length + 1 = many) && decide (a ∈ ws)) = decide (a ∈ ws)
          rw [decide_eq_true (by simp only [List.length_cons] at h; omega), Bool.true_and]
        rw [← e]
        exact q
      | _ => exact iteF' rfl ⟨rfl, kp, q⟩
    · rw [wordB_len (by omega)] at q
      exact q
  | _ => exact iteF' rfl ⟨rfl, kp, q⟩
theorem ok_thingO (D : Def K mg "is_thing" s_is_thing ["thing", "m", "boxes", "deep"]) (c_word : Cal P K.w K mg base CX0 k "is_word_of" ["thing", "words", "many"] (spG K (T_wordO K))) (c_whole : Cal P K.w K mg base CX0 k "is_whole" ["thing", "low", "high"] (spG K (T_whole K))) (m_isinstance : mg "isinstance" = none) (m_str : mg "str" = none) : ∀ n, Cal P K.w K mg base CX0 (k + 1 + n) "is_thing" ["thing", "m", "boxes", "deep"] (spG K (T_thingO n K))
  | n => by
    have ih : Cal P K.w K mg base CX0 (k + n) "is_thing" ["thing", "m", "boxes", "deep"] (spG K fun Γ Q => ∃ n', n = n' + 1 ∧ T_thingO n' K Γ Q) := by
      cases n with
      | zero =>
        refine (cal_no D).imp fun vs H Q E h => ?_
        obtain ⟨_, _, _, _, _, _, _, _, _, ⟨n', h0, _⟩, _⟩ := h
        omega
      | succ n =>
        have z := ok_thingO D c_word c_whole m_isinstance m_str n
        have ez : k + (n + 1) = k + 1 + n := by omega
        rw [ez]
        refine z.imp fun vs H Q E h => ?_
        obtain ⟨X, F, Γ, Qr, h1, h2, h3, h4, h5, ⟨n', h0, h6⟩, h7⟩ := h
        have : n' = n := by omega
        subst this
        exact ⟨X, F, Γ, Qr, h1, h2, h3, h4, h5, h6, h7⟩
    have ek : k + 1 + n = (k + n) + 1 := by omega
    rw [ek]
    refine cal_g D sc_is_thing (fun Γ Qr ⟨t, m, bs, deep, e, _⟩ => by subst e; exact ⟨rfl, noMl_dat (noMl_dat (noMl_dat (noMl_dat noMl_nil)))⟩) fun f cdv A outer s H E hr => ⟨_, wk_is_thing (c_word.mono (by omega)) ih (c_whole.mono (by omega)) m_isinstance m_str f cdv A outer s H E hr, ?_⟩
    rintro Γ Qr ⟨d, m, bs, deep, rfl, hd, hb, hdn, q⟩
    have kp : ∀ {Γ'}, Keep [.dat false d, .dat false (.int m), .dat false (bsD bs), .dat false (.int deep)] (.dat false d :: .dat false (.int m) :: .dat false (bsD bs) :: .dat false (.int deep) :: Γ') := fun {Γ'} => keep_dat (keep_dat (keep_dat (keep_dat keep_nil)))
    show SJ K [.dat false d, .dat false (.int m), .dat false (bsD bs), .dat false (.int deep)] (t_is_thing K _ _ _) _
    unfold t_is_thing
    refine sj_seq <| sj_if <| wt_test <| wd_op <| wd_var rfl <| wd_int <| rd_eq sh_int sh_int ⟨_, rfl, ?_⟩
    rw [eqv_int]
    cases deep with
    | zero => exact iteT' (by simp) <| sj_retD true <| wd_lf <| wd_bl ⟨rfl, kp, q⟩
    | succ j =>
    refine iteF' (decide_eq_false (by omega)) <| sj_next ?_
    have ej : ((j + 1 : Nat) : Int) - 1 = (j : Int) := by omega
    refine sj_seq <| sj_if <| wt_B <| wd_call3 <| wd_var rfl <| wd_tup1 <| wd_str <| wd_int <| use_word (ws := ["number"]) (many := 2) hd ok1 (by decide) ⟨_, rfl, ?_⟩
    cases h1 : wordB ["number"] 2 d with
    | true =>
      obtain ⟨a, y, ha, rfl⟩ := wordB_inv2 h1
      refine iteT' rfl <| sj_retD true <| wd_call3 <| wd_op <| wd_var rfl <| wd_int <| rd_ixT (d := y) rfl <| wd_int <| wd_op <| wd_var rfl <| wd_int <| rd_sub ⟨y, 0, m - 1, rfl, asD_new ⟨kp, ?_⟩⟩
      have e : thingB m bs (j + 1) (.tuple [.str a, y]) = isWhole y 0 (m - 1) := by
        rw [thingB_succ, if_pos h1]
        rfl
      rw [← e]
      exact q
    | false =>
    refine iteF' rfl <| sj_next <| sj_seq <| sj_if <| wt_B <| wd_call3 <| wd_var rfl <| wd_tup1 <| wd_str <| wd_int <| use_word (ws := ["box"]) (many := 2) hd ok2 (by decide) ⟨_, rfl, ?_⟩
    cases h2 : wordB ["box"] 2 d with
    | true =>
      obtain ⟨a, y, ha, rfl⟩ := wordB_inv2 h2
      have e : thingB m bs (j + 1) (.tuple [.str a, y]) = strIn bs y := by
        rw [thingB_succ, if_neg (by rw [h1]; decide), if_pos h2]
        rfl
      rw [e] at q
      refine iteT' rfl <| sj_retD true <| wd_lf <| wd_andV <| wd_isi (by decide) <| wd_op <| wd_var rfl <| wd_int <| rd_ixT (d := y) rfl ⟨_, rfl, ?_⟩
      rw [isTy_str]
      have hy := hd.tup.2 y (by simp)
      cases y with
      | str x =>
        refine iteT' rfl <| wd_op <| wd_op <| wd_var rfl <| wd_int <| rd_ixT (d := .str x) rfl <| wd_var rfl <| rd_in (sh_str hy.str.1) (bs_sh hb.2) ⟨rfl, kp, ?_⟩
        rw [names_any]
        exact q
      | _ => exact iteF' rfl ⟨rfl, kp, q⟩
    | false =>
    refine iteF' rfl <| sj_next <| sj_seq <| sj_if <| wt_B <| wd_call3 <| wd_var rfl <| wd_tup4 <| wd_str <| wd_str <| wd_str <| wd_str <| wd_int <| use_word (ws := OPS) (many := 3) hd ok3 (by decide) ⟨_, rfl, ?_⟩
    cases h3 : wordB OPS 3 d with
    | true =>
      obtain ⟨a, y, z, ha, rfl⟩ := wordB_inv3 h3
      have e : thingB m bs (j + 1) (.tuple [.str a, y, z]) = (thingB m bs j y && thingB m bs j z) := by
        rw [thingB_succ, if_neg (by rw [h1]; decide), if_neg (by rw [h2]; decide), if_pos h3]
        rfl
      rw [e] at q
      have hy := hd.tup.2 y (by simp)
      have hz := hd.tup.2 z (by simp)
      obtain ⟨n', rfl⟩ : ∃ n', n = n' + 1 := ⟨n - 1, by omega⟩
      refine iteT' rfl <| sj_retD true <| wd_lf <| wd_andV <| wd_call4 <| wd_op <| wd_var rfl <| wd_int <| rd_ixT (d := y) rfl <| wd_var rfl <| wd_var rfl <| wd_op <| wd_var rfl <| wd_int <| rd_sub ?_
      rw [ej]
      refine ⟨n', rfl, y, m, bs, j, rfl, hy, hb, by omega, asD_new ⟨_, rfl, ?_⟩⟩
      cases hyb : thingB m bs j y with
      | false => rw [hyb] at q; exact iteF' rfl ⟨rfl, kp, q⟩
      | true =>
        rw [hyb, Bool.true_and] at q
        refine iteT' rfl <| wd_call4 <| wd_op <| wd_var rfl <| wd_int <| rd_ixT (d := z) rfl <| wd_var rfl <| wd_var rfl <| wd_op <| wd_var rfl <| wd_int <| rd_sub ?_
        rw [ej]
        exact ⟨n', rfl, z, m, bs, j, rfl, hz, hb, by omega, asD_new ⟨rfl, kp, q⟩⟩
    | false =>
    refine iteF' rfl <| sj_next <| sj_retD true <| wd_lf <| wd_bl ⟨rfl, kp, ?_⟩
    have e : thingB m bs (j + 1) d = false := by
      rw [thingB_succ, if_neg (by rw [h1]; decide), if_neg (by rw [h2]; decide), if_neg (by rw [h3]; decide)]
    rw [e] at q
    exact q
theorem ok_thingsO (D : Def K mg "are_things" s_are_things ["thing", "m", "boxes"]) (c_thing : Cal P K.w K mg base CX0 k "is_thing" ["thing", "m", "boxes", "deep"] (spG K (T_thingO 4 K))) (m_len : mg "len" = none) (m_isinstance : mg "isinstance" = none) (m_list : mg "list" = none) (g_DEEPEST : ∃ t, mg "DEEPEST" = some (.int 4 t)) : Cal P K.w K mg base CX0 (k + 1) "are_things" ["thing", "m", "boxes"] (spG K (T_thingsO K)) := by
  refine cal_g D sc_are_things (fun Γ Qr ⟨ts, m, bs, e, _⟩ => by subst e; exact ⟨rfl, noMl_dat (noMl_dat (noMl_dat noMl_nil))⟩) fun f cdv A outer s H E hr => ⟨_, wk_are_things c_thing m_len m_isinstance m_list g_DEEPEST f cdv A outer s H E hr, ?_⟩
  rintro Γ Qr ⟨d, m, bs, rfl, hd, hb, q⟩
  show SJ K [.dat false d, .dat false (.int m), .dat false (bsD bs), .no] (t_are_things K _) _
  unfold t_are_things
  have kp : ∀ {Γ'}, Keep [.dat false d, .dat false (.int m), .dat false (bsD bs)] (.dat false d :: .dat false (.int m) :: .dat false (bsD bs) :: Γ') := fun {Γ'} => keep_dat (keep_dat (keep_dat keep_nil))
  have no : thingsB m bs d = false → ∀ {M : Po}, M.rt = (retP [.dat false d, .dat false (.int m), .dat false (bsD bs)] Qr).rt → SJ K [.dat false d, .dat false (.int m), .dat false (bsD bs), .no] (tRet (tC (.bl false))) M := fun e M eM => by
    rw [e] at q
    exact sj_retD true (by rw [eM]; exact wd_lf (wd_bl ⟨rfl, kp, q⟩))
  refine sj_seq <| sj_if <| wt_or <| wt_not <| wt_B <| wd_isi (by decide) <| wd_var rfl ⟨_, rfl, ?_⟩
  rw [hd.isL]
  cases d with
  | list ds =>
    have e : thingsB m bs (.list ds) = (decide (1 ≤ ds.length) && decide (ds.length ≤ 5) && ds.all (thingB m bs 4)) := rfl
    refine iteF' rfl <| wt_not <| wt_test <| wd_chain <| wd_int <| wd_cb1 <| wd_var rfl <| rc_lenL <| rd_le ⟨_, rfl, iteD (fun h1 => ?_) (fun h1 => ⟨_, rfl, iteT' rfl (no (by rw [e, decide_eq_false (by omega)]; rfl) rfl)⟩)⟩
    refine wd_int <| rd_le ⟨_, rfl, _, rfl, ?_⟩
    by_cases h2 : ((ds.length : Nat) : Int) ≤ 5
    · rw [e, decide_eq_true (by omega), decide_eq_true (by omega), Bool.true_and, Bool.true_and] at q
      refine iteF' (by rw [decide_eq_true h2]; rfl) <| sj_next <| sj_retD true <| wd_lf <| wd_op <| wd_lcPa (mi := false) (α := PyData) id (fun w => !thingB m bs 4 w) id (wipeOk_no rfl wipeOk_nil) gwn <| wi_list <| wd_var (d := .list ds) rfl ⟨_, rfl, ds, by simp, by omega, fun j w hw => gj_name ⟨rfl, wt_not <| wt_B <| wd_call4 <| wd_var rfl <| wd_var rfl <| wd_var rfl <| wd_int ⟨w, m, bs, 4, rfl, hd.lst.2 w (List.mem_of_getElem? hw), hb, Nat.le_refl _, asD_new ⟨_, rfl, rfl, fun _ => wd_var rfl rfl⟩⟩⟩, ?_⟩
      rw [List.map_id]
      refine wd_lst0 <| rd_eqNil ⟨rfl, kp, ?_⟩
      rw [fil_all]
      exact q
    · exact iteT' (by rw [decide_eq_false h2]; rfl) (no (by rw [e, decide_eq_false (by omega : ¬ ds.length ≤ 5), Bool.and_false, Bool.false_and]) rfl)
  | _ => exact iteT' rfl (no rfl rfl)
theorem ok_rowO (D : Def K mg "is_row" s_is_row ["thing", "m", "boxes"]) (c_things : Cal P K.w K mg base CX0 k "are_things" ["thing", "m", "boxes"] (spG K (T_thingsO K))) (c_thing : Cal P K.w K mg base CX0 k "is_thing" ["thing", "m", "boxes", "deep"] (spG K (T_thingO 4 K))) (c_word : Cal P K.w K mg base CX0 k "is_word_of" ["thing", "words", "many"] (spG K (T_wordO K))) (c_whole : Cal P K.w K mg base CX0 k "is_whole" ["thing", "low", "high"] (spG K (T_whole K))) (m_isinstance : mg "isinstance" = none) (m_str : mg "str" = none) (g_DEEPEST : ∃ t, mg "DEEPEST" = some (.int 4 t)) : Cal P K.w K mg base CX0 (k + 1) "is_row" ["thing", "m", "boxes"] (spG K (T_rowO K)) := by
  refine cal_g D sc_is_row (fun Γ Qr ⟨r, m, bs, e, _⟩ => by subst e; exact ⟨rfl, noMl_dat (noMl_dat (noMl_dat noMl_nil))⟩) fun f cdv A outer s H E hr => ⟨_, wk_is_row c_things c_thing c_word c_whole m_isinstance m_str g_DEEPEST f cdv A outer s H E hr, ?_⟩
  rintro Γ Qr ⟨d, m, bs, rfl, hd, hb, q⟩
  have kp : ∀ {Γ'}, Keep [.dat false d, .dat false (.int m), .dat false (bsD bs)] (.dat false d :: .dat false (.int m) :: .dat false (bsD bs) :: Γ') := fun {Γ'} => keep_dat (keep_dat (keep_dat keep_nil))
  have no : rowB m bs d = false → ∀ {M : Po}, M.rt = (retP [.dat false d, .dat false (.int m), .dat false (bsD bs)] Qr).rt → SJ K [.dat false d, .dat false (.int m), .dat false (bsD bs)] (tRet (tC (.bl false))) M := fun e M eM => by
    rw [e] at q
    exact sj_retD true (by rw [eM]; exact wd_lf (wd_bl ⟨rfl, kp, q⟩))
  show SJ K [.dat false d, .dat false (.int m), .dat false (bsD bs)] (t_is_row K _ _ _ _) _
  unfold t_is_row
  refine sj_seq <| sj_if <| wt_B <| wd_call3 <| wd_var rfl <| wd_tup2 <| wd_str <| wd_str <| wd_int <| use_word (ws := ["need", "give"]) (many := 2) hd ok4 (by decide) ⟨_, rfl, ?_⟩
  cases h1 : wordB ["need", "give"] 2 d with
  | true =>
    obtain ⟨a, y, ha, rfl⟩ := wordB_inv2 h1
    have e : rowB m bs (.tuple [.str a, y]) = thingB m bs 4 y := by
      unfold rowB
      rw [if_pos h1]
      rfl
    rw [e] at q
    exact iteT' rfl <| sj_retD true <| wd_call4 <| wd_op <| wd_var rfl <| wd_int <| rd_ixT (d := y) rfl <| wd_var rfl <| wd_var rfl <| wd_int ⟨y, m, bs, 4, rfl, hd.tup.2 y (by simp), hb, Nat.le_refl _, asD_new ⟨kp, q⟩⟩
  | false =>
  refine iteF' rfl <| sj_next <| sj_seq <| sj_if <| wt_B <| wd_call3 <| wd_var rfl <| wd_tup1 <| wd_str <| wd_int <| use_word (ws := ["skip"]) (many := 3) hd ok5 (by decide) ⟨_, rfl, ?_⟩
  cases h2 : wordB ["skip"] 3 d with
  | true =>
    obtain ⟨a, y, z, ha, rfl⟩ := wordB_inv3 h2
    have e : rowB m bs (.tuple [.str a, y, z]) = (thingB m bs 4 y && isWhole z 1 30) := by
      unfold rowB
      rw [if_neg (by rw [h1]; decide), if_pos h2]
      rfl
    rw [e] at q
    refine iteT' rfl <| sj_retD true <| wd_lf <| wd_andV <| wd_call4 <| wd_op <| wd_var rfl <| wd_int <| rd_ixT (d := y) rfl <| wd_var rfl <| wd_var rfl <| wd_int ⟨y, m, bs, 4, rfl, hd.tup.2 y (by simp), hb, Nat.le_refl _, asD_new ⟨_, rfl, ?_⟩⟩
    cases hyb : thingB m bs 4 y with
    | false => rw [hyb] at q; exact iteF' rfl ⟨rfl, kp, q⟩
    | true =>
      rw [hyb, Bool.true_and] at q
      exact iteT' rfl <| wd_call3 <| wd_op <| wd_var rfl <| wd_int <| rd_ixT (d := z) rfl <| wd_int <| wd_int ⟨z, 1, 30, rfl, asD_new ⟨rfl, kp, q⟩⟩
  | false =>
  refine iteF' rfl <| sj_next <| sj_seq <| sj_if <| wt_or <| wt_not <| wt_B <| wd_call3 <| wd_var rfl <| wd_tup2 <| wd_str <| wd_str <| wd_int <| use_word (ws := ["set", "pick"]) (many := 3) hd ok6 (by decide) ⟨_, rfl, ?_⟩
  cases h3 : wordB ["set", "pick"] 3 d with
  | false => exact iteT' rfl (iteT' rfl (no (by unfold rowB; rw [if_neg (by rw [h1]; decide), if_neg (by rw [h2]; decide), if_pos h3]) rfl))
  | true =>
    obtain ⟨a, y, z, ha, rfl⟩ := wordB_inv3 h3
    have hy := hd.tup.2 y (by simp)
    have hz := hd.tup.2 z (by simp)
    have ha' := (hd.tup.2 (.str a) (by simp)).str.1
    have no2 : strIn bs y = false → rowB m bs (.tuple [.str a, y, z]) = false := fun hs => by
      unfold rowB
      rw [if_neg (by rw [h1]; decide), if_neg (by rw [h2]; decide), if_neg (by rw [h3]; decide)]
      show (if strIn bs y = false then _ else _) = _
      rw [if_pos hs]
    refine iteF' rfl <| wt_or <| wt_not <| wt_B <| wd_isi (by decide) <| wd_op <| wd_var rfl <| wd_int <| rd_ixT (d := y) rfl ⟨_, rfl, ?_⟩
    rw [isTy_str]
    cases y with
    | str x =>
      refine iteF' rfl <| wt_test <| wd_op <| wd_op <| wd_var rfl <| wd_int <| rd_ixT (d := .str x) rfl <| wd_var rfl <| rd_notIn (sh_str hy.str.1) (bs_sh hb.2) ⟨_, rfl, ?_⟩
      rw [names_any]
      by_cases hx : x ∈ bs
      · have hs : strIn bs (.str x) = true := decide_eq_true hx
        refine iteF' (by rw [decide_eq_true hx]; rfl) <| sj_next <| sj_seq <| sj_if <| wt_test <| wd_op <| wd_op <| wd_var rfl <| wd_int <| rd_ixT (d := .str a) rfl <| wd_str <| rd_eq (sh_str ha') (sh_str (by decide +kernel)) ⟨_, rfl, ?_⟩
        rw [eqv_str]
        refine iteD (fun hset => ?_) (fun hset => sj_next ?_)
        · have e : rowB m bs (.tuple [.str a, .str x, z]) = thingB m bs 4 z := by
            unfold rowB
            rw [if_neg (by rw [h1]; decide), if_neg (by rw [h2]; decide), if_neg (by rw [h3]; decide)]
            show (if strIn bs (.str x) = false then _ else _) = _
            rw [if_neg (by rw [hs]; decide), if_pos (by show (decide (2 + 1 = 3) && decide (a ∈ [("set" : Str)])) = true; rw [hset]; decide +kernel)]
            rfl
          rw [e] at q
          exact sj_retD true <| wd_call4 <| wd_op <| wd_var rfl <| wd_int <| rd_ixT (d := z) rfl <| wd_var rfl <| wd_var rfl <| wd_int ⟨z, m, bs, 4, rfl, hz, hb, Nat.le_refl _, asD_new ⟨kp, q⟩⟩
        · have e : rowB m bs (.tuple [.str a, .str x, z]) = thingsB m bs z := by
            unfold rowB
            rw [if_neg (by rw [h1]; decide), if_neg (by rw [h2]; decide), if_neg (by rw [h3]; decide)]
            show (if strIn bs (.str x) = false then _ else _) = _
            rw [if_neg (by rw [hs]; decide), if_neg (by
                have hm : a ∉ [("set" : Str)] := by simpa using hset
                show ¬ (decide (2 + 1 = 3) && decide (a ∈ [("set" : Str)])) = true
                rw [decide_eq_false hm]
                simp)]
            rfl
          rw [e] at q
          exact sj_retD true <| wd_call3 <| wd_op <| wd_var rfl <| wd_int <| rd_ixT (d := z) rfl <| wd_var rfl <| wd_var rfl ⟨z, m, bs, rfl, hz, hb, asD_new ⟨kp, q⟩⟩
      · exact iteT' (by rw [decide_eq_false hx]; rfl) (no (no2 (decide_eq_false hx)) rfl)
    | _ => exact iteT' rfl (iteT' rfl (no (no2 rfl) rfl))
theorem ok_boxesO (D : Def K mg "are_boxes" s_are_boxes ["thing"]) (c_name : Cal P K.w K mg base CX0 k "is_name" ["thing"] (spG K (T_nameO K))) (m_len : mg "len" = none) (m_set : mg "set" = none) (m_isinstance : mg "isinstance" = none) (m_list : mg "list" = none) : Cal P K.w K mg base CX0 (k + 1) "are_boxes" ["thing"] (spG K (T_boxesO K)) := by
  refine cal_g D sc_are_boxes (fun Γ Qr ⟨bs, e, _⟩ => by subst e; exact ⟨rfl, noMl_dat noMl_nil⟩) fun f cdv A outer s H E hr => ⟨_, wk_are_boxes c_name m_len m_set m_isinstance m_list f cdv A outer s H E hr, ?_⟩
  rintro Γ Qr ⟨d, rfl, hd, q⟩
  show SJ K [.dat false d, .no] (t_are_boxes K _) _
  unfold t_are_boxes
  have kp : ∀ {Γ'}, Keep [.dat false d] (.dat false d :: Γ') := fun {Γ'} => keep_dat keep_nil
  have no : boxesB d = false → ∀ {M : Po}, M.rt = (retP [.dat false d] Qr).rt → SJ K [.dat false d, .no] (tRet (tC (.bl false))) M := fun e M eM => by
    rw [e] at q
    exact sj_retD true (by rw [eM]; exact wd_lf (wd_bl ⟨rfl, kp, q⟩))
  refine sj_seq <| sj_if <| wt_or <| wt_not <| wt_B <| wd_isi (by decide) <| wd_var rfl ⟨_, rfl, ?_⟩
  rw [hd.isL]
  cases d with
  | list ds =>
    have e : boxesB (.list ds) = (decide (1 ≤ ds.length) && decide (ds.length ≤ 5) && ds.all nameB && decide (strsOf ds).Nodup) := rfl
    refine iteF' rfl <| wt_or <| wt_not <| wt_test <| wd_chain <| wd_int <| wd_cb1 <| wd_var rfl <| rc_lenL <| rd_le ⟨_, rfl, iteD (fun h1 => ?_) (fun h1 => ⟨_, rfl, iteT' rfl (iteT' rfl (no (by rw [e, decide_eq_false (by omega)]; rfl) rfl))⟩)⟩
    refine wd_int <| rd_le ⟨_, rfl, _, rfl, ?_⟩
    by_cases h2 : ((ds.length : Nat) : Int) ≤ 5
    · rw [e, decide_eq_true (by omega), decide_eq_true (by omega), Bool.true_and, Bool.true_and] at q
      refine iteF' (by rw [decide_eq_true h2]; rfl) <| wt_test <| wd_op <| wd_lcPa (mi := false) (α := PyData) id (fun w => !nameB w) id (wipeOk_no rfl wipeOk_nil) gwn <| wi_list <| wd_var (d := .list ds) rfl ⟨_, rfl, ds, by simp, by omega, fun j w hw => gj_name ⟨rfl, wt_not <| wt_B <| wd_call1 <| wd_var rfl ⟨w, rfl, hd.lst.2 w (List.mem_of_getElem? hw), asD_new ⟨_, rfl, rfl, fun _ => wd_var rfl rfl⟩⟩⟩, ?_⟩
      rw [List.map_id]
      refine wd_lst0 <| rd_neNil ⟨_, rfl, ?_⟩
      rw [fil_all]
      cases hn : ds.all nameB with
      | false => exact iteT' rfl (no (by rw [e, hn, Bool.and_false, Bool.false_and]) rfl)
      | true =>
        obtain ⟨bs, rfl⟩ := names_are hn
        rw [hn, strsOf_map, Bool.true_and] at q
        rw [List.length_map] at h1 h2
        refine iteF' rfl <| sj_next <| sj_retD true <| wd_lf <| wd_op <| wd_lenSetS <| wd_var rfl ⟨bs, rfl, by omega, wd_cb1 <| wd_var rfl <| rc_lenL <| rd_eq sh_int sh_int ⟨rfl, kp, ?_⟩⟩
        rw [List.length_map, eqv_int, dc_dec]
        exact q
    · exact iteT' (by rw [decide_eq_false h2]; rfl) (iteT' rfl (no (by rw [e, decide_eq_false (by omega : ¬ ds.length ≤ 5), Bool.and_false, Bool.false_and]; rfl) rfl))
  | _ => exact iteT' rfl (iteT' rfl (no rfl rfl))
theorem ok_progO (D : Def K mg "is_program" s_is_program ["thing"]) (c_row : Cal P K.w K mg base CX0 k "is_row" ["thing", "m", "boxes"] (spG K (T_rowO K))) (c_boxes : Cal P K.w K mg base CX0 k "are_boxes" ["thing"] (spG K (T_boxesO K))) (c_whole : Cal P K.w K mg base CX0 k "is_whole" ["thing", "low", "high"] (spG K (T_whole K))) (m_len : mg "len" = none) (m_isinstance : mg "isinstance" = none) (m_list : mg "list" = none) (m_tuple : mg "tuple" = none) : Cal P K.w K mg base CX0 (k + 1) "is_program" ["thing"] (spG K (T_progO K)) := by
  refine cal_g D sc_is_program (fun Γ Qr ⟨p, e, _⟩ => by subst e; exact ⟨rfl, noMl_dat noMl_nil⟩) fun f cdv A outer s H E hr => ⟨_, wk_is_program c_row c_boxes c_whole m_len m_isinstance m_list m_tuple f cdv A outer s H E hr, ?_⟩
  rintro Γ Qr ⟨d, rfl, hd, q⟩
  show SJ K [.dat false d, .no, .no, .no, .no] (t_is_program K _ _ _) _
  unfold t_is_program
  have kp : ∀ {Γ'}, Keep [.dat false d] (.dat false d :: Γ') := fun {Γ'} => keep_dat keep_nil
  have no : progB d = false → ∀ {s1 s2 s3 : Sl} {M : Po}, M.rt = (retP [.dat false d] Qr).rt → SJ K [.dat false d, s1, s2, s3, .no] (tRet (tC (.bl false))) M := fun e {s1 s2 s3 M} eM => by
    rw [e] at q
    exact sj_retD true (by rw [eM]; exact wd_lf (wd_bl ⟨rfl, kp, q⟩))
  refine sj_seq <| sj_if <| wt_or <| wt_not <| wt_B <| wd_isi (by decide) <| wd_var rfl ⟨_, rfl, ?_⟩
  rw [isTy_tup]
  cases d with
  | tuple ds =>
    refine iteF' rfl <| wt_test <| wd_op <| wd_cb1 <| wd_var rfl <| rc_lenT <| wd_int <| rd_ne sh_int sh_int ⟨_, rfl, ?_⟩
    rcases ds with _ | ⟨x0, _ | ⟨x1, _ | ⟨x2, _ | ⟨x3, r⟩⟩⟩⟩
    · exact iteT' rfl (no rfl rfl)
    · exact iteT' rfl (no (by cases x0 <;> rfl) rfl)
    · exact iteT' rfl (no (by cases x0 <;> first | rfl | (cases x1 <;> rfl)) rfl)
    · have i0 := hd.tup.2 x0 (by simp)
      have i1 := hd.tup.2 x1 (by simp)
      have i2 := hd.tup.2 x2 (by simp)
      refine iteF' rfl <| sj_next <| sj_seq <| sj_asg false <| wd_var rfl <| gj_tup (n := 3) (ds := [x0, x1, x2]) rfl <| gjs_cons <| gj_name <| gjs_cons <| gj_name <| gjs_cons <| gj_name <| gjs_nil ?_
      show SJ K [.dat false (.tuple [x0, x1, x2]), .dat false x0, .dat false x1, .dat false x2, .no] _ _
      refine sj_seq <| sj_if <| wt_or <| wt_not <| wt_B <| wd_call3 <| wd_var rfl <| wd_int <| wd_int ⟨x0, 2, 16, rfl, asD_new ⟨_, rfl, ?_⟩⟩
      cases hw : isWhole x0 2 16 with
      | false => exact iteT' rfl (iteT' rfl (no (by
          cases x0 with
          | int m =>
            cases x1 <;> first | rfl | (cases x2 <;> first | rfl | skip)
            simp only [isWhole] at hw
            simp only [progB, hw, Bool.false_and]
          | _ => rfl) rfl))
      | true =>
        obtain ⟨m, rfl⟩ : ∃ m, x0 = .int m := by
          cases x0 with
          | int m => exact ⟨m, rfl⟩
          | _ => cases hw
        refine iteF' rfl <| wt_or <| wt_not <| wt_B <| wd_call1 <| wd_var rfl ⟨x1, rfl, i1, asD_new ⟨_, rfl, ?_⟩⟩
        cases hb : boxesB x1 with
        | false => exact iteT' rfl (iteT' rfl (no (by
            cases x1 <;> first | rfl | (cases x2 <;> first | rfl | skip)
            simp only [progB, hb, Bool.and_false, Bool.false_and]) rfl))
        | true =>
          obtain ⟨bs, rfl, hbs⟩ : ∃ bs : List Str, x1 = bsD bs ∧ BsW bs := by
            cases x1 with
            | list ds =>
              simp only [boxesB, Bool.and_eq_true, decide_eq_true_eq] at hb
              obtain ⟨bs, rfl⟩ := names_are hb.1.2
              refine ⟨bs, rfl, by simpa using hb.1.1.2, fun x hx => nameB_ok ?_⟩
              have := hb.1.2
              rw [List.all_eq_true] at this
              exact this _ (List.mem_map.mpr ⟨x, hx, rfl⟩)
            | _ => cases hb
          refine iteF' rfl <| wt_or <| wt_not <| wt_B <| wd_isi (by decide) <| wd_var rfl ⟨_, rfl, ?_⟩
          rw [i2.isL]
          cases x2 with
          | list rs =>
            have ew : (decide (2 ≤ m) && decide (m ≤ 16)) = true := hw
            have e : progB (.tuple [.int m, bsD bs, .list rs]) = (decide (rs.length ≤ 30) && rs.all (rowB m bs)) := by
              show (decide (2 ≤ m) && decide (m ≤ 16) && boxesB (bsD bs) && decide (rs.length ≤ 30) && rs.all (rowB m (strsOf (bs.map PyData.str)))) = _
              rw [ew, hb, strsOf_map]
              rfl
            refine iteF' rfl <| wt_test <| wd_op <| wd_cb1 <| wd_var rfl <| rc_lenL <| wd_int <| rd_gt ⟨_, rfl, iteD (fun h => no (by rw [e, decide_eq_false (by omega)]; rfl) rfl) (fun h => sj_next ?_)⟩
            rw [e, decide_eq_true (by omega), Bool.true_and] at q
            refine sj_retD true <| wd_lf <| wd_op <| wd_lcPa (mi := false) (α := PyData) id (fun w => !rowB m bs w) id (wipeOk_no rfl wipeOk_nil) gwn <| wi_list <| wd_var (d := .list rs) rfl ⟨_, rfl, rs, by simp, by omega, fun j w hw' => gj_name ⟨rfl, wt_not <| wt_B <| wd_call3 <| wd_var rfl <| wd_var rfl <| wd_var rfl ⟨w, m, bs, rfl, i2.lst.2 w (List.mem_of_getElem? hw'), hbs, asD_new ⟨_, rfl, rfl, fun _ => wd_var rfl rfl⟩⟩⟩, ?_⟩
            rw [List.map_id]
            refine wd_lst0 <| rd_eqNil ⟨rfl, kp, ?_⟩
            rw [fil_all]
            exact q
          | _ => exact iteT' rfl (iteT' rfl (no rfl rfl))
    · exact iteT' (by simp [PyData.eqv]; omega) (no (by cases x0 <;> first | rfl | (cases x1 <;> first | rfl | (cases x2 <;> rfl))) rfl)
  | _ => exact iteT' rfl (iteT' rfl (no rfl rfl))
end
end Dk
end
section
set_option Elab.async false
set_option linter.all false
set_option maxRecDepth 100000
set_option pp.maxSteps 600
open PySem L2 Pk
local macro_rules | `(tactic| walk_at "sh") => `(tactic| first | exact sh_int | exact sh_bool | exact sh_non | exact sh_nil | exact sh_str (by decide +kernel) | assumption)
local macro_rules | `(tactic| walk_at "v1") => `(tactic| first
  | (with_reducible refine wd_int ?_) | (with_reducible refine wd_str ?_) | (with_reducible refine wd_bl ?_) | (with_reducible refine wd_non ?_)
  | ((with_reducible apply wd_var); exact rfl) | ((with_reducible apply wd_varN); exact rfl)
  | ((with_reducible apply wd_ixm); exact rfl)
  | ((with_reducible apply wd_lenM); exact rfl) | ((with_reducible apply wd_lenScript); exact rfl) | ((with_reducible apply wd_ixScript); exact rfl)
  | (with_reducible refine wd_op ?_) | (with_reducible refine wd_un ?_)
  | (with_reducible refine rd_add ?_) | (with_reducible refine rd_sub ?_) | (with_reducible refine rd_lt ?_) | (with_reducible refine rd_le ?_) | (with_reducible refine rd_gt ?_) | (with_reducible refine rd_ge ?_) | (with_reducible refine ru_neg ?_)
  | ((with_reducible refine rd_eq ?ev_h ?ev_k ?_); (case ev_h => walk_at "sh"); (case ev_k => walk_at "sh")) | ((with_reducible refine rd_ne ?ev_h ?ev_k ?_); (case ev_h => walk_at "sh"); (case ev_k => walk_at "sh"))
  | ((with_reducible refine rd_mod ?ev_h ?_); case ev_h => first | decide | assumption | omega) | ((with_reducible refine rd_div ?ev_h ?ev_k ?_); (case ev_h => first | decide | assumption | omega); (case ev_k => first | decide | assumption | omega))
  | ((with_reducible refine rd_pow ?ev_h ?_); case ev_h => exact ⟨by decide, by decide, by decide⟩)
  | ((with_reducible refine rd_mul ?ev_h ?_); case ev_h => first | exact .inr ⟨by decide, by decide⟩ | exact .inl ⟨by decide, by decide⟩ | exact .inl ⟨by omega, by omega⟩ | exact .inr ⟨by omega, by omega⟩)
  | (with_reducible refine rc_lenL ?_) | (with_reducible refine rc_lenT ?_) | (with_reducible refine rc_max2 ?_) | (with_reducible refine rc_min2 ?_) | (with_reducible refine rc_intB ?_) | (with_reducible refine rc_intI ?_) | (with_reducible refine rc_listL ?_) | (with_reducible refine rc_listT ?_) | (with_reducible refine rc_tupleL ?_)
  | ((with_reducible apply rd_ixT); exact rfl)
  | ((with_reducible apply rd_ixL); exact rfl)
  | ((with_reducible refine wd_isi ?ev_h ?_); case ev_h => decide) | ((with_reducible refine wd_isi2 ?ev_h ?ev_k ?_); (case ev_h => decide); (case ev_k => decide))
  | (with_reducible refine wd_tup2 ?_) | (with_reducible refine wd_tup1 ?_) | (with_reducible refine wd_tup3 ?_) | (with_reducible refine wd_tup0 ?_)
  | (with_reducible refine wd_lst0 ?_) | (with_reducible refine wd_lst1 ?_) | (with_reducible refine wd_lst2 ?_) | (with_reducible refine wd_lst3 ?_) | (with_reducible refine wd_lst4 ?_) | (with_reducible refine wd_lst5 ?_) | (with_reducible refine wd_lst6 ?_)
  | ((with_reducible apply wd_callO0); exact rfl) | ((with_reducible apply wd_callO1); exact rfl) | ((with_reducible apply wd_callO2); exact rfl) | ((with_reducible apply wd_callO3); exact rfl)
  | (with_reducible refine wd_call1 ?_) | (with_reducible refine wd_call2 ?_) | (with_reducible refine wd_call3 ?_) | (with_reducible refine wd_call4 ?_) | (with_reducible refine wd_call0 ?_)
  | (with_reducible refine wd_cb1 ?_) | (with_reducible refine wd_cb2 ?_)
  | (with_reducible refine wd_rev ?_) | (with_reducible refine wd_lrg1 ?_) | (with_reducible refine wd_sl ?_) | (with_reducible refine wo_no ?_) | (with_reducible refine wo_some ?_)
  | (with_reducible refine wd_andV ?_) | (with_reducible refine wd_orV ?_) | (with_reducible refine wd_notV ?_) | (with_reducible refine wd_if ?_) | (with_reducible refine wd_chain ?_)
  | (with_reducible refine wt_test ?_) | (with_reducible refine wt_B ?_) | (with_reducible refine wt_not ?_) | (with_reducible refine wt_and ?_) | (with_reducible refine wt_or ?_) | (with_reducible refine wt_yes ?_)
  | (with_reducible refine gj_name ?_) | (with_reducible refine gj_tup rfl ?_) | (with_reducible refine gjs_cons ?_) | (with_reducible refine gjs_nil ?_))
local macro_rules | `(tactic| walk_at "v") => `(tactic| repeat walk_at "v1")
local macro_rules | `(tactic| walk_at "x") => `(tactic| refine ⟨_, rfl, ?_⟩)
local macro_rules | `(tactic| walk_at "vx") => `(tactic| repeat (first | walk_at "v1" | (with_reducible refine ⟨_, rfl, ?_⟩)))
namespace Dk
open PySem PySem.Spec PyProof.Rows L2 Pk Sy
def T_lthing (n : Nat) (K : Kw) : List Sl → (Sl → Prop) → Prop := fun Γ Q => ∃ (d : PyData) (m : Int) (bs : List Str) (deep : Nat), Γ = [.dat false d, .dat false (.int m), .dat false (bsD bs), .dat false (.int deep)] ∧ Oe d ∧ BsW bs ∧ deep + n = 5 ∧ Q (.dat true (.bool (thingB m bs n d)))
theorem wordB_cons {ws : List Str} {many : Nat} {a : Str} {r : List PyData} : wordB ws many (.tuple (.str a :: r)) = (decide (r.length + 1 = many) && decide (a ∈ ws)) := rfl
theorem thingB_no {m : Int} {bs : List Str} {d : PyData} (h : ∀ ws many, 2 ≤ many → wordB ws many d = false) : ∀ n, thingB m bs n d = false
  | 0 => rfl
  | n + 1 => by rw [thingB_succ, h _ _ (by decide), h _ _ (by decide), h _ _ (by decide)]; rfl
theorem rowB_no {m : Int} {bs : List Str} {d : PyData} (h : ∀ ws many, 2 ≤ many → wordB ws many d = false) : rowB m bs d = false := by
  unfold rowB
  rw [h _ _ (by decide), h _ _ (by decide), h _ _ (by decide)]
  rfl
theorem no_nil {ws : List Str} {many : Nat} (h : 2 ≤ many) : wordB ws many (.tuple []) = false := rfl
theorem no_one {ws : List Str} {many : Nat} {x : PyData} (h : 2 ≤ many) : wordB ws many (.tuple [x]) = false := wordB_len (by simp; omega)
theorem th2 {m : Int} {bs : List Str} {n : Nat} {a : Str} {y : PyData} : thingB m bs (n + 1) (.tuple [.str a, y]) = if a = ("number" : Str) then isWhole y 0 (m - 1) else (decide (a = ("box" : Str)) && strIn bs y) := by
  rw [thingB_succ, wordB_cons, wordB_cons, wordB_cons]
  simp only [List.length_cons, List.length_nil, List.mem_singleton, Nat.zero_add, Nat.reduceAdd, decide_true, Bool.true_and, decide_eq_true_eq, itemAt, List.getD_cons_succ, List.getD_cons_zero]
  by_cases h : a = ("number" : Str)
  · rw [if_pos h, if_pos h]
  · rw [if_neg h, if_neg h]
    by_cases h2 : a = ("box" : Str)
    · rw [if_pos h2, decide_eq_true h2, Bool.true_and]
    · rw [if_neg h2, decide_eq_false h2, Bool.false_and]
      simp
theorem th3 {m : Int} {bs : List Str} {n : Nat} {a : Str} {y z : PyData} : thingB m bs (n + 1) (.tuple [.str a, y, z]) = (decide (a ∈ OPS) && (thingB m bs n y && thingB m bs n z)) := by
  rw [thingB_succ, wordB_cons, wordB_cons, wordB_cons]
  simp only [List.length_cons, List.length_nil, List.mem_singleton, Nat.zero_add, Nat.reduceAdd, decide_true, Bool.true_and, decide_eq_true_eq, itemAt, List.getD_cons_succ, List.getD_cons_zero]
  by_cases h : a ∈ OPS
  · rw [decide_eq_true h]
    simp [h]
  · rw [decide_eq_false h]
    simp [h]
theorem th4 {m : Int} {bs : List Str} {n : Nat} {x y z u : PyData} {r : List PyData} : thingB m bs n (.tuple (x :: y :: z :: u :: r)) = false := by
  cases n with
  | zero => rfl
  | succ n => rw [thingB_succ, wordB_len (by simp), wordB_len (by simp), wordB_len (by simp)]; rfl
theorem rw2 {m : Int} {bs : List Str} {a : Str} {y : PyData} : rowB m bs (.tuple [.str a, y]) = (decide (a ∈ [("need" : Str), "give"]) && thingB m bs 4 y) := by
  unfold rowB
  rw [wordB_cons, wordB_cons, wordB_cons]
  simp only [List.length_cons, List.length_nil, Nat.zero_add, Nat.reduceAdd, decide_true, Bool.true_and, decide_eq_true_eq, itemAt, List.getD_cons_succ, List.getD_cons_zero]
  by_cases h : a ∈ [("need" : Str), "give"]
  · rw [if_pos h, decide_eq_true h, Bool.true_and]
  · rw [if_neg h, decide_eq_false h, Bool.false_and]
    simp
theorem rw4 {m : Int} {bs : List Str} {x y z u : PyData} {r : List PyData} : rowB m bs (.tuple (x :: y :: z :: u :: r)) = false := by
  unfold rowB
  rw [wordB_len (by simp), wordB_len (by simp), wordB_len (by simp)]
  rfl
theorem rw3 {m : Int} {bs : List Str} {a : Str} {y z : PyData} : rowB m bs (.tuple [.str a, y, z]) = if a = ("skip" : Str) then thingB m bs 4 y && isWhole z 1 30 else decide (a ∈ [("set" : Str), "pick"]) && (strIn bs y && if a = ("set" : Str) then thingB m bs 4 z else thingsB m bs z) := by
  unfold rowB
  rw [wordB_cons, wordB_cons, wordB_cons, wordB_cons]
  simp only [List.length_cons, List.length_nil, Nat.zero_add, Nat.reduceAdd, decide_true, Bool.true_and, itemAt, List.getD_cons_succ, List.getD_cons_zero, decide_eq_true_eq, List.mem_singleton, decide_eq_false_iff_not]
  by_cases h : a = ("skip" : Str)
  · rw [if_pos h, if_pos h]
    simp
  · rw [if_neg h, if_neg h]
    by_cases h2 : a ∈ [("set" : Str), "pick"]
    · rw [decide_eq_true h2, Bool.true_and, if_neg (not_not_intro h2)]
      cases hs : strIn bs y with
      | false => simp
      | true => simp
    · rw [decide_eq_false h2, Bool.false_and, if_pos h2]
      simp
theorem le_a (c : Nat) : (!decide (([c] : List Nat) < [97])) = decide (97 ≤ c) := by
  have : (([c] : List Nat) < [97]) ↔ c < 97 := by simp [List.cons_lt_cons_iff]
  rw [decide_eq_decide.mpr this]
  by_cases h : c < 97
  · rw [decide_eq_true h, decide_eq_false (by omega)]; rfl
  · rw [decide_eq_false h, decide_eq_true (by omega)]; rfl
theorem le_z (c : Nat) : (!decide (([122] : List Nat) < [c])) = decide (c ≤ 122) := by
  have : (([122] : List Nat) < [c]) ↔ 122 < c := by simp [List.cons_lt_cons_iff]
  rw [decide_eq_decide.mpr this]
  by_cases h : 122 < c
  · rw [decide_eq_true h, decide_eq_false (by omega)]; rfl
  · rw [decide_eq_false h, decide_eq_true (by omega)]; rfl
theorem count_map (bs : List Str) (x : Str) : ((bs.map PyData.str).countP fun z => PyData.eqv z (.str x)) = bs.count x := by
  rw [List.countP_map, List.count]
  have e : ((fun z => PyData.eqv z (.str x)) ∘ PyData.str) = (· == x) := by
    funext y
    show PyData.eqv (.str y) (.str x) = (y == x)
    rw [eqv_str]
    rfl
  rw [e]
theorem nd_count (bs : List Str) : (bs.filter fun x => decide (1 < ((bs.count x : Nat) : Int))) = [] ↔ bs.Nodup := by
  rw [List.filter_eq_nil_iff, List.nodup_iff_count]
  constructor
  · intro h x
    by_cases hx : x ∈ bs
    · have := h x hx
      simp only [decide_eq_true_eq] at this
      omega
    · rw [List.count_eq_zero_of_not_mem hx]; omega
  · intro h x _
    have := h x
    simp only [decide_eq_true_eq]
    omega
section
variable {P : Program} {K : Kw} {mg : Str → Option Value} {base : Heap} {k : Nat}
theorem ok_lis (D : Def K mg "_law_is" s_l_is ["thing", "low", "high"]) (m_isinstance : mg "isinstance" = none) (m_bool : mg "bool" = none) (m_int : mg "int" = none) : Cal P K.w K mg base CX0 (k + 1) "_law_is" ["thing", "low", "high"] (spG K (T_whole K)) := by
  refine cal_g D sc_l_is (fun Γ Qr ⟨d, lo, hi, e, _⟩ => by subst e; exact ⟨rfl, noMl_dat (noMl_dat (noMl_dat noMl_nil))⟩) fun f cdv A outer s H E hr => ⟨_, wk_l_is m_isinstance m_bool m_int f cdv A outer s H E hr, ?_⟩
  rintro Γ Qr ⟨d, lo, hi, rfl, q⟩
  show SJ K [.dat false d, .dat false (.int lo), .dat false (.int hi)] (t_l_is K) _
  unfold t_l_is
  have kp : ∀ {Γ'}, Keep [.dat false d, .dat false (.int lo), .dat false (.int hi)] (.dat false d :: .dat false (.int lo) :: .dat false (.int hi) :: Γ') := fun {Γ'} => keep_dat (keep_dat (keep_dat keep_nil))
  refine sj_retD true <| wd_lf <| wd_andV <| wd_isi (by decide) <| wd_var rfl ⟨_, rfl, ?_⟩
  cases d with
  | int n =>
    refine iteT' rfl <| wd_andV <| wd_notV <| wd_isi (by decide) <| wd_var rfl ⟨_, rfl, _, rfl, iteT' rfl ?_⟩
    refine wd_chain <| wd_var rfl <| wd_var rfl <| rd_le ⟨_, rfl, iteD (fun h => ?_) (fun h => ⟨rfl, kp, ?_⟩)⟩
    · refine wd_var rfl <| rd_le ⟨_, rfl, rfl, kp, ?_⟩
      have : isWhole (.int n) lo hi = decide (n ≤ hi) := by simp [isWhole, h]
      rw [← this]
      exact q
    · have : isWhole (.int n) lo hi = false := by simp [isWhole, h]
      rw [← this]
      exact q
  | bool b => exact iteT' rfl <| wd_andV <| wd_notV <| wd_isi (by decide) <| wd_var rfl ⟨_, rfl, _, rfl, iteF' rfl ⟨rfl, kp, q⟩⟩
  | dict x => exact iteF' (by simp only [isTy, tyN]; split <;> rfl) ⟨rfl, kp, q⟩
  | _ => exact iteF' rfl ⟨rfl, kp, q⟩
theorem ok_lname (D : Def K mg "_law_good_name" s_l_good_name ["name"]) (m_len : mg "len" = none) (m_isinstance : mg "isinstance" = none) (m_str : mg "str" = none) : Cal P K.w K mg base CX0 (k + 1) "_law_good_name" ["name"] (spG K (T_nameO K)) := by
  refine cal_g D sc_l_good_name (fun Γ Qr ⟨x, e, _⟩ => by subst e; exact ⟨rfl, noMl_dat noMl_nil⟩) fun f cdv A outer s H E hr => ⟨_, wk_l_good_name m_len m_isinstance m_str f cdv A outer s H E hr, ?_⟩
  rintro Γ Qr ⟨d, rfl, hd, q⟩
  show SJ K [.dat false d, .no] (t_l_good_name K) _
  unfold t_l_good_name
  have kp : ∀ {Γ'}, Keep [.dat false d] (.dat false d :: Γ') := fun {Γ'} => keep_dat keep_nil
  have no : nameB d = false → ∀ {M : Po}, M.rt = (retP [.dat false d] Qr).rt → SJ K [.dat false d, .no] (tRet (tC (.bl false))) M := fun e M eM => by
    rw [e] at q
    exact sj_retD true (by rw [eM]; exact wd_lf (wd_bl ⟨rfl, kp, q⟩))
  refine sj_seq <| sj_if <| wt_or <| wt_not <| wt_B <| wd_isi (by decide) <| wd_var rfl ⟨_, rfl, ?_⟩
  rw [isTy_str]
  cases d with
  | str x =>
    have hx := hd.str
    have eq : nameB (.str x) = (decide (1 ≤ x.length) && decide (x.length ≤ 8) && x.cps.toList.all ltrB) := rfl
    refine iteF' rfl <| wt_or <| wt_test <| wd_op <| wd_cb1 <| wd_var rfl <| rc_lenS (by omega) <| wd_int <| rd_lt ⟨_, rfl, iteD (fun h1 => iteT' rfl (no (by rw [eq, decide_eq_false (by omega)]; rfl) rfl)) (fun h1 => ?_)⟩
    refine wt_test <| wd_op <| wd_cb1 <| wd_var rfl <| rc_lenS (by omega) <| wd_int <| rd_gt ⟨_, rfl, iteD (fun h2 => no (by rw [eq, decide_eq_false (by omega : ¬ x.length ≤ 8), Bool.and_false, Bool.false_and]) rfl) (fun h2 => sj_next ?_)⟩
    refine sj_retD true <| wd_lf <| wd_op <| wd_lcPa (mi := false) (α := Nat) (fun c => .str ⟨#[c]⟩) (fun c => !ltrB c) (fun c => .str ⟨#[c]⟩) (wipeOk_no rfl wipeOk_nil) gwn <| wi_str <| wd_var rfl ⟨x, rfl, x.cps.toList, rfl, by rw [← str_len]; omega, fun i c hc => gj_name ⟨rfl, ?_⟩, ?_⟩
    · refine wt_not <| wt_test <| wd_chain <| wd_str <| wd_var rfl <| rd_leS ⟨_, rfl, ?_⟩
      have ea : (!decide ((⟨#[c]⟩ : Str).cps.toList < ("a" : Str).cps.toList)) = decide (97 ≤ c) := le_a c
      rw [ea]
      refine iteD (fun h1 => wd_str <| rd_leS ⟨_, rfl, _, rfl, ?_⟩) (fun h1 => ⟨_, rfl, ?_⟩)
      · have ez : (!decide (("z" : Str).cps.toList < (⟨#[c]⟩ : Str).cps.toList)) = decide (c ≤ 122) := le_z c
        rw [ez]
        exact ⟨by simp only [ltrB]; rw [decide_eq_true h1, Bool.true_and], fun _ => wd_var rfl rfl⟩
      · exact ⟨by simp only [ltrB]; rw [decide_eq_false h1]; rfl, fun _ => wd_var rfl rfl⟩
    · refine wd_lst0 <| rd_eqNil ⟨rfl, kp, ?_⟩
      have e : decide (((x.cps.toList.filter fun c => !ltrB c).map fun c => PyData.str ⟨#[c]⟩) = []) = nameB (.str x) := by
        rw [eq, decide_eq_true (by omega : 1 ≤ x.length), decide_eq_true (by omega : x.length ≤ 8)]
        simp only [Bool.true_and]
        rw [← fil_all ltrB]
        apply decide_eq_decide.mpr
        rw [List.map_eq_nil_iff]
      rw [e]
      exact q
  | _ => exact iteT' rfl (iteT' rfl (no rfl rfl))
theorem lthing_step (D : Def K mg "_law_good_thing" s_l_good_thing ["thing", "m", "boxes", "deep"]) (c_is : Cal P K.w K mg base CX0 k "_law_is" ["thing", "low", "high"] (spG K (T_whole K))) (m_len : mg "len" = none) (m_isinstance : mg "isinstance" = none) (m_str : mg "str" = none) (m_tuple : mg "tuple" = none) (n : Nat)
    (ih : Cal P K.w K mg base CX0 (k + n) "_law_good_thing" ["thing", "m", "boxes", "deep"] (spG K fun Γ Q => ∃ n', n = n' + 1 ∧ T_lthing n' K Γ Q)) : Cal P K.w K mg base CX0 (k + 1 + n) "_law_good_thing" ["thing", "m", "boxes", "deep"] (spG K (T_lthing n K)) := by
    have ek : k + 1 + n = (k + n) + 1 := by omega
    rw [ek]
    refine cal_g D sc_l_good_thing (fun Γ Qr ⟨t, m, bs, deep, e, _⟩ => by subst e; exact ⟨rfl, noMl_dat (noMl_dat (noMl_dat (noMl_dat noMl_nil)))⟩) fun f cdv A outer s H E hr => ⟨_, wk_l_good_thing ih (c_is.mono (by omega)) m_len m_isinstance m_str m_tuple f cdv A outer s H E hr, ?_⟩
    rintro Γ Qr ⟨d, m, bs, deep, rfl, hd, hb, hdn, q⟩
    have kp : ∀ {Γ'}, Keep [.dat false d, .dat false (.int m), .dat false (bsD bs), .dat false (.int deep)] (.dat false d :: .dat false (.int m) :: .dat false (bsD bs) :: .dat false (.int deep) :: Γ') := fun {Γ'} => keep_dat (keep_dat (keep_dat (keep_dat keep_nil)))
    show SJ K [.dat false d, .dat false (.int m), .dat false (bsD bs), .dat false (.int deep), .no] (t_l_good_thing K _ _) _
    unfold t_l_good_thing
    have no : thingB m bs n d = false → ∀ {M : Po}, M.rt = (retP [.dat false d, .dat false (.int m), .dat false (bsD bs), .dat false (.int deep)] Qr).rt → SJ K [.dat false d, .dat false (.int m), .dat false (bsD bs), .dat false (.int deep), .no] (tRet (tC (.bl false))) M := fun e M eM => by
      rw [e] at q
      exact sj_retD true (by rw [eM]; exact wd_lf (wd_bl ⟨rfl, kp, q⟩))
    refine sj_seq <| sj_if <| wt_or <| wt_not <| wt_B <| wd_isi (by decide) <| wd_var rfl ⟨_, rfl, ?_⟩
    rw [isTy_tup]
    cases d with
    | tuple ds =>
      refine iteF' rfl <| wt_or <| wt_test <| wd_op <| wd_cb1 <| wd_var rfl <| rc_lenT <| wd_int <| rd_lt ⟨_, rfl, ?_⟩
      rcases ds with _ | ⟨x, _ | ⟨y, r⟩⟩
      · exact iteT' rfl (iteT' rfl (no (thingB_no (fun _ _ h => no_nil h) n) rfl))
      · exact iteT' rfl (iteT' rfl (no (thingB_no (fun _ _ h => no_one h) n) rfl))
      refine iteF' (decide_eq_false (by simp only [List.length_cons]; omega)) <| wt_or <| wt_not <| wt_B <| wd_isi (by decide) <| wd_op <| wd_var rfl <| wd_int <| rd_ixT at0 ⟨_, rfl, ?_⟩
      rw [isTy_str]
      have hx := hd.tup.2 x (by simp)
      have hy := hd.tup.2 y (by simp)
      cases x with
      | str a =>
        have ha := hx.str.1
        refine iteF' rfl <| wt_test <| wd_op <| wd_var rfl <| wd_int <| rd_gt ⟨_, rfl, ?_⟩
        by_cases hn0 : n = 0
        · exact iteT' (decide_eq_true (by omega)) (no (by rw [hn0]; rfl) rfl)
        obtain ⟨n0, hn⟩ : ∃ j, n = j + 1 := ⟨n - 1, by omega⟩
        refine iteF' (decide_eq_false (by omega)) <| sj_next ?_
        rcases r with _ | ⟨z, _ | ⟨u, r⟩⟩
        · rw [hn, th2] at q
          refine sj_seq <| sj_if <| wt_and <| wt_test <| wd_op <| wd_cb1 <| wd_var rfl <| rc_lenT <| wd_int <| rd_eq sh_int sh_int ⟨_, rfl, iteT' rfl ?_⟩
          refine wt_test <| wd_op <| wd_op <| wd_var rfl <| wd_int <| rd_ixT at0 <| wd_str <| rd_eq (sh_str ha) (sh_str (by decide +kernel)) ⟨_, rfl, ?_⟩
          rw [eqv_str]
          refine iteD (fun h1 => ?_) (fun h1 => sj_next ?_)
          · rw [if_pos h1] at q
            exact sj_retD true <| wd_call3 <| wd_op <| wd_var rfl <| wd_int <| rd_ixT (d := y) rfl <| wd_int <| wd_op <| wd_var rfl <| wd_int <| rd_sub ⟨y, 0, m - 1, rfl, asD_new ⟨kp, q⟩⟩
          · rw [if_neg h1] at q
            refine sj_seq <| sj_if <| wt_test <| wd_op <| wd_cb1 <| wd_var rfl <| rc_lenT <| wd_int <| rd_eq sh_int sh_int ⟨_, rfl, iteT' rfl ?_⟩
            refine sj_retD true <| wd_lf <| wd_andV <| wd_op <| wd_op <| wd_var rfl <| wd_int <| rd_ixT at0 <| wd_str <| rd_eq (sh_str ha) (sh_str (by decide +kernel)) ⟨_, rfl, ?_⟩
            rw [eqv_str]
            refine iteD (fun h2 => ?_) (fun h2 => ⟨rfl, kp, by rw [decide_eq_false h2, Bool.false_and] at q; exact q⟩)
            rw [decide_eq_true h2, Bool.true_and] at q
            refine wd_andV <| wd_isi (by decide) <| wd_op <| wd_var rfl <| wd_int <| rd_ixT (d := y) rfl ⟨_, rfl, ?_⟩
            rw [isTy_str]
            cases y with
            | str x =>
              refine iteT' rfl <| wd_op <| wd_op <| wd_var rfl <| wd_int <| rd_ixT (d := .str x) rfl <| wd_var rfl <| rd_in (sh_str hy.str.1) (bs_sh hb.2) ⟨rfl, kp, ?_⟩
              rw [names_any]
              exact q
            | _ => exact iteF' rfl ⟨rfl, kp, q⟩
        · rw [hn, th3] at q
          have hz := hd.tup.2 z (by simp)
          refine sj_seq <| sj_if <| wt_and <| wt_test <| wd_op <| wd_cb1 <| wd_var rfl <| rc_lenT <| wd_int <| rd_eq sh_int sh_int ⟨_, rfl, iteF' rfl <| iteF' rfl <| sj_next ?_⟩
          refine sj_seq <| sj_if <| wt_test <| wd_op <| wd_cb1 <| wd_var rfl <| rc_lenT <| wd_int <| rd_eq sh_int sh_int ⟨_, rfl, iteF' rfl <| sj_next ?_⟩
          refine sj_seq <| sj_if <| wt_or <| wt_test <| wd_op <| wd_cb1 <| wd_var rfl <| rc_lenT <| wd_int <| rd_ne sh_int sh_int ⟨_, rfl, iteF' rfl ?_⟩
          refine wt_test <| wd_op <| wd_op <| wd_var rfl <| wd_int <| rd_ixT at0 <| wd_lst4 <| wd_str <| wd_str <| wd_str <| wd_str <| rd_notIn (sh_str ha) (by decide +kernel) ⟨_, rfl, ?_⟩
          have e4 : ([PyData.str "plus", .str "times", .str "less", .str "same"].any fun z => PyData.eqv z (.str a)) = decide (a ∈ OPS) := names_any (bs := OPS)
          rw [e4]
          by_cases h4 : a ∈ OPS
          · rw [decide_eq_true h4, Bool.true_and] at q
            refine iteF' (by rw [decide_eq_true h4]; rfl) <| sj_next <| sj_retD true <| wd_lf <| wd_op <| wd_lcPa (mi := false) (α := PyData) id (fun w => !thingB m bs n0 w) id (wipeOk_no rfl wipeOk_nil) gwn <| wi_tup <| wd_slT <| wd_var rfl ⟨_, rfl, wo_some <| wd_int ⟨_, rfl, wo_no ⟨_, rfl, [y, z], rfl, by simp, fun j w hw => gj_name ⟨rfl, wt_not <| wt_B <| wd_call4 <| wd_var rfl <| wd_var rfl <| wd_var rfl <| wd_op <| wd_var rfl <| wd_int <| rd_add ⟨n0, hn, w, m, bs, deep + 1, rfl, ?_, hb, by omega, asD_new ⟨_, rfl, rfl, fun _ => wd_var rfl rfl⟩⟩⟩, ?_⟩⟩⟩
            · have := List.mem_of_getElem? hw
              have : w = y ∨ w = z := by simpa using this
              rcases this with e | e <;> subst e <;> assumption
            · rw [List.map_id]
              refine wd_lst0 <| rd_eqNil ⟨rfl, kp, ?_⟩
              rw [fil_all]
              simpa using q
          · rw [decide_eq_false h4, Bool.false_and] at q
            exact iteT' (by rw [decide_eq_false h4]; rfl) (no (by rw [hn, th3, decide_eq_false h4, Bool.false_and]) rfl)
        · refine sj_seq <| sj_if <| wt_and <| wt_test <| wd_op <| wd_cb1 <| wd_var rfl <| rc_lenT <| wd_int <| rd_eq sh_int sh_int ⟨_, rfl, iteF' (by rw [eqv_int]; apply decide_eq_false; simp only [List.length_cons]; omega) <| iteF' rfl <| sj_next ?_⟩
          refine sj_seq <| sj_if <| wt_test <| wd_op <| wd_cb1 <| wd_var rfl <| rc_lenT <| wd_int <| rd_eq sh_int sh_int ⟨_, rfl, iteF' (by rw [eqv_int]; apply decide_eq_false; simp only [List.length_cons]; omega) <| sj_next ?_⟩
          refine sj_seq <| sj_if <| wt_or <| wt_test <| wd_op <| wd_cb1 <| wd_var rfl <| rc_lenT <| wd_int <| rd_ne sh_int sh_int ⟨_, rfl, iteT' (by rw [eqv_int, decide_eq_false (by simp only [List.length_cons]; omega)]; rfl) <| iteT' rfl (no th4 rfl)⟩
      | _ => exact iteT' rfl (iteT' rfl (no (thingB_no (fun _ _ _ => rfl) n) rfl))
    | _ => exact iteT' rfl (iteT' rfl (no (thingB_no (fun _ _ _ => rfl) n) rfl))
theorem ok_lthing (D : Def K mg "_law_good_thing" s_l_good_thing ["thing", "m", "boxes", "deep"]) (c_is : Cal P K.w K mg base CX0 k "_law_is" ["thing", "low", "high"] (spG K (T_whole K))) (m_len : mg "len" = none) (m_isinstance : mg "isinstance" = none) (m_str : mg "str" = none) (m_tuple : mg "tuple" = none) : ∀ n, Cal P K.w K mg base CX0 (k + 1 + n) "_law_good_thing" ["thing", "m", "boxes", "deep"] (spG K (T_lthing n K))
  | 0 => lthing_step D c_is m_len m_isinstance m_str m_tuple 0 ((cal_no D).imp fun vs H Q E h => by
      obtain ⟨_, _, _, _, _, _, _, _, _, ⟨n', h0, _⟩, _⟩ := h
      omega)
  | n + 1 => lthing_step D c_is m_len m_isinstance m_str m_tuple (n + 1) (by
      have z := ok_lthing D c_is m_len m_isinstance m_str m_tuple n
      have ez : k + (n + 1) = k + 1 + n := by omega
      rw [ez]
      refine z.imp fun vs H Q E h => ?_
      obtain ⟨X, F, Γ, Qr, h1, h2, h3, h4, h5, ⟨n', h0, h6⟩, h7⟩ := h
      have : n' = n := by omega
      subst this
      exact ⟨X, F, Γ, Qr, h1, h2, h3, h4, h5, h6, h7⟩)
theorem ok_lrow (D : Def K mg "_law_good_row" s_l_good_row ["row", "m", "boxes"]) (c_thing : Cal P K.w K mg base CX0 k "_law_good_thing" ["thing", "m", "boxes", "deep"] (spG K (T_lthing 4 K))) (c_is : Cal P K.w K mg base CX0 k "_law_is" ["thing", "low", "high"] (spG K (T_whole K))) (m_isinstance : mg "isinstance" = none) (m_str : mg "str" = none) (m_len : mg "len" = none) (m_list : mg "list" = none) (m_tuple : mg "tuple" = none) : Cal P K.w K mg base CX0 (k + 1) "_law_good_row" ["row", "m", "boxes"] (spG K (T_rowO K)) := by
  refine cal_g D sc_l_good_row (fun Γ Qr ⟨r, m, bs, e, _⟩ => by subst e; exact ⟨rfl, noMl_dat (noMl_dat (noMl_dat noMl_nil))⟩) fun f cdv A outer s H E hr => ⟨_, wk_l_good_row c_thing c_is m_isinstance m_str m_len m_list m_tuple f cdv A outer s H E hr, ?_⟩
  rintro Γ Qr ⟨d, m, bs, rfl, hd, hb, q⟩
  have kp : ∀ {Γ'}, Keep [.dat false d, .dat false (.int m), .dat false (bsD bs)] (.dat false d :: .dat false (.int m) :: .dat false (bsD bs) :: Γ') := fun {Γ'} => keep_dat (keep_dat (keep_dat keep_nil))
  have no : rowB m bs d = false → ∀ {s1 : Sl} {M : Po}, M.rt = (retP [.dat false d, .dat false (.int m), .dat false (bsD bs)] Qr).rt → SJ K [.dat false d, .dat false (.int m), .dat false (bsD bs), s1, .no] (tRet (tC (.bl false))) M := fun e {s1 M} eM => by
    rw [e] at q
    exact sj_retD true (by rw [eM]; exact wd_lf (wd_bl ⟨rfl, kp, q⟩))
  show SJ K [.dat false d, .dat false (.int m), .dat false (bsD bs), .no, .no] (t_l_good_row K _ _) _
  unfold t_l_good_row
  refine sj_seq <| sj_if <| wt_or <| wt_not <| wt_B <| wd_isi (by decide) <| wd_var rfl ⟨_, rfl, ?_⟩
  rw [isTy_tup]
  cases d with
  | tuple ds =>
    refine iteF' rfl <| wt_or <| wt_test <| wd_op <| wd_cb1 <| wd_var rfl <| rc_lenT <| wd_int <| rd_lt ⟨_, rfl, ?_⟩
    rcases ds with _ | ⟨x, _ | ⟨y, r⟩⟩
    · exact iteT' rfl (iteT' rfl (no (rowB_no (fun _ _ h => no_nil h)) rfl))
    · exact iteT' rfl (iteT' rfl (no (rowB_no (fun _ _ h => no_one h)) rfl))
    refine iteF' (decide_eq_false (by simp only [List.length_cons]; omega)) <| wt_not <| wt_B <| wd_isi (by decide) <| wd_op <| wd_var rfl <| wd_int <| rd_ixT at0 ⟨_, rfl, ?_⟩
    rw [isTy_str]
    have hx := hd.tup.2 x (by simp)
    have hy := hd.tup.2 y (by simp)
    cases x with
    | str a =>
      have ha := hx.str.1
      refine iteF' rfl <| sj_next ?_
      rcases r with _ | ⟨z, _ | ⟨u, r⟩⟩
      · rw [rw2] at q
        refine sj_seq <| sj_if <| wt_test <| wd_op <| wd_cb1 <| wd_var rfl <| rc_lenT <| wd_int <| rd_eq sh_int sh_int ⟨_, rfl, iteT' rfl ?_⟩
        refine sj_retD true <| wd_lf <| wd_andV <| wd_op <| wd_op <| wd_var rfl <| wd_int <| rd_ixT at0 <| wd_lst2 <| wd_str <| wd_str <| rd_in (sh_str ha) (by decide +kernel) ⟨_, rfl, ?_⟩
        have e4 : ([PyData.str "need", .str "give"].any fun z => PyData.eqv z (.str a)) = decide (a ∈ [("need" : Str), "give"]) := names_any (bs := ["need", "give"])
        rw [e4]
        refine iteD (fun h2 => ?_) (fun h2 => ⟨rfl, kp, by rw [decide_eq_false h2, Bool.false_and] at q; exact q⟩)
        rw [decide_eq_true h2, Bool.true_and] at q
        exact wd_call4 <| wd_op <| wd_var rfl <| wd_int <| rd_ixT (d := y) rfl <| wd_var rfl <| wd_var rfl <| wd_int ⟨y, m, bs, 1, rfl, hy, hb, rfl, asD_new ⟨rfl, kp, q⟩⟩
      · have hz := hd.tup.2 z (by simp)
        refine sj_seq <| sj_if <| wt_test <| wd_op <| wd_cb1 <| wd_var rfl <| rc_lenT <| wd_int <| rd_eq sh_int sh_int ⟨_, rfl, iteF' rfl <| sj_next ?_⟩
        refine sj_seq <| sj_if <| wt_or <| wt_test <| wd_op <| wd_cb1 <| wd_var rfl <| rc_lenT <| wd_int <| rd_ne sh_int sh_int ⟨_, rfl, iteF' rfl ?_⟩
        refine wt_test <| wd_op <| wd_op <| wd_var rfl <| wd_int <| rd_ixT at0 <| wd_lst3 <| wd_str <| wd_str <| wd_str <| rd_notIn (sh_str ha) (by decide +kernel) ⟨_, rfl, ?_⟩
        have e4 : ([PyData.str "set", .str "pick", .str "skip"].any fun z => PyData.eqv z (.str a)) = decide (a ∈ [("set" : Str), "pick", "skip"]) := names_any (bs := ["set", "pick", "skip"])
        rw [e4]
        by_cases h4 : a ∈ [("set" : Str), "pick", "skip"]
        · refine iteF' (by rw [decide_eq_true h4]; rfl) <| sj_next ?_
          refine sj_seq <| sj_if <| wt_test <| wd_op <| wd_op <| wd_var rfl <| wd_int <| rd_ixT at0 <| wd_str <| rd_eq (sh_str ha) (sh_str (by decide +kernel)) ⟨_, rfl, ?_⟩
          rw [eqv_str]
          refine iteD (fun hs => ?_) (fun hs => sj_next ?_)
          · rw [rw3, if_pos hs] at q
            refine sj_retD true <| wd_lf <| wd_andV <| wd_call4 <| wd_op <| wd_var rfl <| wd_int <| rd_ixT (d := y) rfl <| wd_var rfl <| wd_var rfl <| wd_int ⟨y, m, bs, 1, rfl, hy, hb, rfl, asD_new ⟨_, rfl, ?_⟩⟩
            cases hyb : thingB m bs 4 y with
            | false => rw [hyb] at q; exact iteF' rfl ⟨rfl, kp, q⟩
            | true =>
              rw [hyb, Bool.true_and] at q
              exact iteT' rfl <| wd_call3 <| wd_op <| wd_var rfl <| wd_int <| rd_ixT (d := z) rfl <| wd_int <| wd_int ⟨z, 1, 30, rfl, asD_new ⟨rfl, kp, q⟩⟩
          · have hsp : a ∈ [("set" : Str), "pick"] := by
              have : a = ("set" : Str) ∨ a = ("pick" : Str) ∨ a = ("skip" : Str) := by simpa using h4
              rcases this with e | e | e
              · rw [e]; simp
              · rw [e]; simp
              · exact absurd e hs
            rw [rw3, if_neg hs, decide_eq_true hsp, Bool.true_and] at q
            have noX : (strIn bs y && if a = ("set" : Str) then thingB m bs 4 z else thingsB m bs z) = false → rowB m bs (.tuple [.str a, y, z]) = false := fun h => by
              rw [rw3, if_neg hs, decide_eq_true hsp, Bool.true_and]; exact h
            refine sj_seq <| sj_set false <| wd_lst1 <| wd_op <| wd_var rfl <| wd_int <| rd_ixT (d := z) rfl ?_
            refine sj_cut (fun Γ' => ∃ ds : List PyData, Γ' = [.dat false (.tuple [.str a, y, z]), .dat false (.int m), .dat false (bsD bs), .dat false (.list ds), .no] ∧ ds.length ≤ 5 ∧ (∀ w ∈ ds, Oe w) ∧ (if a = ("set" : Str) then thingB m bs 4 z else thingsB m bs z) = ds.all (thingB m bs 4)) (sj_if <| wt_test <| wd_op <| wd_op <| wd_var rfl <| wd_int <| rd_ixT at0 <| wd_str <| rd_eq (sh_str ha) (sh_str (by decide +kernel)) ⟨_, rfl, ?_⟩) ?_
            · rw [eqv_str]
              refine iteD (fun hp => ?_) (fun hp => sj_next ?_)
              · have hns : ¬ a = ("set" : Str) := by rw [hp]; decide +kernel
                refine sj_seq <| sj_set false <| wd_op <| wd_var rfl <| wd_int <| rd_ixT (d := z) rfl ?_
                refine sj_if <| wt_or <| wt_not <| wt_B <| wd_isi (by decide) <| wd_var rfl ⟨_, rfl, ?_⟩
                rw [hz.isL]
                cases z with
                | list zs =>
                  have e5 : thingsB m bs (.list zs) = (decide (1 ≤ zs.length) && decide (zs.length ≤ 5) && zs.all (thingB m bs 4)) := rfl
                  refine iteF' rfl <| wt_or <| wt_test <| wd_op <| wd_cb1 <| wd_var rfl <| rc_lenL <| wd_int <| rd_lt ⟨_, rfl, iteD (fun h1 => iteT' rfl (no (noX (by rw [if_neg hns, e5, decide_eq_false (by omega), Bool.false_and, Bool.false_and, Bool.and_false])) rfl)) (fun h1 => ?_)⟩
                  refine wt_test <| wd_op <| wd_cb1 <| wd_var rfl <| rc_lenL <| wd_int <| rd_gt ⟨_, rfl, iteD (fun h2 => no (noX (by rw [if_neg hns, e5, decide_eq_false (by omega : ¬ zs.length ≤ 5), Bool.and_false, Bool.false_and, Bool.and_false])) rfl) (fun h2 => sj_next ?_)⟩
                  refine ⟨zs, rfl, by omega, hz.lst.2, ?_⟩
                  rw [if_neg hns, e5, decide_eq_true (by omega : 1 ≤ zs.length), decide_eq_true (by omega : zs.length ≤ 5), Bool.true_and, Bool.true_and]
                | _ => exact iteT' rfl (iteT' rfl (no (noX (by rw [if_neg hns]; exact Bool.and_false _)) rfl))
              · have hset : a = ("set" : Str) := by
                  have : a = ("set" : Str) ∨ a = ("pick" : Str) := by simpa using hsp
                  exact this.resolve_right hp
                refine ⟨[z], rfl, by simp, fun w hw => by rw [List.mem_singleton.mp hw]; exact hz, ?_⟩
                rw [if_pos hset]
                simp
            rintro Γ' ⟨ds, rfl, h5, hds, hall⟩
            rw [hall] at q noX
            refine sj_seq <| sj_if <| wt_or <| wt_not <| wt_B <| wd_isi (by decide) <| wd_op <| wd_var rfl <| wd_int <| rd_ixT (d := y) rfl ⟨_, rfl, ?_⟩
            rw [isTy_str]
            cases y with
            | str x =>
              refine iteF' rfl <| wt_test <| wd_op <| wd_op <| wd_var rfl <| wd_int <| rd_ixT (d := .str x) rfl <| wd_var rfl <| rd_notIn (sh_str hy.str.1) (bs_sh hb.2) ⟨_, rfl, ?_⟩
              rw [names_any]
              have es : strIn bs (.str x) = decide (x ∈ bs) := rfl
              by_cases hxb : x ∈ bs
              · rw [es, decide_eq_true hxb, Bool.true_and] at q
                refine iteF' (by rw [decide_eq_true hxb]; rfl) <| sj_next <| sj_retD true <| wd_lf <| wd_op <| wd_lcPa (mi := false) (α := PyData) id (fun w => !thingB m bs 4 w) id (wipeOk_no rfl wipeOk_nil) gwn <| wi_list <| wd_var (d := .list ds) rfl ⟨_, rfl, ds, by simp, by omega, fun j w hw => gj_name ⟨rfl, wt_not <| wt_B <| wd_call4 <| wd_var rfl <| wd_var rfl <| wd_var rfl <| wd_int ⟨w, m, bs, 1, rfl, hds w (List.mem_of_getElem? hw), hb, rfl, asD_new ⟨_, rfl, rfl, fun _ => wd_var rfl rfl⟩⟩⟩, ?_⟩
                rw [List.map_id]
                refine wd_lst0 <| rd_eqNil ⟨rfl, kp, ?_⟩
                rw [fil_all]
                exact q
              · exact iteT' (by rw [decide_eq_false hxb]; rfl) (no (noX (by rw [es, decide_eq_false hxb, Bool.false_and])) rfl)
            | _ => exact iteT' rfl (iteT' rfl (no (noX rfl) rfl))
        · have h5 : a ∉ [("set" : Str), "pick"] := fun h => h4 (by
            have : a = ("set" : Str) ∨ a = ("pick" : Str) := by simpa using h
            rcases this with e | e <;> rw [e] <;> simp)
          have h6 : ¬ a = ("skip" : Str) := fun e => h4 (by rw [e]; simp)
          exact iteT' (by rw [decide_eq_false h4]; rfl) (no (by rw [rw3, if_neg h6, decide_eq_false h5, Bool.false_and]) rfl)
      · refine sj_seq <| sj_if <| wt_test <| wd_op <| wd_cb1 <| wd_var rfl <| rc_lenT <| wd_int <| rd_eq sh_int sh_int ⟨_, rfl, iteF' (by rw [eqv_int]; apply decide_eq_false; simp only [List.length_cons]; omega) <| sj_next ?_⟩
        refine sj_seq <| sj_if <| wt_or <| wt_test <| wd_op <| wd_cb1 <| wd_var rfl <| rc_lenT <| wd_int <| rd_ne sh_int sh_int ⟨_, rfl, iteT' (by rw [eqv_int, decide_eq_false (by simp only [List.length_cons]; omega)]; rfl) <| iteT' rfl (no rw4 rfl)⟩
    | _ => exact iteT' rfl (no (rowB_no (fun _ _ _ => rfl)) rfl)
  | _ => exact iteT' rfl (iteT' rfl (no (rowB_no (fun _ _ _ => rfl)) rfl))
theorem ok_lgood (D : Def K mg "_law_good" s_l_good ["thing"]) (c_row : Cal P K.w K mg base CX0 k "_law_good_row" ["row", "m", "boxes"] (spG K (T_rowO K))) (c_name : Cal P K.w K mg base CX0 k "_law_good_name" ["name"] (spG K (T_nameO K))) (c_is : Cal P K.w K mg base CX0 k "_law_is" ["thing", "low", "high"] (spG K (T_whole K))) (m_len : mg "len" = none) (m_isinstance : mg "isinstance" = none) (m_list : mg "list" = none) (m_tuple : mg "tuple" = none) : Cal P K.w K mg base CX0 (k + 1) "_law_good" ["thing"] (spG K (T_progO K)) := by
  refine cal_g D sc_l_good (fun Γ Qr ⟨p, e, _⟩ => by subst e; exact ⟨rfl, noMl_dat noMl_nil⟩) fun f cdv A outer s H E hr => ⟨_, wk_l_good c_row c_name c_is m_len m_isinstance m_list m_tuple f cdv A outer s H E hr, ?_⟩
  rintro Γ Qr ⟨d, rfl, hd, q⟩
  show SJ K [.dat false d, .no, .no, .no, .no] (t_l_good K _ _ _) _
  unfold t_l_good
  have kp : ∀ {Γ'}, Keep [.dat false d] (.dat false d :: Γ') := fun {Γ'} => keep_dat keep_nil
  have no : progB d = false → ∀ {s1 s2 : Sl} {M : Po}, M.rt = (retP [.dat false d] Qr).rt → SJ K [.dat false d, s1, s2, .no, .no] (tRet (tC (.bl false))) M := fun e {s1 s2 M} eM => by
    rw [e] at q
    exact sj_retD true (by rw [eM]; exact wd_lf (wd_bl ⟨rfl, kp, q⟩))
  refine sj_seq <| sj_if <| wt_or <| wt_not <| wt_B <| wd_isi (by decide) <| wd_var rfl ⟨_, rfl, ?_⟩
  rw [isTy_tup]
  cases d with
  | tuple ds =>
    refine iteF' rfl <| wt_or <| wt_test <| wd_op <| wd_cb1 <| wd_var rfl <| rc_lenT <| wd_int <| rd_ne sh_int sh_int ⟨_, rfl, ?_⟩
    rcases ds with _ | ⟨x0, _ | ⟨x1, _ | ⟨x2, _ | ⟨x3, r⟩⟩⟩⟩
    · exact iteT' rfl (iteT' rfl (no rfl rfl))
    · exact iteT' rfl (iteT' rfl (no (by cases x0 <;> rfl) rfl))
    · exact iteT' rfl (iteT' rfl (no (by cases x0 <;> first | rfl | (cases x1 <;> rfl)) rfl))
    · have i0 := hd.tup.2 x0 (by simp)
      have i1 := hd.tup.2 x1 (by simp)
      have i2 := hd.tup.2 x2 (by simp)
      refine iteF' rfl <| wt_not <| wt_B <| wd_call3 <| wd_op <| wd_var rfl <| wd_int <| rd_ixT (d := x0) at0 <| wd_int <| wd_int ⟨x0, 2, 16, rfl, asD_new ⟨_, rfl, ?_⟩⟩
      cases hw : isWhole x0 2 16 with
      | false => exact iteT' rfl (no (by
          cases x0 with
          | int m =>
            cases x1 <;> first | rfl | (cases x2 <;> first | rfl | skip)
            simp only [isWhole] at hw
            simp only [progB, hw, Bool.false_and]
          | _ => rfl) rfl)
      | true =>
        obtain ⟨m, rfl⟩ : ∃ m, x0 = .int m := by
          cases x0 with
          | int m => exact ⟨m, rfl⟩
          | _ => cases hw
        have ew : (decide (2 ≤ m) && decide (m ≤ 16)) = true := hw
        refine iteF' rfl <| sj_next <| sj_seq <| sj_asg false <| wd_slT <| wd_var rfl ⟨_, rfl, wo_some <| wd_int ⟨_, rfl, wo_no <| gj_tup (n := 2) (ds := [x1, x2]) rfl <| gjs_cons <| gj_name <| gjs_cons <| gj_name <| gjs_nil ?_⟩⟩
        show SJ K [.dat false (.tuple [.int m, x1, x2]), .dat false x1, .dat false x2, .no, .no] _ _
        refine sj_seq <| sj_if <| wt_or <| wt_not <| wt_B <| wd_isi (by decide) <| wd_var rfl ⟨_, rfl, ?_⟩
        rw [i1.isL]
        cases x1 with
        | list ns =>
          refine iteF' rfl <| wt_or <| wt_not <| wt_B <| wd_isi (by decide) <| wd_var rfl ⟨_, rfl, ?_⟩
          rw [i2.isL]
          cases x2 with
          | list rs =>
            have e : progB (.tuple [.int m, .list ns, .list rs]) = (boxesB (.list ns) && decide (rs.length ≤ 30) && rs.all (rowB m (strsOf ns))) := by
              show (decide (2 ≤ m) && decide (m ≤ 16) && boxesB (.list ns) && decide (rs.length ≤ 30) && rs.all (rowB m (strsOf ns))) = _
              rw [ew]
              rfl
            have eb : boxesB (.list ns) = (decide (1 ≤ ns.length) && decide (ns.length ≤ 5) && ns.all nameB && decide (strsOf ns).Nodup) := rfl
            have nb : boxesB (.list ns) = false → progB (.tuple [.int m, .list ns, .list rs]) = false := fun h => by rw [e, h]; rfl
            refine iteF' rfl <| wt_test <| wd_op <| wd_cb1 <| wd_var rfl <| rc_lenL <| wd_int <| rd_gt ⟨_, rfl, iteD (fun h => no (by rw [e, decide_eq_false (by omega), Bool.and_false, Bool.false_and]) rfl) (fun h => sj_next ?_)⟩
            refine sj_seq <| sj_if <| wt_or <| wt_test <| wd_op <| wd_cb1 <| wd_var rfl <| rc_lenL <| wd_int <| rd_lt ⟨_, rfl, iteD (fun h1 => iteT' rfl (no (nb (by rw [eb, decide_eq_false (by omega)]; rfl)) rfl)) (fun h1 => ?_)⟩
            refine wt_or <| wt_test <| wd_op <| wd_cb1 <| wd_var rfl <| rc_lenL <| wd_int <| rd_gt ⟨_, rfl, iteD (fun h2 => iteT' rfl (no (nb (by rw [eb, decide_eq_false (by omega : ¬ ns.length ≤ 5), Bool.and_false, Bool.false_and]; rfl)) rfl)) (fun h2 => ?_)⟩
            refine wt_test <| wd_op <| wd_lcPa (mi := false) (α := PyData) id (fun w => !nameB w) id (wipeOk_no rfl wipeOk_nil) gwn <| wi_list <| wd_var (d := .list ns) rfl ⟨_, rfl, ns, by simp, by omega, fun j w hw' => gj_name ⟨rfl, wt_not <| wt_B <| wd_call1 <| wd_var rfl ⟨w, rfl, i1.lst.2 w (List.mem_of_getElem? hw'), asD_new ⟨_, rfl, rfl, fun _ => wd_var rfl rfl⟩⟩⟩, ?_⟩
            rw [List.map_id]
            refine wd_lst0 <| rd_neNil ⟨_, rfl, ?_⟩
            rw [fil_all]
            cases hn : ns.all nameB with
            | false => exact iteT' rfl (no (nb (by rw [eb, hn, Bool.and_false, Bool.false_and])) rfl)
            | true =>
              obtain ⟨bs, rfl⟩ := names_are hn
              have hbs : BsW bs := ⟨by rw [List.length_map] at h2; omega, fun x hx => nameB_ok (List.all_eq_true.mp hn _ (List.mem_map.mpr ⟨x, hx, rfl⟩))⟩
              have e2 : boxesB (bsD bs) = decide bs.Nodup := by
                show (decide (1 ≤ (bs.map PyData.str).length) && decide ((bs.map PyData.str).length ≤ 5) && (bs.map PyData.str).all nameB && decide (strsOf (bs.map PyData.str)).Nodup) = _
                rw [hn, strsOf_map, decide_eq_true (by omega), decide_eq_true (by omega)]
                rfl
              rw [e, e2, strsOf_map, decide_eq_true (by omega : rs.length ≤ 30), Bool.and_true] at q
              refine iteF' rfl <| sj_next <| sj_seq <| sj_if <| wt_test <| wd_op <| wd_lcPa (mi := false) (α := Str) PyData.str (fun x => decide (1 < ((bs.count x : Nat) : Int))) PyData.str (wipeOk_no rfl wipeOk_nil) gwn <| wi_list <| wd_var (d := bsD bs) rfl ⟨_, rfl, bs, rfl, by have := hbs.1; omega, fun j x hx => gj_name ⟨rfl, ?_⟩, ?_⟩
              · have hxb := List.mem_of_getElem? hx
                refine wt_test <| wd_op <| wd_count <| wd_var (d := bsD bs) rfl ⟨_, rfl, wd_var rfl ⟨bs_sh hbs.2, sh_str (hbs.2 x hxb).strOk, ?_⟩⟩
                rw [count_map]
                exact wd_int <| rd_gt ⟨_, rfl, rfl, fun _ => wd_var rfl rfl⟩
              · refine wd_lst0 <| rd_neNil ⟨_, rfl, ?_⟩
                have e3 : decide (((bs.filter fun x => decide (1 < ((bs.count x : Nat) : Int))).map PyData.str) = []) = decide bs.Nodup := by
                  apply decide_eq_decide.mpr
                  rw [List.map_eq_nil_iff, nd_count]
                rw [e3]
                by_cases hnd : bs.Nodup
                · rw [decide_eq_true hnd, Bool.true_and] at q
                  refine iteF' (by rw [decide_eq_true hnd]; rfl) <| sj_next <| sj_retD true <| wd_lf <| wd_op <| wd_lcPa (mi := false) (α := PyData) id (fun w => !rowB m bs w) id (wipeOk_no rfl wipeOk_nil) gwn <| wi_list <| wd_var (d := .list rs) rfl ⟨_, rfl, rs, by simp, by omega, fun j w hw' => gj_name ⟨rfl, wt_not <| wt_B <| wd_call3 <| wd_var rfl <| wd_op <| wd_var rfl <| wd_int <| rd_ixT (d := .int m) at0 <| wd_var rfl ⟨w, m, bs, rfl, i2.lst.2 w (List.mem_of_getElem? hw'), hbs, asD_new ⟨_, rfl, rfl, fun _ => wd_var rfl rfl⟩⟩⟩, ?_⟩
                  rw [List.map_id]
                  refine wd_lst0 <| rd_eqNil ⟨rfl, kp, ?_⟩
                  rw [fil_all]
                  exact q
                · exact iteT' (by rw [decide_eq_false hnd]; rfl) (no (nb (by rw [e2, decide_eq_false hnd])) rfl)
          | _ => exact iteT' rfl (iteT' rfl (no rfl rfl))
        | _ => exact iteT' rfl (iteT' rfl (no (by first | rfl | (cases x2 <;> rfl)) rfl))
    · exact iteT' (by simp [PyData.eqv]; omega) (iteT' rfl (no (by cases x0 <;> first | rfl | (cases x1 <;> first | rfl | (cases x2 <;> rfl))) rfl))
  | _ => exact iteT' rfl (iteT' rfl (no rfl rfl))
end
end Dk
end
section
set_option Elab.async false
set_option linter.all false
set_option maxRecDepth 100000
set_option pp.maxSteps 600
open PySem L2 Pk
local macro_rules | `(tactic| walk_at "sh") => `(tactic| first | exact sh_int | exact sh_bool | exact sh_non | exact sh_nil | exact sh_str (by decide +kernel) | assumption)
local macro_rules | `(tactic| walk_at "v1") => `(tactic| first
  | (with_reducible refine wd_int ?_) | (with_reducible refine wd_str ?_) | (with_reducible refine wd_bl ?_) | (with_reducible refine wd_non ?_)
  | ((with_reducible apply wd_var); exact rfl) | ((with_reducible apply wd_varN); exact rfl)
  | ((with_reducible apply wd_ixm); exact rfl)
  | ((with_reducible apply wd_lenM); exact rfl) | ((with_reducible apply wd_lenScript); exact rfl) | ((with_reducible apply wd_ixScript); exact rfl)
  | (with_reducible refine wd_op ?_) | (with_reducible refine wd_un ?_)
  | (with_reducible refine rd_add ?_) | (with_reducible refine rd_sub ?_) | (with_reducible refine rd_lt ?_) | (with_reducible refine rd_le ?_) | (with_reducible refine rd_gt ?_) | (with_reducible refine rd_ge ?_) | (with_reducible refine ru_neg ?_)
  | ((with_reducible refine rd_eq ?ev_h ?ev_k ?_); (case ev_h => walk_at "sh"); (case ev_k => walk_at "sh")) | ((with_reducible refine rd_ne ?ev_h ?ev_k ?_); (case ev_h => walk_at "sh"); (case ev_k => walk_at "sh"))
  | ((with_reducible refine rd_mod ?ev_h ?_); case ev_h => first | decide | assumption | omega) | ((with_reducible refine rd_div ?ev_h ?ev_k ?_); (case ev_h => first | decide | assumption | omega); (case ev_k => first | decide | assumption | omega))
  | ((with_reducible refine rd_pow ?ev_h ?_); case ev_h => exact ⟨by decide, by decide, by decide⟩)
  | ((with_reducible refine rd_mul ?ev_h ?_); case ev_h => first | exact .inr ⟨by decide, by decide⟩ | exact .inl ⟨by decide, by decide⟩ | exact .inl ⟨by omega, by omega⟩ | exact .inr ⟨by omega, by omega⟩)
  | (with_reducible refine rc_lenL ?_) | (with_reducible refine rc_lenT ?_) | (with_reducible refine rc_max2 ?_) | (with_reducible refine rc_min2 ?_) | (with_reducible refine rc_intB ?_) | (with_reducible refine rc_intI ?_) | (with_reducible refine rc_listL ?_) | (with_reducible refine rc_listT ?_) | (with_reducible refine rc_tupleL ?_)
  | ((with_reducible apply rd_ixT); exact rfl)
  | ((with_reducible apply rd_ixL); exact rfl)
  | ((with_reducible refine wd_isi ?ev_h ?_); case ev_h => decide) | ((with_reducible refine wd_isi2 ?ev_h ?ev_k ?_); (case ev_h => decide); (case ev_k => decide))
  | (with_reducible refine wd_tup2 ?_) | (with_reducible refine wd_tup1 ?_) | (with_reducible refine wd_tup3 ?_) | (with_reducible refine wd_tup0 ?_)
  | (with_reducible refine wd_lst0 ?_) | (with_reducible refine wd_lst1 ?_) | (with_reducible refine wd_lst2 ?_) | (with_reducible refine wd_lst3 ?_) | (with_reducible refine wd_lst4 ?_) | (with_reducible refine wd_lst5 ?_) | (with_reducible refine wd_lst6 ?_)
  | ((with_reducible apply wd_callO0); exact rfl) | ((with_reducible apply wd_callO1); exact rfl) | ((with_reducible apply wd_callO2); exact rfl) | ((with_reducible apply wd_callO3); exact rfl)
  | (with_reducible refine wd_call1 ?_) | (with_reducible refine wd_call2 ?_) | (with_reducible refine wd_call3 ?_) | (with_reducible refine wd_call4 ?_) | (with_reducible refine wd_call0 ?_)
  | (with_reducible refine wd_cb1 ?_) | (with_reducible refine wd_cb2 ?_)
  | (with_reducible refine wd_rev ?_) | (with_reducible refine wd_lrg1 ?_) | (with_reducible refine wd_sl ?_) | (with_reducible refine wo_no ?_) | (with_reducible refine wo_some ?_)
  | (with_reducible refine wd_andV ?_) | (with_reducible refine wd_orV ?_) | (with_reducible refine wd_notV ?_) | (with_reducible refine wd_if ?_) | (with_reducible refine wd_chain ?_)
  | (with_reducible refine wt_test ?_) | (with_reducible refine wt_B ?_) | (with_reducible refine wt_not ?_) | (with_reducible refine wt_and ?_) | (with_reducible refine wt_or ?_) | (with_reducible refine wt_yes ?_)
  | (with_reducible refine gj_name ?_) | (with_reducible refine gj_tup rfl ?_) | (with_reducible refine gjs_cons ?_) | (with_reducible refine gjs_nil ?_))
local macro_rules | `(tactic| walk_at "v") => `(tactic| repeat walk_at "v1")
local macro_rules | `(tactic| walk_at "x") => `(tactic| refine ⟨_, rfl, ?_⟩)
local macro_rules | `(tactic| walk_at "vx") => `(tactic| repeat (first | walk_at "v1" | (with_reducible refine ⟨_, rfl, ?_⟩)))
namespace Dk
open PySem PySem.Spec PyProof.Rows L2 Pk Sy
/-- numbers, texts, lists and tuples, as a program has them -/
def Pn : Nat → PyData → Prop
  | _, .int _ => True
  | _, .str x => PyData.strOk x = true ∧ x.length ≤ 40
  | n + 1, .list ds => ds.length ≤ 40 ∧ ∀ d ∈ ds, Pn n d
  | n + 1, .tuple ds => ds.length ≤ 40 ∧ ∀ d ∈ ds, Pn n d
  | _, _ => False
theorem pn_str {n : Nat} {x : Str} (h : PyData.strOk x = true) (hl : x.length ≤ 40) : Pn n (.str x) := by cases n <;> exact ⟨h, hl⟩
theorem pn_int {n : Nat} {i : Int} : Pn n (.int i) := by cases n <;> trivial
theorem Pn.od {b : Nat} (hb : 40 ≤ b) : ∀ {n : Nat} {d : PyData}, Pn n d → ∀ {n'}, n ≤ n' → Od b n' d
  | n, .int _, h, n', _ => od_int
  | n, .str x, h, n', _ => by
    have h : PyData.strOk x = true ∧ x.length ≤ 40 := by cases n <;> exact h
    exact od_str h.1 (by omega)
  | n + 1, .list ds, h, n' + 1, l => ⟨by have := h.1; omega, fun d hd => (h.2 d hd).od hb (by omega)⟩
  | n + 1, .tuple ds, h, n' + 1, l => ⟨by have := h.1; omega, fun d hd => (h.2 d hd).od hb (by omega)⟩
  | n + 1, .list ds, h, 0, l => by omega
  | n + 1, .tuple ds, h, 0, l => by omega
  | 0, .list _, h, _, _ => h.elim
  | 0, .tuple _, h, _, _ => h.elim
  | n, .none, h, _, _ => by cases n <;> exact h.elim
  | n, .bool _, h, _, _ => by cases n <;> exact h.elim
  | n, .dict _, h, _, _ => by cases n <;> exact h.elim
theorem Pn.up {n : Nat} : ∀ {n' : Nat} {d : PyData}, Pn n d → n ≤ n' → Pn n' d := by
  induction n with
  | zero =>
    intro n' d h l
    cases d with
    | int i => exact pn_int
    | str x => exact pn_str h.1 h.2
    | _ => exact h.elim
  | succ n ih =>
    intro n' d h l
    cases d with
    | int i => exact pn_int
    | str x => exact pn_str h.1 h.2
    | list ds =>
      obtain ⟨k, rfl⟩ : ∃ k, n' = k + 1 := ⟨n' - 1, by omega⟩
      exact ⟨h.1, fun d hd => ih (h.2 d hd) (by omega)⟩
    | tuple ds =>
      obtain ⟨k, rfl⟩ : ∃ k, n' = k + 1 := ⟨n' - 1, by omega⟩
      exact ⟨h.1, fun d hd => ih (h.2 d hd) (by omega)⟩
    | _ => exact h.elim
theorem pn_t2 {n : Nat} {x y : PyData} (hx : Pn n x) (hy : Pn n y) : Pn (n + 1) (.tuple [x, y]) := ⟨by simp, fun d hd => by
  have : d = x ∨ d = y := by simpa using hd
  rcases this with e | e <;> subst e <;> assumption⟩
theorem pn_t3 {n : Nat} {x y z : PyData} (hx : Pn n x) (hy : Pn n y) (hz : Pn n z) : Pn (n + 1) (.tuple [x, y, z]) := ⟨by simp, fun d hd => by
  have : d = x ∨ d = y ∨ d = z := by simpa using hd
  rcases this with e | e | e <;> subst e <;> assumption⟩
theorem pn_w {n : Nat} {x : Str} (h : x ∈ [("number" : Str), "box", "set", "pick", "need", "skip", "give", "plus", "times", "less", "same"]) : Pn n (.str x) := by
  have : PyData.strOk x = true ∧ x.length ≤ 8 := by
    revert x
    decide +kernel
  exact pn_str this.1 (by omega)
theorem pn_name {n : Nat} {x : Str} (h : NameOk x) : Pn n (.str x) := pn_str h.strOk (by have := h.2.1; omega)
theorem pn_th {m : Nat} {bs : List Str} (hbs : ∀ x ∈ bs, NameOk x) : ∀ {n : Nat} {t : Th}, t.Ok m bs n → Pn n t.d
  | 0, t, h => by cases h
  | n + 1, .num k, h => pn_t2 (pn_w (by decide +kernel)) pn_int
  | n + 1, .box x, h => pn_t2 (pn_w (by decide +kernel)) (pn_name (hbs x h))
  | n + 1, .op o x y, h => pn_t3 (pn_w (by cases o <;> decide +kernel)) (pn_th hbs h.1) (pn_th hbs h.2)
theorem pn_rw {m : Nat} {bs : List Str} (hbs : ∀ x ∈ bs, NameOk x) {r : Rw} (h : r.Ok m bs) : Pn 6 r.d := by
  have th : ∀ t : Th, t.Ok m bs 4 → Pn 5 t.d := fun t ht => (pn_th hbs ht).up (by omega)
  cases r with
  | set x t => exact pn_t3 (pn_w (by decide +kernel)) (pn_name (hbs x h.1)) (th t h.2)
  | pick x ts =>
    refine pn_t3 (pn_w (by decide +kernel)) (pn_name (hbs x h.1)) ⟨by rw [List.length_map]; have := h.2.2.1; omega, fun d hd => ?_⟩
    obtain ⟨t, ht, rfl⟩ := List.mem_map.mp hd
    exact pn_th hbs (h.2.2.2 t ht)
  | need t => exact pn_t2 (pn_w (by decide +kernel)) (th t h)
  | give t => exact pn_t2 (pn_w (by decide +kernel)) (th t h)
  | skip t k => exact pn_t3 (pn_w (by decide +kernel)) (th t h.1) pn_int
theorem pn_pg {p : Pg} (h : p.Ok) : Pn 8 p.d := by
  refine pn_t3 pn_int ⟨by rw [List.length_map]; have := h.bs.len5; omega, fun d hd => ?_⟩ ⟨by rw [List.length_map]; have := h.r30; omega, fun d hd => ?_⟩
  · obtain ⟨x, hx, rfl⟩ := List.mem_map.mp hd
    exact pn_name (h.bs.nm x hx)
  · obtain ⟨r, hr, rfl⟩ := List.mem_map.mp hd
    exact pn_rw h.bs.nm (h.rows r hr)
theorem cutD_sub {α : Type} {ds : List α} {lo hi : Option Int} {d : α} (h : d ∈ Pk.cutD ds lo hi) : d ∈ ds := List.mem_of_mem_drop (List.mem_of_mem_take h)
theorem cutD_le {α : Type} (ds : List α) (lo hi : Option Int) : (Pk.cutD ds lo hi).length ≤ ds.length := by
  unfold Pk.cutD
  rw [List.length_take, List.length_drop]
  omega
theorem cutS_le (x : Str) (lo hi : Option Int) : (cutS x lo hi).length ≤ x.length := by
  rw [str_len, str_len]
  unfold cutS
  simp only [List.length_take, List.length_drop]
  omega
theorem app_ok {x y : Str} (hx : PyData.strOk x = true) (hy : PyData.strOk y = true) : PyData.strOk (x ++ y) = true := Pu.strOk_of fun c hc => by
  rw [app_cps] at hc
  rcases List.mem_append.mp hc with h | h
  · exact strOk_cp hx h
  · exact strOk_cp hy h
theorem cut_ok {x : Str} (hx : PyData.strOk x = true) (lo hi : Option Int) : PyData.strOk (cutS x lo hi) = true := Pu.strOk_of fun c hc => strOk_cp hx (Pu.cut_mem hc)
theorem app_len (x y : Str) : (x ++ y).length = x.length + y.length := by rw [str_len, app_cps, List.length_append, ← str_len, ← str_len]
def SG : Str := " !#$&'()*+,-./0123456789:;<=>?@ABCDEFGHIJKLMNOPQRSTUVWXYZ[]^_`{|}~z\t\n"
theorem sg_len : SG.length = 69 := by decide +kernel
theorem sg_all : ∀ r ∈ List.range 69, ∃ c ∈ List.range 128, atI SG.cps.toList (r : Nat) = some c := by decide +kernel
theorem one_ok {c : Nat} (h : c < 128) : PyData.strOk (⟨#[c]⟩ : Str) = true := Pu.strOk_of fun c' hc => by
  have : c' = c := by simpa using hc
  omega
def T_odd01 (n : Nat) (K : Kw) : List Sl → (Sl → Prop) → Prop := fun Γ Q => ∃ v d, Γ = [.ex v (Dck K), .dat false d] ∧ Pn n d ∧ ∀ d', Od 100 (n + 1) d' → Q (.dat false d')
def T_changed (n : Nat) (K : Kw) : List Sl → (Sl → Prop) → Prop := fun Γ Q => ∃ v d, ∃ deep : Int, Γ = [.ex v (Dck K), .dat false d, .dat false (.int deep)] ∧ Pn n d ∧ ∀ d', Od 100 (n + 1) d' → Q (.dat false d')
def T_deepO (n : Nat) (K : Kw) : List Sl → (Sl → Prop) → Prop := fun Γ Q => ∃ d, Γ = [.dat false d] ∧ Od 200 n d ∧ Q (.dat false d)
section
variable {P : Program} {K : Kw} {mg : Str → Option Value} {base : Heap} {k : Nat}
theorem rd_selT01 {m : Bool} {Γ : List Sl} {Q : PyData → Prop} {ds : List PyData} {n : Int} (h0 : 0 ≤ n) (h1 : n < ds.length) (q : ∀ d ∈ ds, Q d) : RD K m Γ (rIx K) (.tuple ds) (.int n) Q := by
  have hl : n.toNat < ds.length := by omega
  have key : atI ds ((n.toNat : Nat) : Int) = some ds[n.toNat] := by rw [atI_ofNat]; simp [hl]
  have e : ((n.toNat : Nat) : Int) = n := by omega
  rw [e] at key
  exact rd_ixT key (q _ (List.getElem_mem hl))
theorem deepO_step (D : Def K mg "_law_deep" s_l_deep ["thing"]) (m_isinstance : mg "isinstance" = none) (m_tuple : mg "tuple" = none) (m_list : mg "list" = none) (n : Nat)
    (ih : Cal P K.w K mg base CX0 (k + n) "_law_deep" ["thing"] (spG K fun Γ Q => ∃ n', n = n' + 1 ∧ T_deepO n' K Γ Q)) : Cal P K.w K mg base CX0 (k + n + 1) "_law_deep" ["thing"] (spG K (T_deepO n K)) := by
  refine cal_g D sc_l_deep (fun Γ Qr ⟨d, e, _⟩ => by subst e; exact ⟨rfl, noMl_dat noMl_nil⟩) fun f cdv A outer s H E hr => ⟨_, wk_l_deep ih m_isinstance m_tuple m_list f cdv A outer s H E hr, ?_⟩
  rintro Γ Qr ⟨d, rfl, hd, q⟩
  show SJ K [.dat false d, .no] (t_l_deep K _) _
  unfold t_l_deep
  have kp : ∀ {Γ'}, Keep [.dat false d] (.dat false d :: Γ') := fun {Γ'} => keep_dat keep_nil
  refine sj_seq <| sj_if <| wt_B <| wd_isi (by decide) <| wd_var rfl ⟨_, rfl, ?_⟩
  rw [isTy_lst hd]
  cases d with
  | list ds =>
    obtain ⟨hl, n', hn, hi⟩ := hd.lst
    refine iteT' rfl <| sj_retD false <| wd_lcMa (mi := false) (α := PyData) id id (wipeOk_no rfl wipeOk_nil) gwn <| wi_list <| wd_var rfl ⟨ds, rfl, ds, by simp, by omega, fun i x hx => gj_name ⟨rfl, wd_call1 <| wd_var rfl ⟨n', hn, x, rfl, hi x (List.mem_of_getElem? hx), asD_dat rfl⟩⟩, ?_⟩
    rw [List.map_id]
    exact ⟨kp, q⟩
  | tuple ds =>
    obtain ⟨hl, n', hn, hi⟩ := hd.tup
    refine iteF' rfl <| sj_next <| sj_seq <| sj_if <| wt_B <| wd_isi (by decide) <| wd_var rfl ⟨_, rfl, iteT' rfl ?_⟩
    refine sj_retD false <| wd_cb1 <| wd_lcMa (mi := false) (α := PyData) id id (wipeOk_no rfl wipeOk_nil) gwn <| wi_tup <| wd_var rfl ⟨ds, rfl, ds, by simp, by omega, fun i x hx => gj_name ⟨rfl, wd_call1 <| wd_var rfl ⟨n', hn, x, rfl, hi x (List.mem_of_getElem? hx), asD_dat rfl⟩⟩, ?_⟩
    rw [List.map_id]
    exact rc_tupleL ⟨kp, q⟩
  | dict kvs =>
    have e := hd.dict
    subst e
    exact iteF' rfl <| sj_next <| sj_seq <| sj_if <| wt_B <| wd_isi (by decide) <| wd_var rfl ⟨_, rfl, iteF' rfl <| sj_next <| sj_retD false <| wd_var rfl ⟨kp, q⟩⟩
  | _ => exact iteF' rfl <| sj_next <| sj_seq <| sj_if <| wt_B <| wd_isi (by decide) <| wd_var rfl ⟨_, rfl, iteF' rfl <| sj_next <| sj_retD false <| wd_var rfl ⟨kp, q⟩⟩
theorem ok_deepO (D : Def K mg "_law_deep" s_l_deep ["thing"]) (m_isinstance : mg "isinstance" = none) (m_tuple : mg "tuple" = none) (m_list : mg "list" = none) : ∀ n, Cal P K.w K mg base CX0 (k + n + 1) "_law_deep" ["thing"] (spG K (T_deepO n K))
  | 0 => deepO_step D m_isinstance m_tuple m_list 0 ((cal_no D).imp fun vs H Q E h => by
      obtain ⟨_, _, _, _, _, _, _, _, _, ⟨n', h0, _⟩, _⟩ := h
      omega)
  | n + 1 => deepO_step D m_isinstance m_tuple m_list (n + 1) ((ok_deepO D m_isinstance m_tuple m_list n).imp fun vs H Q E h => by
      obtain ⟨X, F, Γ, Qr, h1, h2, h3, h4, h5, ⟨n', h0, h6⟩, h7⟩ := h
      have : n' = n := by omega
      subst this
      exact ⟨X, F, Γ, Qr, h1, h2, h3, h4, h5, h6, h7⟩)
theorem od_w6 {n : Nat} {x : PyData} (h : x ∈ [PyData.str "set", .str "pick", .str "need", .str "skip", .str "give", .str "plus", .str "times", .str "less", .str "same", .str "box"]) : Od 100 n x := by
  simp only [List.mem_cons, List.not_mem_nil, or_false] at h
  rcases h with rfl | rfl | rfl | rfl | rfl | rfl | rfl | rfl | rfl | rfl <;> exact od_str (by decide +kernel) (by decide +kernel)
theorem ok_odd01 (D : Def K mg "_law_odd" s_l_odd ["deck", "thing"]) (c_draw : Cal P K.w K mg base CX0 k "_law_draw" ["deck", "many"] (spG K (T_draw K))) (m_len : mg "len" = none) (m_isinstance : mg "isinstance" = none) (m_tuple : mg "tuple" = none) (m_list : mg "list" = none) (m_int : mg "int" = none) (m_str : mg "str" = none) (n : Nat) : Cal P K.w K mg base CX0 (k + 1) "_law_odd" ["deck", "thing"] (spG K (T_odd01 n K)) := by
  refine cal_g D sc_l_odd (fun Γ Qr ⟨v, d, e, _⟩ => by subst e; exact ⟨rfl, noMl_ex (noMl_dat noMl_nil)⟩) fun f cdv A outer s H E hr => ⟨_, wk_l_odd c_draw m_len m_isinstance m_tuple m_list m_int m_str f cdv A outer s H E hr, ?_⟩
  rintro Γ Qr ⟨v, d, rfl, hd, q⟩
  show SJ K [.ex v (Dck K), .dat false d, .no, .no, .no, .no, .no] (t_l_odd K _) _
  unfold t_l_odd
  have od : Od 100 n d := hd.od (by decide) (Nat.le_refl _)
  refine sj_cut (fun Γ' => ∃ xs, Γ' = [.ex v (Dck K), .dat false d, .dat false (.list xs), .no, .no, .no, .no] ∧ xs.length = 15 ∧ ∀ x ∈ xs, Od 100 (n + 1) x) ?_ ?_
  · refine sj_set false <| wd_lst <| wa_d <| wd_non <| wa_d <| wd_int <| wa_d <| wd_un <| wd_int <| ru_neg <| wa_d <| wd_bl <| wa_d <| wd_bl <| wa_d <| wd_str <| wa_d <| wd_str <| wa_d <| wd_tup0 <| wa_d <| wd_lst0 <| wa_d <| wd_dict0 [] <| wa_d <| wd_op <| wd_int <| wd_int <| rd_pow ⟨by decide, by decide, by decide⟩ <| wa_d <| wd_lst1 <| wd_var rfl <| wa_d <| wd_tup1 <| wd_var rfl <| wa_d <| wd_tup2 <| wd_str <| wd_int <| wa_d <| wd_str <| wa_nil ⟨_, rfl, by simp, ?_⟩
    refine ⟨_, rfl, rfl, fun x hx => ?_⟩
    simp only [List.mem_cons, List.not_mem_nil, or_false] at hx
    rcases hx with rfl | rfl | rfl | rfl | rfl | rfl | rfl | rfl | rfl | rfl | rfl | rfl | rfl | rfl | rfl
    · exact od_non
    · exact od_int
    · exact od_int
    · exact od_bool
    · exact od_bool
    · exact od_str (by decide +kernel) (by decide +kernel)
    · exact od_str (by decide +kernel) (by decide +kernel)
    · exact ⟨by simp, fun d hd => by cases hd⟩
    · exact ⟨by simp, fun d hd => by cases hd⟩
    · exact od_dict
    · exact od_int
    · exact ⟨by simp, fun y hy => by rw [List.mem_singleton.mp hy]; exact od⟩
    · exact ⟨by simp, fun y hy => by rw [List.mem_singleton.mp hy]; exact od⟩
    · exact od_t2 (by decide) (od_w (by decide) (by decide +kernel)) od_int
    · exact od_w (by decide) (by decide +kernel)
  rintro Γ' ⟨xs, rfl, h15, hxs⟩
  refine sj_cut (fun Γ' => ∃ ys s2 s3 s4 s5 s6, Γ' = [.ex v (Dck K), .dat false d, s2, s3, s4, s5, s6] ∧ (s2 = .dat false (.list ys) ∨ ∃ l, s2 = .ml false l ys) ∧ 1 ≤ ys.length ∧ ys.length ≤ 19 ∧ ∀ x ∈ ys, Od 100 (n + 1) x) (sj_if <| wt_B <| wd_isi (by decide) <| wd_var rfl ⟨_, rfl, ?_⟩) ?_
  · rw [isTy_str]
    cases d with
    | str x =>
      have hx := od.str
      have h40 : x.length ≤ 40 := by cases n <;> exact hd.2
      refine iteT' rfl <| sj_seq <| sj_set false <| wd_callO1 (i := 0) (v := v) rfl <| wd_op <| wd_cb1 <| wd_var rfl <| rc_lenS (by omega) <| wd_int <| rd_add <| use_draw (by omega) (by omega) fun at' a0 a1 => ?_
      refine sj_seq <| sj_set false <| wd_str ?_
      refine sj_seq <| sj_set false <| wd_op <| wd_var rfl <| wd_callO1 (i := 0) (v := v) rfl <| wd_cb1 <| wd_var rfl <| rc_lenS (by rw [show (" !#$&'()*+,-./0123456789:;<=>?@ABCDEFGHIJKLMNOPQRSTUVWXYZ[]^_`{|}~z\t\n" : Str) = SG from rfl, sg_len]; decide) <| use_drawN (n := SG.length) (by rw [sg_len]; decide) (by rw [sg_len]; decide) fun r r1 => ?_
      rw [sg_len] at r1
      obtain ⟨c, hc, hat⟩ := sg_all r (List.mem_range.mpr r1)
      have c128 := List.mem_range.mp hc
      refine rd_ixS (x := SG) (c := c) (by rw [sg_len]; decide) hat ?_
      show SJ K [.ex v (Dck K), .dat false (.str x), .dat false (.list xs), .dat false (.int at'), .dat false (.str SG), .dat false (.str ⟨#[c]⟩), .no] _ _
      have l1 : ((⟨#[c]⟩ : Str)).length = 1 := rfl
      have cu := cutS_le x
      refine sj_seq <| sj_setX <| wx_op false <| wd_var rfl <| wd_lst3 <| wd_op <| wd_op <| wd_slS <| wd_var rfl ⟨x, rfl, by omega, wo_no <| wo_some <| wd_var rfl ⟨_, rfl, wd_var rfl <| rd_addS (by have := cu none (some at'); omega) ?_⟩⟩
      refine wd_slS <| wd_var rfl ⟨x, rfl, by omega, wo_some <| wd_var rfl ⟨_, rfl, wo_no <| rd_addS (by rw [app_len]; have := cu none (some at'); have := cu (some at') none; omega) ?_⟩⟩
      refine wd_op <| wd_op <| wd_slS <| wd_var rfl ⟨x, rfl, by omega, wo_no <| wo_some <| wd_var rfl ⟨_, rfl, wd_var rfl <| rd_addS (by have := cu none (some at'); omega) ?_⟩⟩
      refine wd_slS <| wd_var rfl ⟨x, rfl, by omega, wo_some <| wd_op <| wd_var rfl <| wd_int <| rd_add ⟨_, rfl, wo_no <| rd_addS (by rw [app_len]; have := cu none (some at'); have := cu (some (at' + 1)) none; omega) ?_⟩⟩
      refine wd_op <| wd_var rfl <| wd_str <| rd_addS (by rw [show (("aaaaaaaa" : Str)).length = 8 from by decide +kernel]; omega) <| rx_cat (by simp; omega) fun l => ?_
      refine sj_seq <| sj_set false <| wd_lst <| wa_d <| wd_str <| wa_d <| wd_str <| wa_d <| wd_str <| wa_d <| wd_str <| wa_d <| wd_str <| wa_d <| wd_str <| wa_d <| wd_str <| wa_d <| wd_str <| wa_d <| wd_str <| wa_d <| wd_str <| wa_nil ⟨_, rfl, by simp, ?_⟩
      refine sj_app (i := 2) (l := l) (m := false) rfl (by simp; omega) <| wd_op <| wd_var rfl <| wd_callO1 (i := 0) (v := v) rfl <| wd_int <| use_draw (by decide) (by decide) fun r0 a0 a1 => rd_sel a0 (by simpa using a1) fun w hw => ?_
      refine ⟨_, _, _, _, _, _, rfl, .inr ⟨l, rfl⟩, by simp, by simp; omega, fun y hy => ?_⟩
      rcases List.mem_append.mp hy with hy | hy
      · rcases List.mem_append.mp hy with hy | hy
        · exact hxs y hy
        · simp only [List.mem_cons, List.not_mem_nil, or_false] at hy
          rcases hy with rfl | rfl | rfl
          · exact od_str (app_ok (app_ok (cut_ok hx.1 _ _) (one_ok c128)) (cut_ok hx.1 _ _)) (by rw [app_len, app_len]; have := cu none (some at'); have := cu (some at') none; omega)
          · exact od_str (app_ok (app_ok (cut_ok hx.1 _ _) (one_ok c128)) (cut_ok hx.1 _ _)) (by rw [app_len, app_len]; have := cu none (some at'); have := cu (some (at' + 1)) none; omega)
          · exact od_str (app_ok hx.1 (by decide +kernel)) (by rw [app_len, show (("aaaaaaaa" : Str)).length = 8 from by decide +kernel]; omega)
      · rw [List.mem_singleton.mp hy]
        exact od_w6 hw
    | _ => exact iteF' rfl <| sj_next ⟨xs, _, _, _, _, _, rfl, .inl rfl, by omega, by omega, hxs⟩
  rintro Γ' ⟨ys, s2, s3, s4, s5, s6, rfl, hs2, y1, y19, hys⟩
  have main : SJ K [.ex v (Dck K), .dat false d, .dat false (.list ys), s3, s4, s5, s6] (tSeq (tIfS (tB (tCB (rIsD K) (tCons (tVar 1) (tCons (tC (.ty "int")) tNil)))) (tAsg (tOp (dAdd K) (tVar 2) (tLst (tCons (tOp (dAdd K) (tVar 1) (tC (.int 1))) (tCons (tOp dSub (tVar 1) (tC (.int 1))) (tCons (tOp dSub (tC (.int 0)) (tVar 1)) (tCons (tC (.int 17)) (tCons (tC (.int 1)) (tCons (tC (.int 31)) tNil)))))))) (gName 2)) tNext)
    (tSeq (tIfS (tB (tCB (rIsDT K) (tCons (tVar 1) (tCons (tTup (tCons (tC (.ty "list")) (tCons (tC (.ty "tuple")) tNil))) tNil)))) (tAsg (tOp (dAdd K) (tVar 2) (tLst (tCons (tCB (dList K) (tCons (tVar 1) tNil)) (tCons (tCB (dTuple K) (tCons (tVar 1) tNil)) (tCons (tOp (dAdd K) (tVar 1) (tVar 1)) (tCons (tEi (tSl (rSlL K) (tVar 1) (tPart (tC (.int 1))) tNoPart) (tSl (rSlA K) (tVar 1) (tPart (tC (.int 1))) tNoPart)) (tCons (tEi (tSl (rSlL K) (tVar 1) tNoPart (tPart (tUn dNeg (tC (.int 1))))) (tSl (rSlA K) (tVar 1) tNoPart (tPart (tUn dNeg (tC (.int 1)))))) (tCons (tEi (tRevL K (tVar 1)) (Ps.tRevT K (tVar 1))) tNil)))))))) (gName 2)) tNext)
    (tRet (tOp (rIx K) (tVar 2) (tCall (spG K (T_draw K)) [] E0 (tCons (tVar 0) (tCons (tCB (dLen K) (tCons (tVar 2) tNil)) tNil))))))) (retP [.ex v (Dck K), .dat false d] Qr) := by
    refine sj_cut (fun Γ' => ∃ zs, Γ' = [.ex v (Dck K), .dat false d, .dat false (.list zs), s3, s4, s5, s6] ∧ 1 ≤ zs.length ∧ zs.length ≤ 25 ∧ ∀ x ∈ zs, Od 100 (n + 1) x) (sj_if <| wt_B <| wd_isi (by decide) <| wd_var rfl ⟨_, rfl, ?_⟩) ?_
    · cases d with
      | int i =>
        refine iteT' rfl <| sj_set false <| wd_op <| wd_var rfl <| wd_lst6 <| wd_op <| wd_var rfl <| wd_int <| rd_add <| wd_op <| wd_var rfl <| wd_int <| rd_sub <| wd_op <| wd_int <| wd_var rfl <| rd_sub <| wd_int <| wd_int <| wd_int <| rd_cat (by simp; omega) ⟨_, rfl, by simp, by simp; omega, fun y hy => ?_⟩
        rcases List.mem_append.mp hy with hy | hy
        · exact hys y hy
        · simp only [List.mem_cons, List.not_mem_nil, or_false] at hy
          rcases hy with rfl | rfl | rfl | rfl | rfl | rfl <;> exact od_int
      | bool b => cases n <;> exact hd.elim
      | dict b => cases n <;> exact hd.elim
      | _ => exact iteF' rfl <| sj_next ⟨ys, rfl, y1, by omega, hys⟩
    rintro Γ' ⟨zs, rfl, z1, z25, hzs⟩
    refine sj_cut (fun Γ' => ∃ us, Γ' = [.ex v (Dck K), .dat false d, .dat false (.list us), s3, s4, s5, s6] ∧ 1 ≤ us.length ∧ us.length ≤ 40 ∧ ∀ x ∈ us, Od 100 (n + 1) x) (sj_if <| wt_B <| wd_isi2 (by decide) (by decide) <| wd_var rfl ⟨_, rfl, ?_⟩) ?_
    · cases d with
      | list ds =>
        obtain ⟨hl, n', hn, hi⟩ := od.lst
        subst hn
        have h40 : ds.length ≤ 40 := hd.1
        refine iteT' rfl <| sj_set false <| wd_op <| wd_var rfl <| wd_lst6 <| wd_cb1 <| wd_var rfl <| rc_listL <| wd_cb1 <| wd_var rfl <| rc_tupleL <| wd_op <| wd_var rfl <| wd_var rfl <| rd_cat (by omega) ?_
        refine wd_eiL <| wd_sl <| wd_var rfl ⟨ds, rfl, wo_some <| wd_int ⟨_, rfl, wo_no ?_⟩⟩
        refine wd_eiL <| wd_sl <| wd_var rfl ⟨ds, rfl, wo_no <| wo_some <| wd_un <| wd_int <| ru_neg ⟨_, rfl, ?_⟩⟩
        refine wd_eiL <| wd_rev <| wd_var rfl ⟨ds, rfl, rd_cat (by simp; omega) ⟨_, rfl, by simp, by simp; omega, fun y hy => ?_⟩⟩
        have up : ∀ es : List PyData, es.length ≤ 100 → (∀ e ∈ es, e ∈ ds) → Od 100 (n' + 1 + 1) (.list es) ∧ Od 100 (n' + 1 + 1) (.tuple es) := fun es h1 h2 => ⟨⟨h1, fun e he => (hi e (h2 e he)).up (Nat.le_refl _) (by omega)⟩, ⟨h1, fun e he => (hi e (h2 e he)).up (Nat.le_refl _) (by omega)⟩⟩
        rcases List.mem_append.mp hy with hy | hy
        · exact hzs y hy
        · simp only [List.mem_cons, List.not_mem_nil, or_false] at hy
          rcases hy with rfl | rfl | rfl | rfl | rfl | rfl
          · exact (up ds (by omega) fun e h => h).1
          · exact (up ds (by omega) fun e h => h).2
          · exact (up (ds ++ ds) (by rw [List.length_append]; omega) fun e h => (List.mem_append.mp h).elim id id).1
          · exact (up _ (by have := cutD_le ds (some 1) none; omega) fun e h => cutD_sub h).1
          · exact (up _ (by have := cutD_le ds none (some (-1)); omega) fun e h => cutD_sub h).1
          · exact (up _ (by rw [List.length_reverse]; omega) fun e h => List.mem_reverse.mp h).1
      | tuple ds =>
        obtain ⟨hl, n', hn, hi⟩ := od.tup
        subst hn
        have h40 : ds.length ≤ 40 := hd.1
        refine iteT' rfl <| sj_set false <| wd_op <| wd_var rfl <| wd_lst6 <| wd_cb1 <| wd_var rfl <| rc_listT <| wd_cb1 <| wd_var rfl <| rc_tupleT <| wd_op <| wd_var rfl <| wd_var rfl <| rd_catT (by omega) ?_
        refine wd_eiR <| wd_slT <| wd_var rfl ⟨ds, rfl, wo_some <| wd_int ⟨_, rfl, wo_no ?_⟩⟩
        refine wd_eiR <| wd_slT <| wd_var rfl ⟨ds, rfl, wo_no <| wo_some <| wd_un <| wd_int <| ru_neg ⟨_, rfl, ?_⟩⟩
        refine wd_eiR <| wd_revT <| wd_var rfl ⟨ds, rfl, rd_cat (by simp; omega) ⟨_, rfl, by simp, by simp; omega, fun y hy => ?_⟩⟩
        have up : ∀ es : List PyData, es.length ≤ 100 → (∀ e ∈ es, e ∈ ds) → Od 100 (n' + 1 + 1) (.list es) ∧ Od 100 (n' + 1 + 1) (.tuple es) := fun es h1 h2 => ⟨⟨h1, fun e he => (hi e (h2 e he)).up (Nat.le_refl _) (by omega)⟩, ⟨h1, fun e he => (hi e (h2 e he)).up (Nat.le_refl _) (by omega)⟩⟩
        rcases List.mem_append.mp hy with hy | hy
        · exact hzs y hy
        · simp only [List.mem_cons, List.not_mem_nil, or_false] at hy
          rcases hy with rfl | rfl | rfl | rfl | rfl | rfl
          · exact (up ds (by omega) fun e h => h).1
          · exact (up ds (by omega) fun e h => h).2
          · exact (up (ds ++ ds) (by rw [List.length_append]; omega) fun e h => (List.mem_append.mp h).elim id id).2
          · exact (up _ (by have := cutD_le ds (some 1) none; omega) fun e h => cutD_sub h).2
          · exact (up _ (by have := cutD_le ds none (some (-1)); omega) fun e h => cutD_sub h).2
          · exact (up _ (by rw [List.length_reverse]; omega) fun e h => List.mem_reverse.mp h).2
      | bool b => cases n <;> exact hd.elim
      | dict b => cases n <;> exact hd.elim
      | _ => exact iteF' rfl <| sj_next ⟨zs, rfl, z1, by omega, hzs⟩
    rintro Γ' ⟨us, rfl, u1, u40, hus⟩
    refine sj_retD false <| wd_op <| wd_var rfl <| wd_callO1 (i := 0) (v := v) rfl <| wd_cb1 <| wd_var rfl <| rc_lenL <| use_draw (by omega) (by omega) fun r a0 a1 => rd_sel a0 a1 fun w hw => ⟨keep_ex (keep_dat keep_nil), q w (hus w hw)⟩
  rcases hs2 with e | ⟨l, e⟩
  · subst e; exact main
  · subst e; exact sj_frz 2 (l := l) (m := false) (ds := ys) rfl main
theorem changed_step (D : Def K mg "_law_changed" s_l_changed ["deck", "thing", "deep"]) (c_odd : ∀ n, Cal P K.w K mg base CX0 k "_law_odd" ["deck", "thing"] (spG K (T_odd01 n K))) (c_draw : Cal P K.w K mg base CX0 k "_law_draw" ["deck", "many"] (spG K (T_draw K))) (m_len : mg "len" = none) (m_isinstance : mg "isinstance" = none) (m_tuple : mg "tuple" = none) (m_list : mg "list" = none) (n : Nat)
    (ih : Cal P K.w K mg base CX0 (k + n) "_law_changed" ["deck", "thing", "deep"] (spG K fun Γ Q => ∃ n', n = n' + 1 ∧ T_changed n' K Γ Q)) : Cal P K.w K mg base CX0 (k + n + 1) "_law_changed" ["deck", "thing", "deep"] (spG K (T_changed n K)) := by
  refine cal_g D sc_l_changed (fun Γ Qr ⟨v, d, deep, e, _⟩ => by subst e; exact ⟨rfl, noMl_ex (noMl_dat (noMl_dat noMl_nil))⟩) fun f cdv A outer s H E hr => ⟨_, wk_l_changed ((c_odd n).mono (by omega)) (c_draw.mono (by omega)) ih m_len m_isinstance m_tuple m_list f cdv A outer s H E hr, ?_⟩
  rintro Γ Qr ⟨v, d, deep, rfl, hd, q⟩
  show SJ K [.ex v (Dck K), .dat false d, .dat false (.int deep), .no, .no] (t_l_changed K _ _ _) _
  unfold t_l_changed
  have kp : ∀ {Γ'}, Keep [.ex v (Dck K), .dat false d, .dat false (.int deep)] (.ex v (Dck K) :: .dat false d :: .dat false (.int deep) :: Γ') := fun {Γ'} => keep_ex (keep_dat (keep_dat keep_nil))
  have rest : SJ K [.ex v (Dck K), .dat false d, .dat false (.int deep), .no, .no] (tRet (tCall (spG K (T_odd01 n K)) [] E0 (tCons (tVar 0) (tCons (tVar 1) tNil)))) (retP [.ex v (Dck K), .dat false d, .dat false (.int deep)] Qr) :=
    sj_retD false <| wd_callO1 (i := 0) (v := v) rfl <| wd_var rfl ⟨v, d, rfl, hd, fun d' h' => asD_dat ⟨kp, q d' h'⟩⟩
  refine sj_seq <| sj_if <| wt_and <| wt_B <| wd_isi2 (by decide) (by decide) <| wd_var rfl ⟨_, rfl, ?_⟩
  cases d with
  | list ds =>
    obtain ⟨n', hn⟩ : ∃ n', n = n' + 1 := by
      cases n with
      | zero => exact hd.elim
      | succ n => exact ⟨n, rfl⟩
    have hd' : ds.length ≤ 40 ∧ ∀ d ∈ ds, Pn n' d := by subst hn; exact hd
    refine iteT' rfl <| wt_and <| wt_test <| wd_op <| wd_cb1 <| wd_var rfl <| rc_lenL <| wd_int <| rd_gt ⟨_, rfl, iteD (fun h0 => ?_) (fun h0 => iteF' rfl <| sj_next rest)⟩
    refine wt_and <| wt_test <| wd_op <| wd_var rfl <| wd_int <| rd_lt ⟨_, rfl, iteD (fun h9 => ?_) (fun h9 => iteF' rfl <| sj_next rest)⟩
    refine wt_test <| wd_op <| wd_callO1 (i := 0) (v := v) rfl <| wd_int <| use_draw (by decide) (by decide) fun r6 a0 a1 => wd_int <| rd_gt ⟨_, rfl, iteD (fun hr => ?_) (fun hr => sj_next rest)⟩
    refine sj_seq <| sj_set false <| wd_callO1 (i := 0) (v := v) rfl <| wd_cb1 <| wd_var rfl <| rc_lenL <| use_draw (by omega) (by omega) fun r b0 b1 => ?_
    refine sj_seq <| sj_set false <| wd_lst1 <| wd_callO2 (i := 0) (v := v) rfl <| wd_op <| wd_var rfl <| wd_var rfl <| rd_sel b0 b1 fun w hw => wd_op <| wd_var rfl <| wd_int <| rd_add ⟨n', hn, v, w, deep + 1, rfl, hd'.2 w hw, fun d' h' => asD_dat ?_⟩
    refine sj_seq <| sj_if <| wt_B <| wd_isi (by decide) <| wd_var rfl ⟨_, rfl, iteF' rfl <| sj_next ?_⟩
    refine sj_retD false <| wd_op <| wd_op <| wd_eiL <| wd_sl <| wd_var rfl ⟨ds, rfl, wo_no <| wo_some <| wd_var rfl ⟨_, rfl, wd_var rfl <| rd_cat (by have := cutD_le ds none (some r); simp; omega) ?_⟩⟩
    refine wd_eiL <| wd_sl <| wd_var rfl ⟨ds, rfl, wo_some <| wd_op <| wd_var rfl <| wd_int <| rd_add ⟨_, rfl, wo_no <| rd_cat (by have := cutD_le ds none (some r); have := cutD_le ds (some (r + 1)) none; simp; omega) ⟨kp, q _ ?_⟩⟩⟩
    subst hn
    refine ⟨by have := cutD_le ds none (some r); have := cutD_le ds (some (r + 1)) none; simp; omega, fun e he => ?_⟩
    rcases List.mem_append.mp he with he | he
    · rcases List.mem_append.mp he with he | he
      · exact (hd'.2 e (cutD_sub he)).od (by decide) (by omega)
      · rw [List.mem_singleton.mp he]; exact h'
    · exact (hd'.2 e (cutD_sub he)).od (by decide) (by omega)
  | tuple ds =>
    obtain ⟨n', hn⟩ : ∃ n', n = n' + 1 := by
      cases n with
      | zero => exact hd.elim
      | succ n => exact ⟨n, rfl⟩
    have hd' : ds.length ≤ 40 ∧ ∀ d ∈ ds, Pn n' d := by subst hn; exact hd
    refine iteT' rfl <| wt_and <| wt_test <| wd_op <| wd_cb1 <| wd_var rfl <| rc_lenT <| wd_int <| rd_gt ⟨_, rfl, iteD (fun h0 => ?_) (fun h0 => iteF' rfl <| sj_next rest)⟩
    refine wt_and <| wt_test <| wd_op <| wd_var rfl <| wd_int <| rd_lt ⟨_, rfl, iteD (fun h9 => ?_) (fun h9 => iteF' rfl <| sj_next rest)⟩
    refine wt_test <| wd_op <| wd_callO1 (i := 0) (v := v) rfl <| wd_int <| use_draw (by decide) (by decide) fun r6 a0 a1 => wd_int <| rd_gt ⟨_, rfl, iteD (fun hr => ?_) (fun hr => sj_next rest)⟩
    refine sj_seq <| sj_set false <| wd_callO1 (i := 0) (v := v) rfl <| wd_cb1 <| wd_var rfl <| rc_lenT <| use_draw (by omega) (by omega) fun r b0 b1 => ?_
    refine sj_seq <| sj_set false <| wd_lst1 <| wd_callO2 (i := 0) (v := v) rfl <| wd_op <| wd_var rfl <| wd_var rfl <| rd_selT01 b0 b1 fun w hw => wd_op <| wd_var rfl <| wd_int <| rd_add ⟨n', hn, v, w, deep + 1, rfl, hd'.2 w hw, fun d' h' => asD_dat ?_⟩
    refine sj_seq <| sj_if <| wt_B <| wd_isi (by decide) <| wd_var rfl ⟨_, rfl, iteT' rfl <| sj_set false <| wd_cb1 <| wd_var rfl <| rc_tupleL ?_⟩
    refine sj_retD false <| wd_op <| wd_op <| wd_eiR <| wd_slT <| wd_var rfl ⟨ds, rfl, wo_no <| wo_some <| wd_var rfl ⟨_, rfl, wd_var rfl <| rd_catT (by have := cutD_le ds none (some r); simp; omega) ?_⟩⟩
    refine wd_eiR <| wd_slT <| wd_var rfl ⟨ds, rfl, wo_some <| wd_op <| wd_var rfl <| wd_int <| rd_add ⟨_, rfl, wo_no <| rd_catT (by have := cutD_le ds none (some r); have := cutD_le ds (some (r + 1)) none; simp; omega) ⟨kp, q _ ?_⟩⟩⟩
    subst hn
    refine ⟨by have := cutD_le ds none (some r); have := cutD_le ds (some (r + 1)) none; simp; omega, fun e he => ?_⟩
    rcases List.mem_append.mp he with he | he
    · rcases List.mem_append.mp he with he | he
      · exact (hd'.2 e (cutD_sub he)).od (by decide) (by omega)
      · rw [List.mem_singleton.mp he]; exact h'
    · exact (hd'.2 e (cutD_sub he)).od (by decide) (by omega)
  | dict b => cases n <;> exact hd.elim
  | _ => exact iteF' rfl <| iteF' rfl <| sj_next rest
theorem ok_changed (D : Def K mg "_law_changed" s_l_changed ["deck", "thing", "deep"]) (c_odd : ∀ n, Cal P K.w K mg base CX0 k "_law_odd" ["deck", "thing"] (spG K (T_odd01 n K))) (c_draw : Cal P K.w K mg base CX0 k "_law_draw" ["deck", "many"] (spG K (T_draw K))) (m_len : mg "len" = none) (m_isinstance : mg "isinstance" = none) (m_tuple : mg "tuple" = none) (m_list : mg "list" = none) : ∀ n, Cal P K.w K mg base CX0 (k + n + 1) "_law_changed" ["deck", "thing", "deep"] (spG K (T_changed n K))
  | 0 => changed_step D c_odd c_draw m_len m_isinstance m_tuple m_list 0 ((cal_no D).imp fun vs H Q E h => by
      obtain ⟨_, _, _, _, _, _, _, _, _, ⟨n', h0, _⟩, _⟩ := h
      omega)
  | n + 1 => changed_step D c_odd c_draw m_len m_isinstance m_tuple m_list (n + 1) ((ok_changed D c_odd c_draw m_len m_isinstance m_tuple m_list n).imp fun vs H Q E h => by
      obtain ⟨X, F, Γ, Qr, h1, h2, h3, h4, h5, ⟨n', h0, h6⟩, h7⟩ := h
      have : n' = n := by omega
      subst this
      exact ⟨X, F, Γ, Qr, h1, h2, h3, h4, h5, h6, h7⟩)
end
end Dk
end
section
set_option Elab.async false
set_option linter.all false
set_option maxRecDepth 100000
set_option pp.maxSteps 600
open PySem L2 Pk
local macro_rules | `(tactic| walk_at "sh") => `(tactic| first | exact sh_int | exact sh_bool | exact sh_non | exact sh_nil | exact sh_str (by decide +kernel) | assumption)
local macro_rules | `(tactic| walk_at "v1") => `(tactic| first
  | (with_reducible refine wd_int ?_) | (with_reducible refine wd_str ?_) | (with_reducible refine wd_bl ?_) | (with_reducible refine wd_non ?_)
  | ((with_reducible apply wd_var); exact rfl) | ((with_reducible apply wd_varN); exact rfl)
  | ((with_reducible apply wd_ixm); exact rfl)
  | ((with_reducible apply wd_lenM); exact rfl) | ((with_reducible apply wd_lenScript); exact rfl) | ((with_reducible apply wd_ixScript); exact rfl)
  | (with_reducible refine wd_op ?_) | (with_reducible refine wd_un ?_)
  | (with_reducible refine rd_add ?_) | (with_reducible refine rd_sub ?_) | (with_reducible refine rd_lt ?_) | (with_reducible refine rd_le ?_) | (with_reducible refine rd_gt ?_) | (with_reducible refine rd_ge ?_) | (with_reducible refine ru_neg ?_)
  | ((with_reducible refine rd_eq ?ev_h ?ev_k ?_); (case ev_h => walk_at "sh"); (case ev_k => walk_at "sh")) | ((with_reducible refine rd_ne ?ev_h ?ev_k ?_); (case ev_h => walk_at "sh"); (case ev_k => walk_at "sh"))
  | ((with_reducible refine rd_mod ?ev_h ?_); case ev_h => first | decide | assumption | omega) | ((with_reducible refine rd_div ?ev_h ?ev_k ?_); (case ev_h => first | decide | assumption | omega); (case ev_k => first | decide | assumption | omega))
  | ((with_reducible refine rd_pow ?ev_h ?_); case ev_h => exact ⟨by decide, by decide, by decide⟩)
  | ((with_reducible refine rd_mul ?ev_h ?_); case ev_h => first | exact .inr ⟨by decide, by decide⟩ | exact .inl ⟨by decide, by decide⟩ | exact .inl ⟨by omega, by omega⟩ | exact .inr ⟨by omega, by omega⟩)
  | (with_reducible refine rc_lenL ?_) | (with_reducible refine rc_lenT ?_) | (with_reducible refine rc_max2 ?_) | (with_reducible refine rc_min2 ?_) | (with_reducible refine rc_intB ?_) | (with_reducible refine rc_intI ?_) | (with_reducible refine rc_listL ?_) | (with_reducible refine rc_listT ?_) | (with_reducible refine rc_tupleL ?_)
  | ((with_reducible apply rd_ixT); exact rfl)
  | ((with_reducible apply rd_ixL); exact rfl)
  | ((with_reducible refine wd_isi ?ev_h ?_); case ev_h => decide) | ((with_reducible refine wd_isi2 ?ev_h ?ev_k ?_); (case ev_h => decide); (case ev_k => decide))
  | (with_reducible refine wd_tup2 ?_) | (with_reducible refine wd_tup1 ?_) | (with_reducible refine wd_tup3 ?_) | (with_reducible refine wd_tup0 ?_)
  | (with_reducible refine wd_lst0 ?_) | (with_reducible refine wd_lst1 ?_) | (with_reducible refine wd_lst2 ?_) | (with_reducible refine wd_lst3 ?_) | (with_reducible refine wd_lst4 ?_) | (with_reducible refine wd_lst5 ?_) | (with_reducible refine wd_lst6 ?_)
  | ((with_reducible apply wd_callO0); exact rfl) | ((with_reducible apply wd_callO1); exact rfl) | ((with_reducible apply wd_callO2); exact rfl) | ((with_reducible apply wd_callO3); exact rfl)
  | (with_reducible refine wd_call1 ?_) | (with_reducible refine wd_call2 ?_) | (with_reducible refine wd_call3 ?_) | (with_reducible refine wd_call4 ?_) | (with_reducible refine wd_call0 ?_)
  | (with_reducible refine wd_cb1 ?_) | (with_reducible refine wd_cb2 ?_)
  | (with_reducible refine wd_rev ?_) | (with_reducible refine wd_lrg1 ?_) | (with_reducible refine wd_sl ?_) | (with_reducible refine wo_no ?_) | (with_reducible refine wo_some ?_)
  | (with_reducible refine wd_andV ?_) | (with_reducible refine wd_orV ?_) | (with_reducible refine wd_notV ?_) | (with_reducible refine wd_if ?_) | (with_reducible refine wd_chain ?_)
  | (with_reducible refine wt_test ?_) | (with_reducible refine wt_B ?_) | (with_reducible refine wt_not ?_) | (with_reducible refine wt_and ?_) | (with_reducible refine wt_or ?_) | (with_reducible refine wt_yes ?_)
  | (with_reducible refine gj_name ?_) | (with_reducible refine gj_tup rfl ?_) | (with_reducible refine gjs_cons ?_) | (with_reducible refine gjs_nil ?_))
local macro_rules | `(tactic| walk_at "v") => `(tactic| repeat walk_at "v1")
local macro_rules | `(tactic| walk_at "x") => `(tactic| refine ⟨_, rfl, ?_⟩)
local macro_rules | `(tactic| walk_at "vx") => `(tactic| repeat (first | walk_at "v1" | (with_reducible refine ⟨_, rfl, ?_⟩)))
namespace Dk
open PySem PySem.Spec PyProof.Rows L2 Pk Sy
def BsN (bs : List Str) : Prop := 1 ≤ bs.length ∧ bs.length ≤ 5 ∧ ∀ x ∈ bs, NameOk x
def T_within01 (K : Kw) : List Sl → (Sl → Prop) → Prop := fun Γ Q => ∃ v, ∃ m : Int, ∃ bs, ∃ deep : Nat, Γ = [.ex v (Dck K), .dat false (.int m), .dat false (bsD bs), .dat false (.int deep)] ∧ BsN bs ∧ 1 ≤ deep ∧ deep ≤ 5 ∧ ∀ d, Od 100 deep d → Q (.dat false d)
def T_rowof (K : Kw) : List Sl → (Sl → Prop) → Prop := fun Γ Q => ∃ v, ∃ bs, ∃ d, Γ = [.ex v (Dck K), .dat false (bsD bs), .dat false d] ∧ BsN bs ∧ Od 100 5 d ∧ ∀ d', Od 100 7 d' → Q (.dat false d')
def T_fitting (K : Kw) : List Sl → (Sl → Prop) → Prop := fun Γ Q => ∃ v, ∃ way : Int, Γ = [.ex v (Dck K), .dat false (.int way)] ∧ ∀ d, Od 100 9 d → Q (.dat false d)
def T_right01 (K : Kw) : List Sl → (Sl → Prop) → Prop := fun Γ Q => ∃ d, Γ = [.dat false d] ∧ Od 200 12 d ∧ Q (.dat true (.bool true))
theorem Od.oe {b n : Nat} {d : PyData} (h : Od b n d) (hb : b ≤ 1000) : Oe d := ⟨n, h.up hb (Nat.le_refl _)⟩
theorem od_l1 {b n : Nat} {x : PyData} (hb : 1 ≤ b) (hx : Od b n x) : Od b (n + 1) (.list [x]) := ⟨by simpa using hb, fun d hd => by rw [List.mem_singleton.mp hd]; exact hx⟩
theorem od_l0 {b n : Nat} : Od b (n + 1) (.list []) := ⟨by simp, fun d hd => by cases hd⟩
theorem od_num {b n : Nat} {i : Int} (hb : 8 ≤ b) : Od b (n + 1) (.tuple [.str "number", .int i]) := od_t2 (by omega) (od_w hb (by decide +kernel)) od_int
theorem od_rep {b n k : Nat} {x : PyData} (hb : k ≤ b) (hx : Od b n x) : Od b (n + 1) (.list (List.replicate k [x]).flatten) := by
  have e : (List.replicate k [x]).flatten = List.replicate k x := by
    induction k with
    | zero => rfl
    | succ k ih => rw [List.replicate_succ, List.flatten_cons, ih (by omega)]; rfl
  rw [e]
  exact ⟨by rw [List.length_replicate]; exact hb, fun d hd => by rw [(List.mem_replicate.mp hd).2]; exact hx⟩
theorem od_bsN {n : Nat} {bs : List Str} (h : BsN bs) : Od 100 (n + 1) (bsD bs) := od_bs (by decide) (by have := h.2.1; omega) h.2.2
theorem three {d : PyData} (h : d ∈ [PyData.list [.str "a", .str "b"], .list [.str "abcdefgh"], .list [.str "a", .str "ab", .str "b", .str "c", .str "z"]]) : ∃ bs, d = bsD bs ∧ BsN bs := by
  have nm : ∀ x ∈ [("a" : Str), "b", "abcdefgh", "ab", "c", "z"], nameB (.str x) = true := by decide +kernel
  simp only [List.mem_cons, List.not_mem_nil, or_false] at h
  rcases h with rfl | rfl | rfl
  · exact ⟨["a", "b"], rfl, by simp, by simp, fun x hx => nameB_ok (nm x (by
      simp only [List.mem_cons, List.not_mem_nil, or_false] at hx ⊢
      rcases hx with rfl | rfl <;> simp))⟩
  · exact ⟨["abcdefgh"], rfl, by simp, by simp, fun x hx => nameB_ok (nm x (by
      simp only [List.mem_cons, List.not_mem_nil, or_false] at hx ⊢
      rcases hx with rfl; simp))⟩
  · exact ⟨["a", "ab", "b", "c", "z"], rfl, by simp, by simp, fun x hx => nameB_ok (nm x (by
      simp only [List.mem_cons, List.not_mem_nil, or_false] at hx ⊢
      rcases hx with rfl | rfl | rfl | rfl | rfl <;> simp))⟩
section
variable {P : Program} {K : Kw} {mg : Str → Option Value} {base : Heap} {k : Nat}
theorem ok_within01 (D : Def K mg "_law_within" s_l_within ["deck", "m", "boxes", "deep"]) (c_draw : Cal P K.w K mg base CX0 k "_law_draw" ["deck", "many"] (spG K (T_draw K))) (m_range : mg "range" = none) (m_len : mg "len" = none) : Cal P K.w K mg base CX0 (k + 1) "_law_within" ["deck", "m", "boxes", "deep"] (spG K (T_within01 K)) := by
  refine cal_g D sc_l_within (fun Γ Qr ⟨v, m, bs, deep, e, _⟩ => by subst e; exact ⟨rfl, noMl_ex (noMl_dat (noMl_dat (noMl_dat noMl_nil)))⟩) fun f cdv A outer s H E hr => ⟨_, wk_l_within c_draw m_range m_len f cdv A outer s H E hr, ?_⟩
  rintro Γ Qr ⟨v, m, bs, deep, rfl, hb, d1, d5, q⟩
  have hl := hb.1
  have hl5 := hb.2.1
  show SJ K [.ex v (Dck K), .dat false (.int m), .dat false (bsD bs), .dat false (.int deep), .no, .no, .no, .no] (t_l_within K _) _
  unfold t_l_within
  have kp : ∀ {Γ'}, Keep [.ex v (Dck K), .dat false (.int m), .dat false (bsD bs), .dat false (.int deep)] (.ex v (Dck K) :: .dat false (.int m) :: .dat false (bsD bs) :: .dat false (.int deep) :: Γ') := fun {Γ'} => keep_ex (keep_dat (keep_dat (keep_dat keep_nil)))
  refine sj_seq <| sj_set false <| wd_tup2 <| wd_str <| wd_op <| wd_var rfl <| wd_callO1 (i := 0) (v := v) rfl <| wd_cb1 <| wd_var rfl <| rc_lenL <| use_draw (by rw [List.length_map]; omega) (by rw [List.length_map]; omega) fun r r0 r1 => rd_sel r0 r1 fun w hw => ?_
  obtain ⟨x, hx, rfl⟩ := List.mem_map.mp hw
  refine sj_cut (fun Γ' => ∃ d s5 s6 s7, Γ' = [.ex v (Dck K), .dat false (.int m), .dat false (bsD bs), .dat false (.int deep), .dat false d, s5, s6, s7] ∧ Od 100 deep d) ?_ ?_
  · have ed : ((deep : Nat) : Int) - 1 = ((deep - 1 : Nat) : Int) := by omega
    refine sj_for false <| wi_rng <| wd_op <| wd_var rfl <| wd_int <| rd_sub ?_
    rw [ed]
    refine ⟨_, rfl, ⟨by omega, by omega⟩, fun i Γ' => ∃ d s5 s6 s7, Γ' = [.ex v (Dck K), .dat false (.int m), .dat false (bsD bs), .dat false (.int deep), .dat false d, s5, s6, s7] ∧ Od 100 (i + 1) d, ⟨_, _, _, _, rfl, od_t2 (by decide) (od_w (by decide) (by decide +kernel)) (od_name (by decide) (hb.2.2 x hx))⟩, ?_, fun Γ' h => ?_⟩
    · rintro i d0 Γ' hd ⟨d, s5, s6, s7, rfl, hd'⟩
      obtain ⟨hi, rfl⟩ := rangeD_of hd
      refine gj_name <| sj_seq <| sj_set false <| wd_op <| wd_lst4 <| wd_str <| wd_str <| wd_str <| wd_str <| wd_callO1 (i := 0) (v := v) rfl <| wd_int <| use_draw (by decide) (by decide) fun r a0 a1 => rd_sel a0 (by simpa using a1) fun w hw => ?_
      have ow : ∀ n, Od 100 n w := fun n => by
        simp only [List.mem_cons, List.not_mem_nil, or_false] at hw
        rcases hw with rfl | rfl | rfl | rfl <;> exact od_w (by decide) (by decide +kernel)
      refine sj_seq <| sj_set false <| wd_lst3 <| wd_tup3 <| wd_var rfl <| wd_var rfl <| wd_tup2 <| wd_str <| wd_int <| wd_tup3 <| wd_var rfl <| wd_tup2 <| wd_str <| wd_op <| wd_var rfl <| wd_int <| rd_sub <| wd_var rfl <| wd_tup3 <| wd_var rfl <| wd_var rfl <| wd_var rfl ?_
      refine sj_set false <| wd_op <| wd_var rfl <| wd_callO1 (i := 0) (v := v) rfl <| wd_int <| use_draw (by decide) (by decide) fun r a0 a1 => rd_sel a0 (by simpa using a1) fun u hu => ⟨_, _, _, _, rfl, ?_⟩
      simp only [List.mem_cons, List.not_mem_nil, or_false] at hu
      rcases hu with rfl | rfl | rfl
      · exact od_t3 (by decide) (ow _) hd' (od_num (by decide))
      · exact od_t3 (by decide) (ow _) (od_num (by decide)) hd'
      · exact od_t3 (by decide) (ow _) hd' hd'
    · obtain ⟨d, s5, s6, s7, e, hd'⟩ := h
      rw [rangeD_len] at hd'
      exact ⟨d, s5, s6, s7, e, hd'.up (Nat.le_refl _) (by omega)⟩
  rintro Γ' ⟨d, s5, s6, s7, rfl, hd⟩
  exact sj_retD false <| wd_var rfl ⟨kp, q d hd⟩
theorem ok_rowof (D : Def K mg "_law_row_of" s_l_row_of ["deck", "boxes", "thing"]) (c_draw : Cal P K.w K mg base CX0 k "_law_draw" ["deck", "many"] (spG K (T_draw K))) (m_len : mg "len" = none) (m_range : mg "range" = none) : Cal P K.w K mg base CX0 (k + 1) "_law_row_of" ["deck", "boxes", "thing"] (spG K (T_rowof K)) := by
  refine cal_g D sc_l_row_of (fun Γ Qr ⟨v, bs, d, e, _⟩ => by subst e; exact ⟨rfl, noMl_ex (noMl_dat (noMl_dat noMl_nil))⟩) fun f cdv A outer s H E hr => ⟨_, wk_l_row_of c_draw m_len m_range f cdv A outer s H E hr, ?_⟩
  rintro Γ Qr ⟨v, bs, d, rfl, hb, hd, q⟩
  have hl := hb.1
  have hl5 := hb.2.1
  show SJ K [.ex v (Dck K), .dat false (bsD bs), .dat false d, .no, .no, .no, .no] (t_l_row_of K _) _
  unfold t_l_row_of
  have kp : ∀ {Γ'}, Keep [.ex v (Dck K), .dat false (bsD bs), .dat false d] (.ex v (Dck K) :: .dat false (bsD bs) :: .dat false d :: Γ') := fun {Γ'} => keep_ex (keep_dat (keep_dat keep_nil))
  refine sj_seq <| sj_set false <| wd_op <| wd_var rfl <| wd_callO1 (i := 0) (v := v) rfl <| wd_cb1 <| wd_var rfl <| rc_lenL <| use_draw (by rw [List.length_map]; omega) (by rw [List.length_map]; omega) fun r r0 r1 => rd_sel r0 r1 fun w hw => ?_
  obtain ⟨x, hx, rfl⟩ := List.mem_map.mp hw
  have nx := hb.2.2 x hx
  refine sj_seq <| sj_setX <| wx_lcMa (mi := false) false (α := Nat) (fun n => PyData.int (n : Nat)) (fun _ => PyData.tuple [.str "box", .str x]) (wipeOk_no rfl wipeOk_nil) gwn <| wi_rng <| wd_callO1 (i := 0) (v := v) rfl <| wd_int <| use_drawN (n := 5) (by decide) (by decide) fun r5 h5 => ⟨_, rfl, ⟨by omega, by omega⟩, List.range r5, by simp [rangeD], by simp; omega, fun i y hy => gj_name ⟨rfl, wd_tup2 <| wd_str <| wd_var rfl rfl⟩, fun l => ?_⟩
  rw [List.map_const', List.length_range]
  refine sj_seq <| sj_insG (i := 4) (l := l) (m := false) (ds := List.replicate r5 (PyData.tuple [.str "box", .str x])) rfl (by rw [List.length_replicate]; omega) <| wag_d <| wd_callO1 (i := 0) (v := v) rfl <| wd_op <| wd_lenM (l := l) (m' := false) (ds := List.replicate r5 (PyData.tuple [.str "box", .str x])) rfl <| wd_int <| rd_add ?_
  rw [List.length_replicate]
  have e1 : ((r5 : Nat) : Int) + 1 = ((r5 + 1 : Nat) : Int) := by omega
  rw [e1]
  refine use_drawN (n := r5 + 1) (by omega) (by omega) fun at' ha => wag_d <| wd_var rfl <| wag_nil ⟨at', d, rfl, by omega, rfl, ?_⟩
  refine sj_frz 4 (l := l) (m := false) rfl ?_
  have hth : Od 100 6 (.list ((List.replicate r5 (PyData.tuple [.str "box", .str x])).take at' ++ [d] ++ (List.replicate r5 (PyData.tuple [.str "box", .str x])).drop at')) := by
    refine ⟨by simp; omega, fun e he => ?_⟩
    have hbx : Od 100 5 (.tuple [.str "box", .str x]) := od_t2 (by decide) (od_w (by decide) (by decide +kernel)) (od_name (by decide) nx)
    rcases List.mem_append.mp he with he | he
    · rcases List.mem_append.mp he with he | he
      · rw [(List.mem_replicate.mp (List.mem_of_mem_take he)).2]; exact hbx
      · rw [List.mem_singleton.mp he]; exact hd
    · rw [(List.mem_replicate.mp (List.mem_of_mem_drop he)).2]; exact hbx
  generalize ((List.replicate r5 (PyData.tuple [.str "box", .str x])).take at' ++ [d] ++ (List.replicate r5 (PyData.tuple [.str "box", .str x])).drop at') = ths at hth ⊢
  show SJ K [.ex v (Dck K), .dat false (bsD bs), .dat false d, .dat false (.str x), .dat false (.list ths), .no, .no] _ _
  refine sj_seq <| sj_set false <| wd_lst4 <| wd_tup2 <| wd_str <| wd_var rfl <| wd_tup2 <| wd_str <| wd_var rfl <| wd_tup3 <| wd_str <| wd_var rfl <| wd_var rfl <| wd_tup3 <| wd_str <| wd_var rfl <| wd_op <| wd_int <| wd_callO1 (i := 0) (v := v) rfl <| wd_int <| use_draw (by decide) (by decide) fun r3 a0 a1 => rd_add ?_
  refine sj_retD false <| wd_op <| wd_op <| wd_var rfl <| wd_lst1 <| wd_tup3 <| wd_str <| wd_var rfl <| wd_var rfl <| rd_cat (by simp) <| wd_callO1 (i := 0) (v := v) rfl <| wd_int <| use_draw (by decide) (by decide) fun r4 b0 b1 => rd_sel b0 (by simpa using b1) fun w hw => ⟨kp, q w ?_⟩
  have u : Od 100 6 d := hd.up (Nat.le_refl _) (by omega)
  simp only [List.cons_append, List.nil_append, List.mem_cons, List.not_mem_nil, or_false] at hw
  rcases hw with rfl | rfl | rfl | rfl | rfl
  · exact od_t2 (by decide) (od_w (by decide) (by decide +kernel)) u
  · exact od_t2 (by decide) (od_w (by decide) (by decide +kernel)) u
  · exact od_t3 (by decide) (od_w (by decide) (by decide +kernel)) (od_name (by decide) nx) u
  · exact od_t3 (by decide) (od_w (by decide) (by decide +kernel)) u od_int
  · exact od_t3 (by decide) (od_w (by decide) (by decide +kernel)) (od_name (by decide) nx) hth
theorem ok_fitting (D : Def K mg "_law_fitting" s_l_fitting ["deck", "way"]) (c_rowof : Cal P K.w K mg base CX0 k "_law_row_of" ["deck", "boxes", "thing"] (spG K (T_rowof K))) (c_within : Cal P K.w K mg base CX0 k "_law_within" ["deck", "m", "boxes", "deep"] (spG K (T_within01 K))) (c_draw : Cal P K.w K mg base CX0 k "_law_draw" ["deck", "many"] (spG K (T_draw K))) : Cal P K.w K mg base CX0 (k + 1) "_law_fitting" ["deck", "way"] (spG K (T_fitting K)) := by
  refine cal_g D sc_l_fitting (fun Γ Qr ⟨v, way, e, _⟩ => by subst e; exact ⟨rfl, noMl_ex (noMl_dat noMl_nil)⟩) fun f cdv A outer s H E hr => ⟨_, wk_l_fitting c_rowof c_within c_draw f cdv A outer s H E hr, ?_⟩
  rintro Γ Qr ⟨v, way, rfl, q⟩
  show SJ K [.ex v (Dck K), .dat false (.int way), .no, .no, .no, .no] (t_l_fitting K _ _ _) _
  unfold t_l_fitting
  have kp : ∀ {Γ'}, Keep [.ex v (Dck K), .dat false (.int way)] (.ex v (Dck K) :: .dat false (.int way) :: Γ') := fun {Γ'} => keep_ex (keep_dat keep_nil)
  refine sj_seq <| sj_set false <| wd_op <| wd_lst2 <| wd_int <| wd_int <| wd_callO1 (i := 0) (v := v) rfl <| wd_int <| use_draw (by decide) (by decide) fun r a0 a1 => rd_sel a0 (by simpa using a1) fun w hw => ?_
  obtain ⟨m, rfl⟩ : ∃ m : Int, w = .int m := by
    simp only [List.mem_cons, List.not_mem_nil, or_false] at hw
    rcases hw with e | e <;> exact ⟨_, e⟩
  refine sj_seq <| sj_set false <| wd_op <| wd_lst3 <| wd_lst2 <| wd_str <| wd_str <| wd_lst1 <| wd_str <| wd_lst5 <| wd_str <| wd_str <| wd_str <| wd_str <| wd_str <| wd_callO1 (i := 0) (v := v) rfl <| wd_int <| use_draw (by decide) (by decide) fun r a0 a1 => rd_sel a0 (by simpa using a1) fun w hw => ?_
  obtain ⟨bs, rfl, hb⟩ := three hw
  have hl := hb.1
  have hl5 := hb.2.1
  refine sj_seq <| sj_set false <| wd_callO1 (i := 0) (v := v) rfl <| wd_int <| use_drawN (n := 2) (by decide) (by decide) fun be hbe => ?_
  refine sj_seq <| sj_set false <| wd_tup2 <| wd_str <| wd_callO3 (i := 0) (v := v) rfl <| wd_var rfl <| wd_var rfl <| wd_int ⟨v, m, bs, 4, rfl, hb, by decide, by decide, fun th hth => asD_dat ?_⟩
  show SJ K [.ex v (Dck K), .dat false (.int way), .dat false (.int m), .dat false (bsD bs), .dat false (.int be), .dat false (.tuple [.str "give", th])] _ _
  have hrow : Od 100 5 (.tuple [.str "give", th]) := od_t2 (by decide) (od_w (by decide) (by decide +kernel)) hth
  have fin : ∀ {x y z : PyData}, Od 100 8 x → Od 100 8 y → Od 100 8 z → Od 100 9 (.tuple [x, y, z]) := fun a b c => od_t3 (by decide) a b c
  have ob : ∀ {n}, Od 100 (n + 1) (bsD bs) := fun {n} => od_bsN hb
  refine sj_seq <| sj_if <| wt_test <| wd_op <| wd_var rfl <| wd_int <| rd_eq sh_int sh_int ⟨_, rfl, ?_⟩
  rw [eqv_int]
  refine iteD (fun h => sj_retD false <| wd_tup3 <| wd_op <| wd_lst4 <| wd_int <| wd_int <| wd_int <| wd_int <| wd_callO1 (i := 0) (v := v) rfl <| wd_int <| use_draw (by decide) (by decide) fun r a0 a1 => rd_sel a0 (by simpa using a1) fun w hw => wd_var rfl <| wd_lst0 ⟨kp, q _ (fin (by
    simp only [List.mem_cons, List.not_mem_nil, or_false] at hw
    rcases hw with rfl | rfl | rfl | rfl <;> exact od_int) ob od_l0)⟩) (fun h => sj_next ?_)
  refine sj_seq <| sj_if <| wt_test <| wd_op <| wd_var rfl <| wd_int <| rd_eq sh_int sh_int ⟨_, rfl, ?_⟩
  rw [eqv_int]
  refine iteD (fun h => sj_retD false <| wd_tup3 <| wd_var rfl <| wd_sl <| wd_lst6 <| wd_str <| wd_str <| wd_str <| wd_str <| wd_str <| wd_str ⟨_, rfl, wo_no <| wo_some <| wd_op <| wd_int <| wd_var rfl <| rd_add ⟨_, rfl, ?_⟩⟩) (fun h => sj_next ?_)
  · refine wd_lst1 <| wd_op <| wd_slT <| wd_var rfl ⟨_, rfl, wo_no <| wo_some <| wd_int ⟨_, rfl, wd_tup1 <| wd_tup2 <| wd_str <| wd_int <| rd_catT (by have := cutD_le [PyData.str "give", th] none (some 1); simp at this ⊢; omega) ⟨kp, q _ (fin od_int ?_ ?_)⟩⟩⟩
    · refine ⟨by have := cutD_le [PyData.str "a", .str "b", .str "c", .str "d", .str "e", .str "f"] none (some (5 + (be : Int))); simp at this ⊢; omega, fun e he => ?_⟩
      have he := cutD_sub he
      simp only [List.mem_cons, List.not_mem_nil, or_false] at he
      rcases he with rfl | rfl | rfl | rfl | rfl | rfl <;> exact od_str (by decide +kernel) (by decide +kernel)
    · refine od_l1 (by decide) ⟨by have := cutD_le [PyData.str "give", th] none (some 1); simp at this ⊢; omega, fun e he => ?_⟩
      rcases List.mem_append.mp he with he | he
      · exact (hrow.2 e (cutD_sub he)).up (Nat.le_refl _) (by decide)
      · rw [List.mem_singleton.mp he]; exact od_num (by decide)
  refine sj_seq <| sj_if <| wt_test <| wd_op <| wd_var rfl <| wd_int <| rd_eq sh_int sh_int ⟨_, rfl, ?_⟩
  rw [eqv_int]
  refine iteD (fun h => sj_retD false <| wd_tup3 <| wd_var rfl <| wd_var rfl <| wd_op <| wd_lst1 <| wd_var rfl <| wd_op <| wd_int <| wd_var rfl <| rd_add <| rd_rep (by omega) (by omega) (by simp; omega) ⟨kp, q _ (fin od_int ob (od_rep (by omega) (hrow.up (Nat.le_refl _) (by omega))))⟩) (fun h => sj_next ?_)
  refine sj_seq <| sj_if <| wt_test <| wd_op <| wd_var rfl <| wd_int <| rd_eq sh_int sh_int ⟨_, rfl, ?_⟩
  rw [eqv_int]
  refine iteD (fun h => sj_retD false <| wd_tup3 <| wd_var rfl <| wd_var rfl <| wd_lst1 <| wd_tup2 <| wd_str <| wd_tup2 <| wd_str <| wd_op <| wd_op <| wd_var rfl <| wd_int <| rd_sub <| wd_var rfl <| rd_add ⟨kp, q _ (fin od_int ob (od_l1 (by decide) (od_t2 (by decide) (od_w (by decide) (by decide +kernel)) (od_num (by decide)))))⟩) (fun h => sj_next ?_)
  have ob0 : ∃ x, bs[0]? = some x ∧ NameOk x := ⟨bs[0], by simp [hl], hb.2.2 _ (List.getElem_mem _)⟩
  obtain ⟨x0, hx0, nx0⟩ := ob0
  have eb0 : atI (bs.map PyData.str) 0 = some (.str x0) := by
    show atI (bs.map PyData.str) ((0 : Nat) : Int) = some (.str x0)
    rw [atI_ofNat]
    simp [hx0]
  have od4 : ∀ w ∈ [PyData.int 0, .int 1, .int 5, .int 6], ∃ n : Nat, w = .int n ∧ n ≤ 6 := fun w hw => by
    simp only [List.mem_cons, List.not_mem_nil, or_false] at hw
    rcases hw with e | e | e | e
    · exact ⟨0, e, by decide⟩
    · exact ⟨1, e, by decide⟩
    · exact ⟨5, e, by decide⟩
    · exact ⟨6, e, by decide⟩
  refine sj_seq <| sj_if <| wt_test <| wd_op <| wd_var rfl <| wd_int <| rd_eq sh_int sh_int ⟨_, rfl, ?_⟩
  rw [eqv_int]
  refine iteD (fun h => sj_retD false <| wd_tup3 <| wd_var rfl <| wd_var rfl <| wd_lst1 <| wd_tup3 <| wd_str <| wd_op <| wd_var rfl <| wd_int <| rd_ixL eb0 <| wd_op <| wd_lst1 <| wd_op <| wd_var rfl <| wd_int <| rd_ixT (d := th) rfl <| wd_op <| wd_lst4 <| wd_int <| wd_int <| wd_int <| wd_int <| wd_callO1 (i := 0) (v := v) rfl <| wd_int <| use_draw (by decide) (by decide) fun r a0 a1 => rd_sel a0 (by simpa using a1) fun w hw => ?_) (fun h => sj_next ?_)
  · obtain ⟨n, rfl, hn⟩ := od4 w hw
    have n6 : ((n : Nat) : Int).toNat = n := by omega
    exact rd_rep (by omega) (by omega) (by rw [n6, List.length_singleton]; omega) ⟨kp, q _ (fin od_int ob (od_l1 (by decide) (od_t3 (by decide) (od_w (by decide) (by decide +kernel)) (od_name (by decide) nx0) (od_rep (by omega) (hth.up (Nat.le_refl _) (by omega))))))⟩
  refine sj_seq <| sj_if <| wt_test <| wd_op <| wd_var rfl <| wd_int <| rd_eq sh_int sh_int ⟨_, rfl, ?_⟩
  rw [eqv_int]
  refine iteD (fun h => sj_retD false <| wd_tup3 <| wd_var rfl <| wd_var rfl <| wd_lst1 <| wd_tup3 <| wd_str <| wd_op <| wd_var rfl <| wd_int <| rd_ixT (d := th) rfl <| wd_op <| wd_lst4 <| wd_int <| wd_int <| wd_int <| wd_int <| wd_callO1 (i := 0) (v := v) rfl <| wd_int <| use_draw (by decide) (by decide) fun r a0 a1 => rd_sel a0 (by simpa using a1) fun w hw => ⟨kp, q _ (fin od_int ob (od_l1 (by decide) (od_t3 (by decide) (od_w (by decide) (by decide +kernel)) (hth.up (Nat.le_refl _) (by omega)) (by
    simp only [List.mem_cons, List.not_mem_nil, or_false] at hw
    rcases hw with rfl | rfl | rfl | rfl <;> exact od_int))))⟩) (fun h => sj_next ?_)
  refine sj_seq <| sj_if <| wt_test <| wd_op <| wd_var rfl <| wd_int <| rd_eq sh_int sh_int ⟨_, rfl, ?_⟩
  rw [eqv_int]
  refine iteD (fun h => sj_retD false <| wd_tup3 <| wd_var rfl <| wd_var rfl <| wd_lst1 <| wd_callO2 (i := 0) (v := v) rfl <| wd_var rfl <| wd_callO3 (i := 0) (v := v) rfl <| wd_var rfl <| wd_var rfl <| wd_op <| wd_int <| wd_var rfl <| rd_add ?_) (fun h => sj_next ?_)
  · have e4 : (4 : Int) + (be : Int) = ((4 + be : Nat) : Int) := by omega
    rw [e4]
    refine ⟨v, m, bs, 4 + be, rfl, hb, by omega, by omega, fun t5 ht5 => asD_dat ⟨v, bs, t5, rfl, hb, ht5.up (Nat.le_refl _) (by omega), fun rw' hrw => asD_dat ⟨kp, q _ (fin od_int ob (od_l1 (by decide) hrw))⟩⟩⟩
  have cu := cutS_le "abcdefghi" none (some (8 + (be : Int)))
  have l9 : ("abcdefghi" : Str).length = 9 := by decide +kernel
  exact sj_retD false <| wd_tup3 <| wd_var rfl <| wd_lst1 <| wd_slS <| wd_str ⟨_, rfl, by rw [l9]; decide, wo_no <| wo_some <| wd_op <| wd_int <| wd_var rfl <| rd_add ⟨_, rfl, wd_lst0 ⟨kp, q _ (fin od_int (od_l1 (by decide) (od_str (cut_ok (by decide +kernel) _ _) (by omega))) od_l0)⟩⟩⟩
theorem ok_right01 (D : Def K mg "_law_right" s_l_right ["thing"]) (c_prog : Cal P K.w K mg base CX0 k "is_program" ["thing"] (spG K (T_progO K))) (c_deep : Cal P K.w K mg base CX0 k "_law_deep" ["thing"] (spG K (T_deepO 12 K))) (c_good : Cal P K.w K mg base CX0 k "_law_good" ["thing"] (spG K (T_progO K))) (m_isinstance : mg "isinstance" = none) (m_bool : mg "bool" = none) : Cal P K.w K mg base CX0 (k + 1) "_law_right" ["thing"] (spG K (T_right01 K)) := by
  refine cal_g D sc_l_right (fun Γ Qr ⟨d, e, _⟩ => by subst e; exact ⟨rfl, noMl_dat noMl_nil⟩) fun f cdv A outer s H E hr => ⟨_, wk_l_right c_prog c_deep c_good m_isinstance m_bool f cdv A outer s H E hr, ?_⟩
  rintro Γ Qr ⟨d, rfl, hd, q⟩
  show SJ K [.dat false d, .no, .no, .no] (t_l_right K _ _ _ _) _
  unfold t_l_right
  have oe := hd.oe (by decide)
  refine sj_seq <| sj_set false <| wd_call1 <| wd_var rfl ⟨d, rfl, oe, asD_new ?_⟩
  refine sj_seq <| sj_set false <| wd_call1 <| wd_var rfl ⟨d, rfl, hd, asD_dat ?_⟩
  refine sj_seq <| sj_set false <| wd_call1 <| wd_var rfl ⟨d, rfl, oe, asD_new ?_⟩
  refine sj_retD true <| wd_lf <| wd_andV <| wd_isi (by decide) <| wd_var rfl ⟨_, rfl, iteT' rfl ?_⟩
  refine wd_andV <| wd_op <| wd_var rfl <| wd_var rfl <| rd_eq sh_bool sh_bool ⟨_, rfl, iteT' (by simp [PyData.eqv]) ?_⟩
  exact wd_op <| wd_var rfl <| wd_var rfl <| rd_same hd.rok (fun x e => by subst e; exact hd.str.1) (by have := hd.depth; omega) ⟨rfl, keep_dat keep_nil, q⟩
end
end Dk
end
section
set_option Elab.async false
set_option linter.all false
set_option maxRecDepth 100000
set_option pp.maxSteps 600
open PySem L2 Pk
local macro_rules | `(tactic| walk_at "sh") => `(tactic| first | exact sh_int | exact sh_bool | exact sh_non | exact sh_nil | exact sh_str (by decide +kernel) | assumption)
local macro_rules | `(tactic| walk_at "v1") => `(tactic| first
  | (with_reducible refine wd_int ?_) | (with_reducible refine wd_str ?_) | (with_reducible refine wd_bl ?_) | (with_reducible refine wd_non ?_)
  | ((with_reducible apply wd_var); exact rfl) | ((with_reducible apply wd_varN); exact rfl)
  | ((with_reducible apply wd_ixm); exact rfl)
  | ((with_reducible apply wd_lenM); exact rfl) | ((with_reducible apply wd_lenScript); exact rfl) | ((with_reducible apply wd_ixScript); exact rfl)
  | (with_reducible refine wd_op ?_) | (with_reducible refine wd_un ?_)
  | (with_reducible refine rd_add ?_) | (with_reducible refine rd_sub ?_) | (with_reducible refine rd_lt ?_) | (with_reducible refine rd_le ?_) | (with_reducible refine rd_gt ?_) | (with_reducible refine rd_ge ?_) | (with_reducible refine ru_neg ?_)
  | ((with_reducible refine rd_eq ?ev_h ?ev_k ?_); (case ev_h => walk_at "sh"); (case ev_k => walk_at "sh")) | ((with_reducible refine rd_ne ?ev_h ?ev_k ?_); (case ev_h => walk_at "sh"); (case ev_k => walk_at "sh"))
  | ((with_reducible refine rd_mod ?ev_h ?_); case ev_h => first | decide | assumption | omega) | ((with_reducible refine rd_div ?ev_h ?ev_k ?_); (case ev_h => first | decide | assumption | omega); (case ev_k => first | decide | assumption | omega))
  | ((with_reducible refine rd_pow ?ev_h ?_); case ev_h => exact ⟨by decide, by decide, by decide⟩)
  | ((with_reducible refine rd_mul ?ev_h ?_); case ev_h => first | exact .inr ⟨by decide, by decide⟩ | exact .inl ⟨by decide, by decide⟩ | exact .inl ⟨by omega, by omega⟩ | exact .inr ⟨by omega, by omega⟩)
  | (with_reducible refine rc_lenL ?_) | (with_reducible refine rc_lenT ?_) | (with_reducible refine rc_max2 ?_) | (with_reducible refine rc_min2 ?_) | (with_reducible refine rc_intB ?_) | (with_reducible refine rc_intI ?_) | (with_reducible refine rc_listL ?_) | (with_reducible refine rc_listT ?_) | (with_reducible refine rc_tupleL ?_)
  | ((with_reducible apply rd_ixT); exact rfl)
  | ((with_reducible apply rd_ixL); exact rfl)
  | ((with_reducible refine wd_isi ?ev_h ?_); case ev_h => decide) | ((with_reducible refine wd_isi2 ?ev_h ?ev_k ?_); (case ev_h => decide); (case ev_k => decide))
  | (with_reducible refine wd_tup2 ?_) | (with_reducible refine wd_tup1 ?_) | (with_reducible refine wd_tup3 ?_) | (with_reducible refine wd_tup0 ?_)
  | (with_reducible refine wd_lst0 ?_) | (with_reducible refine wd_lst1 ?_) | (with_reducible refine wd_lst2 ?_) | (with_reducible refine wd_lst3 ?_) | (with_reducible refine wd_lst4 ?_) | (with_reducible refine wd_lst5 ?_) | (with_reducible refine wd_lst6 ?_)
  | ((with_reducible apply wd_callO0); exact rfl) | ((with_reducible apply wd_callO1); exact rfl) | ((with_reducible apply wd_callO2); exact rfl) | ((with_reducible apply wd_callO3); exact rfl)
  | (with_reducible refine wd_call1 ?_) | (with_reducible refine wd_call2 ?_) | (with_reducible refine wd_call3 ?_) | (with_reducible refine wd_call4 ?_) | (with_reducible refine wd_call0 ?_)
  | (with_reducible refine wd_cb1 ?_) | (with_reducible refine wd_cb2 ?_)
  | (with_reducible refine wd_rev ?_) | (with_reducible refine wd_lrg1 ?_) | (with_reducible refine wd_sl ?_) | (with_reducible refine wo_no ?_) | (with_reducible refine wo_some ?_)
  | (with_reducible refine wd_andV ?_) | (with_reducible refine wd_orV ?_) | (with_reducible refine wd_notV ?_) | (with_reducible refine wd_if ?_) | (with_reducible refine wd_chain ?_)
  | (with_reducible refine wt_test ?_) | (with_reducible refine wt_B ?_) | (with_reducible refine wt_not ?_) | (with_reducible refine wt_and ?_) | (with_reducible refine wt_or ?_) | (with_reducible refine wt_yes ?_)
  | (with_reducible refine gj_name ?_) | (with_reducible refine gj_tup rfl ?_) | (with_reducible refine gjs_cons ?_) | (with_reducible refine gjs_nil ?_))
local macro_rules | `(tactic| walk_at "v") => `(tactic| repeat walk_at "v1")
local macro_rules | `(tactic| walk_at "x") => `(tactic| refine ⟨_, rfl, ?_⟩)
local macro_rules | `(tactic| walk_at "vx") => `(tactic| repeat (first | walk_at "v1" | (with_reducible refine ⟨_, rfl, ?_⟩)))
namespace Dk
open PySem PySem.Spec PyProof.Rows L2 Pk Sy
def dA : PyData := .list [.str "a"]
def T2 (x : PyData) : PyData := .tuple [.int 2, dA, .list [x]]
def plusN : Nat → PyData
  | 0 => .tuple [.str "box", .str "a"]
  | k + 1 => .tuple [.str "plus", plusN k, .tuple [.str "number", .int 1]]
def five01 : PyData := .tuple [.str "less", plusN 3, plusN 3]
theorem od_a {n : Nat} : Od 200 n (.str "a") := od_str (by decide +kernel) (by decide +kernel)
theorem od_dA {n : Nat} : Od 200 (n + 1) dA := od_l1 (by decide) od_a
theorem od_plus : ∀ k, Od 200 (k + 1) (plusN k)
  | 0 => od_t2 (by decide) (od_w (by decide) (by decide +kernel)) od_a
  | k + 1 => od_t3 (by decide) (od_w (by decide) (by decide +kernel)) (od_plus k) (od_num (by decide))
theorem od_five : Od 200 5 five01 := od_t3 (by decide) (od_w (by decide) (by decide +kernel)) (od_plus 3) (od_plus 3)
theorem oe_T2 {n : Nat} {x : PyData} (h : Od 200 n x) : Oe (T2 x) := ⟨n + 2, (od_t3 (by decide) od_int od_dA (od_l1 (by decide) h) : Od 200 (n + 2) (T2 x)).up (by decide) (Nat.le_refl _)⟩
theorem od_t4 {b n : Nat} {x y z u : PyData} (hb : 4 ≤ b) (hx : Od b n x) (hy : Od b n y) (hz : Od b n z) (hu : Od b n u) : Od b (n + 1) (.tuple [x, y, z, u]) := ⟨by simp; omega, fun d hd => by
  have : d = x ∨ d = y ∨ d = z ∨ d = u := by simpa using hd
  rcases this with e | e | e | e <;> subst e <;> assumption⟩
theorem od_l3 {b n : Nat} {x y z : PyData} (hb : 3 ≤ b) (hx : Od b n x) (hy : Od b n y) (hz : Od b n z) : Od b (n + 1) (.list [x, y, z]) := ⟨by simp; omega, fun d hd => by
  have : d = x ∨ d = y ∨ d = z := by simpa using hd
  rcases this with e | e | e <;> subst e <;> assumption⟩
theorem od_l2 {b n : Nat} {x y : PyData} (hb : 2 ≤ b) (hx : Od b n x) (hy : Od b n y) : Od b (n + 1) (.list [x, y]) := ⟨by simp; omega, fun d hd => by
  have : d = x ∨ d = y := by simpa using hd
  rcases this with e | e <;> subst e <;> assumption⟩
theorem p_set : progB (T2 (.tuple [.str "set", .str "a", plusN 3])) = true := by decide +kernel
theorem p_set5 : progB (T2 (.tuple [.str "set", .str "a", five01])) = false := by decide +kernel
theorem p_skip : progB (T2 (.tuple [.str "skip", plusN 3, .int 1])) = true := by decide +kernel
theorem p_skip5 : progB (T2 (.tuple [.str "skip", five01, .int 1])) = false := by decide +kernel
theorem p_pick : progB (T2 (.tuple [.str "pick", .str "a", .list [plusN 3, plusN 3]])) = true := by decide +kernel
theorem p_pick5 : progB (T2 (.tuple [.str "pick", .str "a", .list [plusN 3, five01]])) = false := by decide +kernel
theorem p_pick1 : progB (T2 (.tuple [.str "pick", .str "a", .list [five01]])) = false := by decide +kernel
theorem p_need5 : progB (T2 (.tuple [.str "need", five01])) = false := by decide +kernel
theorem p_give : progB (T2 (.tuple [.str "give", plusN 3])) = true := by decide +kernel
theorem p_give5 : progB (T2 (.tuple [.str "give", five01])) = false := by decide +kernel
theorem p_give93 : progB (T2 (.tuple [.str "give", plusN 93])) = false := by decide +kernel
section
variable {P : Program} {K : Kw} {mg : Str → Option Value} {base : Heap} {k : Nat}
theorem use_prog {m : Bool} {Q : PyData → Prop} {n : Nat} {x : PyData} {b : Bool} (h : Od 200 n x) (hb : progB (T2 x) = b) (q : Q (.bool b)) : T_progO K [.dat false (T2 x)] (asD m Q) := ⟨T2 x, rfl, oe_T2 h, asD_new (by rw [hb]; exact q)⟩
theorem ok_law {f0 : Addr} {fd0 : FuncData} (F0 : Fun K "law" "law" s_law f0 fd0) (c_prog : Cal P K.w K mg base CX0 k "is_program" ["thing"] (spG K (T_progO K))) (c_right : Cal P K.w K mg base CX0 k "_law_right" ["thing"] (spG K (T_right01 K))) (c_fit : Cal P K.w K mg base CX0 k "_law_fitting" ["deck", "way"] (spG K (T_fitting K))) (c_changed : Cal P K.w K mg base CX0 k "_law_changed" ["deck", "thing", "deep"] (spG K (T_changed 8 K))) (c_program : Cal P K.w K mg base CX0 k "_law_program" ["deck"] (spG K (T_program K))) (c_deck : Cal P K.w K mg base CX0 k "_law_deck" ["script"] (spG K (T_deck K))) (m_range : mg "range" = none) (m_int : mg "int" = none) : FnOk P K.w K mg base CX0 (k + 1) f0 fd0 ["script"] (spG K (T_law K)) := by
  refine fnOk_g F0 sc_law (fun Γ Qr ⟨v, ns, e, _⟩ => by subst e; exact ⟨rfl, noMl_ex noMl_nil⟩) fun f cdv A outer s H E hr => ⟨_, wk_law c_prog c_right c_fit c_changed c_program c_deck m_range m_int f cdv A outer s H E hr, ?_⟩
  rintro Γ Qr ⟨v, ns, rfl, hns, q⟩
  show SJ K [.ex v (ScriptO K ns), .no, .no, .no, .no, .no, .no, .no, .no, .no, .no, .no] (t_law K _ _ _ _ _ _) _
  unfold t_law
  refine sj_seq (sj_setX (wx_callO0 rfl ⟨v, ns, rfl, hns, fun vd => ?_⟩))
  show SJ K [.ex v (ScriptO K ns), .ex vd (Dck K), .no, .no, .no, .no, .no, .no, .no, .no, .no, .no] _ _
  refine sj_cut (fun Γ' => ∃ s2 s3 s4, Γ' = [.ex v (ScriptO K ns), .ex vd (Dck K), s2, s3, s4, .no, .no, .no, .no, .no, .no, .no]) ?_ ?_
  · refine sj_for false (wi_rng (wd_int ⟨_, rfl, ⟨by decide, by decide⟩, fun i Γ' => ∃ s2 s3 s4, Γ' = [.ex v (ScriptO K ns), .ex vd (Dck K), s2, s3, s4, .no, .no, .no, .no, .no, .no, .no], ⟨.no, .no, .no, rfl⟩, ?_, fun Γ' h => h⟩))
    rintro i d Γ' hd ⟨s2, s3, s4, rfl⟩
    refine gj_name ?_
    refine sj_seq (sj_set false (wd_callO0 (i := 1) (v := vd) rfl ⟨vd, rfl, fun p hp => asD_dat ?_⟩))
    show SJ K [.ex v (ScriptO K ns), .ex vd (Dck K), .dat false d, .dat false p.d, s4, .no, .no, .no, .no, .no, .no, .no] _ _
    have op : Oe p.d := (od_pg (b := 1000) (by decide) hp).oe (by decide)
    refine sj_seq <| sj_if <| wt_test <| wd_isNotB <| wd_call1 <| wd_var rfl ⟨p.d, rfl, op, asD_new ⟨_, rfl, _, rfl, iteF' (by rw [progB_of hp]; rfl) <| sj_next ?_⟩⟩
    refine sj_for false (wi_rng (wd_int ⟨_, rfl, ⟨by decide, by decide⟩, fun i Γ' => ∃ s4, Γ' = [.ex v (ScriptO K ns), .ex vd (Dck K), .dat false d, .dat false p.d, s4, .no, .no, .no, .no, .no, .no, .no], ⟨s4, rfl⟩, ?_, fun Γ' ⟨s4, h⟩ => ⟨_, _, s4, h⟩⟩))
    rintro i d2 Γ' hd2 ⟨s4, rfl⟩
    exact gj_name <| sj_if <| wt_not <| wt_B <| wd_call1 <| wd_callO2 (i := 1) (v := vd) rfl <| wd_var (d := p.d) rfl <| wd_int ⟨vd, p.d, 0, rfl, pn_pg hp, fun d' h' => asD_dat ⟨d', rfl, h'.up (by decide) (by decide), asD_new ⟨_, rfl, iteF' rfl <| sj_next ⟨_, rfl⟩⟩⟩⟩
  rintro Γ' ⟨s2, s3, s4, rfl⟩
  refine sj_cut (fun Γ' => ∃ s4 s5, Γ' = [.ex v (ScriptO K ns), .ex vd (Dck K), s2, s3, s4, s5, .no, .no, .no, .no, .no, .no]) ?_ ?_
  · refine sj_for false (wi_rng (wd_int ⟨_, rfl, ⟨by decide, by decide⟩, fun i Γ' => ∃ s4 s5, Γ' = [.ex v (ScriptO K ns), .ex vd (Dck K), s2, s3, s4, s5, .no, .no, .no, .no, .no, .no], ⟨_, _, rfl⟩, ?_, fun Γ' h => h⟩))
    rintro i d Γ' hd ⟨s4, s5, rfl⟩
    obtain ⟨hi, rfl⟩ := rangeD_of hd
    refine gj_name <| sj_for false <| wi_rng <| wd_op <| wd_int <| wd_op <| wd_int <| wd_cb1 <| wd_op <| wd_var rfl <| wd_int <| rd_eq sh_int sh_int <| rc_intB <| rd_mul (.inl ⟨by decide, by decide⟩) <| rd_add ?_
    obtain ⟨n, hn, en⟩ : ∃ n : Nat, n ≤ 10 ∧ (3 : Int) + 7 * (if PyData.eqv (.int (0 + (i : Int))) (.int 6) = true then 1 else 0) = (n : Int) := by
      split
      · exact ⟨10, by decide, by decide⟩
      · exact ⟨3, by decide, by decide⟩
    rw [en]
    refine ⟨_, rfl, ⟨by omega, by omega⟩, fun j Γ' => ∃ s4, Γ' = [.ex v (ScriptO K ns), .ex vd (Dck K), s2, s3, s4, .dat false (.int (0 + (i : Int))), .no, .no, .no, .no, .no, .no], ⟨_, rfl⟩, ?_, fun Γ' ⟨s4, h⟩ => ⟨s4, _, h⟩⟩
    rintro j d2 Γ' hd2 ⟨s4, rfl⟩
    exact gj_name <| sj_if <| wt_not <| wt_B <| wd_call1 <| wd_callO1 (i := 1) (v := vd) rfl <| wd_var rfl ⟨vd, _, rfl, fun d' h' => asD_dat ⟨d', rfl, h'.up (by decide) (by decide), asD_new ⟨_, rfl, iteF' rfl <| sj_next ⟨_, rfl⟩⟩⟩⟩
  rintro Γ' ⟨s4, s5, rfl⟩
  refine sj_cut (fun Γ' => ∃ xs, Γ' = [.ex v (ScriptO K ns), .ex vd (Dck K), s2, s3, s4, s5, .dat false (.list xs), .no, .no, .no, .no, .no] ∧ xs.length ≤ 11 ∧ ∀ x ∈ xs, Od 200 12 x) ?_ ?_
  · refine sj_set false <| wd_lst <| wa_d <| wd_non <| wa_d <| wd_int <| wa_d <| wd_str <| wa_d <| wd_tup0 <| wa_d <| wd_lst0 <| wa_d <| wd_dict0 [] <| wa_d <| wd_bl <| wa_d <| wd_tup2 <| wd_int <| wd_lst1 <| wd_str <| wa_d <| wd_tup4 <| wd_int <| wd_lst1 <| wd_str <| wd_lst0 <| wd_int <| wa_d <| wd_lst3 <| wd_int <| wd_lst1 <| wd_str <| wd_lst0 <| wa_d <| wd_tup3 <| wd_int <| wd_lst1 <| wd_str <| wd_lst0 <| wa_nil ⟨_, rfl, by simp, ?_⟩
    refine ⟨_, rfl, by simp, fun x hx => ?_⟩
    simp only [List.mem_cons, List.not_mem_nil, or_false] at hx
    rcases hx with rfl | rfl | rfl | rfl | rfl | rfl | rfl | rfl | rfl | rfl | rfl
    · exact od_non
    · exact od_int
    · exact od_str (by decide +kernel) (by decide +kernel)
    · exact ⟨by simp, fun d hd => by cases hd⟩
    · exact od_l0
    · exact od_dict
    · exact od_bool
    · exact od_t2 (by decide) od_int od_dA
    · exact od_t4 (by decide) od_int od_dA od_l0 od_int
    · exact od_l3 (by decide) od_int od_dA od_l0
    · exact od_t3 (by decide) od_int od_dA od_l0
  rintro Γ' ⟨xs, rfl, hl, hxs⟩
  refine sj_cut (fun Γ' => ∃ xs, Γ' = [.ex v (ScriptO K ns), .ex vd (Dck K), s2, s3, s4, s5, .dat false (.list xs), .no, .no, .no, .no, .no] ∧ xs.length ≤ 14 ∧ ∀ x ∈ xs, Od 200 12 x) ?_ ?_
  · refine sj_set false <| wd_op <| wd_var rfl <| wd_lst3 <| wd_tup3 <| wd_int <| wd_lst0 <| wd_lst0 <| wd_tup3 <| wd_int <| wd_lst2 <| wd_str <| wd_str <| wd_lst0 <| wd_tup3 <| wd_int <| wd_lst1 <| wd_str <| wd_lst0 <| rd_cat (by simp; omega) ⟨_, rfl, by simp; omega, fun x hx => ?_⟩
    rcases List.mem_append.mp hx with hx | hx
    · exact hxs x hx
    · simp only [List.mem_cons, List.not_mem_nil, or_false] at hx
      rcases hx with rfl | rfl | rfl
      · exact od_t3 (by decide) od_int od_l0 od_l0
      · exact od_t3 (by decide) od_int (od_l2 (by decide) od_a od_a) od_l0
      · exact od_t3 (by decide) od_int od_dA od_l0
  clear hl hxs xs
  rintro Γ' ⟨xs, rfl, hl, hxs⟩
  refine sj_cut (fun Γ' => ∃ s7, Γ' = [.ex v (ScriptO K ns), .ex vd (Dck K), s2, s3, s4, s5, .dat false (.list xs), s7, .no, .no, .no, .no]) ?_ ?_
  · refine sj_for false <| wi_list <| wd_op <| wd_var rfl <| wd_lst1 <| wd_tup3 <| wd_int <| wd_lst1 <| wd_str <| wd_lst1 <| wd_tup3 <| wd_str <| wd_str <| wd_tup2 <| wd_str <| wd_str <| rd_cat (by simp; omega) ⟨_, rfl, fun i Γ' => ∃ s7, Γ' = [.ex v (ScriptO K ns), .ex vd (Dck K), s2, s3, s4, s5, .dat false (.list xs), s7, .no, .no, .no, .no], ⟨_, rfl⟩, ?_, fun Γ' h => h⟩
    rintro i d Γ' hd ⟨s7, rfl⟩
    have od : Od 200 12 d := by
      rcases List.mem_append.mp (List.mem_of_getElem? hd) with h | h
      · exact hxs d h
      · rw [List.mem_singleton.mp h]
        exact od_t3 (by decide) od_int od_dA (od_l1 (by decide) (od_t3 (by decide) (od_w (by decide) (by decide +kernel)) od_a (od_t2 (by decide) (od_w (by decide) (by decide +kernel)) (od_str (by decide +kernel) (by decide +kernel)))))
    exact gj_name <| sj_if <| wt_not <| wt_B <| wd_call1 <| wd_var rfl ⟨d, rfl, od, asD_new ⟨_, rfl, iteF' rfl <| sj_next ⟨_, rfl⟩⟩⟩
  rintro Γ' ⟨s7, rfl⟩
  refine sj_seq <| sj_set false <| wd_tup2 <| wd_str <| wd_str ?_
  show SJ K [.ex v (ScriptO K ns), .ex vd (Dck K), s2, s3, s4, s5, .dat false (.list xs), s7, .dat false (plusN 0), .no, .no, .no] _ _
  have loop : ∀ (n0 n : Nat), n ≤ 1000 → ∀ (s2 s9 s10 s11 : Sl) {M : Po}, (∀ s2', M.nx [.ex v (ScriptO K ns), .ex vd (Dck K), s2', s3, s4, s5, .dat false (.list xs), s7, .dat false (plusN (n0 + n)), s9, s10, s11]) → SJ K [.ex v (ScriptO K ns), .ex vd (Dck K), s2, s3, s4, s5, .dat false (.list xs), s7, .dat false (plusN n0), s9, s10, s11] (tFor (iRng1 (tCons (tC (.int n)) tNil)) (gName 2) (tAsg (tTup (tCons (tC (.str "plus")) (tCons (tVar 8) (tCons (tTup (tCons (tC (.str "number")) (tCons (tC (.int 1)) tNil))) tNil)))) (gName 8))) M := fun n0 n hn s2 s9 s10 s11 M hM => by
    refine sj_for false <| wi_rng <| wd_int ⟨_, rfl, ⟨by omega, by omega⟩, fun i Γ' => ∃ s2', Γ' = [.ex v (ScriptO K ns), .ex vd (Dck K), s2', s3, s4, s5, .dat false (.list xs), s7, .dat false (plusN (n0 + i)), s9, s10, s11], ⟨_, rfl⟩, ?_, ?_⟩
    · rintro i d Γ' hd ⟨s2', rfl⟩
      exact gj_name <| sj_set false <| wd_tup3 <| wd_str <| wd_var rfl <| wd_tup2 <| wd_str <| wd_int ⟨_, rfl⟩
    · rintro Γ' ⟨s2', rfl⟩
      rw [rangeD_len]
      exact hM s2'
  refine sj_cut (fun Γ' => ∃ s2', Γ' = [.ex v (ScriptO K ns), .ex vd (Dck K), s2', s3, s4, s5, .dat false (.list xs), s7, .dat false (plusN 3), .no, .no, .no]) (loop 0 3 (by decide) _ _ _ _ fun s2' => ⟨s2', rfl⟩) ?_
  rintro Γ' ⟨s2', rfl⟩
  refine sj_seq <| sj_set false <| wd_tup3 <| wd_str <| wd_var rfl <| wd_var rfl ?_
  show SJ K [.ex v (ScriptO K ns), .ex vd (Dck K), s2', s3, s4, s5, .dat false (.list xs), s7, .dat false (plusN 3), .dat false five01, .no, .no] _ _
  have o3 : Od 200 5 (plusN 3) := (od_plus 3).up (Nat.le_refl _) (by decide)
  have w : ∀ {n : Nat} {x : Str}, x ∈ [("number" : Str), "box", "set", "pick", "need", "skip", "give", "plus", "times", "less", "same"] → Od 200 n (.str x) := fun h => od_w (by decide) h
  refine sj_cut (fun Γ' => ∃ s10 s11, Γ' = [.ex v (ScriptO K ns), .ex vd (Dck K), s2', s3, s4, s5, .dat false (.list xs), s7, .dat false (plusN 3), .dat false five01, s10, s11]) ?_ ?_
  · refine sj_for false <| wi_list <| wd_lst2 <| wd_tup2 <| wd_tup3 <| wd_str <| wd_str <| wd_var rfl <| wd_tup3 <| wd_str <| wd_str <| wd_var rfl <| wd_tup2 <| wd_tup3 <| wd_str <| wd_var rfl <| wd_int <| wd_tup3 <| wd_str <| wd_var rfl <| wd_int ⟨_, rfl, fun i Γ' => ∃ s10 s11, Γ' = [.ex v (ScriptO K ns), .ex vd (Dck K), s2', s3, s4, s5, .dat false (.list xs), s7, .dat false (plusN 3), .dat false five01, s10, s11], ⟨_, _, rfl⟩, ?_, fun Γ' h => h⟩
    rintro i d Γ' hd ⟨s10, s11, rfl⟩
    have key : ∃ x y, d = .tuple [x, y] ∧ Od 200 6 x ∧ Od 200 6 y ∧ progB (T2 x) = true ∧ progB (T2 y) = false := by
      have h := List.mem_of_getElem? hd
      simp only [List.mem_cons, List.not_mem_nil, or_false] at h
      rcases h with rfl | rfl
      · exact ⟨_, _, rfl, od_t3 (by decide) (w (by decide +kernel)) od_a o3, od_t3 (by decide) (w (by decide +kernel)) od_a od_five, p_set, p_set5⟩
      · exact ⟨_, _, rfl, od_t3 (by decide) (w (by decide +kernel)) o3 od_int, od_t3 (by decide) (w (by decide +kernel)) od_five od_int, p_skip, p_skip5⟩
    obtain ⟨x, y, rfl, ox, oy, px, py⟩ := key
    refine gj_tup (n := 2) (ds := [x, y]) rfl <| gjs_cons <| gj_name <| gjs_cons <| gj_name <| gjs_nil ?_
    refine sj_if <| wt_or <| wt_test <| wd_isNotB <| wd_call1 <| wd_tup3 <| wd_int <| wd_lst1 <| wd_str <| wd_lst1 <| wd_var rfl <| use_prog ox px ⟨_, rfl, _, rfl, iteF' rfl ?_⟩
    exact wt_test <| wd_isNotB <| wd_call1 <| wd_tup3 <| wd_int <| wd_lst1 <| wd_str <| wd_lst1 <| wd_var rfl <| use_prog oy py ⟨_, rfl, _, rfl, iteF' rfl <| sj_next ⟨_, _, rfl⟩⟩
  rintro Γ' ⟨s10, s11, rfl⟩
  refine sj_seq <| sj_if <| wt_test <| wd_isNotB <| wd_call1 <| wd_tup3 <| wd_int <| wd_lst1 <| wd_str <| wd_lst1 <| wd_tup3 <| wd_str <| wd_str <| wd_lst2 <| wd_var rfl <| wd_var rfl <| use_prog (n := 7) (od_t3 (by decide) (w (by decide +kernel)) od_a (od_l2 (by decide) o3 o3)) p_pick ⟨_, rfl, _, rfl, iteF' rfl <| sj_next ?_⟩
  refine sj_cut (fun Γ' => ∃ s11, Γ' = [.ex v (ScriptO K ns), .ex vd (Dck K), s2', s3, s4, s5, .dat false (.list xs), s7, .dat false (plusN 3), .dat false five01, s10, s11]) ?_ ?_
  · refine sj_for false <| wi_list <| wd_lst3 <| wd_tup3 <| wd_str <| wd_str <| wd_lst2 <| wd_var rfl <| wd_var rfl <| wd_tup3 <| wd_str <| wd_str <| wd_lst1 <| wd_var rfl <| wd_tup2 <| wd_str <| wd_var rfl ⟨_, rfl, fun i Γ' => ∃ s11, Γ' = [.ex v (ScriptO K ns), .ex vd (Dck K), s2', s3, s4, s5, .dat false (.list xs), s7, .dat false (plusN 3), .dat false five01, s10, s11], ⟨_, rfl⟩, ?_, fun Γ' h => h⟩
    rintro i x Γ' hd ⟨s11, rfl⟩
    have key : Od 200 7 x ∧ progB (T2 x) = false := by
      have h := List.mem_of_getElem? hd
      simp only [List.mem_cons, List.not_mem_nil, or_false] at h
      rcases h with rfl | rfl | rfl
      · exact ⟨od_t3 (by decide) (w (by decide +kernel)) od_a (od_l2 (by decide) o3 od_five), p_pick5⟩
      · exact ⟨od_t3 (by decide) (w (by decide +kernel)) od_a (od_l1 (by decide) od_five), p_pick1⟩
      · exact ⟨od_t2 (by decide) (w (by decide +kernel)) (od_five.up (Nat.le_refl _) (by decide)), p_need5⟩
    exact gj_name <| sj_if <| wt_test <| wd_isNotB <| wd_call1 <| wd_tup3 <| wd_int <| wd_lst1 <| wd_str <| wd_lst1 <| wd_var rfl <| use_prog key.1 key.2 ⟨_, rfl, _, rfl, iteF' rfl <| sj_next ⟨_, rfl⟩⟩
  rintro Γ' ⟨s11', rfl⟩
  refine sj_seq <| sj_if <| wt_test <| wd_isNotB <| wd_call1 <| wd_tup3 <| wd_int <| wd_lst1 <| wd_str <| wd_lst1 <| wd_tup2 <| wd_str <| wd_var rfl <| use_prog (n := 6) (od_t2 (by decide) (w (by decide +kernel)) o3) p_give ⟨_, rfl, _, rfl, iteF' rfl <| sj_next ?_⟩
  refine sj_seq <| sj_if <| wt_test <| wd_isNotB <| wd_call1 <| wd_tup3 <| wd_int <| wd_lst1 <| wd_str <| wd_lst1 <| wd_tup2 <| wd_str <| wd_var rfl <| use_prog (n := 6) (od_t2 (by decide) (w (by decide +kernel)) od_five) p_give5 ⟨_, rfl, _, rfl, iteF' rfl <| sj_next ?_⟩
  refine sj_cut (fun Γ' => ∃ s2', Γ' = [.ex v (ScriptO K ns), .ex vd (Dck K), s2', s3, s4, s5, .dat false (.list xs), s7, .dat false (plusN 93), .dat false five01, s10, s11']) (loop 3 90 (by decide) _ _ _ _ fun s2' => ⟨s2', rfl⟩) ?_
  rintro Γ' ⟨s2'', rfl⟩
  exact sj_retD true <| wd_lf <| wd_isB <| wd_call1 <| wd_tup3 <| wd_int <| wd_lst1 <| wd_str <| wd_lst1 <| wd_tup2 <| wd_str <| wd_var rfl <| use_prog (n := 95) (od_t2 (by decide) (w (by decide +kernel)) (od_plus 93)) p_give93 ⟨_, rfl, rfl, keep_ex keep_nil, q⟩
end
end Dk
end
section
set_option Elab.async false
set_option linter.all false
set_option maxRecDepth 100000
namespace Ch
open PySem PySem.Spec PyProof.Rows L2 Pk Sy
structure Fx (K : PySem.W.Frag) (mg : Str → Option Value) : Prop where
  D_is_whole : Def K mg "is_whole" s_is_whole ["thing", "low", "high"]
  D_is_name : Def K mg "is_name" s_is_name ["thing"]
  D_is_word_of : Def K mg "is_word_of" s_is_word_of ["thing", "words", "many"]
  D_is_thing : Def K mg "is_thing" s_is_thing ["thing", "m", "boxes", "deep"]
  D_are_things : Def K mg "are_things" s_are_things ["thing", "m", "boxes"]
  D_is_row : Def K mg "is_row" s_is_row ["thing", "m", "boxes"]
  D_are_boxes : Def K mg "are_boxes" s_are_boxes ["thing"]
  D_is_program : Def K mg "is_program" s_is_program ["thing"]
  D_l_deck : Def K mg "_law_deck" s_l_deck ["script"]
  D_l_draw : Def K mg "_law_draw" s_l_draw ["deck", "many"]
  D_l_names : Def K mg "_law_names" s_l_names ["deck"]
  D_l_thing : Def K mg "_law_thing" s_l_thing ["deck", "m", "boxes", "deep"]
  D_l_row : Def K mg "_law_row" s_l_row ["deck", "m", "boxes"]
  D_l_bounded : Def K mg "_law_bounded" s_l_bounded ["m", "boxes", "rows"]
  D_l_program : Def K mg "_law_program" s_l_program ["deck"]
  D_l_deep : Def K mg "_law_deep" s_l_deep ["thing"]
  D_l_is : Def K mg "_law_is" s_l_is ["thing", "low", "high"]
  D_l_good_thing : Def K mg "_law_good_thing" s_l_good_thing ["thing", "m", "boxes", "deep"]
  D_l_good_row : Def K mg "_law_good_row" s_l_good_row ["row", "m", "boxes"]
  D_l_good_name : Def K mg "_law_good_name" s_l_good_name ["name"]
  D_l_good : Def K mg "_law_good" s_l_good ["thing"]
  D_l_odd : Def K mg "_law_odd" s_l_odd ["deck", "thing"]
  D_l_changed : Def K mg "_law_changed" s_l_changed ["deck", "thing", "deep"]
  D_l_within : Def K mg "_law_within" s_l_within ["deck", "m", "boxes", "deep"]
  D_l_row_of : Def K mg "_law_row_of" s_l_row_of ["deck", "boxes", "thing"]
  D_l_fitting : Def K mg "_law_fitting" s_l_fitting ["deck", "way"]
  D_l_right : Def K mg "_law_right" s_l_right ["thing"]
  m_isinstance : mg "isinstance" = none
  m_bool : mg "bool" = none
  m_int : mg "int" = none
  m_len : mg "len" = none
  m_str : mg "str" = none
  m_tuple : mg "tuple" = none
  m_list : mg "list" = none
  m_set : mg "set" = none
  m_range : mg "range" = none
  m_max : mg "max" = none
  m_min : mg "min" = none
  g_LETTERS : ∃ t, mg "LETTERS" = some (.str "abcdefghijklmnopqrstuvwxyz" t)
  g_DEEPEST : ∃ t, mg "DEEPEST" = some (.int 4 t)
end Ch
end
section
set_option Elab.async false
set_option linter.all false
set_option maxRecDepth 100000
namespace Ch
open PySem PySem.Spec PyProof.Rows L2 Pk Sy Dk
theorem chain {P : Program} {w : World} {K : PySem.W.Frag} {mg : Str → Option Value} {base : Heap} {f : Addr} {fd : FuncData} (F0 : Fun K "law" "law" s_law f fd) (x : Fx K mg) : FnOk P w K mg base CX0 15 f fd ["script"] (spG ⟨K, w⟩ (T_law ⟨K, w⟩)) := by
  have draw := ok_draw (P := P) (K := ⟨K, w⟩) (base := base) (k := 0) x.D_l_draw x.m_len
  have deck := ok_deck (P := P) (K := ⟨K, w⟩) (base := base) (k := 0) x.D_l_deck x.m_range x.m_max x.m_min x.m_len x.m_int
  have names := ok_names (k := 1) x.D_l_names draw x.m_range
  have thing := ok_thing (k := 1) x.D_l_thing x.m_len draw 4
  have row := ok_row (k := 5) x.D_l_row thing (draw.mono (by decide)) x.m_min x.m_range x.m_len
  have bounded := ok_bounded (P := P) (K := ⟨K, w⟩) (base := base) (k := 0) x.D_l_bounded x.m_len
  have program := ok_program (k := 6) x.D_l_program (draw.mono (by decide)) (thing.mono (by decide)) (bounded.mono (by decide)) row (names.mono (by decide)) x.m_range
  have whole := ok_whole (P := P) (K := ⟨K, w⟩) (base := base) (k := 0) x.D_is_whole x.m_isinstance x.m_bool x.m_int
  have name := ok_nameO (P := P) (K := ⟨K, w⟩) (base := base) (k := 0) x.D_is_name x.m_len x.m_isinstance x.m_str x.g_LETTERS
  have word := ok_wordO (P := P) (K := ⟨K, w⟩) (base := base) (k := 0) x.D_is_word_of x.m_isinstance x.m_str x.m_len x.m_tuple
  have isthing := ok_thingO (k := 1) x.D_is_thing word whole x.m_isinstance x.m_str 4
  have arethings := ok_thingsO (k := 6) x.D_are_things isthing x.m_len x.m_isinstance x.m_list x.g_DEEPEST
  have isrow := ok_rowO (k := 7) x.D_is_row arethings (isthing.mono (by decide)) (word.mono (by decide)) (whole.mono (by decide)) x.m_isinstance x.m_str x.g_DEEPEST
  have areboxes := ok_boxesO (k := 1) x.D_are_boxes name x.m_len x.m_set x.m_isinstance x.m_list
  have isprog := ok_progO (k := 8) x.D_is_program isrow (areboxes.mono (by decide)) (whole.mono (by decide)) x.m_len x.m_isinstance x.m_list x.m_tuple
  have lis := ok_lis (P := P) (K := ⟨K, w⟩) (base := base) (k := 0) x.D_l_is x.m_isinstance x.m_bool x.m_int
  have lname := ok_lname (P := P) (K := ⟨K, w⟩) (base := base) (k := 0) x.D_l_good_name x.m_len x.m_isinstance x.m_str
  have lthing := ok_lthing (k := 1) x.D_l_good_thing lis x.m_len x.m_isinstance x.m_str x.m_tuple 4
  have lrow := ok_lrow (k := 6) x.D_l_good_row lthing (lis.mono (by decide)) x.m_isinstance x.m_str x.m_len x.m_list x.m_tuple
  have lgood := ok_lgood (k := 7) x.D_l_good lrow (lname.mono (by decide)) (lis.mono (by decide)) x.m_len x.m_isinstance x.m_list x.m_tuple
  have deep := ok_deepO (P := P) (K := ⟨K, w⟩) (base := base) (k := 0) x.D_l_deep x.m_isinstance x.m_tuple x.m_list 12
  have odd := fun n => ok_odd01 (k := 1) x.D_l_odd draw x.m_len x.m_isinstance x.m_tuple x.m_list x.m_int x.m_str n
  have changed := ok_changed (k := 2) x.D_l_changed odd (draw.mono (by decide)) x.m_len x.m_isinstance x.m_tuple x.m_list 8
  have within := ok_within01 (k := 1) x.D_l_within draw x.m_range x.m_len
  have rowof := ok_rowof (k := 1) x.D_l_row_of draw x.m_len x.m_range
  have fitting := ok_fitting (k := 2) x.D_l_fitting rowof within (draw.mono (by decide))
  have right := ok_right01 (k := 13) x.D_l_right (isprog.mono (by decide)) deep (lgood.mono (by decide)) x.m_isinstance x.m_bool
  exact ok_law (k := 14) F0 (isprog.mono (by decide)) right (fitting.mono (by decide)) (changed.mono (by decide)) (program.mono (by decide)) (deck.mono (by decide)) x.m_range x.m_int
end Ch
end
section
set_option Elab.async false
set_option linter.all false
set_option maxRecDepth 100000
set_option maxHeartbeats 0
namespace Hd
open PySem PySem.Spec PyProof.Rows L2 Pk Sy Ch
def d_is_whole : He.DefD := ⟨("is_whole", none), "is_whole", "is_whole", defArgs s_is_whole, defBody s_is_whole, defScope s_is_whole, [], []⟩
def d_is_name : He.DefD := ⟨("is_name", none), "is_name", "is_name", defArgs s_is_name, defBody s_is_name, defScope s_is_name, [], []⟩
def d_is_word_of : He.DefD := ⟨("is_word_of", none), "is_word_of", "is_word_of", defArgs s_is_word_of, defBody s_is_word_of, defScope s_is_word_of, [], []⟩
def d_is_thing : He.DefD := ⟨("is_thing", none), "is_thing", "is_thing", defArgs s_is_thing, defBody s_is_thing, defScope s_is_thing, [], []⟩
def d_are_things : He.DefD := ⟨("are_things", none), "are_things", "are_things", defArgs s_are_things, defBody s_are_things, defScope s_are_things, [], []⟩
def d_is_row : He.DefD := ⟨("is_row", none), "is_row", "is_row", defArgs s_is_row, defBody s_is_row, defScope s_is_row, [], []⟩
def d_are_boxes : He.DefD := ⟨("are_boxes", none), "are_boxes", "are_boxes", defArgs s_are_boxes, defBody s_are_boxes, defScope s_are_boxes, [], []⟩
def d_is_program : He.DefD := ⟨("is_program", none), "is_program", "is_program", defArgs s_is_program, defBody s_is_program, defScope s_is_program, [], []⟩
def d_l_deck : He.DefD := ⟨("_law_deck", none), "_law_deck", "_law_deck", defArgs s_l_deck, defBody s_l_deck, defScope s_l_deck, [], []⟩
def d_l_draw : He.DefD := ⟨("_law_draw", none), "_law_draw", "_law_draw", defArgs s_l_draw, defBody s_l_draw, defScope s_l_draw, [], []⟩
def d_l_names : He.DefD := ⟨("_law_names", none), "_law_names", "_law_names", defArgs s_l_names, defBody s_l_names, defScope s_l_names, [], []⟩
def d_l_thing : He.DefD := ⟨("_law_thing", none), "_law_thing", "_law_thing", defArgs s_l_thing, defBody s_l_thing, defScope s_l_thing, [], []⟩
def d_l_row : He.DefD := ⟨("_law_row", none), "_law_row", "_law_row", defArgs s_l_row, defBody s_l_row, defScope s_l_row, [], []⟩
def d_l_bounded : He.DefD := ⟨("_law_bounded", none), "_law_bounded", "_law_bounded", defArgs s_l_bounded, defBody s_l_bounded, defScope s_l_bounded, [], []⟩
def d_l_program : He.DefD := ⟨("_law_program", none), "_law_program", "_law_program", defArgs s_l_program, defBody s_l_program, defScope s_l_program, [], []⟩
def d_l_deep : He.DefD := ⟨("_law_deep", none), "_law_deep", "_law_deep", defArgs s_l_deep, defBody s_l_deep, defScope s_l_deep, [], []⟩
def d_l_is : He.DefD := ⟨("_law_is", none), "_law_is", "_law_is", defArgs s_l_is, defBody s_l_is, defScope s_l_is, [], []⟩
def d_l_good_thing : He.DefD := ⟨("_law_good_thing", none), "_law_good_thing", "_law_good_thing", defArgs s_l_good_thing, defBody s_l_good_thing, defScope s_l_good_thing, [], []⟩
def d_l_good_row : He.DefD := ⟨("_law_good_row", none), "_law_good_row", "_law_good_row", defArgs s_l_good_row, defBody s_l_good_row, defScope s_l_good_row, [], []⟩
def d_l_good_name : He.DefD := ⟨("_law_good_name", none), "_law_good_name", "_law_good_name", defArgs s_l_good_name, defBody s_l_good_name, defScope s_l_good_name, [], []⟩
def d_l_good : He.DefD := ⟨("_law_good", none), "_law_good", "_law_good", defArgs s_l_good, defBody s_l_good, defScope s_l_good, [], []⟩
def d_l_odd : He.DefD := ⟨("_law_odd", none), "_law_odd", "_law_odd", defArgs s_l_odd, defBody s_l_odd, defScope s_l_odd, [], []⟩
def d_l_changed : He.DefD := ⟨("_law_changed", none), "_law_changed", "_law_changed", defArgs s_l_changed, defBody s_l_changed, defScope s_l_changed, [], []⟩
def d_l_within : He.DefD := ⟨("_law_within", none), "_law_within", "_law_within", defArgs s_l_within, defBody s_l_within, defScope s_l_within, [], []⟩
def d_l_row_of : He.DefD := ⟨("_law_row_of", none), "_law_row_of", "_law_row_of", defArgs s_l_row_of, defBody s_l_row_of, defScope s_l_row_of, [], []⟩
def d_l_fitting : He.DefD := ⟨("_law_fitting", none), "_law_fitting", "_law_fitting", defArgs s_l_fitting, defBody s_l_fitting, defScope s_l_fitting, [], []⟩
def d_l_right : He.DefD := ⟨("_law_right", none), "_law_right", "_law_right", defArgs s_l_right, defBody s_l_right, defScope s_l_right, [], []⟩
def d_law : He.DefD := ⟨("law", none), "law", "law", defArgs s_law, defBody s_law, defScope s_law, [], []⟩
def fn : List He.DefD := [d_is_whole, d_is_name, d_is_word_of, d_is_thing, d_are_things, d_is_row, d_are_boxes, d_is_program, d_l_deck, d_l_draw, d_l_names, d_l_thing, d_l_row, d_l_bounded, d_l_program, d_l_deep, d_l_is, d_l_good_thing, d_l_good_row, d_l_good_name, d_l_good, d_l_odd, d_l_changed, d_l_within, d_l_row_of, d_l_fitting, d_l_right, d_law]
def fa : List He.Fa := [.glo "is_whole", .glo "is_name", .glo "is_word_of", .glo "is_thing", .glo "are_things", .glo "is_row", .glo "are_boxes", .glo "is_program", .glo "_law_deck", .glo "_law_draw", .glo "_law_names", .glo "_law_thing", .glo "_law_row", .glo "_law_bounded", .glo "_law_program", .glo "_law_deep", .glo "_law_is", .glo "_law_good_thing", .glo "_law_good_row", .glo "_law_good_name", .glo "_law_good", .glo "_law_odd", .glo "_law_changed", .glo "_law_within", .glo "_law_row_of", .glo "_law_fitting", .glo "_law_right", .glo "law", .free "isinstance", .free "bool", .free "int", .free "len", .free "str", .free "tuple", .free "list", .free "set", .free "range", .free "max", .free "min", .str "LETTERS" "abcdefghijklmnopqrstuvwxyz", .int "DEEPEST" 4]
abbrev R : PySem.W.OpenRow := PySem.W.OpenLaw.row PySem.Challenge.rw_pickruns_k01_what_is_a_program
abbrev hk : PySem.W.Hook := He.hookD 4 fa fn
def ob (s : PySem.W.SharedT) : He.AlD := He.obsDG 4 fa fn (HandSHeadRun.getT s)
theorem ob_eq (s : PySem.W.SharedT) : ob s = hk.obs s.abs := He.obsDG_eq (HandSHeadRun.getT_eq s)
def loose : List PySem.Str := [("LETTERS" : PySem.Str), ("DEEPEST" : PySem.Str), ("is_whole" : PySem.Str), ("is_name" : PySem.Str), ("is_word_of" : PySem.Str), ("is_thing" : PySem.Str), ("are_things" : PySem.Str), ("is_row" : PySem.Str), ("are_boxes" : PySem.Str), ("is_program" : PySem.Str), ("_law_deck" : PySem.Str), ("_law_draw" : PySem.Str), ("_law_names" : PySem.Str), ("_law_thing" : PySem.Str), ("_law_row" : PySem.Str), ("_law_bounded" : PySem.Str), ("_law_program" : PySem.Str), ("_law_deep" : PySem.Str), ("_law_is" : PySem.Str), ("_law_good_thing" : PySem.Str), ("_law_good_row" : PySem.Str), ("_law_good_name" : PySem.Str), ("_law_good" : PySem.Str), ("_law_odd" : PySem.Str), ("_law_changed" : PySem.Str), ("_law_within" : PySem.Str), ("_law_row_of" : PySem.Str), ("_law_fitting" : PySem.Str), ("_law_right" : PySem.Str)]
theorem run (w : World) : HandSHeadRun.RunEq R (PySem.W.view R.prog [31]) hk ob 12000 loose w := by
  intro os
  kernel_rfl
section
variable {K : PySem.W.Frag} {h : Heap} {mg : Str → Option Value}
theorem D_is_whole (X : K.In h) (G : h.Ns mainGlobals mg) (c : He.SaysD fa fn K) : Def K mg "is_whole" s_is_whole ["thing", "low", "high"] := by
  obtain ⟨fd, F⟩ := c.def_ 0 (d := d_is_whole) rfl
  have F' : Fun K "is_whole" "is_whole" s_is_whole _ fd := He5.fun_of F
  exact ⟨_, fd, He.glo_ok X G (c.fact 0 (f := .glo "is_whole") rfl), F', F'.binds (ps := ["thing", "low", "high"]) fun _ _ _ _ _ _ us hl => match us, hl with | [_, _, _], _ => rfl⟩
theorem D_is_name (X : K.In h) (G : h.Ns mainGlobals mg) (c : He.SaysD fa fn K) : Def K mg "is_name" s_is_name ["thing"] := by
  obtain ⟨fd, F⟩ := c.def_ 1 (d := d_is_name) rfl
  have F' : Fun K "is_name" "is_name" s_is_name _ fd := He5.fun_of F
  exact ⟨_, fd, He.glo_ok X G (c.fact 1 (f := .glo "is_name") rfl), F', F'.binds (ps := ["thing"]) fun _ _ _ _ _ _ us hl => match us, hl with | [_], _ => rfl⟩
theorem D_is_word_of (X : K.In h) (G : h.Ns mainGlobals mg) (c : He.SaysD fa fn K) : Def K mg "is_word_of" s_is_word_of ["thing", "words", "many"] := by
  obtain ⟨fd, F⟩ := c.def_ 2 (d := d_is_word_of) rfl
  have F' : Fun K "is_word_of" "is_word_of" s_is_word_of _ fd := He5.fun_of F
  exact ⟨_, fd, He.glo_ok X G (c.fact 2 (f := .glo "is_word_of") rfl), F', F'.binds (ps := ["thing", "words", "many"]) fun _ _ _ _ _ _ us hl => match us, hl with | [_, _, _], _ => rfl⟩
theorem D_is_thing (X : K.In h) (G : h.Ns mainGlobals mg) (c : He.SaysD fa fn K) : Def K mg "is_thing" s_is_thing ["thing", "m", "boxes", "deep"] := by
  obtain ⟨fd, F⟩ := c.def_ 3 (d := d_is_thing) rfl
  have F' : Fun K "is_thing" "is_thing" s_is_thing _ fd := He5.fun_of F
  exact ⟨_, fd, He.glo_ok X G (c.fact 3 (f := .glo "is_thing") rfl), F', F'.binds (ps := ["thing", "m", "boxes", "deep"]) fun _ _ _ _ _ _ us hl => match us, hl with | [_, _, _, _], _ => rfl⟩
theorem D_are_things (X : K.In h) (G : h.Ns mainGlobals mg) (c : He.SaysD fa fn K) : Def K mg "are_things" s_are_things ["thing", "m", "boxes"] := by
  obtain ⟨fd, F⟩ := c.def_ 4 (d := d_are_things) rfl
  have F' : Fun K "are_things" "are_things" s_are_things _ fd := He5.fun_of F
  exact ⟨_, fd, He.glo_ok X G (c.fact 4 (f := .glo "are_things") rfl), F', F'.binds (ps := ["thing", "m", "boxes"]) fun _ _ _ _ _ _ us hl => match us, hl with | [_, _, _], _ => rfl⟩
theorem D_is_row (X : K.In h) (G : h.Ns mainGlobals mg) (c : He.SaysD fa fn K) : Def K mg "is_row" s_is_row ["thing", "m", "boxes"] := by
  obtain ⟨fd, F⟩ := c.def_ 5 (d := d_is_row) rfl
  have F' : Fun K "is_row" "is_row" s_is_row _ fd := He5.fun_of F
  exact ⟨_, fd, He.glo_ok X G (c.fact 5 (f := .glo "is_row") rfl), F', F'.binds (ps := ["thing", "m", "boxes"]) fun _ _ _ _ _ _ us hl => match us, hl with | [_, _, _], _ => rfl⟩
theorem D_are_boxes (X : K.In h) (G : h.Ns mainGlobals mg) (c : He.SaysD fa fn K) : Def K mg "are_boxes" s_are_boxes ["thing"] := by
  obtain ⟨fd, F⟩ := c.def_ 6 (d := d_are_boxes) rfl
  have F' : Fun K "are_boxes" "are_boxes" s_are_boxes _ fd := He5.fun_of F
  exact ⟨_, fd, He.glo_ok X G (c.fact 6 (f := .glo "are_boxes") rfl), F', F'.binds (ps := ["thing"]) fun _ _ _ _ _ _ us hl => match us, hl with | [_], _ => rfl⟩
theorem D_is_program (X : K.In h) (G : h.Ns mainGlobals mg) (c : He.SaysD fa fn K) : Def K mg "is_program" s_is_program ["thing"] := by
  obtain ⟨fd, F⟩ := c.def_ 7 (d := d_is_program) rfl
  have F' : Fun K "is_program" "is_program" s_is_program _ fd := He5.fun_of F
  exact ⟨_, fd, He.glo_ok X G (c.fact 7 (f := .glo "is_program") rfl), F', F'.binds (ps := ["thing"]) fun _ _ _ _ _ _ us hl => match us, hl with | [_], _ => rfl⟩
theorem D_l_deck (X : K.In h) (G : h.Ns mainGlobals mg) (c : He.SaysD fa fn K) : Def K mg "_law_deck" s_l_deck ["script"] := by
  obtain ⟨fd, F⟩ := c.def_ 8 (d := d_l_deck) rfl
  have F' : Fun K "_law_deck" "_law_deck" s_l_deck _ fd := He5.fun_of F
  exact ⟨_, fd, He.glo_ok X G (c.fact 8 (f := .glo "_law_deck") rfl), F', F'.binds (ps := ["script"]) fun _ _ _ _ _ _ us hl => match us, hl with | [_], _ => rfl⟩
theorem D_l_draw (X : K.In h) (G : h.Ns mainGlobals mg) (c : He.SaysD fa fn K) : Def K mg "_law_draw" s_l_draw ["deck", "many"] := by
  obtain ⟨fd, F⟩ := c.def_ 9 (d := d_l_draw) rfl
  have F' : Fun K "_law_draw" "_law_draw" s_l_draw _ fd := He5.fun_of F
  exact ⟨_, fd, He.glo_ok X G (c.fact 9 (f := .glo "_law_draw") rfl), F', F'.binds (ps := ["deck", "many"]) fun _ _ _ _ _ _ us hl => match us, hl with | [_, _], _ => rfl⟩
theorem D_l_names (X : K.In h) (G : h.Ns mainGlobals mg) (c : He.SaysD fa fn K) : Def K mg "_law_names" s_l_names ["deck"] := by
  obtain ⟨fd, F⟩ := c.def_ 10 (d := d_l_names) rfl
  have F' : Fun K "_law_names" "_law_names" s_l_names _ fd := He5.fun_of F
  exact ⟨_, fd, He.glo_ok X G (c.fact 10 (f := .glo "_law_names") rfl), F', F'.binds (ps := ["deck"]) fun _ _ _ _ _ _ us hl => match us, hl with | [_], _ => rfl⟩
theorem D_l_thing (X : K.In h) (G : h.Ns mainGlobals mg) (c : He.SaysD fa fn K) : Def K mg "_law_thing" s_l_thing ["deck", "m", "boxes", "deep"] := by
  obtain ⟨fd, F⟩ := c.def_ 11 (d := d_l_thing) rfl
  have F' : Fun K "_law_thing" "_law_thing" s_l_thing _ fd := He5.fun_of F
  exact ⟨_, fd, He.glo_ok X G (c.fact 11 (f := .glo "_law_thing") rfl), F', F'.binds (ps := ["deck", "m", "boxes", "deep"]) fun _ _ _ _ _ _ us hl => match us, hl with | [_, _, _, _], _ => rfl⟩
theorem D_l_row (X : K.In h) (G : h.Ns mainGlobals mg) (c : He.SaysD fa fn K) : Def K mg "_law_row" s_l_row ["deck", "m", "boxes"] := by
  obtain ⟨fd, F⟩ := c.def_ 12 (d := d_l_row) rfl
  have F' : Fun K "_law_row" "_law_row" s_l_row _ fd := He5.fun_of F
  exact ⟨_, fd, He.glo_ok X G (c.fact 12 (f := .glo "_law_row") rfl), F', F'.binds (ps := ["deck", "m", "boxes"]) fun _ _ _ _ _ _ us hl => match us, hl with | [_, _, _], _ => rfl⟩
theorem D_l_bounded (X : K.In h) (G : h.Ns mainGlobals mg) (c : He.SaysD fa fn K) : Def K mg "_law_bounded" s_l_bounded ["m", "boxes", "rows"] := by
  obtain ⟨fd, F⟩ := c.def_ 13 (d := d_l_bounded) rfl
  have F' : Fun K "_law_bounded" "_law_bounded" s_l_bounded _ fd := He5.fun_of F
  exact ⟨_, fd, He.glo_ok X G (c.fact 13 (f := .glo "_law_bounded") rfl), F', F'.binds (ps := ["m", "boxes", "rows"]) fun _ _ _ _ _ _ us hl => match us, hl with | [_, _, _], _ => rfl⟩
theorem D_l_program (X : K.In h) (G : h.Ns mainGlobals mg) (c : He.SaysD fa fn K) : Def K mg "_law_program" s_l_program ["deck"] := by
  obtain ⟨fd, F⟩ := c.def_ 14 (d := d_l_program) rfl
  have F' : Fun K "_law_program" "_law_program" s_l_program _ fd := He5.fun_of F
  exact ⟨_, fd, He.glo_ok X G (c.fact 14 (f := .glo "_law_program") rfl), F', F'.binds (ps := ["deck"]) fun _ _ _ _ _ _ us hl => match us, hl with | [_], _ => rfl⟩
theorem D_l_deep (X : K.In h) (G : h.Ns mainGlobals mg) (c : He.SaysD fa fn K) : Def K mg "_law_deep" s_l_deep ["thing"] := by
  obtain ⟨fd, F⟩ := c.def_ 15 (d := d_l_deep) rfl
  have F' : Fun K "_law_deep" "_law_deep" s_l_deep _ fd := He5.fun_of F
  exact ⟨_, fd, He.glo_ok X G (c.fact 15 (f := .glo "_law_deep") rfl), F', F'.binds (ps := ["thing"]) fun _ _ _ _ _ _ us hl => match us, hl with | [_], _ => rfl⟩
theorem D_l_is (X : K.In h) (G : h.Ns mainGlobals mg) (c : He.SaysD fa fn K) : Def K mg "_law_is" s_l_is ["thing", "low", "high"] := by
  obtain ⟨fd, F⟩ := c.def_ 16 (d := d_l_is) rfl
  have F' : Fun K "_law_is" "_law_is" s_l_is _ fd := He5.fun_of F
  exact ⟨_, fd, He.glo_ok X G (c.fact 16 (f := .glo "_law_is") rfl), F', F'.binds (ps := ["thing", "low", "high"]) fun _ _ _ _ _ _ us hl => match us, hl with | [_, _, _], _ => rfl⟩
theorem D_l_good_thing (X : K.In h) (G : h.Ns mainGlobals mg) (c : He.SaysD fa fn K) : Def K mg "_law_good_thing" s_l_good_thing ["thing", "m", "boxes", "deep"] := by
  obtain ⟨fd, F⟩ := c.def_ 17 (d := d_l_good_thing) rfl
  have F' : Fun K "_law_good_thing" "_law_good_thing" s_l_good_thing _ fd := He5.fun_of F
  exact ⟨_, fd, He.glo_ok X G (c.fact 17 (f := .glo "_law_good_thing") rfl), F', F'.binds (ps := ["thing", "m", "boxes", "deep"]) fun _ _ _ _ _ _ us hl => match us, hl with | [_, _, _, _], _ => rfl⟩
theorem D_l_good_row (X : K.In h) (G : h.Ns mainGlobals mg) (c : He.SaysD fa fn K) : Def K mg "_law_good_row" s_l_good_row ["row", "m", "boxes"] := by
  obtain ⟨fd, F⟩ := c.def_ 18 (d := d_l_good_row) rfl
  have F' : Fun K "_law_good_row" "_law_good_row" s_l_good_row _ fd := He5.fun_of F
  exact ⟨_, fd, He.glo_ok X G (c.fact 18 (f := .glo "_law_good_row") rfl), F', F'.binds (ps := ["row", "m", "boxes"]) fun _ _ _ _ _ _ us hl => match us, hl with | [_, _, _], _ => rfl⟩
theorem D_l_good_name (X : K.In h) (G : h.Ns mainGlobals mg) (c : He.SaysD fa fn K) : Def K mg "_law_good_name" s_l_good_name ["name"] := by
  obtain ⟨fd, F⟩ := c.def_ 19 (d := d_l_good_name) rfl
  have F' : Fun K "_law_good_name" "_law_good_name" s_l_good_name _ fd := He5.fun_of F
  exact ⟨_, fd, He.glo_ok X G (c.fact 19 (f := .glo "_law_good_name") rfl), F', F'.binds (ps := ["name"]) fun _ _ _ _ _ _ us hl => match us, hl with | [_], _ => rfl⟩
theorem D_l_good (X : K.In h) (G : h.Ns mainGlobals mg) (c : He.SaysD fa fn K) : Def K mg "_law_good" s_l_good ["thing"] := by
  obtain ⟨fd, F⟩ := c.def_ 20 (d := d_l_good) rfl
  have F' : Fun K "_law_good" "_law_good" s_l_good _ fd := He5.fun_of F
  exact ⟨_, fd, He.glo_ok X G (c.fact 20 (f := .glo "_law_good") rfl), F', F'.binds (ps := ["thing"]) fun _ _ _ _ _ _ us hl => match us, hl with | [_], _ => rfl⟩
theorem D_l_odd (X : K.In h) (G : h.Ns mainGlobals mg) (c : He.SaysD fa fn K) : Def K mg "_law_odd" s_l_odd ["deck", "thing"] := by
  obtain ⟨fd, F⟩ := c.def_ 21 (d := d_l_odd) rfl
  have F' : Fun K "_law_odd" "_law_odd" s_l_odd _ fd := He5.fun_of F
  exact ⟨_, fd, He.glo_ok X G (c.fact 21 (f := .glo "_law_odd") rfl), F', F'.binds (ps := ["deck", "thing"]) fun _ _ _ _ _ _ us hl => match us, hl with | [_, _], _ => rfl⟩
theorem D_l_changed (X : K.In h) (G : h.Ns mainGlobals mg) (c : He.SaysD fa fn K) : Def K mg "_law_changed" s_l_changed ["deck", "thing", "deep"] := by
  obtain ⟨fd, F⟩ := c.def_ 22 (d := d_l_changed) rfl
  have F' : Fun K "_law_changed" "_law_changed" s_l_changed _ fd := He5.fun_of F
  exact ⟨_, fd, He.glo_ok X G (c.fact 22 (f := .glo "_law_changed") rfl), F', F'.binds (ps := ["deck", "thing", "deep"]) fun _ _ _ _ _ _ us hl => match us, hl with | [_, _, _], _ => rfl⟩
theorem D_l_within (X : K.In h) (G : h.Ns mainGlobals mg) (c : He.SaysD fa fn K) : Def K mg "_law_within" s_l_within ["deck", "m", "boxes", "deep"] := by
  obtain ⟨fd, F⟩ := c.def_ 23 (d := d_l_within) rfl
  have F' : Fun K "_law_within" "_law_within" s_l_within _ fd := He5.fun_of F
  exact ⟨_, fd, He.glo_ok X G (c.fact 23 (f := .glo "_law_within") rfl), F', F'.binds (ps := ["deck", "m", "boxes", "deep"]) fun _ _ _ _ _ _ us hl => match us, hl with | [_, _, _, _], _ => rfl⟩
theorem D_l_row_of (X : K.In h) (G : h.Ns mainGlobals mg) (c : He.SaysD fa fn K) : Def K mg "_law_row_of" s_l_row_of ["deck", "boxes", "thing"] := by
  obtain ⟨fd, F⟩ := c.def_ 24 (d := d_l_row_of) rfl
  have F' : Fun K "_law_row_of" "_law_row_of" s_l_row_of _ fd := He5.fun_of F
  exact ⟨_, fd, He.glo_ok X G (c.fact 24 (f := .glo "_law_row_of") rfl), F', F'.binds (ps := ["deck", "boxes", "thing"]) fun _ _ _ _ _ _ us hl => match us, hl with | [_, _, _], _ => rfl⟩
theorem D_l_fitting (X : K.In h) (G : h.Ns mainGlobals mg) (c : He.SaysD fa fn K) : Def K mg "_law_fitting" s_l_fitting ["deck", "way"] := by
  obtain ⟨fd, F⟩ := c.def_ 25 (d := d_l_fitting) rfl
  have F' : Fun K "_law_fitting" "_law_fitting" s_l_fitting _ fd := He5.fun_of F
  exact ⟨_, fd, He.glo_ok X G (c.fact 25 (f := .glo "_law_fitting") rfl), F', F'.binds (ps := ["deck", "way"]) fun _ _ _ _ _ _ us hl => match us, hl with | [_, _], _ => rfl⟩
theorem D_l_right (X : K.In h) (G : h.Ns mainGlobals mg) (c : He.SaysD fa fn K) : Def K mg "_law_right" s_l_right ["thing"] := by
  obtain ⟨fd, F⟩ := c.def_ 26 (d := d_l_right) rfl
  have F' : Fun K "_law_right" "_law_right" s_l_right _ fd := He5.fun_of F
  exact ⟨_, fd, He.glo_ok X G (c.fact 26 (f := .glo "_law_right") rfl), F', F'.binds (ps := ["thing"]) fun _ _ _ _ _ _ us hl => match us, hl with | [_], _ => rfl⟩
theorem fx (X : K.In h) (G : h.Ns mainGlobals mg) (c : He.SaysD fa fn K) : Fx K mg := ⟨D_is_whole X G c,
  D_is_name X G c,
  D_is_word_of X G c,
  D_is_thing X G c,
  D_are_things X G c,
  D_is_row X G c,
  D_are_boxes X G c,
  D_is_program X G c,
  D_l_deck X G c,
  D_l_draw X G c,
  D_l_names X G c,
  D_l_thing X G c,
  D_l_row X G c,
  D_l_bounded X G c,
  D_l_program X G c,
  D_l_deep X G c,
  D_l_is X G c,
  D_l_good_thing X G c,
  D_l_good_row X G c,
  D_l_good_name X G c,
  D_l_good X G c,
  D_l_odd X G c,
  D_l_changed X G c,
  D_l_within X G c,
  D_l_row_of X G c,
  D_l_fitting X G c,
  D_l_right X G c,
  He.free_ok X G (c.fact 28 (f := .free "isinstance") rfl),
  He.free_ok X G (c.fact 29 (f := .free "bool") rfl),
  He.free_ok X G (c.fact 30 (f := .free "int") rfl),
  He.free_ok X G (c.fact 31 (f := .free "len") rfl),
  He.free_ok X G (c.fact 32 (f := .free "str") rfl),
  He.free_ok X G (c.fact 33 (f := .free "tuple") rfl),
  He.free_ok X G (c.fact 34 (f := .free "list") rfl),
  He.free_ok X G (c.fact 35 (f := .free "set") rfl),
  He.free_ok X G (c.fact 36 (f := .free "range") rfl),
  He.free_ok X G (c.fact 37 (f := .free "max") rfl),
  He.free_ok X G (c.fact 38 (f := .free "min") rfl),
  He.str_ok X G (c.fact 39 (f := .str "LETTERS" "abcdefghijklmnopqrstuvwxyz") rfl),
  He.int_ok X G (c.fact 40 (f := .int "DEEPEST" 4) rfl)⟩
theorem facts {P : Program} {w : World} {f : Addr} (X : K.In h) (G : h.Ns mainGlobals mg) (hfa : mg ("law" : Str) = some (.ref f)) (c : He.SaysD fa fn K) :
    ∃ fd : FuncData, (∀ (s : Shared) (v : Value), BindsTo s fd ⟨[v], []⟩ [("script", v)]) ∧ ∀ base : Heap, K.In base → base.Ns mainGlobals mg → FnOk P w K mg base CX0 15 f fd ["script"] (spG ⟨K, w⟩ (T_law ⟨K, w⟩)) := by
  obtain ⟨fd, F⟩ := c.def_ 27 (d := d_law) rfl
  have e := hfa.symm.trans (He.glo_ok X G (c.fact 27 (f := .glo "law") rfl))
  cases e
  have b := FunD.bindsA (ps := ["script"]) F fun _ _ _ _ _ _ us hl => match us, hl with | [_], _ => rfl
  have F' : Fun K "law" "law" s_law _ fd := He5.fun_of F
  exact ⟨fd, fun s v => b s [v] rfl, fun base _ _ => chain F' (fx X G c)⟩
end
end Hd
open PySem PySem.W PySem.Calls PyProof.Rows
theorem PySem.Challenge.cw_pickruns_k01_what_is_a_program_holds : PySem.Challenge.rw_pickruns_k01_what_is_a_program.Holds := by
  w_on; o_law
  refine HandSHeadRun.head_any (r := OpenLaw.row PySem.Challenge.rw_pickruns_k01_what_is_a_program) (q := view (OpenLaw.row PySem.Challenge.rw_pickruns_k01_what_is_a_program).prog [31]) (H := Hd.hk) (ob := Hd.ob) (M := 12000) (loose := Hd.loose) (d := HandSHeadRun.topDef (OpenLaw.row PySem.Challenge.rw_pickruns_k01_what_is_a_program).prog 31) (kwd := []) Hd.ob_eq
    (by kernel_rfl) (fun s => by kernel_rfl) Hd.run (by kernel_rfl) (by kernel_rfl) (by kernel_rfl) (by rfl) (by first | assumption | decide +kernel) (by decide +kernel) ⟨rfl, rfl, rfl, rfl, rfl, by decide +kernel⟩ ?hw ?hc
  case hw => w_witness2
  case hc =>
    refine L2.walk_ofE (l := PySem.Challenge.rw_pickruns_k01_what_is_a_program) (n := 63) (k := 15) (x := "script") (CX := L2.CX0) rfl (by decide) (by kernel_rfl) ⟨rfl, by decide, by decide⟩ ?F (fun _ _ _ _ z => z)
    intro w mg fa h Y G hmg0
    obtain ⟨K, KX, c⟩ := Y
    have hmg : mg ("law" : PySem.Str) = some (.ref fa) := by
      have e : (HandSHeadRun.topDef (OpenLaw.row PySem.Challenge.rw_pickruns_k01_what_is_a_program).prog 31).name = ("law" : PySem.Str) := by kernel_rfl
      rw [← e]
      exact hmg0
    obtain ⟨fd, hb, hF⟩ := Hd.facts (P := (PySem.Challenge.rw_pickruns_k01_what_is_a_program).prog) (w := w) KX G hmg c
    exact ⟨K, fd, Pk.spG ⟨K, w⟩ (Pk.T_law ⟨K, w⟩), KX, hb, fun H a ns hl _ hS => Pk.law_start hl hS fun _ => rfl, hF⟩
end
