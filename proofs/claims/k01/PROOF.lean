import PyProof.Rows.All
import Wide.All
import OpenK.AllK
import Wide.FinOn
import HandS.ForMost
import HandS.Walk
import HandS.TupAny
import HandS.Wide
import HandS.WideBits
import HandS.Zip
import HandS.Exc
import HandS.WordsExc
import HandS.Defaults
import HandS.HeadHook2
import KE.KDictKeyed
import HandS.Lambda
import HandS.Deep
import HandS.TupMul
import HandS.Style
import HandS.Conv
import HandS.Flow
import HandS.ExcOwn
import HandS.IsInst
import HandS.More
import HandS.Small
import HandS.WordsDict
import HandS.SortInts
import PyProof.ReprRoads
import HandS.RaiseMore
import HandS.EndBits
import HandS.HeadEnd
import HandS.Head0
import HandS.Head1
import HandS.Head2
import HandS.Words
import KE.SortData
import KE.GoesEnum
import KE.GoesMore
import HandS.Strs
import HandS.SetFor
import HandS.Dict
import HandS.Iter
import KE.KExcSuper
import HandS.TryOnly
import HandS.TryMany
import HandS.ExcIs
import KE.KExcIs
import PyProof.ListMulRoad
import PyProof.FactsAll.tuple_2
import KE.DataFind
import HandS.EndTab
import HandS.HeadWalk
import HandS.DictTup
import KE.KDictZip
import HandS.GenList
import HandS.SetKeys
import HandS.ExcInit
import HandS.Text
import HandS.StrSplit
import PyProof.FitsInt
import PyProof.Rows.ReprOcc
import PySem.Challenge.RW_openorstop_k01_whole_trials_judged
set_option Elab.async false
set_option linter.all false
set_option maxHeartbeats 4000000
set_option maxRecDepth 100000
/-! The D layer, 1: Python's values as plain data, computations as plain functions, what they have to do with the hand layer. -/
namespace Dl
open PySem PySem.Spec PyProof.Rows L2

/-! ### data -/
/-- an exception: where it stands, and its fields' dict, with what is known of it -/
abbrev Ed := Nat × Option (Nat × List (Str × Key))
inductive D where
  | non | bl (b : Bool) | int (i : Int) | str (x : Str) | ty (n : String) | glo (x : Str)
  | tup (xs : List D) | lst (xs : List D) | obj (n : Nat) | scr (ns : List Int) | exn (a : Ed)
inductive DO where
  | lst (xs : List D)
  | ins (C : Str) (fs : List (Str × D))
  | dI (kvs : List (Key × D))
  | dF (kvs : List (Key × D))
  | dN (kvs : List (NestedKey × D))
abbrev Hs := List DO
inductive R (α : Type) where
  | ok (a : α) (h : Hs) | exc (C : Str) (fs : List (Str × D)) (h : Hs) | bad
abbrev M (α : Type) := Hs → R α
def R.bind {α β : Type} (r : R α) (f : α → M β) : R β := match r with
  | .ok a h => f a h
  | .exc C fs h => .exc C fs h
  | .bad => .bad
abbrev Env := List (Option D)

/-! ### what stands for what -/
/-- where the changing things stand, by number; lists that are being made -/
structure Ix where
  os : List Addr
  rs : List Addr
def Ix.fz (ι : Ix) (a : Addr) : Prop := a ∉ ι.os ∧ a ∉ ι.rs
def KT (K : PySem.W.Frag) (a : Addr) (xs : List V) : Prop :=
  ∃ (o : Obj) (its : Array Value) (n : Nat), K.lookup a = some o ∧ o.cls = .type "tuple" ∧ o.data = .seq its n ∧ its.size ≤ sizeLine ∧ Vals xs its.toList
def KL (K : PySem.W.Frag) (a : Addr) (xs : List V) : Prop :=
  ∃ (o : Obj) (its : Array Value) (n : Nat), K.lookup a = some o ∧ o.cls = .type "list" ∧ o.dict = none ∧ o.data = .seq its n ∧ its.size ≤ sizeLine ∧ Vals xs its.toList
def TupAt (K : PySem.W.Frag) (ι : Ix) (H : Hp) (a : Addr) (xs : List V) : Prop := (ι.fz a ∧ Rd H a (.tup xs)) ∨ KT K a xs
def LstAt (ι : Ix) (H : Hp) (a : Addr) (xs : List V) : Prop := ι.fz a ∧ H a = some (.lst xs)
/-- the script: it is read alone -/
def ScrAt (K : PySem.W.Frag) (ι : Ix) (H : Hp) (a : Addr) (xs : List V) : Prop := (ι.fz a ∧ Rd H a (.lst xs)) ∨ KL K a xs
def EdOk (ι : Ix) (H : Hp) (a : Ed) : Prop := ∀ d ps, a.2 = some (d, ps) → ι.fz d ∧ ∃ us, H d = some (.xd us) ∧ ∀ f k, ps.lookup f = some k → us.lookup f = some (kV k)
mutual
inductive RD (K : PySem.W.Frag) (ι : Ix) (H : Hp) : D → V → Prop
  | non : RD K ι H .non .non
  | bl (b : Bool) : RD K ι H (.bl b) (.bl b)
  | int (i : Int) : RD K ι H (.int i) (.int i)
  | str (x : Str) : RD K ι H (.str x) (.str x)
  | ty (n : String) : RD K ι H (.ty n) (.ty n)
  | glo (x : Str) : RD K ι H (.glo x) (.ref (He.ga K x))
  | tup {a : Addr} {vs : List V} {xs : List D} : TupAt K ι H a vs → RDs K ι H xs vs → RD K ι H (.tup xs) (.ref a)
  | lst {a : Addr} {vs : List V} {xs : List D} : LstAt ι H a vs → RDs K ι H xs vs → RD K ι H (.lst xs) (.ref a)
  | obj {n : Nat} {a : Addr} : ι.os[n]? = some a → RD K ι H (.obj n) (.ref a)
  | scr {a : Addr} {ns : List Int} : ScrAt K ι H a (ns.map V.int) → RD K ι H (.scr ns) (.ref a)
  | exn (a : Ed) : EdOk ι H a → RD K ι H (.exn a) (.ref a.1)
inductive RDs (K : PySem.W.Frag) (ι : Ix) (H : Hp) : List D → List V → Prop
  | nil : RDs K ι H [] []
  | cons {x : D} {xs : List D} {v : V} {vs : List V} : RD K ι H x v → RDs K ι H xs vs → RDs K ι H (x :: xs) (v :: vs)
end
/-- a key without texts, as deep as n -/
def optAll {α β : Type} (f : α → Option β) : List α → Option (List β)
  | [] => some []
  | x :: xs => (match f x, optAll f xs with
    | some y, some ys => some (y :: ys)
    | _, _ => none)
def nkOf : Nat → D → Option NestedKey
  | 0, d => (match d with
    | .int i => some (.num i)
    | _ => none)
  | n + 1, d => (match d with
    | .int i => some (.num i)
    | .tup xs => (optAll (nkOf n) xs).map .tup
    | _ => none)
/-- the one object of a dict whose keys are tuples -/
def NDict (a : Addr) (xs : List (NestedKey × Addr × Value)) (h : Heap) : Prop := (a == sysModules) = false ∧ xs.length ≤ sizeLine ∧ (xs.map (·.1)).Nodup ∧
  ∃ o es ep, h.get? a = some o ∧ o.ExactDict ∧ o.data = .dict es ep ∧ ∀ w : World, es.toList = xs.map fun x => (⟨x.1.hash w, .ref x.2.1, x.2.2⟩ : DictEntry)
def RN (K : PySem.W.Frag) (ι : Ix) (H : Hp) : List (NestedKey × D) → List (NestedKey × Addr × Value) → Prop :=
  Paired fun (p : NestedKey × D) (q : NestedKey × Addr × Value) => p.1 = q.1 ∧ (∃ kd, nkOf 4 kd = some p.1 ∧ RD K ι H kd (.ref q.2.1)) ∧ ∃ v, RelV v q.2.2 ∧ RD K ι H p.2 v
/-- fields, pairs of a dict -/
def RF {κ : Type} (K : PySem.W.Frag) (ι : Ix) (H : Hp) : List (κ × D) → List (κ × V) → Prop := Paired fun (p : κ × D) (q : κ × V) => p.1 = q.1 ∧ RD K ι H p.2 q.2
def CellOk (K : PySem.W.Frag) (ι : Ix) (H : Hp) (a : Addr) : DO → Prop
  | .lst xs => ∃ vs, H a = some (.lst vs) ∧ RDs K ι H xs vs
  | .ins C fs => ∃ dx us, H a = some (.ins (He.ga K C) dx us) ∧ RF K ι H fs us
  | .dI kvs => ∃ us, H a = some (.dK us) ∧ RF K ι H kvs us
  | .dF kvs => ∃ od us, H a = some (.frz od (.dK us)) ∧ RF K ι H kvs us
  | .dN kvs => ∃ xs, H a = some (.ext (NDict a xs)) ∧ RN K ι H kvs xs
/-- the tables of code objects that a law's lambdas stand in, by the program's fragment (none in most laws) -/
class Tb where
  ts : PySem.W.Frag → List (Addr × Str)
variable [Tb]
def NT (o : HO) : Prop := ∀ ps, o ≠ .tbl ps
def TabOk (ι : Ix) (H : Hp) (P : Addr) (q : Str) : Prop := ∃ ps : Array Value, H P = some (.tbl ps) ∧ TriplesOk ps.toList ∧
  ∀ (pos : Pos) (cv : Value), codeAmong pos ps.toList = some cv → ∃ c, cv = .ref c ∧ H c = some (LamX.CodeO c q) ∧ ι.fz c
structure Rel (K : PySem.W.Frag) (ι : Ix) (h : Hs) (H : Hp) : Prop where
  len : ι.os.length = h.length
  nd : ι.os.Nodup
  cell : ∀ (n : Nat) (a : Addr) (o : DO), ι.os[n]? = some a → h[n]? = some o → CellOk K ι H a o
  res : ∀ a, a ∈ ι.rs → H a ≠ none
  tab : ∀ p, p ∈ Tb.ts K → p.1 ∈ ι.rs ∧ TabOk ι H p.1 p.2
/-- what stood stands: all but the changing things -/
structure Ext (ι : Ix) (H : Hp) (ι' : Ix) (H' : Hp) : Prop where
  pre : ∃ t, ι'.os = ι.os ++ t
  rs : ι'.rs = ι.rs
  keep : ∀ a o, H a = some o → a ∉ ι.os → (a ∈ ι.rs → NT o) → H' a = some o
  new : ∀ a, a ∈ ι'.os → a ∈ ι.os ∨ H a = none
  frz : ∀ a od u, H a = some (.frz od u) → H' a = some (.frz od u)
  dom : ∀ a, H a ≠ none → H' a ≠ none
theorem Ext.refl {ι : Ix} {H : Hp} : Ext ι H ι H := ⟨⟨[], by simp⟩, rfl, fun _ _ h _ _ => h, fun _ h => .inl h, fun _ _ _ h => h, fun _ h => h⟩
theorem Ext.trans {ι ι1 ι2 : Ix} {H H1 H2 : Hp} (a : Ext ι H ι1 H1) (b : Ext ι1 H1 ι2 H2) : Ext ι H ι2 H2 := by
  have back : ∀ x, x ∈ ι1.os → x ∉ ι.os → H x = none := fun x h n => (a.new x h).elim (fun z => absurd z n) id
  refine ⟨?_, b.rs.trans a.rs, fun x o h n r => ?_, fun x h => ?_, fun x od u h => b.frz x od u (a.frz x od u h), fun x n => b.dom x (a.dom x n)⟩
  · obtain ⟨t, e⟩ := a.pre
    obtain ⟨u, e2⟩ := b.pre
    exact ⟨t ++ u, by rw [e2, e, List.append_assoc]⟩
  · refine b.keep x o (a.keep x o h n r) (fun z => ?_) fun m => r (by rw [← a.rs]; exact m)
    rw [back x z n] at h
    cases h
  · rcases b.new x h with z | z
    · exact a.new x z
    · by_cases hx : x ∈ ι.os
      · exact .inl hx
      · refine .inr ?_
        cases q : H x with
        | none => rfl
        | some o => exact absurd z (a.dom x (by rw [q]; exact fun y => nomatch y))
theorem Ext.get {ι ι' : Ix} {H H' : Hp} (e : Ext ι H ι' H') {n : Nat} {a : Addr} (h : ι.os[n]? = some a) : ι'.os[n]? = some a := by
  obtain ⟨t, e1⟩ := e.pre
  rw [e1]
  have := (List.getElem?_eq_some_iff.mp h).1
  rw [List.getElem?_append_left this]
  exact h
/-- what a value stands on is kept -/
structure Up (ι : Ix) (H : Hp) (ι' : Ix) (H' : Hp) : Prop where
  get : ∀ (n : Nat) a, ι.os[n]? = some a → ι'.os[n]? = some a
  keep : ∀ a o, H a = some o → ι.fz a → H' a = some o ∧ ι'.fz a
/-- and what is locked stays so -/
structure UpF (ι : Ix) (H : Hp) (ι' : Ix) (H' : Hp) : Prop where
  up : Up ι H ι' H'
  frz : ∀ a od u, H a = some (.frz od u) → H' a = some (.frz od u)
theorem Ext.up {ι ι' : Ix} {H H' : Hp} (e : Ext ι H ι' H') : Up ι H ι' H' := by
  refine ⟨fun n a h => e.get h, fun a o h f => ⟨e.keep a o h f.1 fun m => absurd m f.2, ⟨fun z => ?_, by rw [e.rs]; exact f.2⟩⟩⟩
  rcases e.new a z with y | y
  · exact f.1 y
  · rw [h] at y
    cases y
theorem TabOk.up {ι ι' : Ix} {H H' : Hp} {P : Addr} {q : Str} (t : TabOk ι H P q) (u : Up ι H ι' H') (e : H' P = H P) : TabOk ι' H' P q := by
  obtain ⟨ps, h1, h2, h3⟩ := t
  refine ⟨ps, e.trans h1, h2, fun pos cv hc => ?_⟩
  obtain ⟨c, c1, c2, c3⟩ := h3 pos cv hc
  exact ⟨c, c1, (u.keep c _ c2 c3).1, (u.keep c _ c2 c3).2⟩
theorem TabOk.ne {ι : Ix} {H : Hp} {P : Addr} {q : Str} (t : TabOk ι H P q) : H P ≠ none := by
  obtain ⟨ps, h1, _⟩ := t
  rw [h1]
  exact fun z => nomatch z
theorem TabOk.nt {ι : Ix} {H : Hp} {P : Addr} {q : Str} (t : TabOk ι H P q) {o : HO} (e : H P = some o) (n : NT o) : False := by
  obtain ⟨ps, h1, _⟩ := t
  rw [h1] at e
  exact n ps (Option.some.inj e).symm
theorem Ext.upF {ι ι' : Ix} {H H' : Hp} (e : Ext ι H ι' H') : UpF ι H ι' H' := ⟨e.up, e.frz⟩
section
variable {K : PySem.W.Frag} {ι ι' : Ix} {H H' : Hp}
theorem Up.rd {a : Addr} {u : HO} (e : Up ι H ι' H') (n : ι.fz a) (h : Rd H a u) : ι'.fz a ∧ Rd H' a u := by
  rcases h with h | ⟨o, h⟩
  · exact ⟨(e.keep _ _ h n).2, .inl (e.keep _ _ h n).1⟩
  · exact ⟨(e.keep _ _ h n).2, .inr ⟨o, (e.keep _ _ h n).1⟩⟩
theorem TupAt.up {a : Addr} {vs : List V} (e : Up ι H ι' H') (h : TupAt K ι H a vs) : TupAt K ι' H' a vs := by
  rcases h with ⟨n, h⟩ | h
  · exact .inl (e.rd n h)
  · exact .inr h
theorem LstAt.up {a : Addr} {vs : List V} (e : Up ι H ι' H') (h : LstAt ι H a vs) : LstAt ι' H' a vs := ⟨(e.keep _ _ h.2 h.1).2, (e.keep _ _ h.2 h.1).1⟩
theorem ScrAt.up {a : Addr} {vs : List V} (e : Up ι H ι' H') (h : ScrAt K ι H a vs) : ScrAt K ι' H' a vs := by
  rcases h with ⟨n, h⟩ | h
  · exact .inl (e.rd n h)
  · exact .inr h
theorem TupAt.sq {a : Addr} {vs : List V} (h : TupAt K ι H a vs) : SqT K H a vs := by
  rcases h with ⟨_, h⟩ | h
  · exact .inl h
  · exact .inr h
theorem LstAt.sq {a : Addr} {vs : List V} (h : LstAt ι H a vs) : SqL K H a vs := .inl (.inl h.2)
theorem ScrAt.sq {a : Addr} {vs : List V} (h : ScrAt K ι H a vs) : SqL K H a vs := by
  rcases h with ⟨_, h⟩ | h
  · exact .inl h
  · exact .inr h
theorem EdOk.up {a : Ed} (e : Up ι H ι' H') (q : EdOk ι H a) : EdOk ι' H' a := fun d ps z => by
  obtain ⟨f, us, h1, h2⟩ := q d ps z
  exact ⟨(e.keep _ _ h1 f).2, us, (e.keep _ _ h1 f).1, h2⟩
mutual
theorem RD.up (e : Up ι H ι' H') : ∀ {d : D} {v : V}, RD K ι H d v → RD K ι' H' d v
  | _, _, .non => .non
  | _, _, .bl b => .bl b
  | _, _, .int i => .int i
  | _, _, .str x => .str x
  | _, _, .ty n => .ty n
  | _, _, .glo x => .glo x
  | _, _, .tup h r => .tup (h.up e) (RDs.up e r)
  | _, _, .lst h r => .lst (h.up e) (RDs.up e r)
  | _, _, .obj h => .obj (e.get _ _ h)
  | _, _, .scr h => .scr (h.up e)
  | _, _, .exn a q => .exn a (q.up e)
theorem RDs.up (e : Up ι H ι' H') : ∀ {ds : List D} {vs : List V}, RDs K ι H ds vs → RDs K ι' H' ds vs
  | _, _, .nil => .nil
  | _, _, .cons h r => .cons (RD.up e h) (RDs.up e r)
end
theorem RD.mono (e : Ext ι H ι' H') {d : D} {v : V} (h : RD K ι H d v) : RD K ι' H' d v := h.up e.up
theorem RDs.mono (e : Ext ι H ι' H') {d : List D} {v : List V} (h : RDs K ι H d v) : RDs K ι' H' d v := h.up e.up
theorem RF.up {κ : Type} (e : Up ι H ι' H') {fs : List (κ × D)} {us : List (κ × V)} (h : RF K ι H fs us) : RF K ι' H' fs us := Paired.mapP h fun _ _ z => ⟨z.1, z.2.up e⟩
theorem RN.up (e : Up ι H ι' H') {fs : List (NestedKey × D)} {us : List (NestedKey × Addr × Value)} (h : RN K ι H fs us) : RN K ι' H' fs us := Paired.mapP h fun _ _ ⟨z1, ⟨kd, z2, z3⟩, v, z4, z5⟩ => ⟨z1, ⟨kd, z2, z3.up e⟩, v, z4, z5.up e⟩
theorem RF.mono {κ : Type} (e : Ext ι H ι' H') {fs : List (κ × D)} {us : List (κ × V)} (h : RF K ι H fs us) : RF K ι' H' fs us := h.up e.up
theorem RDs.length : ∀ {ds : List D} {vs : List V}, RDs K ι H ds vs → ds.length = vs.length
  | _, _, .nil => rfl
  | _, _, .cons _ r => by rw [List.length_cons, List.length_cons, r.length]
theorem RDs.get : ∀ {ds : List D} {vs : List V} {i : Nat} {d : D}, RDs K ι H ds vs → ds[i]? = some d → ∃ v, vs[i]? = some v ∧ RD K ι H d v
  | _, _, _, _, .nil, e => by simp at e
  | _, _, 0, _, .cons h _, e => by simp at e; subst e; exact ⟨_, rfl, h⟩
  | _, _, i + 1, d, .cons _ r, e => by
    obtain ⟨v, h1, h2⟩ := RDs.get (i := i) (d := d) r (by simpa using e)
    exact ⟨v, by simpa using h1, h2⟩
theorem RDs.getV : ∀ {ds : List D} {vs : List V} {i : Nat} {v : V}, RDs K ι H ds vs → vs[i]? = some v → ∃ d, ds[i]? = some d ∧ RD K ι H d v
  | _, _, _, _, .nil, e => by simp at e
  | _, _, 0, _, .cons h _, e => by simp at e; subst e; exact ⟨_, rfl, h⟩
  | _, _, i + 1, d, .cons _ r, e => by
    obtain ⟨v, h1, h2⟩ := RDs.getV (i := i) (v := d) r (by simpa using e)
    exact ⟨v, by simpa using h1, h2⟩
theorem RDs.append : ∀ {xs ys : List D} {us ws : List V}, RDs K ι H xs us → RDs K ι H ys ws → RDs K ι H (xs ++ ys) (us ++ ws)
  | _, _, _, _, .nil, s => s
  | _, _, _, _, .cons h r, s => .cons h (RDs.append r s)
theorem RDs.take : ∀ {xs : List D} {us : List V} (n : Nat), RDs K ι H xs us → RDs K ι H (xs.take n) (us.take n)
  | _, _, 0, _ => .nil
  | _, _, _ + 1, .nil => .nil
  | _, _, n + 1, .cons h r => .cons h (RDs.take n r)
theorem RDs.drop : ∀ {xs : List D} {us : List V} (n : Nat), RDs K ι H xs us → RDs K ι H (xs.drop n) (us.drop n)
  | _, _, 0, r => r
  | _, _, _ + 1, .nil => .nil
  | _, _, n + 1, .cons _ r => RDs.drop n r
theorem RDs.set {x : D} {u : V} (h : RD K ι H x u) : ∀ {xs : List D} {us : List V} (i : Nat), RDs K ι H xs us → RDs K ι H (xs.set i x) (us.set i u)
  | _, _, _, .nil => .nil
  | _, _, 0, .cons _ r => .cons h r
  | _, _, i + 1, .cons g r => .cons g (RDs.set h i r)
theorem RDs.reverse {xs : List D} {us : List V} (h : RDs K ι H xs us) : RDs K ι H xs.reverse us.reverse := by
  induction xs generalizing us with
  | nil => cases h; exact .nil
  | cons x xs ih =>
    cases h with
    | cons h r =>
      rw [List.reverse_cons, List.reverse_cons]
      exact (ih r).append (.cons h .nil)
theorem RDs.rep {xs : List D} {us : List V} (h : RDs K ι H xs us) : ∀ k : Nat, RDs K ι H (List.replicate k xs).flatten (List.replicate k us).flatten
  | 0 => .nil
  | k + 1 => by
    rw [List.replicate_succ, List.replicate_succ, List.flatten_cons, List.flatten_cons]
    exact h.append (RDs.rep h k)
theorem RDs.nil_iff {xs : List D} {us : List V} (r : RDs K ι H xs us) : us = [] ↔ xs = [] := by
  cases r with
  | nil => simp
  | cons _ _ => simp
theorem RDs.ints : ∀ {ns : List Int} {us : List V}, RDs K ι H (ns.map D.int) us → us = ns.map V.int
  | [], _, .nil => rfl
  | n :: ns, _, .cons h r => by
    cases h
    rw [List.map_cons, RDs.ints r]
theorem RDs.ofInts : ∀ {ns : List Int}, RDs K ι H (ns.map D.int) (ns.map V.int)
  | [] => .nil
  | n :: ns => .cons (.int n) RDs.ofInts
end

/-! ### the slots -/
def RS (K : PySem.W.Frag) (ι : Ix) (H : Hp) (ρ : Env) (σ : L2.St) : Prop := ρ.length = σ.length ∧ ∀ (i : Nat) (d : D), ρ[i]? = some (some d) → ∃ v, σ[i]? = some (some v) ∧ RD K ι H d v
section
variable {K : PySem.W.Frag} {ι ι' : Ix} {H H' : Hp} {ρ : Env} {σ : L2.St}
theorem RS.mono (e : Ext ι H ι' H') (h : RS K ι H ρ σ) : RS K ι' H' ρ σ := ⟨h.1, fun i d g => let ⟨v, h1, h2⟩ := h.2 i d g; ⟨v, h1, h2.mono e⟩⟩
theorem RS.set {d : D} {v : V} (h : RS K ι H ρ σ) (i : Nat) (r : RD K ι H d v) : RS K ι H (ρ.set i (some d)) (σ.set i (some v)) := by
  refine ⟨by rw [List.length_set, List.length_set]; exact h.1, fun j d' g => ?_⟩
  by_cases e : i = j
  · subst e
    by_cases hi : i < ρ.length
    · rw [List.getElem?_set_self hi] at g
      cases g
      exact ⟨v, List.getElem?_set_self (by rw [← h.1]; exact hi), r⟩
    · rw [List.getElem?_eq_none (by rw [List.length_set]; omega)] at g
      cases g
  · rw [List.getElem?_set_ne e] at g
    rw [List.getElem?_set_ne e]
    exact h.2 j d' g
end

/-! ### what is wanted behind a computation -/
abbrev XD (K : PySem.W.Frag) (ι : Ix) (H : Hp) (fs : List (Str × D)) (od : Option Addr) : Prop :=
  (fs = [] ∧ od = none) ∨ ∃ d us, fs ≠ [] ∧ od = some d ∧ H d = some (.xd us) ∧ ι.fz d ∧ RF K ι H fs us
def Post {α β : Type} (K : PySem.W.Frag) (W : XK) (RA : Ix → Hp → α → β → Prop) (r : R α) (ι : Ix) (H : Hp) (Q : β → Hp → Prop) : Prop :=
  match r with
  | .ok a h' => ∀ ι' H' b, Ext ι H ι' H' → Rel K ι' h' H' → RA ι' H' a b → Q b H'
  | .exc C fs h' => ∀ ι' H' od, Ext ι H ι' H' → Rel K ι' h' H' → XD K ι' H' fs od → W (.ref (He.ga K C)) od H'
  | .bad => False
section
variable {K : PySem.W.Frag} {W : XK} {ι ι1 : Ix} {H H1 : Hp} {α β γ δ : Type} {RA : Ix → Hp → α → β → Prop} {RB : Ix → Hp → γ → δ → Prop}
theorem Post.ext {r : R α} {Q : β → Hp → Prop} (p : Post K W RA r ι H Q) (e : Ext ι H ι1 H1) : Post K W RA r ι1 H1 Q := by
  cases r with
  | ok a h => exact fun ι' H' b e' => p ι' H' b (e.trans e')
  | exc C fs h => exact fun ι' H' od e' => p ι' H' od (e.trans e')
  | bad => exact p
theorem Post.bind {r : R α} {f : α → M γ} {Q : δ → Hp → Prop} (p : Post K W RB (r.bind f) ι H Q) :
    Post K W RA r ι H (fun b H1 => ∃ ι1 h1 a, Ext ι H ι1 H1 ∧ Rel K ι1 h1 H1 ∧ RA ι1 H1 a b ∧ Post K W RB (f a h1) ι1 H1 Q) := by
  cases r with
  | ok a h => exact fun ι' H' b e R ra => ⟨ι', h, a, e, R, ra, Post.ext p e⟩
  | exc C fs h => exact p
  | bad => exact p
theorem Post.imp {r : R α} {Q Q' : β → Hp → Prop} (p : Post K W RA r ι H Q) (q : ∀ b H, Q b H → Q' b H) : Post K W RA r ι H Q' := by
  cases r with
  | ok a h => exact fun ι' H' b e R ra => q _ _ (p ι' H' b e R ra)
  | exc C fs h => exact p
  | bad => exact p
theorem Post.ok {a : α} {h : Hs} {b : β} {Q : β → Hp → Prop} (p : Post K W RA (.ok a h) ι H Q) (R : Rel K ι h H) (ra : RA ι H a b) : Q b H := p ι H b .refl R ra
end

/-- an expression, a test, arguments as computations -/
def wE (K : PySem.W.Frag) (W : WX) (c : Env → M D) : TE := fun σ H Q => ∃ ι h ρ, Rel K ι h H ∧ RS K ι H ρ σ ∧ Post K (fun x d H' => W x d σ H') (RD K) (c ρ h) ι H Q
def wT (K : PySem.W.Frag) (W : WX) (c : Env → M Bool) : TT := fun σ H Q => ∃ ι h ρ, Rel K ι h H ∧ RS K ι H ρ σ ∧ Post K (fun x d H' => W x d σ H') (fun _ _ a b => a = b) (c ρ h) ι H Q
def wA (K : PySem.W.Frag) (W : WX) (c : Env → M (List D)) : TA := fun σ H Q => ∃ ι h ρ, Rel K ι h H ∧ RS K ι H ρ σ ∧ Post K (fun x d H' => W x d σ H') (RDs K) (c ρ h) ι H Q
/-- a list being made at p -/
def Ix.with (ι : Ix) (p : Addr) : Ix := ⟨ι.os, p :: ι.rs⟩
/-- a new list, of which nothing knows yet -/
def PostN (K : PySem.W.Frag) (W : XK) (r : R (List D)) (ι : Ix) (H : Hp) (Q : V → Hp → Prop) : Prop :=
  match r with
  | .ok xs h' => ∀ ι' H' p vs, Ext ι H ι' H' → Rel K (ι'.with p) h' H' → RDs K (ι'.with p) H' xs vs → H' p = some (.lst vs) → p ∉ ι'.os → p ∉ ι'.rs → H p = none → Q (.ref p) H'
  | .exc C fs h' => ∀ ι' H' od, Ext ι H ι' H' → Rel K ι' h' H' → XD K ι' H' fs od → W (.ref (He.ga K C)) od H'
  | .bad => False
def wN (K : PySem.W.Frag) (W : WX) (c : Env → M (List D)) : TE := fun σ H Q => ∃ ι h ρ, Rel K ι h H ∧ RS K ι H ρ σ ∧ PostN K (fun x d H' => W x d σ H') (c ρ h) ι H Q
abbrev DE (X : Cx) (W : WX) (e : Expr) (c : Env → M D) : Prop := PE X e (wE X.K W c)
abbrev DT (X : Cx) (W : WX) (e : Expr) (c : Env → M Bool) : Prop := PT X e (wT X.K W c)
abbrev DA (X : Cx) (W : WX) (es : List Expr) (c : Env → M (List D)) : Prop := PA X es (wA X.K W c)
abbrev DN (X : Cx) (W : WX) (e : Expr) (c : Env → M (List D)) : Prop := PE X e (wN X.K W c)
theorem pe_imp {X : Cx} {e : Expr} {t t' : TE} (h : PE X e t) (w : ∀ σ H Q, t' σ H Q → t σ H Q) : PE X e t' := ⟨fun pins s σ H Q I z => h.run pins s σ H Q I (w σ H Q z)⟩
theorem pt_imp {X : Cx} {e : Expr} {t t' : TT} (h : PT X e t) (w : ∀ σ H Q, t' σ H Q → t σ H Q) : PT X e t' := ⟨fun pins s σ H Q I z => h.run pins s σ H Q I (w σ H Q z)⟩
theorem pa_imp {X : Cx} {e : List Expr} {t t' : TA} (h : PA X e t) (w : ∀ σ H Q, t' σ H Q → t σ H Q) : PA X e t' := ⟨fun pos pins s σ H Q I z => h.run pos pins s σ H Q I (w σ H Q z)⟩

/-! ### names, constants -/
def eV (i : Nat) : Env → M D := fun ρ h => match ρ[i]? with
  | some (some d) => .ok d h
  | _ => .bad
def eC (d : D) : Env → M D := fun _ h => .ok d h
section
variable {X : Cx} {W : WX} {pos : Pos}
theorem de_v (i : Nat) {x : Str} (hN : X.N[i]? = some x := by rfl) (hv : Vis X.env.scope x := by first | exact Or.inl rfl | exact Or.inr (Or.inl rfl) | exact Or.inr (Or.inr rfl)) (hd : (x == ("__debug__" : Str)) = false := by decide)
    (hcd : (x == ("__classdict__" : Str)) = false := by decide) : DE X W (.Name x pos) (eV i) := pe_imp (pv i hN hv hd hcd) fun σ H Q ⟨ι, h, ρ, R, S, p⟩ => by
  unfold eV at p
  cases e : ρ[i]? with
  | none => rw [e] at p; exact p.elim
  | some o =>
    rw [e] at p
    cases o with
    | none => exact p.elim
    | some d =>
      obtain ⟨v, h1, h2⟩ := S.2 i d e
      exact ⟨v, h1, p.ok R h2⟩
theorem de_c {e : Expr} {d : D} {v : V} (hp : PE X e (tC v)) (r : ∀ ι H, RD X.K ι H d v) : DE X W e (eC d) := pe_imp hp fun σ H Q ⟨ι, h, ρ, R, S, p⟩ => Post.ok p R (r ι H)
theorem de_int {i j} : DE X W (.Constant (.int i) j pos) (eC (.int i)) := de_c pe_int fun _ _ => .int i
theorem de_bl {b j} : DE X W (.Constant (.bool b) j pos) (eC (.bl b)) := de_c pe_bl fun _ _ => .bl b
theorem de_non {j} : DE X W (.Constant .none j pos) (eC .non) := de_c pe_non fun _ _ => .non
theorem de_str {x j} : DE X W (.Constant (.str x) j pos) (eC (.str x)) := de_c pe_str fun _ _ => .str x
/-- a def, a class of the module as a value -/
theorem de_glo {x : Str} (hg : Gl X x) (hm : X.mg x = some (.ref (He.ga X.K x))) (hd : (x == ("__debug__" : Str)) = false := by decide) : DE X W (.Name x pos) (eC (.glo x)) := de_c (pe_glob hg hm (v := .ref (He.ga X.K x)) rfl hd) fun _ _ => .glo x
/-- a number of the module -/
theorem de_gint {x : Str} {i : Int} (hg : Gl X x) (hm : ∃ t, X.mg x = some (.int i t)) (hd : (x == ("__debug__" : Str)) = false := by decide) : DE X W (.Name x pos) (eC (.int i)) := by
  obtain ⟨t, hm⟩ := hm
  exact de_c (pe_glob hg hm (v := .int i) ⟨t, rfl⟩ hd) fun _ _ => .int i
/-- a tuple of ints of the module -/
theorem de_gtup {x : Str} {is : List Int} (hg : Gl X x) (hm : X.mg x = some (.ref (He.ga X.K x))) (hk : KT X.K (He.ga X.K x) (is.map V.int)) (hd : (x == ("__debug__" : Str)) = false := by decide) : DE X W (.Name x pos) (eC (.tup (is.map D.int))) :=
  de_c (pe_glob hg hm (v := .ref (He.ga X.K x)) rfl hd) fun _ _ => .tup (.inr hk) RDs.ofInts
/-- a built-in class as a value -/
theorem de_ty {x : Str} {n : String} (hg : Gl X x) (hm : X.mg x = none) (hv : bootBuiltins x = some (.type n)) (hn : x ≠ "__name__" := by decide) (hd : (x == ("__debug__" : Str)) = false := by decide) : DE X W (.Name x pos) (eC (.ty n)) := de_c (pe_bltn hg hm hv (v := .ty n) rfl hn hd) fun _ _ => .ty n
end

/-! ### operators -/
def e2 (f : D → D → M D) (ca cb : Env → M D) : Env → M D := fun ρ h => (ca ρ h).bind fun x h1 => (cb ρ h1).bind fun y h2 => f x y h2
def e1 (f : D → M D) (ca : Env → M D) : Env → M D := fun ρ h => (ca ρ h).bind fun x h1 => f x h1
/-- the operation on values keeps what the function says -/
def Op2 (X : Cx) (g : R2) (f : D → D → M D) : Prop := ∀ (ι : Ix) (h : Hs) (H : Hp) (x y : D) (v u : V) (W : XK) (Q : VK), Rel X.K ι h H → RD X.K ι H x v → RD X.K ι H y u → Post X.K W (RD X.K) (f x y h) ι H Q → g v u H Q
def Op1 (X : Cx) (g : V → Hp → VK → Prop) (f : D → M D) : Prop := ∀ (ι : Ix) (h : Hs) (H : Hp) (x : D) (v : V) (W : XK) (Q : VK), Rel X.K ι h H → RD X.K ι H x v → Post X.K W (RD X.K) (f x h) ι H Q → g v H Q
section
variable {X : Cx} {W : WX} {pos : Pos} {a b : Expr} {ca cb : Env → M D} {f : D → D → M D} {g : R2}
theorem w2 {σ : L2.St} {H : Hp} {Q : VK} (op : Op2 X g f) (h : wE X.K W (e2 f ca cb) σ H Q) : tOp g (wE X.K W ca) (wE X.K W cb) σ H Q := by
  obtain ⟨ι, h, ρ, R, S, p⟩ := h
  refine ⟨ι, h, ρ, R, S, Post.imp (Post.bind p) fun x H1 ⟨ι1, h1, dx, x1, R1, r1, p1⟩ => ?_⟩
  refine ⟨ι1, h1, ρ, R1, S.mono x1, Post.imp (Post.bind p1) fun y H2 ⟨ι2, h2, dy, x2, R2, r2, p2⟩ => ?_⟩
  exact op ι2 h2 H2 dx dy x y _ Q R2 (r1.mono x2) r2 p2
theorem de_bin {o : Operator} (ho : OpR X (binaryOp o) g) (op : Op2 X g f) (ha : DE X W a ca) (hb : DE X W b cb) : DE X W (.BinOp a o b pos) (e2 f ca cb) := pe_imp (pe_op ho ha hb) fun _ _ _ h => w2 op h
theorem de_cmp {o : CmpOp} (ho : OpR X (compareOp o) g) (op : Op2 X g f) (ha : DE X W a ca) (hb : DE X W b cb) (hm : behindInMarks o b = false) : DE X W (.Compare a [o] [b] pos) (e2 f ca cb) := pe_imp (pe_cmpR ho ha hb hm) fun _ _ _ h => w2 op h
theorem de_ix (ho : IxR X g) (op : Op2 X g f) (ha : DE X W a ca) (hb : DE X W b cb) (hs : PlainIx b) : DE X W (.Subscript a b pos) (e2 f ca cb) := pe_imp (pe_ix ho ha hb hs) fun _ _ _ h => w2 op h
theorem de_un {o : UnaryOp} {g : V → Hp → VK → Prop} {f : D → M D} (ho : UnR X (unaryOp o) g) (op : Op1 X g f) (ha : DE X W a ca) : DE X W (.UnaryOp o a pos) (e1 f ca) := pe_imp (pe_un ho ha) fun σ H Q ⟨ι, h, ρ, R, S, p⟩ => by
  refine ⟨ι, h, ρ, R, S, Post.imp (Post.bind p) fun x H1 ⟨ι1, h1, dx, x1, R1, r1, p1⟩ => ?_⟩
  exact op ι1 h1 H1 dx x _ Q R1 r1 p1
end
end Dl

/-! The D layer, 2: operators. -/
namespace Dl
open PySem PySem.Spec PyProof.Rows L2
variable [Tb]

/-! ### lists behind values -/
def items (h : Hs) : D → Option (List D)
  | .lst xs => some xs
  | .obj n => (match h[n]? with
    | some (.lst xs) => some xs
    | _ => none)
  | _ => none
/-- a dict, locked or not: its pairs -/
def dctKV (h : Hs) (n : Nat) : Option (List (Key × D)) := match h[n]? with
  | some (.dI kvs) => some kvs
  | some (.dF kvs) => some kvs
  | _ => none
section
variable {K : PySem.W.Frag} {ι ι' : Ix} {H H' : Hp} {h : Hs} {W : XK}
theorem Rel.at (R : Rel K ι h H) {n : Nat} {a : Addr} {o : DO} (e : ι.os[n]? = some a) (g : h[n]? = some o) : CellOk K ι H a o := R.cell n a o e g
theorem items_ok (R : Rel K ι h H) {x : D} {v : V} {xs : List D} (r : RD K ι H x v) (e : items h x = some xs) : ∃ a vs, v = .ref a ∧ H a = some (.lst vs) ∧ RDs K ι H xs vs := by
  cases r with
  | lst l q =>
    cases e
    exact ⟨_, _, rfl, l.2, q⟩
  | @obj n a g =>
    have e : (match h[n]? with
    | some (.lst xs) => some xs
    | _ => none) = some xs := e
    cases hn : h[n]? with
    | none => rw [hn] at e; cases e
    | some o =>
      rw [hn] at e
      cases o with
      | lst ys =>
        cases e
        obtain ⟨vs, h1, h2⟩ := R.at g hn
        exact ⟨a, vs, rfl, h1, h2⟩
      | _ => cases e
  | _ => cases e
theorem dctKV_rd (R : Rel K ι h H) {n : Nat} {a : Addr} {kvs : List (Key × D)} (g : ι.os[n]? = some a) (e : dctKV h n = some kvs) : ∃ us, Rd H a (.dK us) ∧ RF K ι H kvs us := by
  unfold dctKV at e
  split at e
  · rename_i ks hn
    cases e
    obtain ⟨us, h1, h2⟩ := R.at g hn
    exact ⟨us, .inl h1, h2⟩
  · rename_i ks hn
    cases e
    obtain ⟨od, us, h1, h2⟩ := R.at g hn
    exact ⟨us, .inr ⟨od, h1⟩, h2⟩
  · cases e
/-- an address of a changing thing is tracked -/
theorem Rel.ne (R : Rel K ι h H) {a : Addr} (m : a ∈ ι.os) : H a ≠ none := by
  obtain ⟨n, hn, e⟩ := List.getElem_of_mem m
  have e1 : ι.os[n]? = some a := by rw [List.getElem?_eq_getElem hn, e]
  have hl : n < h.length := by rw [← R.len]; exact hn
  have c := R.cell n a h[n] e1 (by rw [List.getElem?_eq_getElem hl])
  cases q : h[n] with
  | lst xs => rw [q] at c; obtain ⟨vs, h1, _⟩ := c; rw [h1]; exact fun z => nomatch z
  | ins C fs => rw [q] at c; obtain ⟨dx, us, h1, _⟩ := c; rw [h1]; exact fun z => nomatch z
  | dI kvs => rw [q] at c; obtain ⟨us, h1, _⟩ := c; rw [h1]; exact fun z => nomatch z
  | dF kvs => rw [q] at c; obtain ⟨od, us, h1, _⟩ := c; rw [h1]; exact fun z => nomatch z
  | dN kvs => rw [q] at c; obtain ⟨xs, h1, _⟩ := c; rw [h1]; exact fun z => nomatch z
theorem Rel.out (R : Rel K ι h H) {a : Addr} (n : H a = none) : ι.fz a := ⟨fun m => R.ne m n, fun m => R.res a m n⟩
theorem CellOk.up {a : Addr} {o : DO} (e : Up ι H ι' H') (q : H' a = H a) (c : CellOk K ι H a o) : CellOk K ι' H' a o := by
  cases o with
  | lst xs => obtain ⟨vs, h1, h2⟩ := c; exact ⟨vs, q.trans h1, h2.up e⟩
  | ins C fs => obtain ⟨dx, us, h1, h2⟩ := c; exact ⟨dx, us, q.trans h1, h2.up e⟩
  | dI kvs => obtain ⟨us, h1, h2⟩ := c; exact ⟨us, q.trans h1, h2.up e⟩
  | dF kvs => obtain ⟨od, us, h1, h2⟩ := c; exact ⟨od, us, q.trans h1, h2.up e⟩
  | dN kvs => obtain ⟨xs, h1, h2⟩ := c; exact ⟨xs, q.trans h1, h2.up e⟩
theorem CellOk.nt {a : Addr} {o : DO} (c : CellOk K ι H a o) : ∃ u, H a = some u ∧ NT u := by
  cases o with
  | lst xs => obtain ⟨vs, h1, _⟩ := c; exact ⟨_, h1, fun _ z => nomatch z⟩
  | ins C fs => obtain ⟨dx, us, h1, _⟩ := c; exact ⟨_, h1, fun _ z => nomatch z⟩
  | dI kvs => obtain ⟨us, h1, _⟩ := c; exact ⟨_, h1, fun _ z => nomatch z⟩
  | dF kvs => obtain ⟨od, us, h1, _⟩ := c; exact ⟨_, h1, fun _ z => nomatch z⟩
  | dN kvs => obtain ⟨xs, h1, _⟩ := c; exact ⟨_, h1, fun _ z => nomatch z⟩
theorem Rel.cnt (R : Rel K ι h H) {n : Nat} {a : Addr} (e : ι.os[n]? = some a) : ∃ u, H a = some u ∧ NT u := by
  have hl : n < h.length := by rw [← R.len]; exact (List.getElem?_eq_some_iff.mp e).1
  exact (R.cell n a h[n] e (List.getElem?_eq_getElem hl)).nt
/-- a new thing that never changes -/
theorem upd_dom {p : Addr} {o : HO} (a : Addr) (n : H a ≠ none) : upd H p o a ≠ none := by
  by_cases z : a = p
  · rw [z, upd_same]; exact fun y => nomatch y
  · rw [upd_ne z]; exact n
theorem Ext.put {p : Addr} {o : HO} (n : H p = none) : Ext ι H ι (upd H p o) :=
  ⟨⟨[], by simp⟩, rfl, fun a u e _ _ => by rw [upd_ne (ne_of_none e n)]; exact e, fun _ m => .inl m, fun a od u e => by rw [upd_ne (ne_of_none e n)]; exact e, upd_dom⟩
theorem Rel.put {p : Addr} {o : HO} (R : Rel K ι h H) (n : H p = none) : Rel K ι h (upd H p o) :=
  ⟨R.len, R.nd, fun k a u e g => CellOk.up (Ext.put n).up (upd_ne fun z => R.ne (List.mem_of_getElem? e) (by rw [z]; exact n)) (R.cell k a u e g), fun a m => by
    rw [upd_ne fun z => R.res a m (by rw [z]; exact n)]
    exact R.res a m, fun q m => ⟨(R.tab q m).1, (R.tab q m).2.up (Ext.put n).up (upd_ne fun z => (R.tab q m).2.ne (by rw [z]; exact n))⟩⟩
/-- a new list that is being made -/
theorem Up.with {p : Addr} {H2 : Hp} (n : H p = none) (k : ∀ a u, H a = some u → H2 a = some u) : Up ι H (ι.with p) H2 :=
  ⟨fun _ _ e => e, fun a o e f => ⟨k a o e, f.1, fun z => (List.mem_cons.mp z).elim (fun y => by rw [y, n] at e; cases e) f.2⟩⟩
theorem Rel.with {p : Addr} {H2 : Hp} (R : Rel K ι h H) (n : H p = none) (k : ∀ a u, H a = some u → H2 a = some u) (n2 : H2 p ≠ none) : Rel K (ι.with p) h H2 := by
  refine ⟨R.len, R.nd, fun j a u e g => ?_, fun a m => ?_, fun q m => ⟨List.mem_cons_of_mem _ (R.tab q m).1, (R.tab q m).2.up (Up.with n k) ?_⟩⟩
  rotate_right
  · have ne := (R.tab q m).2.ne
    cases z : H q.1 with
    | none => exact absurd z ne
    | some w => exact k q.1 w z
  · refine CellOk.up (Up.with n k) ?_ (R.cell j a u e g)
    have ne := R.ne (List.mem_of_getElem? e)
    cases q : H a with
    | none => exact absurd q ne
    | some w => exact k a w q
  · rcases List.mem_cons.mp m with m | m
    · rw [m]; exact n2
    · have ne := R.res a m
      cases q : H a with
      | none => exact absurd q ne
      | some w => rw [k a w q]; exact fun z => nomatch z
/-- it is made: it stays, or it may change -/
theorem Up.done {p : Addr} : Up (ι.with p) H ι H := ⟨fun _ _ e => e, fun a o e f => ⟨e, f.1, fun z => f.2 (List.mem_cons_of_mem _ z)⟩⟩
theorem Rel.done {p : Addr} {o : HO} (R : Rel K (ι.with p) h H) (ep : H p = some o) (np : NT o := by intro _ z; cases z) : Rel K ι h H := ⟨R.len, R.nd, fun j a u e g => CellOk.up Up.done rfl (R.cell j a u e g), fun a m => R.res a (List.mem_cons_of_mem _ m), fun q m => ⟨(List.mem_cons.mp (R.tab q m).1).elim (fun z => ((R.tab q m).2.nt (by rw [z]; exact ep) np).elim) id, (R.tab q m).2.up Up.done rfl⟩⟩
def Ix.push (ι : Ix) (p : Addr) : Ix := ⟨ι.os ++ [p], ι.rs⟩
theorem getl {α : Type} {l t : List α} {n : Nat} {a : α} (e : l[n]? = some a) : (l ++ t)[n]? = some a := by
  rw [List.getElem?_append_left (List.getElem?_eq_some_iff.mp e).1]
  exact e
theorem Up.push {p : Addr} : Up (ι.with p) H (ι.push p) H :=
  ⟨fun _ _ e => getl e, fun a o e f => ⟨e, fun z => (List.mem_append.mp z).elim f.1 fun y => f.2 (by rw [List.mem_singleton.mp y]; exact List.mem_cons_self), fun z => f.2 (List.mem_cons_of_mem _ z)⟩⟩
theorem Rel.push {p : Addr} {o : DO} (R : Rel K (ι.with p) h H) (n : p ∉ ι.os) (c : CellOk K (ι.push p) H p o) : Rel K (ι.push p) (h ++ [o]) H := by
  have hl : ι.os.length = h.length := R.len
  obtain ⟨u0, ep, np⟩ := c.nt
  refine ⟨by show (ι.os ++ [p]).length = _; rw [List.length_append, List.length_append, hl]; rfl, ?_, fun j a u e g => ?_, fun a m => R.res a (List.mem_cons_of_mem _ m), fun q m => ⟨(List.mem_cons.mp (R.tab q m).1).elim (fun z => ((R.tab q m).2.nt (by rw [z]; exact ep) np).elim) id, (R.tab q m).2.up Up.push rfl⟩⟩
  · show (ι.os ++ [p]).Nodup
    rw [List.nodup_append]
    refine ⟨R.nd, by simp, fun a ha b hb z => ?_⟩
    rw [List.mem_singleton.mp hb] at z
    exact n (z ▸ ha)
  · have e : (ι.os ++ [p])[j]? = some a := e
    by_cases hj : j < ι.os.length
    · rw [List.getElem?_append_left hj] at e
      rw [List.getElem?_append_left (by rw [← hl]; exact hj)] at g
      exact CellOk.up Up.push rfl (R.cell j a u e g)
    · have hl2 := (List.getElem?_eq_some_iff.mp e).1
      rw [List.length_append, List.length_singleton] at hl2
      have hj2 : j = ι.os.length := by omega
      subst hj2
      rw [List.getElem?_append_right (Nat.le_refl _)] at e
      simp at e
      rw [hl, List.getElem?_append_right (Nat.le_refl _)] at g
      simp at g
      subst e g
      exact c
/-- a new changing thing -/
theorem Ext.alloc {p : Addr} {H2 : Hp} (n : H p = none) (k : ∀ a u, H a = some u → H2 a = some u) : Ext ι H (ι.push p) H2 :=
  ⟨⟨[p], rfl⟩, rfl, fun a u e _ _ => k a u e, fun a m => by
    rcases List.mem_append.mp m with m | m
    · exact .inl m
    · exact .inr (by rw [List.mem_singleton.mp m]; exact n), fun a od u e => k a _ e, fun a ne => by
    cases q : H a with
    | none => exact absurd q ne
    | some w => rw [k a w q]; exact fun z => nomatch z⟩
theorem Rel.alloc {p : Addr} {H2 : Hp} {o : DO} (R : Rel K ι h H) (n : H p = none) (k : ∀ a u, H a = some u → H2 a = some u) (n2 : H2 p ≠ none) (c : CellOk K (ι.push p) H2 p o) : Rel K (ι.push p) (h ++ [o]) H2 :=
  Rel.push (R.with n k n2) (R.out n).1 c
theorem push_at {p : Addr} (R : Rel K ι h H) : (ι.push p).os[h.length]? = some p := by
  show (ι.os ++ [p])[h.length]? = some p
  rw [← R.len, List.getElem?_append_right (Nat.le_refl _)]
  simp
/-- a changing thing changed -/
theorem nfr {a : Addr} {o : HO} (e : H a = some o) (n : ∀ od u, o ≠ .frz od u := by intro _ _ z; cases z) : ∀ od u, H a ≠ some (.frz od u) := fun od u z => by
  rw [e] at z
  exact n od u (Option.some.inj z)
theorem Ext.chg {a : Addr} {o : HO} (m : a ∈ ι.os) (nf : ∀ od u, H a ≠ some (.frz od u)) : Ext ι H ι (upd H a o) := ⟨⟨[], by simp⟩, rfl, fun b u e n _ => by rw [upd_ne (fun z => n (by rw [z]; exact m))]; exact e, fun _ m => .inl m, fun b od u e => by rw [upd_ne (fun z => nf od u (by rw [← z]; exact e))]; exact e, upd_dom⟩
theorem Up.chg {a : Addr} {o : HO} (m : a ∈ ι.os) : Up ι H ι (upd H a o) := ⟨fun _ _ e => e, fun b u e f => ⟨by rw [upd_ne (fun z => f.1 (by rw [z]; exact m))]; exact e, f⟩⟩
theorem Rel.chg {n : Nat} {a : Addr} {o : HO} {d : DO} (R : Rel K ι h H) (e : ι.os[n]? = some a) (c : CellOk K ι (upd H a o) a d) : Rel K ι (h.set n d) (upd H a o) := by
  refine ⟨by rw [List.length_set]; exact R.len, R.nd, fun j b u eb g => ?_, fun b m => ?_, fun q m => ⟨(R.tab q m).1, (R.tab q m).2.up (Up.chg (List.mem_of_getElem? e)) (upd_ne fun z => by
    obtain ⟨u0, ep, np⟩ := R.cnt e
    exact (R.tab q m).2.nt (by rw [z]; exact ep) np)⟩⟩
  · by_cases hj : n = j
    · subst hj
      rw [e] at eb
      cases eb
      have hl : n < h.length := by rw [← R.len]; exact (List.getElem?_eq_some_iff.mp e).1
      rw [List.getElem?_set_self hl] at g
      cases g
      exact c
    · rw [List.getElem?_set_ne hj] at g
      have nb : b ≠ a := fun z => hj (nd_ix R.nd e (z ▸ eb))
      exact CellOk.up (Up.chg (List.mem_of_getElem? e)) (upd_ne nb) (R.cell j b u eb g)
  · by_cases z : b = a
    · rw [z, upd_same]
      exact fun z => nomatch z
    · rw [upd_ne z]
      exact R.res b m
/-- Post of a new tuple, a new list that stays -/
theorem Post.tup {xs : List D} {vs : List V} {Q : VK} {p : Addr} (q : Post K W (RD K) (.ok (.tup xs) h) ι H Q) (R : Rel K ι h H) (r : RDs K ι H xs vs) (n : H p = none) : Q (.ref p) (upd H p (.tup vs)) :=
  q ι _ _ (.put n) (R.put n) (.tup (.inl ⟨R.out n, .inl upd_same⟩) (r.mono (.put n)))
theorem Post.lst {xs : List D} {vs : List V} {Q : VK} {p : Addr} (q : Post K W (RD K) (.ok (.lst xs) h) ι H Q) (R : Rel K ι h H) (r : RDs K ι H xs vs) (n : H p = none) : Q (.ref p) (upd H p (.lst vs)) :=
  q ι _ _ (.put n) (R.put n) (.lst ⟨R.out n, upd_same⟩ (r.mono (.put n)))
theorem upd_keep {p : Addr} {o : HO} (n : H p = none) : ∀ a u, H a = some u → upd H p o a = some u := fun a u e => by rw [upd_ne (ne_of_none e n)]; exact e
theorem Ext.back {ι1 : Ix} {H1 : Hp} (e : Ext ι H ι1 H1) {a : Addr} (n : H1 a = none) (m : a ∉ ι.os) : H a = none := by
  cases q : H a with
  | none => rfl
  | some o => exact absurd n (e.dom a (by rw [q]; exact fun y => nomatch y))
/-- a new list, nothing knows of it -/
theorem PostN.new {xs : List D} {vs : List V} {Q : VK} {p : Addr} {ιb : Ix} {Hb : Hp} (q : PostN K W (.ok xs h) ιb Hb Q) (e : Ext ιb Hb ι H) (R : Rel K ι h H) (r : RDs K ι H xs vs) (n : H p = none) : Q (.ref p) (upd H p (.lst vs)) := by
  have o := R.out n
  refine q ι _ p vs (e.trans (.put n)) (R.with n (upd_keep n) (by rw [upd_same]; exact fun z => nomatch z)) (r.up (Up.with n (upd_keep n))) upd_same o.1 o.2 (e.back n fun z => o.1 ?_)
  obtain ⟨t, e1⟩ := e.pre
  rw [e1]
  exact List.mem_append_left _ z
end

/-! ### + - * // % ** -/
def okLen (n : Nat) : Bool := decide (n ≤ 16777216)
theorem okLen_ok {n : Nat} (h : okLen n = true) : n ≤ sizeLine := by
  rw [sizeLine_eq]
  exact of_decide_eq_true h
def addD (x y : D) : M D := fun h => match x, y with
  | .int i, .int j => .ok (.int (i + j)) h
  | .str a, .str b => if okLen (a.length + b.length) then .ok (.str (a ++ b)) h else .bad
  | .tup xs, .tup ys => if okLen (xs.length + ys.length) then .ok (.tup (xs ++ ys)) h else .bad
  | x, y => (match items h x, items h y with
    | some xs, some ys => if okLen (xs.length + ys.length) then .ok (.lst (xs ++ ys)) h else .bad
    | _, _ => .bad)
def subD (x y : D) : M D := fun h => match x, y with
  | .int i, .int j => .ok (.int (i - j)) h
  | _, _ => .bad
def okMul (i j : Int) : Bool := decide (Builtin.Int.intBits i + Builtin.Int.intBits j ≤ 134217728)
def okRep (n : Nat) (k : Int) : Bool := decide (-1000000 ≤ k ∧ k ≤ 1000000 ∧ n * k.toNat ≤ 16777216)
def mulD (x y : D) : M D := fun h => match x, y with
  | .int i, .int j => if okMul i j then .ok (.int (i * j)) h else .bad
  | .tup xs, .int k => if decide (xs ≠ [] ∧ 2 ≤ k ∧ k ≤ 1000 ∧ xs.length ≤ 1000) then .ok (.tup (List.replicate k.toNat xs).flatten) h else .bad
  | x, .int k => (match items h x with
    | some xs => if okRep xs.length k then .ok (.lst (List.replicate k.toNat xs).flatten) h else .bad
    | none => .bad)
  | _, _ => .bad
def okDiv (i j : Int) : Bool := decide (0 < j ∧ (j.natAbs.log2 < 9000 ∨ Builtin.Int.intBits i ≤ Builtin.Int.intBits j + 4000))
def divD (x y : D) : M D := fun h => match x, y with
  | .int i, .int j => if okDiv i j then .ok (.int (i / j)) h else .bad
  | _, _ => .bad
def modD (x y : D) : M D := fun h => match x, y with
  | .int i, .int j => if decide (0 < j) then .ok (.int (i % j)) h else .bad
  | _, _ => .bad
def powD (x y : D) : M D := fun h => match x, y with
  | .int i, .int j => if decide (0 ≤ j ∧ j ≤ 1000000 ∧ i.natAbs < 2 ^ 64) then .ok (.int (i ^ j.toNat)) h else .bad
  | _, _ => .bad
def negD (x : D) : M D := fun h => match x with
  | .int i => .ok (.int (-i)) h
  | _ => .bad
section
variable {X : Cx}
abbrev rAddI : R2 := rI0 fun i j => .int (i + j)
abbrev rAddS : R2 := fun x y H Q => ∃ i j, x = .str i ∧ y = .str j ∧ i.length + j.length ≤ sizeLine ∧ Q (.str (i ++ j)) H
def gAdd (K : PySem.W.Frag) : R2 := fun x y H Q => (rAddI x y H Q ∨ rAddS x y H Q) ∨ (rCatA K x y H Q ∨ rCat x y H Q)
theorem or_add : OpR X (binaryOp .Add) (gAdd X.K) := OpR.or (OpR.or op_add op_add_str) (OpR.or op_catA op_cat)
/-- a guarded end -/
theorem Post.guard {α β : Type} {K : PySem.W.Frag} {W : XK} {RA : Ix → Hp → α → β → Prop} {ι : Ix} {H : Hp} {Q : β → Hp → Prop} {c : Bool} {r : R α} (p : Post K W RA (if c = true then r else .bad) ι H Q) : c = true ∧ Post K W RA r ι H Q := by
  cases c with
  | true => exact ⟨rfl, p⟩
  | false => exact (show False from p).elim
theorem o_add : Op2 X (gAdd X.K) addD := by
  intro ι h H x y v u W Q R rx ry p
  have lists : ∀ {xs ys : List D}, items h x = some xs → items h y = some ys → Post X.K W (RD X.K) (if okLen (xs.length + ys.length) then .ok (.lst (xs ++ ys)) h else .bad) ι H Q → gAdd X.K v u H Q := fun {xs ys} e1 e2 p => by
    obtain ⟨c, p⟩ := p.guard
    obtain ⟨a, vs, rfl, ha, rv⟩ := items_ok R rx e1
    obtain ⟨b, us, rfl, hb, ru⟩ := items_ok R ry e2
    exact .inr (.inr ⟨a, b, vs, us, rfl, rfl, ha, hb, by rw [← rv.length, ← ru.length]; exact okLen_ok c, fun q hq => p.lst R (rv.append ru) hq⟩)
  unfold addD at p
  split at p
  · cases rx
    cases ry
    exact .inl (.inl ⟨_, _, rfl, rfl, p.ok R (.int _)⟩)
  · obtain ⟨c, p⟩ := p.guard
    cases rx
    cases ry
    exact .inl (.inr ⟨_, _, rfl, rfl, okLen_ok c, p.ok R (.str _)⟩)
  · obtain ⟨c, p⟩ := p.guard
    cases rx with
    | tup ta ra =>
      cases ry with
      | tup tb rb =>
        refine .inr (.inl ⟨_, _, _, _, rfl, rfl, ta.sq, tb.sq, by rw [← ra.length, ← rb.length]; exact okLen_ok c, fun z => ?_, fun z1 z => ?_, fun _ _ q hq => p.tup R (ra.append rb) hq⟩)
        · have z1 := ra.nil_iff.mp z
          subst z1
          exact p.ok R (.tup tb rb)
        · have z1 := rb.nil_iff.mp z
          subst z1
          rw [List.append_nil] at p
          exact p.ok R (.tup ta ra)
  · split at p
    · rename_i e1 e2
      exact lists e1 e2 p
    · exact p.elim
theorem o_sub : Op2 X (rI0 fun i j => .int (i - j)) subD := by
  intro ι h H x y v u W Q R rx ry p
  unfold subD at p
  split at p
  · cases rx
    cases ry
    exact ⟨_, _, rfl, rfl, p.ok R (.int _)⟩
  · exact p.elim
abbrev rMulI : R2 := rI CMulX fun i j => .int (i * j)
def gMul (K : PySem.W.Frag) : R2 := fun x y H Q => rMulI x y H Q ∨ (rRepT K x y H Q ∨ rRep x y H Q)
theorem or_mul : OpR X (binaryOp .Mult) (gMul X.K) := OpR.or op_mulX (OpR.or op_repT op_rep)
theorem o_mul : Op2 X (gMul X.K) mulD := by
  intro ι h H x y v u W Q R rx ry p
  unfold mulD at p
  split at p
  · obtain ⟨c, p⟩ := p.guard
    cases rx
    cases ry
    refine .inl ⟨_, _, rfl, rfl, ?_, p.ok R (.int _)⟩
    have c1 := of_decide_eq_true c
    unfold CMulX
    omega
  · obtain ⟨c, p⟩ := p.guard
    obtain ⟨c1, c2, c3, c4⟩ := of_decide_eq_true c
    cases ry
    cases rx with
    | tup ta ra => exact .inr (.inl ⟨_, _, _, rfl, rfl, ta.sq, fun z => c1 (ra.nil_iff.mp z), c2, c3, by rw [← ra.length]; exact c4, fun q hq => p.tup R (ra.rep _) hq⟩)
  · split at p
    · rename_i xs e1
      obtain ⟨c, p⟩ := p.guard
      obtain ⟨c1, c2, c3⟩ := of_decide_eq_true c
      obtain ⟨a, vs, rfl, ha, rv⟩ := items_ok R rx e1
      cases ry
      exact .inr (.inr ⟨_, _, _, rfl, rfl, ha, by omega, by omega, by rw [← rv.length, sizeLine_eq]; exact c3, fun q hq => p.lst R (rv.rep _) hq⟩)
    · exact p.elim
  · exact p.elim
theorem op_fdivX : OpR X (binaryOp .FloorDiv) (rI (fun i j => okDiv i j = true) fun i j => .int (i / j)) := opI fun i j _ _ _ _ _ hc q => by
  obtain ⟨h1, h2⟩ := of_decide_eq_true hc
  refine floordiv_int (by omega) (by rw [Int.fdiv_eq_ediv_of_nonneg i (by omega)]; exact q) ?_
  rcases h2 with h2 | h2
  · exact .inl (PyProof.noPylong_of_log2 h2)
  · exact .inl (divp_ok h1 h2).2
theorem o_div : Op2 X (rI (fun i j => okDiv i j = true) fun i j => .int (i / j)) divD := by
  intro ι h H x y v u W Q R rx ry p
  unfold divD at p
  split at p
  · obtain ⟨c, p⟩ := p.guard
    cases rx
    cases ry
    exact ⟨_, _, rfl, rfl, c, p.ok R (.int _)⟩
  · exact p.elim
theorem o_mod : Op2 X (rI (fun _ j => 0 < j) fun i j => .int (i % j)) modD := by
  intro ι h H x y v u W Q R rx ry p
  unfold modD at p
  split at p
  · obtain ⟨c, p⟩ := p.guard
    cases rx
    cases ry
    exact ⟨_, _, rfl, rfl, of_decide_eq_true c, p.ok R (.int _)⟩
  · exact p.elim
theorem o_pow : Op2 X (rI CPow fun i j => .int (i ^ j.toNat)) powD := by
  intro ι h H x y v u W Q R rx ry p
  unfold powD at p
  split at p
  · obtain ⟨c, p⟩ := p.guard
    cases rx
    cases ry
    exact ⟨_, _, rfl, rfl, (of_decide_eq_true c : _ ∧ _ ∧ _), p.ok R (.int _)⟩
  · exact p.elim
theorem o_neg : Op1 X (rU fun i => .int (-i)) negD := by
  intro ι h H x v W Q R rx p
  unfold negD at p
  split at p
  · cases rx
    exact ⟨_, rfl, p.ok R (.int _)⟩
  · exact p.elim
variable {W : WX} {pos : Pos} {a b : Expr} {ca cb : Env → M D}
theorem de_add (ha : DE X W a ca) (hb : DE X W b cb) : DE X W (.BinOp a .Add b pos) (e2 addD ca cb) := de_bin or_add o_add ha hb
theorem de_sub (ha : DE X W a ca) (hb : DE X W b cb) : DE X W (.BinOp a .Sub b pos) (e2 subD ca cb) := de_bin op_sub o_sub ha hb
theorem de_mul (ha : DE X W a ca) (hb : DE X W b cb) : DE X W (.BinOp a .Mult b pos) (e2 mulD ca cb) := de_bin or_mul o_mul ha hb
theorem de_div (ha : DE X W a ca) (hb : DE X W b cb) : DE X W (.BinOp a .FloorDiv b pos) (e2 divD ca cb) := de_bin op_fdivX o_div ha hb
theorem de_mod (ha : DE X W a ca) (hb : DE X W b cb) : DE X W (.BinOp a .Mod b pos) (e2 modD ca cb) := de_bin op_mod o_mod ha hb
theorem de_pow (ha : DE X W a ca) (hb : DE X W b cb) : DE X W (.BinOp a .Pow b pos) (e2 powD ca cb) := de_bin op_pow o_pow ha hb
theorem de_neg (ha : DE X W a ca) : DE X W (.UnaryOp .USub a pos) (e1 negD ca) := de_un un_neg o_neg ha
end
end Dl

/-! The D layer, 3: comparisons, tests. -/
namespace Dl
open PySem PySem.Spec PyProof.Rows L2
variable [Tb]

/-- as the library's own data, to a depth -/
def toPy (h : Hs) : Nat → D → Option PyData
  | 0, d => (match d with
    | .non => some .none
    | .bl b => some (.bool b)
    | .int i => some (.int i)
    | .str x => some (.str x)
    | _ => none)
  | n + 1, d => (match d with
    | .non => some .none
    | .bl b => some (.bool b)
    | .int i => some (.int i)
    | .str x => some (.str x)
    | .tup xs => (optAll (toPy h n) xs).map .tuple
    | .lst xs => (optAll (toPy h n) xs).map .list
    | .obj k => (match h[k]? with
      | some (.lst xs) => (optAll (toPy h n) xs).map .list
      | _ => none)
    | _ => none)
section
variable {K : PySem.W.Frag} {ι : Ix} {H : Hp} {h : Hs}
theorem optAll_ok {f : D → Option PyData} (hf : ∀ d v p, RD K ι H d v → f d = some p → Dp K H v p) : ∀ {xs : List D} {vs : List V} {ps : List PyData}, RDs K ι H xs vs → optAll f xs = some ps → DpAll K H vs ps
  | [], _, _, .nil, e => by cases e; exact .nil
  | x :: xs, _, ps, .cons r rs, e => by
    unfold optAll at e
    split at e
    · rename_i y ys h1 h2
      cases e
      exact .cons (hf _ _ _ r h1) (optAll_ok hf rs h2)
    · cases e
theorem toPy_ok (R : Rel K ι h H) : ∀ (n : Nat) (d : D) (v : V) (p : PyData), RD K ι H d v → toPy h n d = some p → Dp K H v p
  | 0, d, v, p, r, e => by
    cases r <;> first
      | (cases e; first | exact .non | exact .bl _ | exact .int _ | exact .str _)
      | (cases e; done)
  | n + 1, d, v, p, r, e => by
    have ih := toPy_ok R n
    cases r with
    | non => cases e; exact .non
    | bl b => cases e; exact .bl _
    | int i => cases e; exact .int _
    | str x => cases e; exact .str _
    | tup t q =>
      obtain ⟨ps, e1, e2⟩ := Option.map_eq_some_iff.mp (show (optAll (toPy h n) _).map PyData.tuple = some p from e)
      subst e2
      exact .tup t.sq (optAll_ok ih q e1)
    | lst l q =>
      obtain ⟨ps, e1, e2⟩ := Option.map_eq_some_iff.mp (show (optAll (toPy h n) _).map PyData.list = some p from e)
      subst e2
      exact .lst l.sq (optAll_ok ih q e1)
    | @obj k a g =>
      have e : (match h[k]? with
      | some (.lst xs) => (optAll (toPy h n) xs).map PyData.list
      | _ => none) = some p := e
      cases hk : h[k]? with
      | none => rw [hk] at e; cases e
      | some o =>
        rw [hk] at e
        cases o with
        | lst xs =>
          obtain ⟨ps, e1, e2⟩ := Option.map_eq_some_iff.mp e
          subst e2
          obtain ⟨vs, h1, h2⟩ := R.at g hk
          exact .lst (SqL.of h1) (optAll_ok ih h2 e1)
        | _ => cases e
    | _ => cases e
end
def pyDepth : Nat := 63
def eqPy (x y : D) (neg : Bool) : M D := fun h => match toPy h pyDepth x, toPy h pyDepth y with
  | some p, some q => if SeqAt.shaped p && SeqAt.shaped q then .ok (.bl (if neg then !PyData.eqv p q else PyData.eqv p q)) h else .bad
  | _, _ => .bad
def eqD (x y : D) : M D := eqPy x y false
def neD (x y : D) : M D := eqPy x y true
def cmpD (f : Int → Int → Bool) (x y : D) : M D := fun h => match x, y with
  | .int i, .int j => .ok (.bl (f i j)) h
  | _, _ => .bad
def ltD := cmpD fun i j => decide (i < j)
def leD := cmpD fun i j => decide (i ≤ j)
def gtD := cmpD fun i j => decide (j < i)
def geD := cmpD fun i j => decide (j ≤ i)
def keyOf : D → Option Key
  | .int i => some (.inl i)
  | .str x => some (.inr x)
  | _ => none
def seqOf (h : Hs) : D → Option (List D)
  | .tup xs => some xs
  | d => items h d
def look {κ : Type} [DecidableEq κ] (kvs : List (κ × D)) (k : κ) : Option D := (kvs.find? fun p => decide (p.1 = k)).map (·.2)
/-- x in y -/
def inGen (neg : Bool) (x y : D) : M D := fun h => match y with
  | .str b => (match x with
    | .str a => .ok (.bl (if neg then !(!(Builtin.Str.occurrences b a 0 b.length 1).isEmpty) else !(Builtin.Str.occurrences b a 0 b.length 1).isEmpty)) h
    | _ => .bad)
  | y => (match seqOf h y with
    | some ys => (match toPy h pyDepth x, optAll (toPy h pyDepth) ys with
      | some p, some ps => if SeqAt.shaped p && SeqAt.shaped (.tuple ps) then .ok (.bl (if neg then !(ps.any fun z => PyData.eqv z p) else ps.any fun z => PyData.eqv z p)) h else .bad
      | _, _ => .bad)
    | none => (match y with
      | .obj n => (match dctKV h n, keyOf x with
        | some kvs, some k => .ok (.bl (if neg then !(look kvs k).isSome else (look kvs k).isSome)) h
        | _, _ => .bad)
      | _ => .bad))
def inD := inGen false
section
variable {X : Cx}
theorem o_eq : Op2 X (rEqD X.K) eqD := by
  intro ι h H x y v u W Q R rx ry p
  unfold eqD eqPy at p
  split at p
  · rename_i a b h1 h2
    obtain ⟨c, p⟩ := p.guard
    obtain ⟨c1, c2⟩ := Bool.and_eq_true_iff.mp c
    exact ⟨a, b, toPy_ok R _ _ _ _ rx h1, toPy_ok R _ _ _ _ ry h2, c1, c2, p.ok R (.bl _)⟩
  · exact p.elim
theorem o_ne : Op2 X (rNeD X.K) neD := by
  intro ι h H x y v u W Q R rx ry p
  unfold neD eqPy at p
  split at p
  · rename_i a b h1 h2
    obtain ⟨c, p⟩ := p.guard
    obtain ⟨c1, c2⟩ := Bool.and_eq_true_iff.mp c
    exact ⟨a, b, toPy_ok R _ _ _ _ rx h1, toPy_ok R _ _ _ _ ry h2, c1, c2, p.ok R (.bl _)⟩
  · exact p.elim
theorem o_cmp {f : Int → Int → Bool} : Op2 X (rI0 fun i j => .bl (f i j)) (cmpD f) := by
  intro ι h H x y v u W Q R rx ry p
  unfold cmpD at p
  split at p
  · cases rx
    cases ry
    exact ⟨_, _, rfl, rfl, p.ok R (.bl _)⟩
  · exact p.elim
/-- in a tuple -/
def rInTD (K : PySem.W.Frag) (neg : Bool) : R2 := fun x y H Q => ∃ d ds, Dp K H x d ∧ Dp K H y (.tuple ds) ∧ SeqAt.shaped d = true ∧ SeqAt.shaped (.tuple ds) = true ∧ Q (.bl (if neg then !(ds.any fun z => PyData.eqv z d) else ds.any fun z => PyData.eqv z d)) H
theorem op_inTD (hu : X.A.units + 65 < cLine) : OpR X (compareOp .In) (rInTD X.K false) := by
  intro pins s σ H x y v u Q I rx ry h
  obtain ⟨d, ds, hd, he, sd, se, q⟩ := h
  obtain ⟨as, r1⟩ := Dp.reads I d x v hd rx
  obtain ⟨bs, r2⟩ := Dp.reads I (.tuple ds) y u he ry
  exact SeqAt.in_tuple_reads r2 r1 (SeqAt.canLay_of_shaped se) (SeqAt.canLay_of_shaped sd) (room_in_shaped sd hu) ⟨.bl _, H, I, rfl, q⟩
end
end Dl

/-! The D layer, 4: in, and or not, displays, calls, fields, subscripts, slices. -/
namespace Dl
open PySem PySem.Spec PyProof.Rows L2
variable [Tb]

section
variable {K : PySem.W.Frag} {ι : Ix} {H : Hp} {h : Hs}
theorem keyOf_kV {x : D} {v : V} {k : Key} (r : RD K ι H x v) (e : keyOf x = some k) : v = kV k := by
  cases r <;> first
    | (cases e; rfl)
    | (cases e; done)
theorem look_rf {κ : Type} [DecidableEq κ] {k : κ} : ∀ {kvs : List (κ × D)} {us : List (κ × V)}, RF K ι H kvs us →
    (∀ d, look kvs k = some d → ∃ v, valV us k = some v ∧ RD K ι H d v) ∧ (look kvs k = none → valV us k = none)
  | _, _, .nil => ⟨fun d e => (nomatch e), fun _ => rfl⟩
  | p :: kvs, q :: us, .cons g r => by
    obtain ⟨i1, i2⟩ := look_rf (k := k) r
    by_cases e : p.1 = k
    · have e2 : q.1 = k := by rw [← g.1]; exact e
      refine ⟨fun d z => ?_, fun z => ?_⟩
      · have z1 : look (p :: kvs) k = some p.2 := by simp [look, List.find?_cons, e]
        rw [z1] at z
        cases z
        exact ⟨q.2, valV_pos e2, g.2⟩
      · have z1 : look (p :: kvs) k = some p.2 := by simp [look, List.find?_cons, e]
        rw [z1] at z
        cases z
    · have e2 : ¬ q.1 = k := by rw [← g.1]; exact e
      have z1 : look (p :: kvs) k = look kvs k := by simp [look, List.find?_cons, e]
      rw [z1, valV_neg e2]
      exact ⟨i1, i2⟩
theorem look_isSome {κ : Type} [DecidableEq κ] {k : κ} {kvs : List (κ × D)} {us : List (κ × V)} (r : RF K ι H kvs us) : (valV us k).isSome = (look kvs k).isSome := by
  obtain ⟨i1, i2⟩ := look_rf (k := k) r
  cases e : look kvs k with
  | none => rw [i2 e] <;> rfl
  | some d =>
    obtain ⟨v, z, _⟩ := i1 d e
    rw [z]
    rfl
theorem seqOf_ok (R : Rel K ι h H) {x : D} {v : V} {xs : List D} (r : RD K ι H x v) (e : seqOf h x = some xs) : ∃ a vs, v = .ref a ∧ (SqL K H a vs ∨ SqT K H a vs) ∧ RDs K ι H xs vs := by
  cases r with
  | tup t q => cases e; exact ⟨_, _, rfl, .inr t.sq, q⟩
  | lst l q => cases e; exact ⟨_, _, rfl, .inl l.sq, q⟩
  | @obj n a g =>
    obtain ⟨a, vs, e1, e2, e3⟩ := items_ok R (.obj g) (show items h (.obj n) = some xs from e)
    exact ⟨a, vs, e1, .inl (SqL.of e2), e3⟩
  | _ => cases e
theorem seqOf_dp (R : Rel K ι h H) {x : D} {v : V} {xs : List D} {ps : List PyData} (r : RD K ι H x v) (e : seqOf h x = some xs) (f : optAll (toPy h pyDepth) xs = some ps) : Dp K H v (.list ps) ∨ Dp K H v (.tuple ps) := by
  obtain ⟨a, vs, rfl, q, rs⟩ := seqOf_ok R r e
  have z := optAll_ok (toPy_ok R pyDepth) rs f
  rcases q with q | q
  · exact .inl (.lst q z)
  · exact .inr (.tup q z)
end
theorem shaped_lt (ps : List PyData) : SeqAt.shaped (.tuple ps) = SeqAt.shaped (.list ps) := by
  unfold SeqAt.shaped
  have e1 : PyData.canLay0 (.tuple ps) = PyData.canLay0 (.list ps) := by simp only [PyData.canLay0]
  have e2 : PyData.depth (.tuple ps) = PyData.depth (.list ps) := by simp only [PyData.depth]
  rw [e1, e2]
section
variable {X : Cx}
def rInDct (neg : Bool) : R2 := fun x y H Q => ∃ a o, y = .ref a ∧ DGet H a x o ∧ Q (.bl (if neg then !o.isSome else o.isSome)) H
theorem op_inDct (hu : X.A.units + 1 < cLine) : OpR X (compareOp .In) (rInDct false) := by
  intro pins s σ H x y v u Q I rx ry h
  obtain ⟨a, o, rfl, g, q⟩ := h
  cases ry
  exact d_in hu I g rx fun s3 I3 => ⟨.bl o.isSome, H, I3, rfl, q⟩
def rInStr (neg : Bool) : R2 := fun x y H Q => ∃ i j, x = .str i ∧ y = .str j ∧ Q (.bl (if neg then !(!(Builtin.Str.occurrences j i 0 j.length 1).isEmpty) else !(Builtin.Str.occurrences j i 0 j.length 1).isEmpty)) H
def rInLD (K : PySem.W.Frag) (neg : Bool) : R2 := fun x y H Q => ∃ d ds, Dp K H x d ∧ Dp K H y (.list ds) ∧ SeqAt.shaped d = true ∧ SeqAt.shaped (.list ds) = true ∧ Q (.bl (if neg then !(ds.any fun z => PyData.eqv z d) else ds.any fun z => PyData.eqv z d)) H
def gIn (K : PySem.W.Frag) (neg : Bool) : R2 := fun x y H Q => (rInLD K neg x y H Q ∨ rInTD K neg x y H Q) ∨ (rInDct neg x y H Q ∨ rInStr neg x y H Q)
theorem or_in (hu : X.A.units + 65 < cLine) : OpR X (compareOp .In) (gIn X.K false) := OpR.or (OpR.or (op_inD hu) (op_inTD hu)) (OpR.or (op_inDct (by omega)) op_in_str)
theorem o_in {neg : Bool} : Op2 X (gIn X.K neg) (inGen neg) := by
  intro ι h H x y v u W Q R rx ry p
  unfold inGen at p
  split at p
  · split at p
    · cases rx
      cases ry
      exact .inr (.inr ⟨_, _, rfl, rfl, p.ok R (.bl _)⟩)
    · exact p.elim
  · split at p
    · rename_i ys e1
      split at p
      · rename_i d ps e2 e3
        obtain ⟨c, p⟩ := p.guard
        obtain ⟨c1, c2⟩ := Bool.and_eq_true_iff.mp c
        rcases seqOf_dp R ry e1 e3 with z | z
        · exact .inl (.inl ⟨d, ps, toPy_ok R _ _ _ _ rx e2, z, c1, by rw [← shaped_lt]; exact c2, p.ok R (.bl _)⟩)
        · exact .inl (.inr ⟨d, ps, toPy_ok R _ _ _ _ rx e2, z, c1, c2, p.ok R (.bl _)⟩)
      · exact p.elim
    · split at p
      · split at p
        · rename_i n kvs k e1 e2
          cases ry with
          | obj g =>
            obtain ⟨us, h1, h2⟩ := dctKV_rd R g e1
            refine .inr (.inl ⟨_, valV us k, rfl, ?_, ?_⟩)
            · rw [keyOf_kV rx e2]
              exact .inl ⟨us, k, h1, rfl, rfl⟩
            · rw [look_isSome h2]
              exact p.ok R (.bl _)
        · exact p.elim
      · exact p.elim
variable {W : WX} {pos : Pos} {a b c : Expr} {ca cb cc : Env → M D}
theorem de_eq (hu : X.A.units + 64 < cLine) (ha : DE X W a ca) (hb : DE X W b cb) : DE X W (.Compare a [.Eq] [b] pos) (e2 eqD ca cb) := de_cmp (op_eqD hu) o_eq ha hb (nomark _)
theorem de_lt (ha : DE X W a ca) (hb : DE X W b cb) : DE X W (.Compare a [.Lt] [b] pos) (e2 ltD ca cb) := de_cmp op_lt o_cmp ha hb (nomark _)
theorem de_gt (ha : DE X W a ca) (hb : DE X W b cb) : DE X W (.Compare a [.Gt] [b] pos) (e2 gtD ca cb) := de_cmp op_gt o_cmp ha hb (nomark _)
/-- a <= b <= c -/
def eCh (f g : D → D → M D) (ca cb cc : Env → M D) : Env → M D := fun ρ h => (ca ρ h).bind fun x h1 => (cb ρ h1).bind fun y h2 => (f x y h2).bind fun z h3 => match z with
  | .bl true => (cc ρ h3).bind fun w h4 => g y w h4
  | .bl false => .ok (.bl false) h3
  | _ => .bad
theorem de_chain {o o' : CmpOp} {f g : D → D → M D} {r r' : R2} (ho : OpR X (compareOp o) r) (ho' : OpR X (compareOp o') r') (op : Op2 X r f) (op' : Op2 X r' g) (ha : DE X W a ca) (hb : DE X W b cb) (hc : DE X W c cc)
    (hm : lastMarks [o, o'] [b, c] = false) : DE X W (.Compare a [o, o'] [b, c] pos) (eCh f g ca cb cc) := pe_imp (pe_chain ho ho' ha hb hc hm) fun σ H Q ⟨ι, h, ρ, R, S, p⟩ => by
  refine ⟨ι, h, ρ, R, S, Post.imp (Post.bind p) fun x H1 ⟨ι1, h1, dx, x1, R1, r1, p1⟩ => ?_⟩
  refine ⟨ι1, h1, ρ, R1, S.mono x1, Post.imp (Post.bind p1) fun y H2 ⟨ι2, h2, dy, x2, R2, r2, p2⟩ => ?_⟩
  refine op ι2 h2 H2 dx dy x y _ _ R2 (r1.mono x2) r2 (Post.imp (Post.bind p2) fun z H3 ⟨ι3, h3, dz, x3, R3, r3, p3⟩ => ?_)
  split at p3
  · cases r3
    refine ⟨true, rfl, ?_⟩
    rw [if_pos rfl]
    refine ⟨ι3, h3, ρ, R3, S.mono ((x1.trans x2).trans x3), Post.imp (Post.bind p3) fun w H4 ⟨ι4, h4, dw, x4, R4, r4, p4⟩ => ?_⟩
    exact op' ι4 h4 H4 dy dw y w _ _ R4 (r2.mono (x3.trans x4)) r4 p4
  · cases r3
    refine ⟨false, rfl, ?_⟩
    rw [if_neg Bool.false_ne_true]
    exact p3.ok R3 (.bl _)
  · exact p3.elim
theorem de_lele (ha : DE X W a ca) (hb : DE X W b cb) (hc : DE X W c cc) (hm : lastMarks [.LtE, .LtE] [b, c] = false := by with_unfolding_all rfl) : DE X W (.Compare a [.LtE, .LtE] [b, c] pos) (eCh leD leD ca cb cc) := de_chain op_le op_le o_cmp o_cmp ha hb hc hm
/-! ### and, or, not, if as values and as tests -/
def tst (ca : Env → M D) : Env → M Bool := fun ρ h => (ca ρ h).bind fun x h1 => match x with
  | .bl b => .ok b h1
  | _ => .bad
def andT (ca cb : Env → M Bool) : Env → M Bool := fun ρ h => (ca ρ h).bind fun x h1 => if x = true then cb ρ h1 else .ok false h1
def orT (ca cb : Env → M Bool) : Env → M Bool := fun ρ h => (ca ρ h).bind fun x h1 => if x = true then .ok true h1 else cb ρ h1
def notT (ca : Env → M Bool) : Env → M Bool := fun ρ h => (ca ρ h).bind fun x h1 => .ok (!x) h1
def ifV (ct : Env → M Bool) (ca cb : Env → M D) : Env → M D := fun ρ h => (ct ρ h).bind fun x h1 => if x = true then ca ρ h1 else cb ρ h1
variable {ta tb : Env → M Bool} {rest : List Expr}
theorem de_one {op} (ha : DE X W a ca) : DE X W (.BoolOp op [a] pos) ca := pe_one ha
theorem w_cmp {o : CmpOp} {f : D → D → M D} {g : R2} (ho : OpR X (compareOp o) g) (op : Op2 X g f) (ha : DE X W a ca) (hb : DE X W b cb) (hm : behindInMarks o b = false) : DT X W (.Compare a [o] [b] pos) (tst (e2 f ca cb)) := pt_imp (pt_cmpR ho ha hb hm) fun σ H Q ⟨ι, h, ρ, R, S, p⟩ => by
  have q : wE X.K W (e2 f ca cb) σ H fun x H' => ∃ k, x = V.bl k ∧ Q k H' := by
    refine ⟨ι, h, ρ, R, S, Post.imp (Post.bind p) fun x H1 ⟨ι1, h1, dx, x1, R1, r1, p1⟩ => ?_⟩
    split at p1
    · cases r1
      exact ⟨_, rfl, p1.ok R1 rfl⟩
    · exact p1.elim
  exact w2 op q
theorem dt_eq (hu : X.A.units + 64 < cLine) (ha : DE X W a ca) (hb : DE X W b cb) : DT X W (.Compare a [.Eq] [b] pos) (tst (e2 eqD ca cb)) := w_cmp (op_eqD hu) o_eq ha hb (nomark _)
theorem dt_ne (hu : X.A.units + 64 < cLine) (ha : DE X W a ca) (hb : DE X W b cb) : DT X W (.Compare a [.NotEq] [b] pos) (tst (e2 neD ca cb)) := w_cmp (op_neD hu) o_ne ha hb (nomark _)
theorem dt_lt (ha : DE X W a ca) (hb : DE X W b cb) : DT X W (.Compare a [.Lt] [b] pos) (tst (e2 ltD ca cb)) := w_cmp op_lt o_cmp ha hb (nomark _)
theorem dt_gt (ha : DE X W a ca) (hb : DE X W b cb) : DT X W (.Compare a [.Gt] [b] pos) (tst (e2 gtD ca cb)) := w_cmp op_gt o_cmp ha hb (nomark _)
theorem dt_ge (ha : DE X W a ca) (hb : DE X W b cb) : DT X W (.Compare a [.GtE] [b] pos) (tst (e2 geD ca cb)) := w_cmp op_ge o_cmp ha hb (nomark _)
theorem dt_in (hu : X.A.units + 65 < cLine) (ha : DE X W a ca) (hb : DE X W b cb) (hm : behindInMarks .In b = false := by with_unfolding_all rfl) : DT X W (.Compare a [.In] [b] pos) (tst (e2 inD ca cb)) := w_cmp (or_in hu) o_in ha hb hm
/-- a test whatever its whole is -/
abbrev DW (X : Cx) (W : WX) (e : Expr) (c : Env → M Bool) : Prop := PW X e (wT X.K W c)
theorem pw_imp {X : Cx} {e : Expr} {t t' : TT} (h : PW X e t) (w : ∀ σ H Q, t' σ H Q → t σ H Q) : PW X e t' := ⟨fun wh pins s σ H Q I z => h.run wh pins s σ H Q I (w σ H Q z)⟩
theorem dw_and1 (ha : DT X W a ta) : DW X W (.BoolOp .And [a] pos) ta := pw_and1 ha
theorem dw_or1 (ha : DT X W a ta) : DW X W (.BoolOp .Or [a] pos) ta := pw_or1 ha
theorem dw_and (ha : DT X W a ta) (hb : DW X W (.BoolOp .And (b :: rest) pos) tb) : DW X W (.BoolOp .And (a :: b :: rest) pos) (andT ta tb) := pw_imp (pw_and ha hb) fun σ H Q ⟨ι, h, ρ, R, S, p⟩ => by
  refine ⟨ι, h, ρ, R, S, Post.imp (Post.bind p) fun x H1 ⟨ι1, h1, dx, x1, R1, r1, p1⟩ => ?_⟩
  subst r1
  cases dx with
  | true =>
    rw [if_pos rfl] at p1 ⊢
    exact ⟨ι1, h1, ρ, R1, S.mono x1, p1⟩
  | false =>
    rw [if_neg Bool.false_ne_true] at p1 ⊢
    exact p1.ok R1 rfl
theorem dw_or (ha : DT X W a ta) (hb : DW X W (.BoolOp .Or (b :: rest) pos) tb) : DW X W (.BoolOp .Or (a :: b :: rest) pos) (orT ta tb) := pw_imp (pw_or ha hb) fun σ H Q ⟨ι, h, ρ, R, S, p⟩ => by
  refine ⟨ι, h, ρ, R, S, Post.imp (Post.bind p) fun x H1 ⟨ι1, h1, dx, x1, R1, r1, p1⟩ => ?_⟩
  subst r1
  cases dx with
  | true =>
    rw [if_pos rfl] at p1 ⊢
    exact p1.ok R1 rfl
  | false =>
    rw [if_neg Bool.false_ne_true] at p1 ⊢
    exact ⟨ι1, h1, ρ, R1, S.mono x1, p1⟩
theorem dt_bool (h : DW X W a ta) : DT X W a ta := h.pt
theorem dt_not (ha : DT X W a ta) : DT X W (.UnaryOp .Not a pos) (notT ta) := pt_imp (pt_not ha) fun σ H Q ⟨ι, h, ρ, R, S, p⟩ => by
  refine ⟨ι, h, ρ, R, S, Post.imp (Post.bind p) fun x H1 ⟨ι1, h1, dx, x1, R1, r1, p1⟩ => ?_⟩
  subst r1
  exact p1.ok R1 rfl
theorem de_if (ht : DT X W c ta) (ha : DE X W a ca) (hb : DE X W b cb) : DE X W (.IfExp c a b pos) (ifV ta ca cb) := pe_imp (pe_ifExp ht ha hb) fun σ H Q ⟨ι, h, ρ, R, S, p⟩ => by
  refine ⟨ι, h, ρ, R, S, Post.imp (Post.bind p) fun x H1 ⟨ι1, h1, dx, x1, R1, r1, p1⟩ => ?_⟩
  subst r1
  cases dx with
  | true =>
    rw [if_pos rfl] at p1 ⊢
    exact ⟨ι1, h1, ρ, R1, S.mono x1, p1⟩
  | false =>
    rw [if_neg Bool.false_ne_true] at p1 ⊢
    exact ⟨ι1, h1, ρ, R1, S.mono x1, p1⟩

/-! ### arguments, displays -/
def aN : Env → M (List D) := fun _ h => .ok [] h
def aC (ca : Env → M D) (cs : Env → M (List D)) : Env → M (List D) := fun ρ h => (ca ρ h).bind fun x h1 => (cs ρ h1).bind fun xs h2 => .ok (x :: xs) h2
variable {es : List Expr} {cs : Env → M (List D)}
theorem da_nil : DA X W [] aN := pa_imp pa_nil fun σ H Q ⟨ι, h, ρ, R, S, p⟩ => p.ok R .nil
theorem da_cons (ha : DE X W a ca) (hs : DA X W es cs) (hst : starEach (a :: es) X.env = (false, eval a X.env) :: starEach es X.env := by rfl) : DA X W (a :: es) (aC ca cs) := pa_imp (pa_cons ha hs hst) fun σ H Q ⟨ι, h, ρ, R, S, p⟩ => by
  refine ⟨ι, h, ρ, R, S, Post.imp (Post.bind p) fun x H1 ⟨ι1, h1, dx, x1, R1, r1, p1⟩ => ?_⟩
  refine ⟨ι1, h1, ρ, R1, S.mono x1, Post.imp (Post.bind p1) fun xs H2 ⟨ι2, h2, dxs, x2, R2, r2, p2⟩ => ?_⟩
  exact p2.ok R2 (.cons (r1.mono x2) r2)
def eTup (cs : Env → M (List D)) : Env → M D := fun ρ h => (cs ρ h).bind fun xs h1 => if okLen xs.length then .ok (.tup xs) h1 else .bad
theorem de_tup {k : Nat} (hs : DA X W es cs) : DE X W (.Tuple es k pos) (eTup cs) := pe_imp (pe_tup hs) fun σ H Q ⟨ι, h, ρ, R, S, p⟩ => by
  refine ⟨ι, h, ρ, R, S, Post.imp (Post.bind p) fun xs H1 ⟨ι1, h1, dxs, x1, R1, r1, p1⟩ => ?_⟩
  obtain ⟨c, p1⟩ := p1.guard
  exact ⟨by rw [← r1.length]; exact okLen_ok c, fun q hq => p1.tup R1 r1 hq⟩
/-- a new list: its items -/
def nLst (cs : Env → M (List D)) : Env → M (List D) := fun ρ h => (cs ρ h).bind fun xs h1 => if okLen xs.length then .ok xs h1 else .bad
/-- it stays as it is; it may change -/
def frz (cs : Env → M (List D)) : Env → M D := fun ρ h => (cs ρ h).bind fun xs h1 => .ok (.lst xs) h1
def thaw (cs : Env → M (List D)) : Env → M D := fun ρ h => (cs ρ h).bind fun xs h1 => .ok (.obj h1.length) (h1 ++ [.lst xs])
theorem PostN.bind {K : PySem.W.Frag} {W : XK} {α β : Type} {RA : Ix → Hp → α → β → Prop} {r : R α} {f : α → M (List D)} {ι : Ix} {H : Hp} {Q : VK} (p : PostN K W (r.bind f) ι H Q) :
    Post K W RA r ι H (fun b H1 => ∃ ι1 h1 a, Ext ι H ι1 H1 ∧ Rel K ι1 h1 H1 ∧ RA ι1 H1 a b ∧ PostN K W (f a h1) ι H Q) := by
  cases r with
  | ok a h => exact fun ι' H' b e R ra => ⟨ι', h, a, e, R, ra, p⟩
  | exc C fs h => exact p
  | bad => exact p
theorem PostN.guard {K : PySem.W.Frag} {W : XK} {ι : Ix} {H : Hp} {Q : VK} {c : Bool} {r : R (List D)} (p : PostN K W (if c = true then r else .bad) ι H Q) : c = true ∧ PostN K W r ι H Q := by
  cases c with
  | true => exact ⟨rfl, p⟩
  | false => exact (show False from p).elim
theorem dn_lst (hs : DA X W es cs) : DN X W (.List es pos) (nLst cs) := pe_imp (pe_lst hs) fun σ H Q ⟨ι, h, ρ, R, S, p⟩ => by
  refine ⟨ι, h, ρ, R, S, Post.imp (PostN.bind p) fun xs H1 ⟨ι1, h1, dxs, x1, R1, r1, p1⟩ => ?_⟩
  obtain ⟨c, p1⟩ := p1.guard
  exact ⟨by rw [← r1.length]; exact okLen_ok c, fun q hq => p1.new x1 R1 r1 hq⟩
theorem Ext.more {ι ι1 : Ix} {H H1 : Hp} {l : Addr} (e : Ext ι H ι1 H1) (n : H l = none) : Ext ι H (ι1.push l) H1 := ⟨by
    obtain ⟨t, e1⟩ := e.pre
    exact ⟨t ++ [l], by show ι1.os ++ [l] = _; rw [e1, List.append_assoc]⟩, e.rs, e.keep, fun b m => by
    rcases List.mem_append.mp m with m | m
    · exact e.new b m
    · exact .inr (by rw [List.mem_singleton.mp m]; exact n), e.frz, e.dom⟩
theorem w_frz {K : PySem.W.Frag} {σ : L2.St} {H : Hp} {Q : VK} (q : wE K W (frz cs) σ H Q) : wN K W cs σ H Q := by
  obtain ⟨ι, h, ρ, R, S, p⟩ := q
  refine ⟨ι, h, ρ, R, S, ?_⟩
  unfold frz at p
  cases q : cs ρ h with
  | bad => rw [q] at p; exact p
  | exc C fs h' => rw [q] at p; exact p
  | ok xs h1 =>
    rw [q] at p
    intro ι1 H1 l vs x1 R1 r1 e n1 n2 n0
    exact p ι1 H1 _ x1 (R1.done e) (.lst ⟨⟨n1, n2⟩, e⟩ (r1.up Up.done))
theorem w_thaw {K : PySem.W.Frag} {σ : L2.St} {H : Hp} {Q : VK} (q : wE K W (thaw cs) σ H Q) : wN K W cs σ H Q := by
  obtain ⟨ι, h, ρ, R, S, p⟩ := q
  refine ⟨ι, h, ρ, R, S, ?_⟩
  unfold thaw at p
  cases q : cs ρ h with
  | bad => rw [q] at p; exact p
  | exc C fs h' => rw [q] at p; exact p
  | ok xs h1 =>
    rw [q] at p
    intro ι1 H1 l vs x1 R1 r1 e n1 n2 n0
    refine p (ι1.push l) H1 _ (x1.more n0) (R1.push n1 ⟨vs, e, r1.up Up.push⟩) (.obj ?_)
    have hl : ι1.os.length = h1.length := R1.len
    show (ι1.os ++ [l])[h1.length]? = some l
    rw [← hl, List.getElem?_append_right (Nat.le_refl _)]
    simp
theorem de_frz (hs : DN X W a cs) : DE X W a (frz cs) := pe_imp hs fun _ _ _ q => w_frz q
theorem de_thaw (hs : DN X W a cs) : DE X W a (thaw cs) := pe_imp hs fun _ _ _ q => w_thaw q
end
end Dl

/-! The D layer, 5: calls of defs, methods, classes; fields; subscripts. -/
namespace Dl
open PySem PySem.Spec PyProof.Rows L2
variable [Tb]

/-! ### a def's promise -/
def spD (K : PySem.W.Frag) (n : Nat) (m : List D → M D) : Sp := fun vs H Q E => vs.length = n ∧ ∃ ι h ds, Rel K ι h H ∧ RDs K ι H ds vs ∧ Post K E (RD K) (m ds h) ι H Q
/-- as the hand layer's FnOk, where no repr is under way -/
structure FnG (P : Program) (w : World) (K : PySem.W.Frag) (mg : Str → Option Value) (base : Heap) (CX : CXT) (k : Nat) (f : Addr) (fd : FuncData) (ps : List Str) (sp : Sp) : Prop where
  len : ∀ vs H Q E, sp vs H Q E → vs.length = ps.length
  run : ∀ (A : Around) (outer : List PySem.Env) (s : Shared) (H : Hp) (args : Args) (us : List Value) (vs : List V) (Q : VK) (E : XK), Room k A → A.guards = some [] → Env0 P w K mg base A outer s H → BindsTo s fd args (ps.zip us) → Vals vs us → sp vs H Q E →
    codeAny (model P w) A (.call (.ref f) args) (CR CX outer P w H s Q E) s
theorem FnG.mono {P : Program} {w : World} {K : PySem.W.Frag} {mg : Str → Option Value} {base : Heap} {CX : CXT} {j k : Nat} {f : Addr} {fd : FuncData} {ps : List Str} {sp : Sp} (F : FnG P w K mg base CX j f fd ps sp) (h : j ≤ k) :
    FnG P w K mg base CX k f fd ps sp := ⟨F.len, fun A outer s H args us vs Q E hr => F.run A outer s H args us vs Q E (hr.mono h)⟩
def FnD (P : Program) (w : World) (K : PySem.W.Frag) (mg : Str → Option Value) (base : Heap) (k : Nat) (f : Addr) (n : Nat) (m : List D → M D) : Prop :=
  ∃ fd ps, FnG P w K mg base (L2.CX P w) k f fd ps (spD K n m) ∧ Binds K fd ps [] ∧ PySem.W.keepIn K (.ref f) = true
theorem FnD.mono {P : Program} {w : World} {K : PySem.W.Frag} {mg : Str → Option Value} {base : Heap} {j k : Nat} {f : Addr} {n : Nat} {m : List D → M D} (F : FnD P w K mg base j f n m) (h : j ≤ k) : FnD P w K mg base k f n m := by
  obtain ⟨fd, ps, F, b, kp⟩ := F
  exact ⟨fd, ps, F.mono h, b, kp⟩
section
variable {X : Cx} {CX : CXT} {k : Nat} {f C : Addr} {fd : FuncData} {ps : List Str} {sp : Sp} {E : L2.St → XK} {x m : Str} {p pos apos : Pos} {e o : Expr} {es : List Expr} {ta : TE} {t : TA}
theorem run_fnG {pins : List (Addr × Obj)} {σ : L2.St} {H : Hp} {s : Shared} {Q : VK} {us : List Value} {vs : List V} (F : FnG X.prog X.w X.K X.mg X.base CX k f fd ps sp) (hr : Room k X.A) (gd : X.A.guards = some []) (hb : Binds X.K fd ps []) (hx : PassesAt CX X σ (E σ))
    (I : Inv X pins σ H s) (r : Vals vs us) (h : sp vs H Q (E σ)) : wpAny (model X.prog X.w) X.A (call (.ref f) us) (EP X pins σ Q) X.xe s := by
  have hl : us.length = ps.length := by rw [← r.length]; exact F.len _ _ _ _ h
  have b := hb s us I.kIn (by rw [List.append_nil]; exact hl)
  rw [List.append_nil] at b
  refine wpAny_call (codeAny_mono (F.run X.A X.stack s H ⟨us, []⟩ us vs Q (E σ) hr gd I.env0 b r h) fun r s' hq => ?_)
  cases r with
  | error e => exact hx pins H s e s' I hq
  | ok fl =>
    cases fl with
    | ret u => exact I.after hq
    | next => exact False.elim hq
    | brk => exact False.elim hq
    | cont => exact False.elim hq
theorem pe_callG (F : FnG X.prog X.w X.K X.mg X.base CX k f fd ps sp) (hr : Room k X.A) (gd : X.A.guards = some []) (hg : Gl X x) (hm : X.mg x = some (.ref f)) (hk : PySem.W.keepIn X.K (.ref f) = true) (hb : Binds X.K fd ps []) (hx : ∀ σ, PassesAt CX X σ (E σ))
    (ha : PA X (e :: es) t) (hdb : (x == ("__debug__" : Str)) = false := by decide) (he : starEach (e :: es) X.env = (false, eval e X.env) :: starEach es X.env := by rfl) (hpl : (backTo pos (starEach es X.env)).any (·.1) = false := by rfl) :
    PE X (.Call (.Name x p) (e :: es) [] pos) (tCallS sp E t) := by
  refine ⟨fun pins s σ H Q I h => ?_⟩
  refine wpAny_Call_Name_kw (ld_glob I hg hm ?_ hdb)
  refine PySem.W.callWith_K (h₀ := X.base) I.ok.mod.kin hk (thn (ha.run pos pins s σ H _ I h) fun us s1 ⟨vs, H1, I1, r, q⟩ => ⟨I1.kIn, ?_⟩) he hpl
  exact run_fnG F hr gd hb (hx σ) I1 r q
end
def eCall (n : Nat) (m : List D → M D) (cs : Env → M (List D)) : Env → M D := fun ρ h => (cs ρ h).bind fun xs h1 => if decide (xs.length = n) then m xs h1 else .bad
def fieldsAt (C : Str) (h : Hs) (x : D) : Option (List (Str × D)) := match x with
  | .obj n => (match h[n]? with
    | some (.ins C' fs) => if decide (C' = C) then some fs else none
    | _ => none)
  | _ => none
section
variable {K : PySem.W.Frag} {ι : Ix} {H : Hp} {h : Hs}
theorem fieldsAt_ok (R : Rel K ι h H) {C : Str} {x : D} {v : V} {fs : List (Str × D)} (r : RD K ι H x v) (e : fieldsAt C h x = some fs) :
    ∃ n a dx us, x = .obj n ∧ v = .ref a ∧ ι.os[n]? = some a ∧ h[n]? = some (.ins C fs) ∧ H a = some (.ins (He.ga K C) dx us) ∧ RF K ι H fs us := by
  cases r with
  | @obj n a g =>
    have e : (match h[n]? with
    | some (.ins C' fs) => if decide (C' = C) then some fs else none
    | _ => none) = some fs := e
    cases hn : h[n]? with
    | none => rw [hn] at e; cases e
    | some o =>
      rw [hn] at e
      cases o with
      | ins C' gs =>
        have e : (if decide (C' = C) = true then some gs else none) = some fs := e
        by_cases hc : C' = C
        · rw [if_pos (decide_eq_true hc)] at e
          cases e
          subst hc
          obtain ⟨dx, us, h1, h2⟩ := R.at g hn
          exact ⟨n, a, dx, us, rfl, rfl, g, hn, h1, h2⟩
        · rw [if_neg (by simpa using hc)] at e
          cases e
      | _ => cases e
  | _ => cases e
theorem rf_lookup {f : Str} : ∀ {fs : List (Str × D)} {us : List (Str × V)}, RF K ι H fs us → (∀ d, fs.lookup f = some d → ∃ v, us.lookup f = some v ∧ RD K ι H d v) ∧ (fs.lookup f = none → us.lookup f = none)
  | _, _, .nil => ⟨fun d e => (nomatch e), fun _ => rfl⟩
  | p :: fs, q :: us, .cons g r => by
    obtain ⟨i1, i2⟩ := rf_lookup (f := f) r
    obtain ⟨p1, p2⟩ := p
    obtain ⟨q1, q2⟩ := q
    have e1 : p1 = q1 := g.1
    subst e1
    rw [List.lookup_cons, List.lookup_cons]
    cases z : f == p1 with
    | true => exact ⟨fun d e => by cases e; exact ⟨_, rfl, g.2⟩, fun e => (nomatch e)⟩
    | false => exact ⟨i1, i2⟩
def putFD (f : Str) (d : D) : List (Str × D) → List (Str × D)
  | [] => [(f, d)]
  | (g, e) :: r => if g = f then (g, d) :: r else (g, e) :: putFD f d r
theorem rf_put {f : Str} {d : D} {v : V} (rd : RD K ι H d v) : ∀ {fs : List (Str × D)} {us : List (Str × V)}, RF K ι H fs us → RF K ι H (putFD f d fs) (putF f v us)
  | _, _, .nil => .cons ⟨rfl, rd⟩ .nil
  | (p1, p2) :: fs, (q1, q2) :: us, .cons g r => by
    have e1 : p1 = q1 := g.1
    subst e1
    unfold putFD putF
    by_cases z : p1 = f
    · rw [if_pos z, if_pos z]
      exact .cons ⟨rfl, rd⟩ r
    · rw [if_neg z, if_neg z]
      exact .cons g (rf_put rd r)
theorem rf_len {κ : Type} {fs : List (κ × D)} {us : List (κ × V)} (r : RF K ι H fs us) : fs.length = us.length := Paired.length r
end
def eFld (C f : Str) (ca : Env → M D) : Env → M D := fun ρ h => (ca ρ h).bind fun x h1 => match (fieldsAt C h1 x).bind (·.lookup f) with
  | some d => .ok d h1
  | none => .bad
def eMeth (C m : Str) (n : Nat) (mf : List D → M D) (ca : Env → M D) (cs : Env → M (List D)) : Env → M D := fun ρ h => (ca ρ h).bind fun x h1 => match (fieldsAt C h1 x).map (·.lookup m) with
  | some none => (cs ρ h1).bind fun xs h2 => if decide (xs.length + 1 = n) then mf (x :: xs) h2 else .bad
  | _ => .bad
def eMake (C : Str) (n : Nat) (mf : List D → M D) (cs : Env → M (List D)) : Env → M D := fun ρ h => (cs ρ h).bind fun xs h1 => if decide (xs.length + 1 = n) then
  (mf (.obj h1.length :: xs) (h1 ++ [.ins C []])).bind fun r h2 => match r with
  | .non => .ok (.obj h1.length) h2
  | _ => .bad
  else .bad
section
variable {X : Cx} {W : WX} {pos p apos : Pos} {a : Expr} {es : List Expr} {ca : Env → M D} {cs : Env → M (List D)} {k n : Nat} {mf : List D → M D} {x C m f : Str}
/-- f(a, ..) -/
theorem de_call (F : FnD X.prog X.w X.K X.mg X.base k (He.ga X.K x) n mf) (hr : Room k X.A) (gd : X.A.guards = some []) (tk : Takes X W) (hm : X.mg x = some (.ref (He.ga X.K x))) (hg : Gl X x) (ha : DA X W (a :: es) cs) (hdb : (x == ("__debug__" : Str)) = false := by decide)
    (he : starEach (a :: es) X.env = (false, eval a X.env) :: starEach es X.env := by rfl) (hpl : (backTo pos (starEach es X.env)).any (·.1) = false := by rfl) : DE X W (.Call (.Name x p) (a :: es) [] pos) (eCall n mf cs) := by
  obtain ⟨fd, ps, F, b, kp⟩ := F
  refine pe_imp (pe_callG F hr gd hg hm kp b (fun σ => passAt tk σ) ha hdb he hpl) fun σ H Q ⟨ι, h, ρ, R, S, p⟩ => ?_
  refine ⟨ι, h, ρ, R, S, Post.imp (Post.bind p) fun vs H1 ⟨ι1, h1, ds, x1, R1, r1, p1⟩ => ?_⟩
  obtain ⟨c, p1⟩ := p1.guard
  exact ⟨by rw [← r1.length]; exact of_decide_eq_true c, ι1, h1, ds, R1, r1, p1⟩
/-- o.f -/
theorem de_fld (c : Cls X.K (He.ga X.K C)) (nf : NoAttr X.K (He.ga X.K C) f) (ha : DE X W a ca) (hb : attributeBase a f X.env (eval a X.env) = eval a X.env := by rfl) : DE X W (.Attribute a f pos) (eFld C f ca) := pe_imp (pe_fld ha hb) fun σ H Q ⟨ι, h, ρ, R, S, p⟩ => by
  refine ⟨ι, h, ρ, R, S, Post.imp (Post.bind p) fun v H1 ⟨ι1, h1, dx, x1, R1, r1, p1⟩ => ?_⟩
  split at p1
  · rename_i d e
    obtain ⟨fs, e1, e2⟩ := Option.bind_eq_some_iff.mp e
    obtain ⟨n, q, dx, us, rfl, rfl, g, hn, hq, rf⟩ := fieldsAt_ok R1 r1 e1
    obtain ⟨w, h2, r2⟩ := (rf_lookup (f := f) rf).1 d e2
    exact ⟨q, _, dx, us, w, rfl, hq, c, nf, h2, p1.ok R1 r2⟩
  · exact p1.elim
/-! ### C(..) -/
def tMakeS (C : Addr) (sp : Sp) (E : L2.St → XK) (t : TA) : TE := fun σ H Q => t σ H fun vs H1 => ∀ x dx, H1 x = none → H1 dx = none → dx ≠ x →
  sp (.ref x :: vs) (upd (upd H1 dx (.own x)) x (.ins C dx [])) (fun v H2 => v = .non ∧ Q (.ref x) H2) (E σ)
theorem make_guards {A : Around} {C : Addr} {us : List Value} {kw : List (Str × Value)} (gd : A.guards = some []) : (A.under (.builtin "type.__call__" ⟨.ref C :: us, kw⟩)).guards = some [] := by
  have e : (Code.builtin "type.__call__" ⟨.ref C :: us, kw⟩).guards = [] := by
    first
      | rfl
      | simp [Code.guards, Code.isGuard, guardIds]
  show pushGuards (Code.builtin "type.__call__" ⟨.ref C :: us, kw⟩).guards A.guards = some []
  rw [e, gd]
  rfl
theorem run_makeS {CX : CXT} {C f : Addr} {fd : FuncData} {ps : List Str} {sp : Sp} {E : XK} {pins : List (Addr × Obj)} {σ : L2.St} {H : Hp} {s : Shared} {Q : VK} {us : List Value} {vs : List V} (M : Mk X.K C f) (F : FnG X.prog X.w X.K X.mg X.base CX k f fd ps sp) (hr : Room (k + 1) X.A) (gd : X.A.guards = some [])
    (hb : Binds X.K fd ps []) (hx : PassesAt CX X σ E) (I : Inv X pins σ H s) (r : Vals vs us)
    (h : ∀ x dx, H x = none → H dx = none → dx ≠ x → sp (.ref x :: vs) (upd (upd H dx (.own x)) x (.ins C dx [])) (fun v H2 => v = .non ∧ Q (.ref x) H2) E) :
    wpAny (model X.prog X.w) X.A (call (.ref C) us) (EP X pins σ Q) X.xe s := by
  have hq := h (s.heap.objs.size + 1) s.heap.objs.size (I.hok.fresh (Nat.le_succ _)) (I.hok.fresh (Nat.le_refl _)) (Nat.ne_of_lt (Nat.lt_succ_self _))
  have I2 := Inv.made (C := C) I
  have r2 : Vals (V.ref (s.heap.objs.size + 1) :: vs) (Value.ref (s.heap.objs.size + 1) :: us) := .cons rfl r
  have hl : (Value.ref (s.heap.objs.size + 1) :: us).length = ps.length := by
    have e := r2.length
    rw [F.len _ _ _ _ hq] at e
    exact e.symm
  have b := hb _ (Value.ref (s.heap.objs.size + 1) :: us) I2.kIn (by rw [List.append_nil]; exact hl)
  rw [List.append_nil] at b
  refine wpAny_call (make_map (f := f) I.kIn M.makes M.init (beq_iff_eq.mp M.fn) (codeAny_mono (F.run _ X.stack _ _ ⟨Value.ref (s.heap.objs.size + 1) :: us, []⟩ (Value.ref (s.heap.objs.size + 1) :: us) _ _ E (hr.make C us []) (make_guards gd)
    (I2.env0.make C us []) b r2 hq) fun r s' hq' => ?_))
  cases r with
  | error e => exact hx pins _ _ e s' I2 hq'
  | ok fl =>
    cases fl with
    | ret u =>
      obtain ⟨v, H', I3, rv, ev, q3⟩ := I2.after hq'
      subst ev
      exact ⟨rv, ⟨V.ref (s.heap.objs.size + 1), H', I3, rfl, q3⟩⟩
    | next => exact False.elim hq'
    | brk => exact False.elim hq'
    | cont => exact False.elim hq'
theorem pe_makeS {CX : CXT} {C f : Addr} {fd : FuncData} {ps : List Str} {sp : Sp} {E : L2.St → XK} {t : TA} (M : Mk X.K C f) (F : FnG X.prog X.w X.K X.mg X.base CX k f fd ps sp) (hr : Room (k + 1) X.A) (gd : X.A.guards = some []) (hg : Gl X x) (hm : X.mg x = some (.ref C)) (hb : Binds X.K fd ps [])
    (hx : ∀ σ, PassesAt CX X σ (E σ)) (ha : PA X (a :: es) t) (hdb : (x == ("__debug__" : Str)) = false := by decide) (he : starEach (a :: es) X.env = (false, eval a X.env) :: starEach es X.env := by rfl) (hpl : (backTo pos (starEach es X.env)).any (·.1) = false := by rfl) :
    PE X (.Call (.Name x p) (a :: es) [] pos) (tMakeS C sp E t) := by
  refine ⟨fun pins s σ H Q I h => ?_⟩
  refine wpAny_Call_Name_kw (ld_glob I hg hm ?_ hdb)
  refine PySem.W.callWith_K (h₀ := X.base) I.ok.mod.kin M.kp (thn (ha.run pos pins s σ H _ I h) fun us s1 ⟨vs, H1, I1, r, q⟩ => ⟨I1.kIn, ?_⟩) he hpl
  exact run_makeS M F hr gd hb (hx σ) I1 r q
theorem w_make {σ : L2.St} {H : Hp} {Q : VK} {t : TA} {cs' : Env → M (List D)} (ht : ∀ σ H Q, wA X.K W cs' σ H Q → t σ H Q) (q : wE X.K W (eMake C n mf cs') σ H Q) : tMakeS (He.ga X.K C) (spD X.K n mf) (WE W) t σ H Q := by
  obtain ⟨ι, h, ρ, R, S, p⟩ := q
  refine ht _ _ _ ⟨ι, h, ρ, R, S, Post.imp (Post.bind p) fun vs H1 ⟨ι1, h1, ds, x1, R1, r1, p1⟩ => ?_⟩
  obtain ⟨c, p1⟩ := p1.guard
  intro y dy hy hdy ne
  have k : ∀ b u, H1 b = some u → upd (upd H1 dy (.own y)) y (.ins (He.ga X.K C) dy []) b = some u := fun b u e => by
    rw [upd_ne (ne_of_none e hy), upd_ne (ne_of_none e hdy)]
    exact e
  have n2 : upd (upd H1 dy (.own y)) y (.ins (He.ga X.K C) dy []) y ≠ none := by rw [upd_same]; exact fun z => nomatch z
  have x2 : Ext ι1 H1 (ι1.push y) (upd (upd H1 dy (.own y)) y (.ins (He.ga X.K C) dy [])) := .alloc hy k
  have R2 := R1.alloc (o := .ins C []) hy k n2 ⟨dy, [], upd_same, .nil⟩
  refine ⟨by rw [List.length_cons, ← r1.length]; exact of_decide_eq_true c, ι1.push y, _, _, R2, .cons (.obj (push_at R1)) (r1.mono x2), ?_⟩
  have p1 := p1.ext x2
  refine Post.imp (Post.bind p1) fun v H3 ⟨ι3, h3, r, x3, R3, r3, p3⟩ => ?_
  split at p3
  · cases r3
    exact ⟨rfl, p3.ok R3 (.obj (x3.get (push_at R1)))⟩
  · exact p3.elim
theorem de_make (F : FnD X.prog X.w X.K X.mg X.base k (He.ma X.K (He.ga X.K C) "__init__") n mf) (M : Mk X.K (He.ga X.K C) (He.ma X.K (He.ga X.K C) "__init__")) (hr : Room (k + 1) X.A) (gd : X.A.guards = some []) (tk : Takes X W) (hm : X.mg C = some (.ref (He.ga X.K C))) (hg : Gl X C) (ha : DA X W (a :: es) cs)
    (hdb : (C == ("__debug__" : Str)) = false := by decide) (he : starEach (a :: es) X.env = (false, eval a X.env) :: starEach es X.env := by rfl) (hpl : (backTo pos (starEach es X.env)).any (·.1) = false := by rfl) : DE X W (.Call (.Name C p) (a :: es) [] pos) (eMake C n mf cs) := by
  obtain ⟨fd, ps, F, b, kp⟩ := F
  exact pe_imp (pe_makeS M F hr gd hg hm b (fun σ => passAt tk σ) ha hdb he hpl) fun σ H Q q => w_make (fun _ _ _ z => z) q
end
end Dl

/-! The D layer, 6: subscripts, slices, built-in functions. -/
namespace Dl
open PySem PySem.Spec PyProof.Rows L2
variable [Tb]

/-! ### a[i] -/
def itemD (x y : D) : M D := fun h => match x, y with
  | .str z, .int i => if okLen z.length then (match atI z.cps.toList i with
    | some c => .ok (.str ⟨#[c]⟩) h
    | none => .bad) else .bad
  | x, y => (match seqOf h x with
    | some xs => (match y with
      | .int i => (match atI xs i with
        | some d => .ok d h
        | none => .bad)
      | _ => .bad)
    | none => (match x with
      | .obj n => (match dctKV h n, keyOf y with
        | some kvs, some k => (match look kvs k with
          | some d => .ok d h
          | none => .bad)
        | _, _ => .bad)
      | _ => .bad))
section
variable {X : Cx}
def rIxDct : R2 := fun x y H Q => ∃ a v, x = .ref a ∧ DGet H a y (some v) ∧ Q v H
theorem ix_dct (hu : X.A.units + 1 < cLine) : IxR X rIxDct := by
  intro value slice pins s σ H x y v u Q I rx ry h hs
  obtain ⟨a, w, rfl, g, q⟩ := h
  cases rx
  exact tail_any (dict_typeIs I g) PySem.F.slot_dict_getitem.lookup (d_getItem hu I g ry fun w' s3 I3 rw' => ⟨w, H, I3, rw', q⟩) hs
def gIx (K : PySem.W.Frag) : R2 := fun x y H Q => rIx K x y H Q ∨ rIxDct x y H Q
theorem ix_all (hu : X.A.units + 1 < cLine) : IxR X (gIx X.K) := IxR.or ix_seq (ix_dct hu)
theorem atI_rd {K : PySem.W.Frag} {ι : Ix} {H : Hp} {xs : List D} {vs : List V} {i : Int} {d : D} (r : RDs K ι H xs vs) (e : atI xs i = some d) : ∃ v, atI vs i = some v ∧ RD K ι H d v := by
  unfold atI at e ⊢
  rw [← r.length]
  obtain ⟨j, e1, e2⟩ := Option.bind_eq_some_iff.mp e
  obtain ⟨v, h1, h2⟩ := r.get e2
  exact ⟨v, by rw [e1]; exact h1, h2⟩
theorem o_item : Op2 X (gIx X.K) itemD := by
  intro ι h H x y v u W Q R rx ry p
  unfold itemD at p
  split at p
  · obtain ⟨c, p⟩ := p.guard
    split at p
    · rename_i e
      cases rx
      cases ry
      exact .inl (.inr (.inr ⟨_, _, _, rfl, rfl, okLen_ok c, e, p.ok R (.str _)⟩))
    · exact p.elim
  · split at p
    · rename_i e1
      split at p
      · split at p
        · rename_i d e2
          obtain ⟨a, vs, rfl, q, rs⟩ := seqOf_ok R rx e1
          obtain ⟨w, h1, h2⟩ := atI_rd rs e2
          cases ry
          rcases q with q | q
          · exact .inl (.inl ⟨a, vs, _, w, rfl, rfl, q, h1, p.ok R h2⟩)
          · exact .inl (.inr (.inl ⟨a, vs, _, w, rfl, rfl, q, h1, p.ok R h2⟩))
        · exact p.elim
      · exact p.elim
    · split at p
      · split at p
        · rename_i n kvs k e1 e2
          split at p
          · rename_i d e3
            cases rx with
            | obj g =>
              obtain ⟨us, h1, h2⟩ := dctKV_rd R g e1
              obtain ⟨w, z1, z2⟩ := (look_rf (k := k) h2).1 d e3
              refine .inr ⟨_, w, rfl, ?_, p.ok R z2⟩
              rw [keyOf_kV ry e2, ← z1]
              exact .inl ⟨us, k, h1, rfl, rfl⟩
          · exact p.elim
        · exact p.elim
      · exact p.elim
variable {W : WX} {pos : Pos} {a b c : Expr} {ca cb cc : Env → M D}
theorem de_item (hu : X.A.units + 1 < cLine) (ha : DE X W a ca) (hb : DE X W b cb) (hs : PlainIx b := by intro _ _; rfl) : DE X W (.Subscript a b pos) (e2 itemD ca cb) := de_ix (ix_all hu) o_item ha hb hs

/-! ### a[lo:hi] -/
def cutL {α : Type} (xs : List α) (lo hi : Option Int) : List α := (xs.drop (HT.sIx xs.length 0 lo)).take (HT.sIx xs.length xs.length hi - HT.sIx xs.length 0 lo)
def sliceN (x : D) (lo hi : Option Int) : M (List D) := fun h => match x with
  | .scr ns => .ok ((cutL ns lo hi).map .int) h
  | x => (match items h x with
    | some xs => .ok (cutL xs lo hi) h
    | none => .bad)
def sliceD (x : D) (lo hi : Option Int) : M D := fun h => match x with
  | .tup xs => .ok (.tup (cutL xs lo hi)) h
  | .str z => if okLen z.length then .ok (.str (cutS z lo hi)) h else .bad
  | x => (sliceN x lo hi h).bind fun xs h1 => .ok (.lst xs) h1
def pN : Env → M (Option Int) := fun _ h => .ok none h
def pS (ca : Env → M D) : Env → M (Option Int) := fun ρ h => (ca ρ h).bind fun x h1 => match x with
  | .int i => .ok (some i) h1
  | _ => .bad
def eSl (ca : Env → M D) (cl cu : Env → M (Option Int)) : Env → M D := fun ρ h => (ca ρ h).bind fun x h1 => (cl ρ h1).bind fun lo h2 => (cu ρ h2).bind fun hi h3 => sliceD x lo hi h3
def nSl (ca : Env → M D) (cl cu : Env → M (Option Int)) : Env → M (List D) := fun ρ h => (ca ρ h).bind fun x h1 => (cl ρ h1).bind fun lo h2 => (cu ρ h2).bind fun hi h3 => sliceN x lo hi h3
def wO (K : PySem.W.Frag) (W : WX) (c : Env → M (Option Int)) : TO := fun σ H Q => ∃ ι h ρ, Rel K ι h H ∧ RS K ι H ρ σ ∧ Post K (fun x d H' => W x d σ H') (fun _ _ a b => a = b) (c ρ h) ι H Q
abbrev DO' (X : Cx) (W : WX) (e : Option Expr) (c : Env → M (Option Int)) : Prop := PO X e (wO X.K W c)
theorem po_imp {e : Option Expr} {t t' : TO} (h : PO X e t) (w : ∀ σ H Q, t' σ H Q → t σ H Q) : PO X e t' := ⟨fun pins s σ H Q I z => h.run pins s σ H Q I (w σ H Q z)⟩
theorem do_none : DO' X W none pN := po_imp po_none fun σ H Q ⟨ι, h, ρ, R, S, p⟩ => p.ok R rfl
theorem do_some (ha : DE X W a ca) : DO' X W (some a) (pS ca) := po_imp (po_some ha) fun σ H Q ⟨ι, h, ρ, R, S, p⟩ => by
  refine ⟨ι, h, ρ, R, S, Post.imp (Post.bind p) fun x H1 ⟨ι1, h1, dx, x1, R1, r1, p1⟩ => ?_⟩
  split at p1
  · cases r1
    exact ⟨_, rfl, p1.ok R1 rfl⟩
  · exact p1.elim
def gSl (K : PySem.W.Frag) : V → Option Int → Option Int → Hp → VK → Prop := fun x lo hi H Q => rSlA K x lo hi H Q ∨ (rSlL K x lo hi H Q ∨ rSlS x lo hi H Q)
theorem sl_all : SlR X (gSl X.K) := SlR.or sl_tupA (SlR.or sl_list sl_str)
theorem cutL_rds {K : PySem.W.Frag} {ι : Ix} {H : Hp} {xs : List D} {vs : List V} {lo hi : Option Int} (r : RDs K ι H xs vs) : RDs K ι H (cutL xs lo hi) (cutV vs lo hi) := by
  unfold cutL cutV
  rw [← r.length]
  exact (r.drop _).take _
theorem cutL_whole {α : Type} {xs : List α} {lo hi : Option Int} (h1 : HT.sIx xs.length 0 lo = 0) (h2 : HT.sIx xs.length xs.length hi = xs.length) : cutL xs lo hi = xs := by
  unfold cutL
  rw [h1, h2]
  simp
theorem cutL_map {α β : Type} (f : α → β) (xs : List α) (lo hi : Option Int) : (cutL xs lo hi).map f = cutL (xs.map f) lo hi := by
  unfold cutL
  rw [List.map_take, List.map_drop, List.length_map]
theorem cutV_eq (xs : List V) (lo hi : Option Int) : cutV xs lo hi = cutL xs lo hi := rfl
theorem sliceN_ok {K : PySem.W.Frag} {ι ιb : Ix} {H Hb : Hp} {h : Hs} {x : D} {v : V} {lo hi : Option Int} {W : XK} {Q : VK} (e : Ext ιb Hb ι H) (R : Rel K ι h H) (r : RD K ι H x v) (p : PostN K W (sliceN x lo hi h) ιb Hb Q) : gSl K v lo hi H Q := by
  unfold sliceN at p
  split at p
  · rename_i ns
    cases r with
    | scr sc =>
      refine .inr (.inl ⟨_, _, rfl, sc.sq, fun q hq => ?_⟩)
      rw [cutV_eq, ← cutL_map]
      exact p.new e R RDs.ofInts hq
  · split at p
    · rename_i xs e1
      obtain ⟨b, vs, rfl, hb, rs⟩ := items_ok R r e1
      exact .inr (.inl ⟨b, vs, rfl, SqL.of hb, fun q hq => p.new e R (cutL_rds rs) hq⟩)
    · exact p.elim
theorem sliceD_ok {K : PySem.W.Frag} {ι : Ix} {H : Hp} {h : Hs} {x : D} {v : V} {lo hi : Option Int} {W : XK} {Q : VK} (R : Rel K ι h H) (r : RD K ι H x v) (p : Post K W (RD K) (sliceD x lo hi h) ι H Q) : gSl K v lo hi H Q := by
  unfold sliceD at p
  split at p
  · rename_i xs
    cases r with
    | tup t q =>
      refine .inl ⟨_, _, rfl, t.sq, fun z => ?_, fun _ y hy => ?_⟩
      · rw [← q.length] at z
        rw [cutL_whole z.1 z.2] at p
        exact p.ok R (.tup t q)
      · exact p.tup R (cutL_rds q) hy
  · obtain ⟨c, p⟩ := p.guard
    cases r
    exact .inr (.inr ⟨_, rfl, okLen_ok c, p.ok R (.str _)⟩)
  · refine sliceN_ok (ιb := ι) (Hb := H) (W := W) .refl R r ?_
    cases q : sliceN x lo hi h with
    | bad => rw [q] at p; exact p
    | exc C fs h' => rw [q] at p; exact p
    | ok xs h1 =>
      rw [q] at p
      intro ι1 H1 l vs x1 R1 r1 e n1 n2 n0
      exact p ι1 H1 _ x1 (R1.done e) (.lst ⟨⟨n1, n2⟩, e⟩ (r1.up Up.done))
theorem de_sl {lo hi : Option Expr} {p2 : Pos} {cl cu : Env → M (Option Int)} (ha : DE X W a ca) (hl : DO' X W lo cl) (hh : DO' X W hi cu) : DE X W (.Subscript a (.Slice lo hi none p2) pos) (eSl ca cl cu) := pe_imp (pe_slice sl_all ha hl hh) fun σ H Q ⟨ι, h, ρ, R, S, p⟩ => by
  refine ⟨ι, h, ρ, R, S, Post.imp (Post.bind p) fun x H1 ⟨ι1, h1, dx, x1, R1, r1, p1⟩ => ?_⟩
  refine ⟨ι1, h1, ρ, R1, S.mono x1, Post.imp (Post.bind p1) fun l H2 ⟨ι2, h2, dl, x2, R2, r2, p2⟩ => ?_⟩
  refine ⟨ι2, h2, ρ, R2, S.mono (x1.trans x2), Post.imp (Post.bind p2) fun u H3 ⟨ι3, h3, du, x3, R3, r3, p3⟩ => ?_⟩
  subst r2 r3
  exact sliceD_ok R3 (r1.mono (x2.trans x3)) p3

/-! ### a[::-1] -/
def revD (x : D) : M D := fun h => match x with
  | .tup xs => .ok (.tup xs.reverse) h
  | x => (match items h x with
    | some xs => .ok (.lst xs.reverse) h
    | none => .bad)
section
variable {prog : Program} {w : World} {A : Around} {E : Value → Shared → Prop} {s : Shared}
theorem sliceApplied_rev {sl : Addr} {vl vu vs : Value} {n : Nat} {Q : Int × Int × Nat → Shared → Prop} (hs : s.heap.IsSliceOf sl vl vu vs) (pl : IsPart vl none) (pu : IsPart vu none) (ps : IsPart vs (some (-1)))
    (h : Q ((n : Int) - 1, -1, n) s) : wpAny (model prog w) A (Builtin.Slice.sliceApplied (.ref sl) (pure (n : Int))) Q E s := by
  obtain ⟨os, hos, hcs, hds⟩ := id hs
  unfold Builtin.Slice.sliceApplied Builtin.Slice.sliceFields
  refine wpAny_bind (wpAny_bind (wpAny_field hos hds (x := vl) rfl (wpAny_bind (wpAny_field hos hds (x := vu) rfl (wpAny_bind (wpAny_field hos hds (x := vs) rfl (wpAny_pure ?_)))))))
  refine wpAny_bind (HT.slicePart_ ps ?_)
  show wpAny _ _ (if ((-1 : Int) == 0) = true then _ else _) _ _ s
  rw [if_neg (by decide)]
  refine wpAny_bind (HT.slicePart_ pl (wpAny_bind (HT.slicePart_ pu (wpAny_bind (wpAny_pure ?_)))))
  show wpAny _ _ (pure ((n : Int) - 1, (-1 : Int), Builtin.Slice.slicePlaces ((n : Int) - 1) (-1) (-1))) _ _ s
  have e : Builtin.Slice.slicePlaces ((n : Int) - 1) (-1) (-1) = n := by
    unfold Builtin.Slice.slicePlaces
    have h1 : ¬ ((-1 : Int) > 0) := by decide
    simp only [h1, if_false]
    split
    · have e1 : (- -1 : Int) = 1 := by decide
      rw [e1, Int.ediv_one]
      omega
    · omega
  rw [e]
  exact wpAny_pure h
theorem fm_congr {α β : Type} {f g : α → Option β} : ∀ {l : List α}, (∀ a, a ∈ l → f a = g a) → l.filterMap f = l.filterMap g
  | [], _ => rfl
  | a :: l, h => by rw [List.filterMap_cons, List.filterMap_cons, h a List.mem_cons_self, fm_congr fun b hb => h b (List.mem_cons_of_mem _ hb)]
theorem pick_rev (xs : Array Value) : ((List.range xs.size).filterMap fun (m : Nat) => xs[((xs.size : Int) - 1 + (m : Int) * (-1)).toNat]?).toArray = xs.toList.reverse.toArray := by
  congr 1
  obtain ⟨l⟩ := xs
  show (List.range l.length).filterMap (fun (m : Nat) => l.toArray[((l.length : Int) - 1 + (m : Int) * (-1)).toNat]?) = l.reverse
  have e : (List.range l.length).filterMap (fun (m : Nat) => l.toArray[((l.length : Int) - 1 + (m : Int) * (-1)).toNat]?) = (List.range l.length).filterMap fun m => l.reverse[m]? := by
    refine fm_congr fun m hm => ?_
    have hm := List.mem_range.mp hm
    have e1 : ((l.length : Int) - 1 + (m : Int) * (-1)).toNat = l.length - 1 - m := by omega
    rw [e1, List.getElem?_reverse hm]
    simp
  rw [e]
  have z : ∀ r : List Value, (List.range r.length).filterMap (fun m => r[m]?) = r := by
    intro r
    induction r with
    | nil => rfl
    | cons a r ih =>
      rw [List.length_cons, List.range_succ_eq_map, List.filterMap_cons]
      simp only [List.getElem?_cons_zero]
      rw [List.filterMap_map]
      exact congrArg (a :: ·) ih
  have z1 := z l.reverse
  rw [List.length_reverse] at z1
  exact z1
theorem getItem_tuple_rev {t sl : Addr} {items : Array Value} {vl vu vs : Value} {Q : Value → Shared → Prop} (ht : IsTup s.heap t items) (hs : s.heap.IsSliceOf sl vl vu vs) (pl : IsPart vl none) (pu : IsPart vu none) (ps : IsPart vs (some (-1)))
    (h : Q (.ref s.heap.objs.size) { s with heap := s.heap.push { cls := .type "tuple", data := .seq items.toList.reverse.toArray } }) (hsz : items.size ≤ sizeLine) : wpAny (model prog w) A (getItem (.ref t) (.ref sl)) Q E s := by
  have htake : sizeOk (.seq items.toList.reverse.toArray) := by
    show items.toList.reverse.toArray.size ≤ sizeLine
    rw [List.size_toArray, List.length_reverse, Array.length_toList]
    omega
  obtain ⟨os, hos, hcs, hds⟩ := id hs
  have hTs : s.TypeIs (.ref sl) "slice" := ⟨os, hos, hcs⟩
  unfold getItem
  try with_reducible refine wpAny_holding ?_
  first | refine wpAny_bind (wpAny_pure ?_) | skip
  refine wpAny_bind (wpAny_sequenceKey ht.typeIs (by decide) ?_)
  refine wpAny_bind (wpAny_callSpecial?_slot (name := Str.ofString "__getitem__") ht.typeIs PyProof.Rows.slot_tuple_getitem
    (wpAny_call_entry PyProof.Rows.slot_tuple_getitem ht.typeIs entry_tuple_getitem ?_ (args_tuple_getitem _ _)))
  show wpAny _ _ (Builtin.Tuple.tupleItemsOf (.ref t) >>= _) _ _ s
  refine wpAny_bind (tupleItemsOf_ ht ?_)
  refine wpAny_bind (wpAny_typeOf hTs ?_)
  rw [if_pos (by decide)]
  refine wpAny_bind (sliceApplied_rev hs pl pu ps ?_)
  have hno : ¬ ((((items.size : Int) - 1 == 0) && (-1 : Int) == 1 && (items.size == items.size)) = true) := by
    intro q
    rw [Bool.and_eq_true, Bool.and_eq_true] at q
    exact absurd (eq_of_beq q.1.2) (by decide)
  show wpAny _ _ (if (((items.size : Int) - 1 == 0) && (-1 : Int) == 1 && (items.size == items.size)) = true then _ else _) _ _ s
  rw [if_neg hno, pick_rev]
  first
    | exact wpAny_bind (m := Builtin.Tuple.tupleExact _) (wpAny_newObj_type (wpAny_pure ⟨_, rfl, wpAny_pure h⟩) htake)
    | exact wpAny_bind (m := Builtin.Tuple.tupleExact _) (wpAny_newObj_type (wpAny_bind (wpAny_pure (wpAny_pure ⟨_, rfl, wpAny_pure h⟩))) htake)
    | exact wpAny_bind (wpAny_bind (m := Builtin.Tuple.tupleExact _) (wpAny_newObj_type (wpAny_pure (wpAny_pure ⟨_, rfl, wpAny_pure h⟩)) htake))
    | exact wpAny_bind (wpAny_bind (m := Builtin.Tuple.tupleExact _) (wpAny_newObj_type (wpAny_pure ⟨_, rfl, wpAny_pure h⟩) htake))
end
def tRevA (K : PySem.W.Frag) (te : TE) : TE := fun σ H Q => te σ H fun x H1 => ∃ a xs, x = .ref a ∧ ((SqL K H1 a xs ∧ ∀ p, H1 p = none → Q (.ref p) (upd H1 p (.lst xs.reverse))) ∨ (SqT K H1 a xs ∧ ∀ p, H1 p = none → Q (.ref p) (upd H1 p (.tup xs.reverse))))
theorem pe_revA {e : Expr} {te : TE} {k : Nat} {p1 p2 p3 : Pos} (he : PE X e te) : PE X (.Subscript e (.Slice none none (some (.UnaryOp .USub (.Constant (.int 1) k p1) p2)) p3) pos) (tRevA X.K te) := by
  refine ⟨fun pins s σ H Q I h => ?_⟩
  refine Subscript_ (thn (he.run pins s σ H _ I h) fun v s1 ⟨x, H1, I1, r1, q1⟩ => ?_)
  obtain ⟨a, xs, ex, hx⟩ := q1
  subst ex
  cases r1
  have hst : PO X (some (.UnaryOp .USub (.Constant (.int 1) k p1) p2)) (tPart (tUn (rU fun i => .int (-i)) (tC (.int 1)))) := po_some (pe_un un_neg pe_int)
  refine wpAny_Slice (thn (po_none.run pins s1 σ H1 (fun o H2 => o = none ∧ H2 = H1) I1 ⟨rfl, rfl⟩) fun vl s2 ⟨l, H2, I2, pl, el, e2⟩ => ?_)
  subst el e2
  refine thn (po_none.run pins s2 σ H2 (fun o H3 => o = none ∧ H3 = H2) I2 ⟨rfl, rfl⟩) fun vu s3 ⟨u, H3, I3, pu, eu, e3⟩ => ?_
  subst eu e3
  refine thn (hst.run pins s3 σ H3 (fun o H4 => o = some (-1) ∧ H4 = H3) I3 ⟨1, rfl, -1, rfl, rfl, rfl⟩) fun vs s4 ⟨o, H4, I4, ps, eo, e4⟩ => ?_
  subst eo e4
  have I5 : Inv X pins σ H4 { s4 with heap := s4.heap.push { cls := .type "slice", data := .fields #[vl, vu, vs] } } := I4.kept (t' := s4.toks) fun b ob q => Heap.get?_push_of_some _ q
  show wpAny (model X.prog X.w) X.A (subscriptTail e (.Slice none none (some (.UnaryOp .USub (.Constant (.int 1) k p1) p2)) p3) (.ref a) (.ref s4.heap.objs.size)) (EP X pins σ Q) X.xe { s4 with heap := s4.heap.push { cls := .type "slice", data := .fields #[vl, vu, vs] } }
  rcases hx with ⟨hx, q⟩ | ⟨hx, q⟩
  · obtain ⟨its, r, ht, hz⟩ := I5.list hx
    have hlen := r.length
    refine tail_any (ops := [.ref a, .ref s4.heap.objs.size]) ht.isList.typeIs (PySem.slot_list_getitem.lookup) ?_ (by with_unfolding_all rfl)
    refine wpAny_getItem_list_slice ht.isList (Heap.IsSliceOf.new _ vl vu vs) pl pu ps (by decide) ?_ (by rw [List.size_toArray]; omega)
    rw [PySem.W.krv_pick]
    exact ⟨.ref _, _, I5.lnew (t' := s4.toks) r.reverse (by rw [List.length_reverse]; exact hz), rfl, q _ I5.fresh⟩
  · obtain ⟨its, r, ht, hz⟩ := I5.tuple hx
    have hlen := r.length
    refine tail_any (ops := [.ref a, .ref s4.heap.objs.size]) ht.typeIs (PyProof.Rows.slot_tuple_getitem.lookup) ?_ (by with_unfolding_all rfl)
    refine getItem_tuple_rev ht (Heap.IsSliceOf.new _ vl vu vs) pl pu ps ?_ (by rw [List.size_toArray]; omega)
    refine ⟨.ref _, _, I5.laid (t' := s4.toks) (o := .tup xs.reverse) (fun b ob q => Heap.get?_push_of_some _ q) (Nat.le_refl _) ?_, rfl, q _ I5.fresh⟩
    exact ⟨by rw [List.length_reverse]; exact hz, _, r.reverse, IsTup.new _ _⟩
theorem de_rev {k : Nat} {p1 p2 p3 : Pos} (ha : DE X W a ca) : DE X W (.Subscript a (.Slice none none (some (.UnaryOp .USub (.Constant (.int 1) k p1) p2)) p3) pos) (e1 revD ca) := pe_imp (pe_revA ha) fun σ H Q ⟨ι, h, ρ, R, S, p⟩ => by
  refine ⟨ι, h, ρ, R, S, Post.imp (Post.bind p) fun x H1 ⟨ι1, h1, dx, x1, R1, r1, p1⟩ => ?_⟩
  unfold revD at p1
  split at p1
  · cases r1 with
    | tup t q => exact ⟨_, _, rfl, .inr ⟨t.sq, fun y hy => p1.tup R1 q.reverse hy⟩⟩
  · split at p1
    · rename_i xs e
      obtain ⟨b, vs, rfl, hb, rs⟩ := items_ok R1 r1 e
      exact ⟨b, vs, rfl, .inl ⟨SqL.of hb, fun y hy => p1.lst R1 rs.reverse hy⟩⟩
    · exact p1.elim
end
end Dl

/-! The D layer, 7: statements, loops. -/
namespace Dl
open PySem PySem.Spec PyProof.Rows L2
variable [Tb]

inductive SR where
  | nx (ρ : Env) (h : Hs) | ret (d : D) (h : Hs) | bk (ρ : Env) (h : Hs) | ct (ρ : Env) (h : Hs) | exc (ρ : Env) (C : Str) (fs : List (Str × D)) (h : Hs) | bad
abbrev SM := Env → Hs → SR
def R.then {α : Type} (r : R α) (ρ : Env) (f : α → Hs → SR) : SR := match r with
  | .ok a h => f a h
  | .exc C fs h => .exc ρ C fs h
  | .bad => .bad
def PostS (K : PySem.W.Frag) (W : WX) (r : SR) (ι : Ix) (H : Hp) (D : Ends) : Prop := match r with
  | .nx ρ h => ∀ ι' H' σ', Ext ι H ι' H' → Rel K ι' h H' → RS K ι' H' ρ σ' → D.nx σ' H'
  | .ret d h => ∀ ι' H' v, Ext ι H ι' H' → Rel K ι' h H' → RD K ι' H' d v → D.rt v H'
  | .bk ρ h => ∀ ι' H' σ', Ext ι H ι' H' → Rel K ι' h H' → RS K ι' H' ρ σ' → D.bk σ' H'
  | .ct ρ h => ∀ ι' H' σ', Ext ι H ι' H' → Rel K ι' h H' → RS K ι' H' ρ σ' → D.ct σ' H'
  | .exc ρ C fs h => ∀ ι' H' od σ', Ext ι H ι' H' → Rel K ι' h H' → RS K ι' H' ρ σ' → XD K ι' H' fs od → W (.ref (He.ga K C)) od σ' H'
  | .bad => False
def wS (K : PySem.W.Frag) (W : WX) (c : SM) : TS := fun D σ H => ∃ ι h ρ, Rel K ι h H ∧ RS K ι H ρ σ ∧ PostS K W (c ρ h) ι H D
abbrev DS (X : Cx) (W : WX) (st : Stmt) (c : SM) : Prop := PS X st (wS X.K W c)
abbrev DSs (X : Cx) (W : WX) (st : List Stmt) (c : SM) : Prop := PSs X st (wS X.K W c)
theorem ps_imp {X : Cx} {e : Stmt} {t t' : TS} (h : PS X e t) (w : ∀ D σ H, t' D σ H → t D σ H) : PS X e t' := ⟨fun pins s σ H D I z => h.run pins s σ H D I (w D σ H z)⟩
theorem pss_imp {X : Cx} {e : List Stmt} {t t' : TS} (h : PSs X e t) (w : ∀ D σ H, t' D σ H → t D σ H) : PSs X e t' := ⟨fun pins s σ H D I z => h.run pins s σ H D I (w D σ H z)⟩
section
variable {K : PySem.W.Frag} {W : WX} {ι ι1 : Ix} {H H1 : Hp} {D : Ends}
theorem PostS.ext {r : SR} (p : PostS K W r ι H D) (e : Ext ι H ι1 H1) : PostS K W r ι1 H1 D := by
  cases r with
  | nx ρ h => exact fun ι' H' σ' e' => p ι' H' σ' (e.trans e')
  | ret d h => exact fun ι' H' σ' e' => p ι' H' σ' (e.trans e')
  | bk ρ h => exact fun ι' H' σ' e' => p ι' H' σ' (e.trans e')
  | ct ρ h => exact fun ι' H' σ' e' => p ι' H' σ' (e.trans e')
  | exc ρ C fs h => exact fun ι' H' od σ' e' => p ι' H' od σ' (e.trans e')
  | bad => exact p
theorem PostS.then {α β : Type} {RA : Ix → Hp → α → β → Prop} {r : R α} {ρ : Env} {σ : L2.St} {f : α → Hs → SR} (p : PostS K W (r.then ρ f) ι H D) (S : RS K ι H ρ σ) :
    Post K (fun x d H' => W x d σ H') RA r ι H (fun b H1 => ∃ ι1 h1 a, Ext ι H ι1 H1 ∧ Rel K ι1 h1 H1 ∧ RA ι1 H1 a b ∧ PostS K W (f a h1) ι1 H1 D) := by
  cases r with
  | ok a h => exact fun ι' H' b e R ra => ⟨ι', h, a, e, R, ra, p.ext e⟩
  | exc C fs h => exact fun ι' H' od e R x => p ι' H' od σ e R (S.mono e) x
  | bad => exact p
end

/-! ### small statements -/
def sPass : SM := fun ρ h => .nx ρ h
def sSeq (c1 c2 : SM) : SM := fun ρ h => match c1 ρ h with
  | .nx ρ1 h1 => c2 ρ1 h1
  | r => r
def sRet (ce : Env → M D) : SM := fun ρ h => (ce ρ h).then ρ fun d h1 => .ret d h1
def sRetN : SM := fun _ h => .ret .non h
def sExp (ce : Env → M D) : SM := fun ρ h => (ce ρ h).then ρ fun _ h1 => .nx ρ h1
def sIf (ct : Env → M Bool) (c1 c2 : SM) : SM := fun ρ h => (ct ρ h).then ρ fun b h1 => if b = true then c1 ρ h1 else c2 ρ h1
def sSet (i : Nat) (ce : Env → M D) : SM := fun ρ h => (ce ρ h).then ρ fun d h1 => .nx (ρ.set i (some d)) h1
def sBad : SM := fun _ _ => .bad
section
variable {X : Cx} {W : WX} {pos : Pos} {e : Expr} {ce : Env → M D} {c1 c2 : SM} {st : Stmt} {rest : List Stmt} {ct : Env → M Bool}
theorem dss_nil : DSs X W [] sPass := pss_imp pss_nil fun D σ H ⟨ι, h, ρ, R, S, p⟩ => p ι H σ .refl R S
theorem dss_one (h1 : DS X W st c1) : DSs X W [st] c1 := pss_one h1
theorem dss_cons (h1 : DS X W st c1) (h2 : DSs X W rest c2) : DSs X W (st :: rest) (sSeq c1 c2) := pss_imp (pss_cons h1 h2) fun D σ H ⟨ι, h, ρ, R, S, p⟩ => by
  refine ⟨ι, h, ρ, R, S, ?_⟩
  unfold sSeq at p
  cases q : c1 ρ h with
  | nx ρ1 h1 =>
    rw [q] at p
    exact fun ι' H' σ' e R' S' => ⟨ι', h1, ρ1, R', S', PostS.ext p e⟩
  | ret d h1 => rw [q] at p; exact p
  | bk ρ1 h1 => rw [q] at p; exact p
  | ct ρ1 h1 => rw [q] at p; exact p
  | exc ρ1 C fs h1 => rw [q] at p; exact p
  | bad => rw [q] at p; exact p
theorem ds_never : DS X W st sBad := ps_imp ps_never fun D σ H ⟨ι, h, ρ, R, S, p⟩ => p
theorem ds_ret (he : DE X W e ce) : DS X W (.Return (some e) pos) (sRet ce) := ps_imp (ps_ret he) fun D σ H ⟨ι, h, ρ, R, S, p⟩ => by
  refine ⟨ι, h, ρ, R, S, Post.imp (PostS.then p S) fun v H1 ⟨ι1, h1, d, x1, R1, r1, p1⟩ => ?_⟩
  exact p1 ι1 H1 v .refl R1 r1
theorem ds_exp (he : DE X W e ce) (hs : swapsWith e none pos.line X.env = pure false := by rfl) : DS X W (.Expr e pos) (sExp ce) := ps_imp (ps_expr he hs) fun D σ H ⟨ι, h, ρ, R, S, p⟩ => by
  refine ⟨ι, h, ρ, R, S, Post.imp (PostS.then p S) fun v H1 ⟨ι1, h1, d, x1, R1, r1, p1⟩ => ?_⟩
  exact p1 ι1 H1 σ .refl R1 (S.mono x1)
theorem ds_if {c : Expr} {a b : List Stmt} (hc : DT X W c ct) (ha : DSs X W a c1) (hb : DSs X W b c2) : DS X W (.If c a b pos) (sIf ct c1 c2) := ps_imp (ps_if hc ha hb) fun D σ H ⟨ι, h, ρ, R, S, p⟩ => by
  refine ⟨ι, h, ρ, R, S, Post.imp (PostS.then p S) fun v H1 ⟨ι1, h1, d, x1, R1, r1, p1⟩ => ?_⟩
  subst r1
  cases d with
  | true =>
    rw [if_pos rfl] at p1 ⊢
    exact ⟨ι1, h1, ρ, R1, S.mono x1, p1⟩
  | false =>
    rw [if_neg Bool.false_ne_true] at p1 ⊢
    exact ⟨ι1, h1, ρ, R1, S.mono x1, p1⟩
theorem w_set {K : PySem.W.Frag} {i : Nat} {D : Ends} {σ : L2.St} {H : Hp} (q : wS K W (sSet i ce) D σ H) : wE K W ce σ H fun x H1 => gName i x σ H1 D.nx := by
  obtain ⟨ι, h, ρ, R, S, p⟩ := q
  refine ⟨ι, h, ρ, R, S, Post.imp (PostS.then p S) fun v H1 ⟨ι1, h1, d, x1, R1, r1, p1⟩ => ?_⟩
  exact p1 ι1 H1 _ .refl R1 ((S.mono x1).set i r1)
theorem ds_set {i : Nat} {x : Str} {pos' : Pos} (hN : X.N.Nodup) (he : DE X W e ce) (hi : X.N[i]? = some x := by rfl) (hx : Loc X.env.scope x := by first | exact Or.inl rfl | exact Or.inr rfl) (hs : swapsWith e (some (.Name x pos')) pos.line X.env = pure false := by rfl)
    (hf : X.fn x = true ∨ X.env.scope.names.lookup x = some .local := by first | exact .inl rfl | exact .inr rfl | assumption) : DS X W (.Assign [.Name x pos'] e pos) (sSet i ce) := ps_imp (ps_set hN hi hx he hs hf) fun D σ H ⟨ι, h, ρ, R, S, p⟩ => by
  refine ⟨ι, h, ρ, R, S, Post.imp (PostS.then p S) fun v H1 ⟨ι1, h1, d, x1, R1, r1, p1⟩ => ?_⟩
  exact p1 ι1 H1 _ .refl R1 ((S.mono x1).set i r1)

/-! ### targets: names, tuples of names -/
inductive Pat where
  | nm (i : Nat) | tp (ps : List Pat)
mutual
def patD : Pat → D → Env → Option Env
  | .nm i, d, ρ => some (ρ.set i (some d))
  | .tp ps, d, ρ => (match d with
    | .tup xs => patsD ps xs ρ
    | _ => none)
def patsD : List Pat → List D → Env → Option Env
  | [], [], ρ => some ρ
  | p :: ps, x :: xs, ρ => (patD p x ρ).bind fun ρ1 => patsD ps xs ρ1
  | _, _, _ => none
end
mutual
def gPat (K : PySem.W.Frag) : Pat → TG
  | .nm i => gName i
  | .tp ps => gTup K ps.length (gPats K ps)
def gPats (K : PySem.W.Frag) : List Pat → TGs
  | [] => gNil
  | p :: ps => gCons (gPat K p) (gPats K ps)
end
theorem patsD_len : ∀ {ps : List Pat} {xs : List D} {ρ ρ' : Env}, patsD ps xs ρ = some ρ' → xs.length = ps.length
  | [], [], _, _, _ => rfl
  | [], _ :: _, _, _, e => by unfold patsD at e; cases e
  | _ :: _, [], _, _, e => by unfold patsD at e; cases e
  | p :: ps, x :: xs, ρ, ρ', e => by
    unfold patsD at e
    obtain ⟨ρ1, _, e2⟩ := Option.bind_eq_some_iff.mp e
    rw [List.length_cons, List.length_cons, patsD_len e2]
mutual
def patIs : Pat → List Nat
  | .nm i => [i]
  | .tp ps => patsIs ps
def patsIs : List Pat → List Nat
  | [] => []
  | p :: ps => patIs p ++ patsIs ps
end
theorem wipe_in {σ : L2.St} {j : Nat} : ∀ {vs : List Nat}, j ∈ vs → (wipe σ vs)[j]? = if j < σ.length then some none else none
  | [], h => by cases h
  | v :: vs, h => by
    show ((wipe σ vs).set v none)[j]? = _
    by_cases e : v = j
    · subst e
      by_cases hl : v < σ.length
      · rw [List.getElem?_set_self (by rw [wipe_length]; exact hl), if_pos hl]
      · rw [List.getElem?_eq_none (by rw [List.length_set, wipe_length]; omega), if_neg hl]
    · rw [List.getElem?_set_ne e]
      exact wipe_in ((List.mem_cons.mp h).resolve_left fun z => e z.symm)
theorem wipe_set {σ : L2.St} {i : Nat} {x : Option V} {vs : List Nat} (hi : i ∈ vs) : wipe (σ.set i x) vs = wipe σ vs := by
  apply List.ext_getElem?
  intro j
  by_cases hj : j ∈ vs
  · rw [wipe_in hj, wipe_in hj, List.length_set]
  · rw [wipe_out hj, wipe_out hj, List.getElem?_set_ne fun z => hj (by rw [← z]; exact hi)]
mutual
theorem gPat_ok {K : PySem.W.Frag} {ι : Ix} {H : Hp} {vs : List Nat} : ∀ (p : Pat) {d : D} {v : V} {ρ ρ' : Env} {σ : L2.St} {Q : L2.St → Hp → Prop}, RD K ι H d v → RS K ι H ρ σ → patD p d ρ = some ρ' → (∀ i, i ∈ patIs p → i ∈ vs) →
    (∀ σ', RS K ι H ρ' σ' → wipe σ' vs = wipe σ vs → Q σ' H) → gPat K p v σ H Q
  | .nm i, d, v, ρ, ρ', σ, Q, r, S, e, hv, q => by
    unfold patD at e
    cases e
    unfold gPat
    refine q _ (S.set i r) ?_
    exact wipe_set (hv i (by unfold patIs; simp))
  | .tp ps, d, v, ρ, ρ', σ, Q, r, S, e, hv, q => by
    unfold patD at e
    split at e
    · cases r with
      | tup t rs =>
        unfold gPat
        exact ⟨_, _, rfl, t.sq, by rw [← rs.length]; exact patsD_len e, gPats_ok ps rs S e (fun i hi => hv i (by unfold patIs; exact hi)) q⟩
    · cases e
theorem gPats_ok {K : PySem.W.Frag} {ι : Ix} {H : Hp} {vs : List Nat} : ∀ (ps : List Pat) {ds : List D} {us : List V} {ρ ρ' : Env} {σ : L2.St} {Q : L2.St → Hp → Prop}, RDs K ι H ds us → RS K ι H ρ σ → patsD ps ds ρ = some ρ' → (∀ i, i ∈ patsIs ps → i ∈ vs) →
    (∀ σ', RS K ι H ρ' σ' → wipe σ' vs = wipe σ vs → Q σ' H) → gPats K ps us σ H Q
  | [], ds, us, ρ, ρ', σ, Q, r, S, e, hv, q => by
    cases r with
    | nil =>
      unfold patsD at e
      cases e
      unfold gPats
      exact ⟨rfl, q σ S rfl⟩
    | cons _ _ => unfold patsD at e; cases e
  | p :: ps, ds, us, ρ, ρ', σ, Q, r, S, e, hv, q => by
    cases r with
    | nil => unfold patsD at e; cases e
    | cons r1 r2 =>
      unfold patsD at e
      obtain ⟨ρ1, e1, e2⟩ := Option.bind_eq_some_iff.mp e
      unfold gPats
      refine ⟨_, _, rfl, gPat_ok p r1 S e1 (fun i hi => hv i (by unfold patsIs; exact List.mem_append_left _ hi)) fun σ1 S1 w1 => ?_⟩
      exact gPats_ok ps r2 S1 e2 (fun i hi => hv i (by unfold patsIs; exact List.mem_append_right _ hi)) fun σ2 S2 w2 => q σ2 S2 (w2.trans w1)
end
end
end Dl

/-! The D layer, 8: what is walked; for, while, comprehensions. -/
namespace Dl
open PySem PySem.Spec PyProof.Rows L2
variable [Tb]

/-! ### equality of data, as a Bool -/
mutual
def D.beq : D → D → Bool
  | .non, .non => true
  | .bl a, .bl b => decide (a = b)
  | .int a, .int b => decide (a = b)
  | .str a, .str b => decide (a = b)
  | .ty a, .ty b => decide (a = b)
  | .glo a, .glo b => decide (a = b)
  | .obj a, .obj b => decide (a = b)
  | .scr a, .scr b => decide (a = b)
  | .exn a, .exn b => decide (a = b)
  | .tup xs, .tup ys => D.beqs xs ys
  | .lst xs, .lst ys => D.beqs xs ys
  | _, _ => false
def D.beqs : List D → List D → Bool
  | [], [] => true
  | x :: xs, y :: ys => D.beq x y && D.beqs xs ys
  | _, _ => false
end
mutual
theorem D.beq_eq : ∀ (a b : D), D.beq a b = true → a = b
  | .non, b, h => by cases b <;> first | rfl | (unfold D.beq at h; cases h)
  | .bl a, b, h => by cases b <;> first | (unfold D.beq at h; rw [of_decide_eq_true h]) | (unfold D.beq at h; cases h)
  | .int a, b, h => by cases b <;> first | (unfold D.beq at h; rw [of_decide_eq_true h]) | (unfold D.beq at h; cases h)
  | .str a, b, h => by cases b <;> first | (unfold D.beq at h; rw [of_decide_eq_true h]) | (unfold D.beq at h; cases h)
  | .ty a, b, h => by cases b <;> first | (unfold D.beq at h; rw [of_decide_eq_true h]) | (unfold D.beq at h; cases h)
  | .glo a, b, h => by cases b <;> first | (unfold D.beq at h; rw [of_decide_eq_true h]) | (unfold D.beq at h; cases h)
  | .obj a, b, h => by cases b <;> first | (unfold D.beq at h; rw [of_decide_eq_true h]) | (unfold D.beq at h; cases h)
  | .scr a, b, h => by cases b <;> first | (unfold D.beq at h; rw [of_decide_eq_true h]) | (unfold D.beq at h; cases h)
  | .exn a, b, h => by cases b <;> first | (unfold D.beq at h; rw [of_decide_eq_true h]) | (unfold D.beq at h; cases h)
  | .tup xs, b, h => by cases b <;> first | (unfold D.beq at h; rw [D.beqs_eq _ _ h]) | (unfold D.beq at h; cases h)
  | .lst xs, b, h => by cases b <;> first | (unfold D.beq at h; rw [D.beqs_eq _ _ h]) | (unfold D.beq at h; cases h)
theorem D.beqs_eq : ∀ (a b : List D), D.beqs a b = true → a = b
  | [], [], _ => rfl
  | [], _ :: _, h => by unfold D.beqs at h; cases h
  | _ :: _, [], h => by unfold D.beqs at h; cases h
  | x :: xs, y :: ys, h => by
    unfold D.beqs at h
    obtain ⟨h1, h2⟩ := Bool.and_eq_true_iff.mp h
    rw [D.beq_eq x y h1, D.beqs_eq xs ys h2]
end
mutual
theorem D.beq_refl : ∀ a : D, D.beq a a = true
  | .non => by unfold D.beq; rfl
  | .bl a => by unfold D.beq; exact decide_eq_true rfl
  | .int a => by unfold D.beq; exact decide_eq_true rfl
  | .str a => by unfold D.beq; exact decide_eq_true rfl
  | .ty a => by unfold D.beq; exact decide_eq_true rfl
  | .glo a => by unfold D.beq; exact decide_eq_true rfl
  | .obj a => by unfold D.beq; exact decide_eq_true rfl
  | .scr a => by unfold D.beq; exact decide_eq_true rfl
  | .exn a => by unfold D.beq; exact decide_eq_true rfl
  | .tup xs => by unfold D.beq; exact D.beqs_refl xs
  | .lst xs => by unfold D.beq; exact D.beqs_refl xs
theorem D.beqs_refl : ∀ a : List D, D.beqs a a = true
  | [] => by unfold D.beqs; rfl
  | x :: xs => by unfold D.beqs; rw [D.beq_refl x, D.beqs_refl xs]; rfl
end

/-! ### what is walked: its items; the changing lists that must stay meanwhile -/
structure ItD where
  items : List D
  gs : List (Nat × List D) := []
def okG (gs : List (Nat × List D)) (h : Hs) : Bool := gs.all fun p => match h[p.1]? with
  | some (.lst ys) => D.beqs ys p.2
  | _ => false
theorem okG_at {gs : List (Nat × List D)} {h : Hs} (o : okG gs h = true) {n : Nat} {xs : List D} (m : (n, xs) ∈ gs) : h[n]? = some (.lst xs) := by
  have z := List.all_eq_true.mp o _ m
  simp only at z
  split at z
  · rename_i ys e
    rw [e, D.beqs_eq _ _ z]
  · cases z
def RI (K : PySem.W.Frag) (ι : Ix) (H : Hp) (it : ItD) (J : It) : Prop := ∃ (G : Hp → Prop) (Y : Nat → Hp → V → Hp → Prop), Walk J it.items.length G Y ∧
  (∀ ι' H' h', UpF ι H ι' H' → Rel K ι' h' H' → okG it.gs h' = true → G H') ∧
  ∀ i Hc x H' ι' h', i < it.items.length → Y i Hc x H' → UpF ι H ι' Hc → Rel K ι' h' Hc → okG it.gs h' = true → ∃ d, it.items[i]? = some d ∧ RD K ι' H' d x ∧ Ext ι' Hc ι' H' ∧ Rel K ι' h' H' ∧ ∀ b o, Hc b = some o → H' b = some o
def wI (K : PySem.W.Frag) (W : WX) (ci : Env → M ItD) : TI := fun σ H Q => ∃ ι h ρ, Rel K ι h H ∧ RS K ι H ρ σ ∧ Post K (fun x d H' => W x d σ H') (RI K) (ci ρ h) ι H Q
abbrev DI (X : Cx) (W : WX) (tg it : Expr) (ci : Env → M ItD) : Prop := PI X tg it (wI X.K W ci)
theorem pi_imp {X : Cx} {tg e : Expr} {t t' : TI} (h : PI X tg e t) (w : ∀ σ H Q, t' σ H Q → t σ H Q) : PI X tg e t' := ⟨fun pins s σ H Q I z => h.run pins s σ H Q I (w σ H Q z)⟩

/-! ### for -/
def loopF (p : Pat) (body : SM) (gs : List (Nat × List D)) : List D → SM
  | [], ρ, h => if okG gs h then .nx ρ h else .bad
  | x :: xs, ρ, h => if okG gs h then (match patD p x ρ with
    | none => .bad
    | some ρ1 => (match body ρ1 h with
      | .nx ρ2 h2 => loopF p body gs xs ρ2 h2
      | .ct ρ2 h2 => loopF p body gs xs ρ2 h2
      | .bk ρ2 h2 => .nx ρ2 h2
      | r => r)) else .bad
def sFor (ci : Env → M ItD) (p : Pat) (body : SM) : SM := fun ρ h => (ci ρ h).then ρ fun it h1 => loopF p body it.gs it.items ρ h1
section
variable {K : PySem.W.Frag} {W : WX} {ι : Ix} {H : Hp} {h : Hs} {ρ : Env} {D : Ends}
theorem loopF_ok {p : Pat} {body : SM} {gs : List (Nat × List Dl.D)} {xs : List Dl.D} (q : PostS K W (loopF p body gs xs ρ h) ι H D) : okG gs h = true := by
  cases xs with
  | nil =>
    unfold loopF at q
    cases e : okG gs h with
    | true => rfl
    | false => rw [e] at q; exact q.elim
  | cons x xs =>
    unfold loopF at q
    cases e : okG gs h with
    | true => rfl
    | false => rw [e] at q; exact q.elim
end
section
variable {X : Cx} {W : WX} {pos : Pos} {tg iter : Expr} {body : List Stmt} {ci : Env → M ItD} {cb : SM} {p : Pat}
theorem ds_for (hp : PassesOwn (model X.prog X.w) X.A X.env X.xe) (hc : X.calm = true) (hi : DI X W tg iter ci) (hg : PG X tg (gPat X.K p)) (hb : DSs X W body cb)
    (hs : ∀ x, foldedSetIterable iter X.env x = pure x := by intro _; rfl) : DS X W (.For tg iter body [] pos) (sFor ci p cb) := ps_imp (ps_for hp hc hi hg hb hs) fun D σ H ⟨ι, h, ρ, R, S, q⟩ => by
  refine ⟨ι, h, ρ, R, S, Post.imp (PostS.then q S) fun J H1 ⟨ι1, h1, it, x1, R1, ⟨G, Y, w, st, yd⟩, q1⟩ => ?_⟩
  refine for_it w (fun i σ H => ∃ ι h ρ, Ext ι1 H1 ι H ∧ Rel X.K ι h H ∧ RS X.K ι H ρ σ ∧ PostS X.K W (loopF p cb it.gs (it.items.drop i) ρ h) ι H D) ⟨ι1, h1, ρ, .refl, R1, S.mono x1, q1⟩ ?_ ?_ ?_
  · rintro i σ2 H2 _ ⟨ι2, h2, ρ2, x2, R2, S2, q2⟩
    exact st ι2 H2 h2 x2.upF R2 (loopF_ok q2)
  · rintro i x σ2 H2 H3 hi ⟨ι2, h2, ρ2, x2, R2, S2, q2⟩ y
    have og := loopF_ok q2
    obtain ⟨d, e, rd, x3, R3, _⟩ := yd i H2 x H3 ι2 h2 hi y x2.upF R2 og
    have ed : it.items.drop i = d :: it.items.drop (i + 1) := by
      obtain ⟨hl, e1⟩ := List.getElem?_eq_some_iff.mp e
      rw [← e1]
      exact List.drop_eq_getElem_cons hl
    rw [ed] at q2
    unfold loopF at q2
    rw [if_pos og] at q2
    cases ep : patD p d ρ2 with
    | none => rw [ep] at q2; exact q2.elim
    | some ρ3 =>
      rw [ep] at q2
      refine gPat_ok (vs := patIs p) p rd (S2.mono x3) ep (fun _ z => z) fun σ3 S3 _ => ?_
      refine ⟨ι2, h2, ρ3, R3, S3, ?_⟩
      have q2 := PostS.ext q2 x3
      cases eb : cb ρ3 h2 with
      | nx ρ4 h4 =>
        simp only [eb] at q2
        exact fun ι4 H4 σ4 x4 R4 S4 => ⟨ι4, h4, ρ4, (x2.trans x3).trans x4, R4, S4, PostS.ext q2 x4⟩
      | ct ρ4 h4 =>
        simp only [eb] at q2
        exact fun ι4 H4 σ4 x4 R4 S4 => ⟨ι4, h4, ρ4, (x2.trans x3).trans x4, R4, S4, PostS.ext q2 x4⟩
      | bk ρ4 h4 => simp only [eb] at q2; exact q2
      | ret d4 h4 => simp only [eb] at q2; exact q2
      | exc ρ4 C fs h4 => simp only [eb] at q2; exact q2
      | bad => simp only [eb] at q2; exact q2
  · rintro σ2 H2 ⟨ι2, h2, ρ2, x2, R2, S2, q2⟩
    have og := loopF_ok q2
    rw [List.drop_length] at q2
    unfold loopF at q2
    rw [if_pos og] at q2
    exact q2 ι2 H2 σ2 .refl R2 S2

/-! ### while: at most n turns -/
def whileF (ct : Env → M Bool) (body : SM) : Nat → SM
  | 0, _, _ => .bad
  | n + 1, ρ, h => (ct ρ h).then ρ fun b h1 => if b = true then (match body ρ h1 with
    | .nx ρ2 h2 => whileF ct body n ρ2 h2
    | .ct ρ2 h2 => whileF ct body n ρ2 h2
    | .bk ρ2 h2 => .nx ρ2 h2
    | r => r) else .nx ρ h1
/-- a limit that a function of the state gives -/
def sWhile (lim : Env → Hs → Nat) (ct : Env → M Bool) (body : SM) : SM := fun ρ h => whileF ct body (lim ρ h) ρ h
theorem ds_while {c : Expr} {ct : Env → M Bool} {lim : Env → Hs → Nat} (hp : PassesOwn (model X.prog X.w) X.A X.env X.xe) (hc : DT X W c ct) (hb : DSs X W body cb) : DS X W (.While c body [] pos) (sWhile lim ct cb) := ps_imp (ps_while hp hc hb) fun D σ H ⟨ι, h, ρ, R, S, q⟩ => by
  refine ⟨fun n σ H => ∃ ι h ρ, Rel X.K ι h H ∧ RS X.K ι H ρ σ ∧ PostS X.K W (whileF ct cb n ρ h) ι H D, ⟨lim ρ h, ι, h, ρ, R, S, q⟩, ?_⟩
  rintro n σ2 H2 ⟨ι2, h2, ρ2, R2, S2, q2⟩
  cases n with
  | zero => exact q2.elim
  | succ n =>
    unfold whileF at q2
    refine ⟨ι2, h2, ρ2, R2, S2, Post.imp (PostS.then q2 S2) fun b H3 ⟨ι3, h3, d, x3, R3, r3, q3⟩ => ?_⟩
    subst r3
    cases d with
    | false =>
      rw [if_neg Bool.false_ne_true] at q3 ⊢
      exact q3 ι3 H3 σ2 .refl R3 (S2.mono x3)
    | true =>
      rw [if_pos rfl] at q3 ⊢
      refine ⟨fun σ H => ∃ ι h ρ, Rel X.K ι h H ∧ RS X.K ι H ρ σ ∧ PostS X.K W (whileF ct cb n ρ h) ι H D, fun σ' H' z => ⟨n, Nat.lt_succ_self _, z⟩, ι3, h3, ρ2, R3, S2.mono x3, ?_⟩
      cases eb : cb ρ2 h3 with
      | nx ρ4 h4 =>
        simp only [eb] at q3
        exact fun ι4 H4 σ4 x4 R4 S4 => ⟨ι4, h4, ρ4, R4, S4, PostS.ext q3 x4⟩
      | ct ρ4 h4 =>
        simp only [eb] at q3
        exact fun ι4 H4 σ4 x4 R4 S4 => ⟨ι4, h4, ρ4, R4, S4, PostS.ext q3 x4⟩
      | bk ρ4 h4 => simp only [eb] at q3; exact q3
      | ret d4 h4 => simp only [eb] at q3; exact q3
      | exc ρ4 C fs h4 => simp only [eb] at q3; exact q3
      | bad => simp only [eb] at q3; exact q3
end
end Dl

/-! The D layer, 9: patterns, what is walked. -/
namespace Dl
open PySem PySem.Spec PyProof.Rows L2
variable [Tb]

section
variable {X : Cx} {W : WX} {pos : Pos}
/-! ### patterns -/
theorem pg_nm {i : Nat} {x : Str} (hN : X.N.Nodup) (hi : X.N[i]? = some x := by rfl) (hx : Loc X.env.scope x := by first | exact Or.inl rfl | exact Or.inr rfl) (hf : X.fn x = true ∨ X.env.scope.names.lookup x = some .local := by first | exact .inl rfl | exact .inr rfl | assumption) : PG X (.Name x pos) (gPat X.K (.nm i)) := by
  unfold gPat
  exact pg_name hN hi hx hf
theorem pgs_no : PGs X [] (gPats X.K []) := by
  unfold gPats
  exact pgs_nil
theorem pgs_co {e : Expr} {es : List Expr} {p : Pat} {ps : List Pat} (h1 : PG X e (gPat X.K p)) (h2 : PGs X es (gPats X.K ps))
    (hs : (assignEach (e :: es) X.env).map (·.2) = assign e X.env :: (assignEach es X.env).map (·.2) := by rfl) : PGs X (e :: es) (gPats X.K (p :: ps)) := by
  unfold gPats
  exact pgs_cons h1 h2 hs
theorem pg_tp {es : List Expr} {k : Nat} {ps : List Pat} (hc : X.calm = true) (h : PGs X es (gPats X.K ps))
    (hn : (assignEach es X.env).length = ps.length := by rfl) (hst : (assignEach es X.env).findIdx? (·.1) = none := by rfl) : PG X (.Tuple es k pos) (gPat X.K (.tp ps)) := by
  unfold gPat
  exact pg_tup hc h hn hst

/-! ### a list or a tuple -/
def iSeqT (K : PySem.W.Frag) (tl : TE) : TI := fun σ H R => tl σ H fun x H1 => ∃ a, x = .ref a ∧ (((∃ xs, SqL K H1 a xs) ∧ R (Itl K a) H1) ∨ ((∃ xs, SqT K H1 a xs) ∧ R (Itt K a) H1))
theorem pi_seq {tg l : Expr} {tl : TE} (hl : PE X l tl) : PI X tg l (iSeqT X.K tl) := by
  refine ⟨fun pins s σ H R I h => ?_⟩
  refine thn (hl.run pins s σ H _ I h) fun v s1 ⟨x, H1, I1, r1, q1⟩ => ?_
  obtain ⟨a, e, q⟩ := q1
  subst e
  cases r1
  have new : ∀ b ∈ [s1.heap.objs.size], FpOk X pins H1 b := fun b hb => by
    have e : b = s1.heap.objs.size := by simpa using hb
    subst e
    exact I1.fpOk (Nat.le_refl _) (I1.hok.fresh (Nat.le_refl _))
  rcases q with ⟨⟨xs, hq⟩, q⟩ | ⟨⟨xs, hq⟩, q⟩
  · obtain ⟨its, rv, p, hz⟩ := I1.list hq
    refine wpAny_pyIter_list p.isList ?_
    exact ⟨s1.heap.objs.size, [s1.heap.objs.size], _, _, H1, rfl, I1.kept (t' := s1.toks) fun b o e => Heap.get?_push_of_some _ e, turn_list a _, ⟨_, Heap.get?_push_size _ rfl, rfl, rfl⟩, new, q⟩
  · obtain ⟨its, rv, p, hz⟩ := I1.tuple hq
    refine wpAny_pyIter_tuple (show s1.heap.IsTuple a its.toArray from p) ?_
    exact ⟨s1.heap.objs.size, [s1.heap.objs.size], _, _, H1, rfl, I1.kept (t' := s1.toks) fun b o e => Heap.get?_push_of_some _ e, turn_tuple a _, ⟨_, Heap.get?_push_size _ rfl, rfl, rfl⟩, new, q⟩
end
/-- what is walked, of a value -/
def itOf (h : Hs) : D → Option ItD
  | .tup xs => some ⟨xs, []⟩
  | .lst xs => some ⟨xs, []⟩
  | .scr ns => some ⟨ns.map .int, []⟩
  | .obj n => (match h[n]? with
    | some (.lst xs) => some ⟨xs, [(n, xs)]⟩
    | _ => none)
  | _ => none
section
variable {K : PySem.W.Frag} {ι : Ix} {H : Hp} {h : Hs}
theorem walk_listN {a : Addr} {n : Nat} : Walk (Itl K a) n (fun H => ∃ vs, SqL K H a vs ∧ vs.length = n) (fun i Hc x H' => H' = Hc ∧ ∀ ys, SqL K Hc a ys → ys[i]? = some x) :=
  ⟨fun i _ hi ⟨vs, q, e⟩ => ⟨vs, vs[i], q, by simp [e, hi]⟩, fun _ ⟨vs, q, e⟩ => ⟨vs, q, by omega⟩, fun _ _ _ _ _ _ y => y⟩
theorem walk_tupN {a : Addr} {n : Nat} : Walk (Itt K a) n (fun H => ∃ vs, SqT K H a vs ∧ vs.length = n) (fun i Hc x H' => H' = Hc ∧ ∀ ys, SqT K Hc a ys → ys[i]? = some x) :=
  ⟨fun i _ hi ⟨vs, q, e⟩ => ⟨vs, vs[i], q, by simp [e, hi]⟩, fun _ ⟨vs, q, e⟩ => ⟨vs, q, by omega⟩, fun _ _ _ _ _ _ y => y⟩
/-- a list whose state gives its items at any time -/
theorem ri_list {a : Addr} {it : ItD} (f : ∀ ι' H' h', Up ι H ι' H' → Rel K ι' h' H' → okG it.gs h' = true → ∃ vs, SqL K H' a vs ∧ RDs K ι' H' it.items vs) : RI K ι H it (Itl K a) := by
  refine ⟨_, _, walk_listN, fun ι' H' h' u R g => ?_, fun i Hc x H' ι' h' hi y u R g => ?_⟩
  · obtain ⟨vs, q, r⟩ := f ι' H' h' u.up R g
    exact ⟨vs, q, r.length.symm⟩
  · obtain ⟨rfl, y⟩ := y
    obtain ⟨vs, q, r⟩ := f ι' _ h' u.up R g
    obtain ⟨d, e, rd⟩ := r.getV (y vs q)
    exact ⟨d, e, rd, .refl, R, fun _ _ z => z⟩
theorem ri_tup {a : Addr} {it : ItD} (f : ∀ ι' H' h', Up ι H ι' H' → Rel K ι' h' H' → okG it.gs h' = true → ∃ vs, SqT K H' a vs ∧ RDs K ι' H' it.items vs) : RI K ι H it (Itt K a) := by
  refine ⟨_, _, walk_tupN, fun ι' H' h' u R g => ?_, fun i Hc x H' ι' h' hi y u R g => ?_⟩
  · obtain ⟨vs, q, r⟩ := f ι' H' h' u.up R g
    exact ⟨vs, q, r.length.symm⟩
  · obtain ⟨rfl, y⟩ := y
    obtain ⟨vs, q, r⟩ := f ι' _ h' u.up R g
    obtain ⟨d, e, rd⟩ := r.getV (y vs q)
    exact ⟨d, e, rd, .refl, R, fun _ _ z => z⟩
/-- a value that is walked: a list all the time, or a tuple all the time -/
theorem itOf_ok {x : D} {v : V} {it : ItD} (r : RD K ι H x v) (e : itOf h x = some it) : ∃ a, v = .ref a ∧
    ((∀ ι' H' h', Up ι H ι' H' → Rel K ι' h' H' → okG it.gs h' = true → ∃ vs, SqL K H' a vs ∧ RDs K ι' H' it.items vs) ∨ (∀ ι' H' h', Up ι H ι' H' → Rel K ι' h' H' → okG it.gs h' = true → ∃ vs, SqT K H' a vs ∧ RDs K ι' H' it.items vs)) := by
  cases r with
  | tup t rs => cases e; exact ⟨_, rfl, .inr fun ι' H' h' u R _ => ⟨_, (t.up u).sq, rs.up u⟩⟩
  | lst t rs => cases e; exact ⟨_, rfl, .inl fun ι' H' h' u R _ => ⟨_, (t.up u).sq, rs.up u⟩⟩
  | scr t => cases e; exact ⟨_, rfl, .inl fun ι' H' h' u R _ => ⟨_, (t.up u).sq, RDs.ofInts⟩⟩
  | @obj n a g =>
    have e : (match h[n]? with
    | some (.lst xs) => some (ItD.mk xs [(n, xs)])
    | _ => none) = some it := e
    split at e
    · cases e
      refine ⟨_, rfl, .inl fun ι' H' h' u R og => ?_⟩
      obtain ⟨vs, h1, h2⟩ := R.at (u.get _ _ g) (okG_at og List.mem_cons_self)
      exact ⟨vs, SqL.of h1, h2⟩
    · cases e
  | _ => cases e
def iSeq (ce : Env → M D) : Env → M ItD := fun ρ h => (ce ρ h).bind fun x h1 => match itOf h1 x with
  | some it => if okG it.gs h1 then .ok it h1 else .bad
  | none => .bad
variable {X : Cx} {W : WX} {pos : Pos} {ce : Env → M D} {cs : Env → M (List D)}
theorem di_seq {tg l : Expr} (hl : DE X W l ce) : DI X W tg l (iSeq ce) := pi_imp (pi_seq hl) fun σ H Q ⟨ι, h, ρ, R, S, p⟩ => by
  refine ⟨ι, h, ρ, R, S, Post.imp (Post.bind p) fun x H1 ⟨ι1, h1, dx, x1, R1, r1, p1⟩ => ?_⟩
  split at p1
  · rename_i it e
    obtain ⟨g, p1⟩ := p1.guard
    obtain ⟨a, rfl, f⟩ := itOf_ok r1 e
    rcases f with f | f
    · obtain ⟨vs, q, _⟩ := f ι1 H1 h1 (Ext.refl.up) R1 g
      exact ⟨a, rfl, .inl ⟨⟨vs, q⟩, p1.ok R1 (ri_list f)⟩⟩
    · obtain ⟨vs, q, _⟩ := f ι1 H1 h1 (Ext.refl.up) R1 g
      exact ⟨a, rfl, .inr ⟨⟨vs, q⟩, p1.ok R1 (ri_tup f)⟩⟩
  · exact p1.elim

/-! ### range -/
def rng : Int → Int → Nat → List D
  | _, _, 0 => []
  | a, c, n + 1 => .int a :: rng (a + c) c n
theorem rng_len : ∀ (n : Nat) (a c : Int), (rng a c n).length = n
  | 0, _, _ => rfl
  | n + 1, a, c => by unfold rng; rw [List.length_cons, rng_len n]
theorem rng_at : ∀ (n : Nat) (a c : Int) (i : Nat), i < n → (rng a c n)[i]? = some (.int (a + (i : Nat) * c))
  | 0, _, _, _, h => absurd h (Nat.not_lt_zero _)
  | n + 1, a, c, 0, _ => by unfold rng; simp
  | n + 1, a, c, i + 1, h => by
    unfold rng
    rw [List.getElem?_cons_succ, rng_at n (a + c) c i (Nat.lt_of_succ_lt_succ h)]
    congr 2
    rw [Int.natCast_succ, Int.add_mul, Int.one_mul]
    omega
theorem ri_fn {J : It} {a c : Int} {n : Nat} (w : Walk J n (fun _ => True) (YFn fun i => .int (a + (i : Nat) * c))) : RI K ι H ⟨rng a c n, []⟩ J := by
  have w' : Walk J (rng a c n).length (fun _ => True) (YFn fun i => .int (a + (i : Nat) * c)) := by rw [rng_len]; exact w
  refine ⟨_, _, w', fun _ _ _ _ _ _ => trivial, fun i Hc x H' ι' h' hi y u R g => ?_⟩
  obtain ⟨rfl, rfl⟩ := y
  rw [show (ItD.mk (rng a c n) []).items = rng a c n from rfl, rng_len] at hi
  exact ⟨_, rng_at n a c i hi, .int _, .refl, R, fun _ _ z => z⟩
def okI (i : Int) : Bool := decide (-4611686018427387904 ≤ i ∧ i < 4611686018427387904)
theorem okI_ok {i : Int} (h : okI i = true) : -(2 ^ 62) ≤ i ∧ i < 2 ^ 62 := by
  have := of_decide_eq_true h
  omega
def iR1 (cs : Env → M (List D)) : Env → M ItD := fun ρ h => (cs ρ h).bind fun ds h1 => match ds with
  | [.int j] => if okI j then .ok ⟨rng 0 1 j.toNat, []⟩ h1 else .bad
  | _ => .bad
def iR2 (cs : Env → M (List D)) : Env → M ItD := fun ρ h => (cs ρ h).bind fun ds h1 => match ds with
  | [.int i, .int j] => if okI i && okI j then .ok ⟨rng i 1 (j - i).toNat, []⟩ h1 else .bad
  | _ => .bad
def iR3 (cs : Env → M (List D)) : Env → M ItD := fun ρ h => (cs ρ h).bind fun ds h1 => match ds with
  | [.int i, .int j, .int k] => if okI i && okI j && decide (k = -1) then .ok ⟨rng i (-1) (i - j).toNat, []⟩ h1 else .bad
  | _ => .bad
theorem walk_r1 {lo : Int} {n : Nat} : Walk (Itr lo n) n (fun _ => True) (YFn fun i => .int (lo + (i : Nat) * 1)) := walk_range.mono (fun _ z => z) fun i H x H' _ _ y => ⟨y.1, by rw [y.2]; simp only [Int.mul_one]⟩
theorem di_range1 {tg a : Expr} {p : Pos} (hg : Gl X "range") (hm : X.mg "range" = none) (ha : DA X W [a] cs) (hs : starEach [a] X.env = [(false, eval a X.env)] := by rfl) : DI X W tg (.Call (.Name "range" p) [a] [] pos) (iR1 cs) := pi_imp (pi_range1 hg hm ha hs) fun σ H Q ⟨ι, h, ρ, R, S, p⟩ => by
  refine ⟨ι, h, ρ, R, S, Post.imp (Post.bind p) fun vs H1 ⟨ι1, h1, ds, x1, R1, r1, p1⟩ => ?_⟩
  split at p1
  · rename_i j
    obtain ⟨c, p1⟩ := p1.guard
    cases r1 with
    | cons r rr =>
      cases r
      cases rr
      exact ⟨j, rfl, (okI_ok c).1, (okI_ok c).2, p1.ok R1 (ri_fn walk_r1)⟩
  · exact p1.elim
/-! ### enumerate, zip: new pairs -/
theorem ri_pair {J : It} {it : ItD} {G : Hp → Prop} {A B : Nat → Hp → V → Prop} (w : Walk J it.items.length G (fun i H v H' => ∃ T x y, v = .ref T ∧ H T = none ∧ H' = upd H T (.tup [x, y]) ∧ A i H x ∧ B i H y))
    (f : ∀ ι' H' h', Up ι H ι' H' → Rel K ι' h' H' → okG it.gs h' = true → G H')
    (k : ∀ i ι' H' h' x y, i < it.items.length → Up ι H ι' H' → Rel K ι' h' H' → okG it.gs h' = true → A i H' x → B i H' y → ∃ d e, it.items[i]? = some (.tup [d, e]) ∧ RD K ι' H' d x ∧ RD K ι' H' e y) : RI K ι H it J := by
  refine ⟨_, _, w, fun ι' H' h' u => f ι' H' h' u.up, fun i Hc v H' ι' h' hi y u R g => ?_⟩
  obtain ⟨T, x, y, rfl, hT, rfl, ha, hb⟩ := y
  obtain ⟨d, e, h1, h2, h3⟩ := k i ι' Hc h' x y hi u.up R g ha hb
  exact ⟨_, h1, .tup (.inl ⟨R.out hT, .inl upd_same⟩) (.cons (h2.mono (.put hT)) (.cons (h3.mono (.put hT)) .nil)), .put hT, R.put hT, upd_keep hT⟩
theorem walk_enumN {a : Addr} {n : Nat} : Walk (Ite K a) n (fun H => ∃ vs, SqL K H a vs ∧ vs.length = n) (fun i H v H' => ∃ T x y, v = .ref T ∧ H T = none ∧ H' = upd H T (.tup [x, y]) ∧ x = .int (i : Nat) ∧ ∀ ys, SqL K H a ys → ys[i]? = some y) := by
  refine ⟨fun i _ hi ⟨vs, q, e⟩ => ⟨vs, vs[i], q, by simp [e, hi]⟩, fun _ ⟨vs, q, e⟩ => ⟨vs, q, by omega⟩, fun i H v H' _ _ y => ?_⟩
  obtain ⟨T, x, h1, h2, h3, h4⟩ := y
  exact ⟨T, .int (i : Nat), x, h1, h2, h3, rfl, h4⟩
theorem walk_zipN {a b : Addr} {n : Nat} : Walk (Itz K a b) n (fun H => ∃ vs us, SqL K H a vs ∧ SqL K H b us ∧ n = min vs.length us.length) (fun i H v H' => ∃ T x y, v = .ref T ∧ H T = none ∧ H' = upd H T (.tup [x, y]) ∧ (∀ ys, SqL K H a ys → ys[i]? = some x) ∧ ∀ ys, SqL K H b ys → ys[i]? = some y) := by
  refine ⟨fun i _ hi ⟨vs, us, q, q', e⟩ => ?_, fun _ ⟨vs, us, q, q', e⟩ => ⟨vs, us, q, q', by omega⟩, fun i H v H' _ _ y => y⟩
  have h1 : i < vs.length := by omega
  have h2 : i < us.length := by omega
  exact ⟨vs, us, vs[i], us[i], q, q', by simp [h1], by simp [h2]⟩
theorem walk_zipTN {a b : Addr} {n : Nat} : Walk (RZ.ItzT K a b) n (fun H => ∃ vs us, SqT K H a vs ∧ SqT K H b us ∧ n = min vs.length us.length) (fun i H v H' => ∃ T x y, v = .ref T ∧ H T = none ∧ H' = upd H T (.tup [x, y]) ∧ (∀ ys, SqT K H a ys → ys[i]? = some x) ∧ ∀ ys, SqT K H b ys → ys[i]? = some y) := by
  refine ⟨fun i _ hi ⟨vs, us, q, q', e⟩ => ?_, fun _ ⟨vs, us, q, q', e⟩ => ⟨vs, us, q, q', by omega⟩, fun i H v H' _ _ y => y⟩
  have h1 : i < vs.length := by omega
  have h2 : i < us.length := by omega
  exact ⟨vs, us, vs[i], us[i], q, q', by simp [h1], by simp [h2]⟩
def enumD : Nat → List D → List D
  | _, [] => []
  | n, x :: xs => .tup [.int n, x] :: enumD (n + 1) xs
theorem enumD_len : ∀ (xs : List D) (n : Nat), (enumD n xs).length = xs.length
  | [], _ => rfl
  | x :: xs, n => by unfold enumD; rw [List.length_cons, List.length_cons, enumD_len xs]
theorem enumD_at : ∀ (xs : List D) (n i : Nat) (d : D), xs[i]? = some d → (enumD n xs)[i]? = some (.tup [.int ((n + i : Nat) : Int), d])
  | [], _, _, _, e => by simp at e
  | x :: xs, n, 0, d, e => by unfold enumD; simp at e ⊢; exact e
  | x :: xs, n, i + 1, d, e => by
    unfold enumD
    rw [List.getElem?_cons_succ, enumD_at xs (n + 1) i d (by simpa using e)]
    congr 5
    omega
def zipD : List D → List D → List D
  | x :: xs, y :: ys => .tup [x, y] :: zipD xs ys
  | _, _ => []
theorem zipD_len : ∀ (xs ys : List D), (zipD xs ys).length = min xs.length ys.length
  | [], ys => by cases ys <;> simp [zipD]
  | _ :: _, [] => by simp [zipD]
  | x :: xs, y :: ys => by unfold zipD; rw [List.length_cons, List.length_cons, List.length_cons, zipD_len xs]; omega
theorem zipD_at : ∀ (xs ys : List D) (i : Nat) (d e : D), xs[i]? = some d → ys[i]? = some e → (zipD xs ys)[i]? = some (.tup [d, e])
  | [], _, _, _, _, h, _ => by simp at h
  | _ :: _, [], _, _, _, _, h => by simp at h
  | x :: xs, y :: ys, 0, d, e, h1, h2 => by simp at h1 h2; subst h1 h2; rfl
  | x :: xs, y :: ys, i + 1, d, e, h1, h2 => by
    unfold zipD
    rw [List.getElem?_cons_succ]
    exact zipD_at xs ys i d e (by simpa using h1) (by simpa using h2)
def isT : D → Bool
  | .tup _ => true
  | _ => false
def iZip (cs : Env → M (List D)) : Env → M ItD := fun ρ h => (cs ρ h).bind fun ds h1 => match ds with
  | [x, y] => if isT x == isT y then (match itOf h1 x, itOf h1 y with
    | some it, some jt => if okG it.gs h1 && okG jt.gs h1 then .ok ⟨zipD it.items jt.items, it.gs ++ jt.gs⟩ h1 else .bad
    | _, _ => .bad) else .bad
  | _ => .bad
theorem okG_app {a b : List (Nat × List D)} {h : Hs} (e : okG (a ++ b) h = true) : okG a h = true ∧ okG b h = true := by
  unfold okG at e ⊢
  rw [List.all_append] at e
  exact Bool.and_eq_true_iff.mp e
/-- a value that is walked, by its kind -/
theorem itOf_L {x : D} {v : V} {it : ItD} (r : RD K ι H x v) (e : itOf h x = some it) (nt : isT x = false) : ∃ a, v = .ref a ∧ ∀ ι' H' h', Up ι H ι' H' → Rel K ι' h' H' → okG it.gs h' = true → ∃ vs, SqL K H' a vs ∧ RDs K ι' H' it.items vs := by
  cases r with
  | tup t rs => cases nt
  | lst t rs => cases e; exact ⟨_, rfl, fun ι' H' h' u R _ => ⟨_, (t.up u).sq, rs.up u⟩⟩
  | scr t => cases e; exact ⟨_, rfl, fun ι' H' h' u R _ => ⟨_, (t.up u).sq, RDs.ofInts⟩⟩
  | @obj n a g =>
    have e : (match h[n]? with
    | some (.lst xs) => some (ItD.mk xs [(n, xs)])
    | _ => none) = some it := e
    split at e
    · cases e
      refine ⟨_, rfl, fun ι' H' h' u R og => ?_⟩
      obtain ⟨vs, h1, h2⟩ := R.at (u.get _ _ g) (okG_at og List.mem_cons_self)
      exact ⟨vs, SqL.of h1, h2⟩
    · cases e
  | _ => cases e
theorem itOf_T {x : D} {v : V} {it : ItD} (r : RD K ι H x v) (e : itOf h x = some it) (nt : isT x = true) : ∃ a, v = .ref a ∧ ∀ ι' H' h', Up ι H ι' H' → Rel K ι' h' H' → okG it.gs h' = true → ∃ vs, SqT K H' a vs ∧ RDs K ι' H' it.items vs := by
  cases r with
  | tup t rs => cases e; exact ⟨_, rfl, fun ι' H' h' u R _ => ⟨_, (t.up u).sq, rs.up u⟩⟩
  | _ => cases nt
theorem di_zip {a b : Expr} {p tpos : Pos} {elts : List Expr} {kk : Nat} (hg : Gl X "zip") (hm : X.mg "zip" = none) (ha : DA X W [a, b] cs)
    (hs : starEach [a, b] X.env = (false, eval a X.env) :: starEach [b] X.env := by rfl) (hpl : (backTo pos (starEach [b] X.env)).any (·.1) = false := by rfl) : DI X W (.Tuple elts kk tpos) (.Call (.Name "zip" p) [a, b] [] pos) (iZip cs) := pi_imp (RZ.pi_zipA hg hm ha hs hpl) fun σ H Q ⟨ι, h, ρ, R, S, p⟩ => by
  refine ⟨ι, h, ρ, R, S, Post.imp (Post.bind p) fun vs H1 ⟨ι1, h1, ds, x1, R1, r1, p1⟩ => ?_⟩
  split at p1
  · rename_i x y
    obtain ⟨et, p1⟩ := p1.guard
    have et : isT x = isT y := by simpa using et
    split at p1
    · rename_i it jt e1 e2
      obtain ⟨g, p1⟩ := p1.guard
      obtain ⟨g1, g2⟩ := Bool.and_eq_true_iff.mp g
      cases r1 with
      | cons r rr =>
        cases rr with
        | cons r' rr =>
          cases rr
          cases ex : isT x with
          | false =>
            obtain ⟨a, rfl, f⟩ := itOf_L r e1 ex
            obtain ⟨b, rfl, f'⟩ := itOf_L r' e2 (et ▸ ex)
            obtain ⟨vs, q, _⟩ := f ι1 H1 h1 (Ext.refl.up) R1 g1
            obtain ⟨us, q', _⟩ := f' ι1 H1 h1 (Ext.refl.up) R1 g2
            refine ⟨a, b, vs, us, rfl, .inl ⟨q, q', p1.ok R1 (ri_pair (walk_zipN (n := (zipD it.items jt.items).length)) (fun ι' H' h' u R g => ?_) fun i ι' H' h' y z hi u R g hy hz => ?_)⟩⟩
            · obtain ⟨vs, q, r⟩ := f ι' H' h' u R (okG_app g).1
              obtain ⟨us, q', r'⟩ := f' ι' H' h' u R (okG_app g).2
              exact ⟨vs, us, q, q', by rw [zipD_len, r.length, r'.length]⟩
            · obtain ⟨vs, q, r⟩ := f ι' H' h' u R (okG_app g).1
              obtain ⟨us, q', r'⟩ := f' ι' H' h' u R (okG_app g).2
              obtain ⟨d, e1, e2⟩ := r.getV (hy vs q)
              obtain ⟨d', e1', e2'⟩ := r'.getV (hz us q')
              exact ⟨d, d', zipD_at _ _ _ _ _ e1 e1', e2, e2'⟩
          | true =>
            obtain ⟨a, rfl, f⟩ := itOf_T r e1 ex
            obtain ⟨b, rfl, f'⟩ := itOf_T r' e2 (et ▸ ex)
            obtain ⟨vs, q, _⟩ := f ι1 H1 h1 (Ext.refl.up) R1 g1
            obtain ⟨us, q', _⟩ := f' ι1 H1 h1 (Ext.refl.up) R1 g2
            refine ⟨a, b, vs, us, rfl, .inr ⟨q, q', p1.ok R1 (ri_pair (walk_zipTN (n := (zipD it.items jt.items).length)) (fun ι' H' h' u R g => ?_) fun i ι' H' h' y z hi u R g hy hz => ?_)⟩⟩
            · obtain ⟨vs, q, r⟩ := f ι' H' h' u R (okG_app g).1
              obtain ⟨us, q', r'⟩ := f' ι' H' h' u R (okG_app g).2
              exact ⟨vs, us, q, q', by rw [zipD_len, r.length, r'.length]⟩
            · obtain ⟨vs, q, r⟩ := f ι' H' h' u R (okG_app g).1
              obtain ⟨us, q', r'⟩ := f' ι' H' h' u R (okG_app g).2
              obtain ⟨d, e1, e2⟩ := r.getV (hy vs q)
              obtain ⟨d', e1', e2'⟩ := r'.getV (hz us q')
              exact ⟨d, d', zipD_at _ _ _ _ _ e1 e1', e2, e2'⟩
    · exact p1.elim
  · exact p1.elim
end
end Dl

/-! The D layer, 10: comprehensions. -/
namespace Dl
open PySem PySem.Spec PyProof.Rows L2
variable [Tb]

def wipeD (ρ : Env) : List Nat → Env
  | [] => ρ
  | v :: vs => (wipeD ρ vs).set v none
def R.nox {α : Type} (r : R α) : R α := match r with
  | .ok a h => .ok a h
  | _ => .bad
def lcF (p : Pat) (ct : Env → M Bool) (ce : Env → M D) (gs : List (Nat × List D)) (ρ : Env) : List D → M (List D)
  | [], h => if okG gs h then .ok [] h else .bad
  | x :: xs, h => if okG gs h then (match patD p x ρ with
    | none => .bad
    | some ρ1 => (ct ρ1 h).nox.bind fun b h1 => if b = true then (ce ρ1 h1).nox.bind fun d h2 => (lcF p ct ce gs ρ xs h2).bind fun ds h3 => .ok (d :: ds) h3 else lcF p ct ce gs ρ xs h1) else .bad
def nLc (ci : Env → M ItD) (p : Pat) (own : List Nat) (ct : Env → M Bool) (ce : Env → M D) : Env → M (List D) := fun ρ h =>
  (ci ρ h).bind fun it h1 => if okLen it.items.length then lcF p ct ce it.gs (wipeD ρ own) it.items h1 else .bad
def tYes' : Env → M Bool := fun _ h => .ok true h
def NoW : WX := fun _ _ _ _ => False
section
variable {K : PySem.W.Frag} {ι ι1 : Ix} {H H1 : Hp} {h : Hs} {ρ : Env} {σ : L2.St}
theorem RS.wipe (S : RS K ι H ρ σ) : ∀ vs : List Nat, RS K ι H (wipeD ρ vs) (L2.wipe σ vs)
  | [] => S
  | v :: vs => by
    have ih := RS.wipe S vs
    refine ⟨?_, fun j d g => ?_⟩
    · show ((wipeD ρ vs).set v none).length = ((L2.wipe σ vs).set v none).length
      rw [List.length_set, List.length_set]
      exact ih.1
    · have g : ((wipeD ρ vs).set v none)[j]? = some (some d) := g
      show ∃ w, ((L2.wipe σ vs).set v none)[j]? = some (some w) ∧ _
      by_cases e : v = j
      · subst e
        by_cases hl : v < (wipeD ρ vs).length
        · rw [List.getElem?_set_self hl] at g; cases g
        · rw [List.getElem?_eq_none (by rw [List.length_set]; omega)] at g; cases g
      · rw [List.getElem?_set_ne e] at g ⊢
        exact ih.2 j d g
theorem wipe_wipe {vs : List Nat} : L2.wipe (L2.wipe σ vs) vs = L2.wipe σ vs := by
  apply List.ext_getElem?
  intro j
  by_cases hj : j ∈ vs
  · rw [wipe_in hj, wipe_in hj, wipe_length]
  · rw [wipe_out hj]
theorem PostN.nox {W : XK} {W' : XK} {α β : Type} {RA : Ix → Hp → α → β → Prop} {r : R α} {f : α → M (List D)} {ιb : Ix} {Hb : Hp} {Q : VK} (p : PostN K W (r.nox.bind f) ιb Hb Q) :
    Post K W' RA r ι H (fun b H1 => ∃ ι1 h1 a, Ext ι H ι1 H1 ∧ Rel K ι1 h1 H1 ∧ RA ι1 H1 a b ∧ PostN K W (f a h1) ιb Hb Q) := by
  cases r with
  | ok a h => exact fun ι' H' b e R ra => ⟨ι', h, a, e, R, ra, p⟩
  | exc C fs h => exact (show False from p).elim
  | bad => exact (show False from p).elim
/-- a list that is being made, changed -/
theorem Ext.inner {p : Addr} {o : HO} (e : Ext (ι.with p) H ι1 H1) : ∃ ι2 : Ix, ι1 = ι2.with p ∧ ι2.rs = ι.rs ∧ ι2.os = ι1.os := by
  refine ⟨⟨ι1.os, ι.rs⟩, ?_, rfl, rfl⟩
  have e1 : ι1.rs = p :: ι.rs := e.rs
  show ι1 = ⟨ι1.os, p :: ι.rs⟩
  rw [← e1]
theorem Up.chgr {p : Addr} {o : HO} : Up (ι.with p) H (ι.with p) (upd H p o) := ⟨fun _ _ e => e, fun a u e f => ⟨by rw [upd_ne fun z => f.2 (by rw [z]; exact List.mem_cons_self)]; exact e, f⟩⟩
theorem Rel.chgr {p : Addr} {o : HO} {u : HO} (R : Rel K (ι.with p) h H) (n : p ∉ ι.os) (ep : H p = some u) (np : NT u := by intro _ z; cases z) : Rel K (ι.with p) h (upd H p o) := by
  refine ⟨R.len, R.nd, fun j a u e g => CellOk.up Up.chgr (upd_ne fun z => n (by rw [← z]; exact List.mem_of_getElem? e)) (R.cell j a u e g), fun a m => ?_, fun q m => ⟨(R.tab q m).1, (R.tab q m).2.up Up.chgr (upd_ne fun z => (R.tab q m).2.nt (by rw [z]; exact ep) np)⟩⟩
  by_cases z : a = p
  · rw [z, upd_same]; exact fun z => nomatch z
  · rw [upd_ne z]; exact R.res a m
theorem lcF_ok {p : Pat} {ct : Env → M Bool} {ce : Env → M D} {gs : List (Nat × List D)} {xs : List D} {W : XK} {f : List D → M (List D)} {Q : VK} (q : PostN K W ((lcF p ct ce gs ρ xs h).bind f) ι H Q) : okG gs h = true := by
  cases xs with
  | nil =>
    unfold lcF at q
    cases e : okG gs h with
    | true => rfl
    | false => rw [e] at q; exact (show False from q).elim
  | cons x xs =>
    unfold lcF at q
    cases e : okG gs h with
    | true => rfl
    | false => rw [e] at q; exact (show False from q).elim
theorem bind_assoc {α β γ : Type} (r : R α) (f : α → M β) (g : β → M γ) : (r.bind f).bind g = r.bind fun a h => (f a h).bind g := by
  cases r <;> rfl
theorem bind_ok {α β : Type} (a : α) (f : α → M β) (h : Hs) : (R.ok a h).bind f = f a h := rfl
theorem up2 {ι2 : Ix} {Hc : Hp} {p : Addr} (x2 : Ext ι1 H1 ι2 Hc) (hD : H1 p = none) : Up ι1 H1 (ι2.with p) Hc := by
  refine ⟨x2.up.get, fun a o e f => ?_⟩
  obtain ⟨z1, z2⟩ := x2.up.keep a o e f
  exact ⟨z1, z2.1, fun m => (List.mem_cons.mp m).elim (fun y => by rw [y, hD] at e; cases e) z2.2⟩
theorem RS.up' {ι' : Ix} {H' : Hp} (S : RS K ι H ρ σ) (u : Up ι H ι' H') : RS K ι' H' ρ σ := ⟨S.1, fun i d g => let ⟨v, h1, h2⟩ := S.2 i d g; ⟨v, h1, h2.up u⟩⟩
theorem ext_in {ι2 ι5 : Ix} {Hc H4 : Hp} {p : Addr} {vs : List V} (x2 : Ext ι1 H1 ι2 Hc) (hD : H1 p = none) (hp : Hc p = some (.lst vs)) (x : Ext (ι2.with p) Hc (ι5.with p) H4) : Ext ι1 H1 ι5 H4 := by
  have z : Ext ι2 Hc ι5 H4 := ⟨x.pre, by have e : p :: ι5.rs = p :: ι2.rs := x.rs; exact List.tail_eq_of_cons_eq e, fun a o ha hn hr => x.keep a o ha hn fun m => (List.mem_cons.mp m).elim (fun z => by
    rw [z, hp] at ha
    cases ha
    exact fun _ y => nomatch y) hr, x.new, x.frz, x.dom⟩
  exact x2.trans z
/-- the turns of a comprehension -/
theorem w_lc {W : WX} {ci : Env → M ItD} {p : Pat} {own : List Nat} {ct : Env → M Bool} {ce : Env → M D} {Q : VK} (hp : ∀ i, i ∈ patIs p → i ∈ own) (q : wN K W (nLc ci p own ct ce) σ H Q) : tLc (wI K W ci) (gPat K p) (wT K NoW ct) (wE K NoW ce) own σ H Q := by
  obtain ⟨ι, h, ρ, R, S, q⟩ := q
  refine ⟨ι, h, ρ, R, S, Post.imp (PostN.bind q) fun J H1 ⟨ι1, h1, it, x1, R1, ⟨G, Y, w, st, yd⟩, q1⟩ => ?_⟩
  obtain ⟨gl, q1⟩ := q1.guard
  intro Dd hD
  have S1 := S.mono x1
  have oD := R1.out hD
  have hDH : H Dd = none := x1.back hD fun z => oD.1 (by
    obtain ⟨t, e1⟩ := x1.pre
    rw [e1]
    exact List.mem_append_left _ z)
  refine lc_it w (fun i Hc => ∃ ι2 h2 acc vs, Ext ι1 H1 ι2 Hc ∧ Rel K (ι2.with Dd) h2 Hc ∧ Hc Dd = some (.lst vs) ∧ RDs K (ι2.with Dd) Hc acc vs ∧ Dd ∉ ι2.os ∧ acc.length ≤ i ∧
    PostN K (fun x d H' => W x d σ H') ((lcF p ct ce it.gs (wipeD ρ own) (it.items.drop i) h2).bind fun ds h3 => .ok (acc ++ ds) h3) ι H Q) ?_ ?_ ?_ ?_
  · refine ⟨ι1, h1, [], [], .put hD, R1.with hD (upd_keep hD) (by rw [upd_same]; exact fun z => nomatch z), upd_same, .nil, oD.1, Nat.zero_le _, ?_⟩
    rw [List.drop_zero]
    have e : ((lcF p ct ce it.gs (wipeD ρ own) it.items h1).bind fun ds h3 => .ok ([] ++ ds) h3) = lcF p ct ce it.gs (wipeD ρ own) it.items h1 := by
      cases lcF p ct ce it.gs (wipeD ρ own) it.items h1 <;> rfl
    rw [e]
    exact q1
  · rintro i Hc hi ⟨ι2, h2, acc, vs, x2, R2, hv, rv, nD, la, q2⟩
    exact st _ Hc h2 ⟨up2 x2 hD, x2.frz⟩ R2 (lcF_ok q2)
  · rintro i x Hc H' hi ⟨ι2, h2, acc, vs, x2, R2, hv, rv, nD, la, q2⟩ y
    have og := lcF_ok q2
    obtain ⟨d, e, rd, x3, R3, k3⟩ := yd i Hc x H' _ h2 hi y ⟨up2 x2 hD, x2.frz⟩ R2 og
    have ed : it.items.drop i = d :: it.items.drop (i + 1) := by
      obtain ⟨hl, e1⟩ := List.getElem?_eq_some_iff.mp e
      rw [← e1]
      exact List.drop_eq_getElem_cons hl
    rw [ed] at q2
    unfold lcF at q2
    rw [if_pos og] at q2
    cases ep : patD p d (wipeD ρ own) with
    | none => rw [ep] at q2; exact (show False from q2).elim
    | some ρ3 =>
      rw [ep] at q2
      have Sw : RS K (ι2.with Dd) H' (wipeD ρ own) (L2.wipe σ own) := ((S1.wipe own).up' (up2 x2 hD)).mono x3
      refine gPat_ok (vs := own) p rd Sw ep hp fun σ3 S3 w3 => ⟨w3.trans wipe_wipe, ?_⟩
      simp only [bind_assoc] at q2
      refine ⟨ι2.with Dd, h2, ρ3, R3, S3, Post.imp (PostN.nox q2) fun b H3 ⟨ι3, h3, b', x4, R4, rb, q3⟩ => ?_⟩
      subst rb
      have x34 := x3.trans x4
      have hi' : i < 16777216 := Nat.lt_of_lt_of_le hi (of_decide_eq_true gl)
      cases b' with
      | false =>
        rw [if_neg Bool.false_ne_true] at q3 ⊢
        obtain ⟨ι5, e5, er, eo⟩ := Ext.inner (o := .lst []) x34
        subst e5
        refine ⟨ι5, h3, acc, vs, ?_, R4, x34.keep _ _ hv nD (fun _ _ z => nomatch z), rv.mono x34, ?_, by omega, q3⟩
        · exact ext_in x2 hD hv x34
        · intro m
          rcases x34.new Dd m with z | z
          · exact nD z
          · rw [hv] at z; cases z
      | true =>
        rw [if_pos rfl] at q3 ⊢
        simp only [bind_assoc] at q3
        refine ⟨ι3, h3, ρ3, R4, S3.mono x4, Post.imp (PostN.nox q3) fun v H4 ⟨ι4, h4, dv, x5, R5, rb, q4⟩ => ?_⟩
        have x35 := x34.trans x5
        obtain ⟨ι5, e5, er, eo⟩ := Ext.inner (o := .lst []) x35
        subst e5
        have nD5 : Dd ∉ ι5.os := fun m => by
          rcases x35.new Dd m with z | z
          · exact nD z
          · rw [hv] at z; cases z
        have hv4 := x35.keep _ _ hv nD (fun _ _ z => nomatch z)
        have rv4 := rv.mono x35
        refine ⟨vs, hv4, by rw [sizeLine_eq, ← rv.length]; omega, ι5, h4, acc ++ [dv], vs ++ [v], ?_, R5.chgr nD5 hv4, upd_same, (rv4.append (.cons rb .nil)).up Up.chgr, nD5, by rw [List.length_append, List.length_singleton]; omega, ?_⟩
        · have z := ext_in x2 hD hv x35
          exact ⟨z.pre, z.rs, fun a o ha hn => by rw [upd_ne fun e => by rw [e, hD] at ha; cases ha]; exact z.keep a o ha hn, z.new, fun a od u ha => by rw [upd_ne fun e => by rw [e, hD] at ha; cases ha]; exact z.frz a od u ha, fun a n => upd_dom a (z.dom a n)⟩
        · have e : ((lcF p ct ce it.gs (wipeD ρ own) (it.items.drop (i + 1)) h4).bind fun ds h5 => .ok (acc ++ [dv] ++ ds) h5) = (lcF p ct ce it.gs (wipeD ρ own) (it.items.drop (i + 1)) h4).bind fun ds h5 => .ok (acc ++ (dv :: ds)) h5 := by
            congr 1
            funext ds h5
            rw [List.append_assoc]
            rfl
          rw [e]
          simp only [bind_ok] at q4
          exact q4
  · rintro Hc ⟨ι2, h2, acc, vs, x2, R2, hv, rv, nD, la, q2⟩
    have og := lcF_ok q2
    rw [List.drop_length] at q2
    unfold lcF at q2
    rw [if_pos og, bind_ok, List.append_nil] at q2
    have n2 : Dd ∉ ι2.rs := by rw [x2.rs]; exact oD.2
    exact q2 ι2 Hc Dd vs (x1.trans x2) R2 rv hv nD n2 hDH
section
variable {X : Cx} {W : WX} {pos : Pos}
abbrev DTs (X : Cx) (W : WX) (ifs : List Expr) (c : Env → M Bool) : Prop := PTs X ifs (wT X.K W c)
theorem dts_nil : DTs X W [] tYes' := by
  refine ⟨fun pins s σ H Q I ⟨ι, h, ρ, R, S, p⟩ => pts_nil.run pins s σ H Q I ?_⟩
  exact p.ok R rfl
theorem dts_one {c : Expr} {ct : Env → M Bool} (h : DT X W c ct) : DTs X W [c] ct := pts_one h
theorem dn_lc {elt tg iter : Expr} {ifs : List Expr} {scope : Scope} {own : List (Str × Nat)} {ci : Env → M ItD} {p : Pat} {ct : Env → M Bool} {ce : Env → M D} (hc : X.calm = true) (hN : X.N.Nodup) (hi : DI X W tg iter ci) (ok : BlkOk X.N X.env.scope scope own)
    (hg : ∀ (s : Shared) (H : Hp) (C : Addr) (cl : List (Str × Addr)) (fp : List Addr), PG (X.blk s H scope (compEnvC scope cl C X.env) fp) tg (gPat X.K p)) (ht : ∀ (s : Shared) (H : Hp) (C : Addr) (cl : List (Str × Addr)) (fp : List Addr), DTs (X.blk s H scope (compEnvC scope cl C X.env) fp) NoW ifs ct)
    (he : ∀ (s : Shared) (H : Hp) (C : Addr) (cl : List (Str × Addr)) (fp : List Addr), DE (X.blk s H scope (compEnvC scope cl C X.env) fp) NoW elt ce) (hp : ∀ i, i ∈ patIs p → i ∈ own.map (·.2) := by decide) (hs : ∀ x, foldedSetIterable iter X.env x = pure x := by intro _; rfl) :
    DN X W (.ListComp elt [⟨tg, iter, ifs, 0⟩] scope pos) (nLc ci p (own.map (·.2)) ct ce) := pe_imp (pe_lc hc hN hi ok hg ht he hs) fun σ H Q q => w_lc hp q
theorem ds_setLc {f : (Env → M (List D)) → Env → M D} (hf : ∀ (cs : Env → M (List D)) σ H Q, wE X.K W (f cs) σ H Q → wN X.K W cs σ H Q) {i : Nat} {y : Str} {py spos : Pos} {elt tg iter : Expr} {ifs : List Expr} {scope : Scope} {own : List (Str × Nat)} {ci : Env → M ItD} {p : Pat} {ct : Env → M Bool} {ce : Env → M D} (hc : X.calm = true) (hN : X.N.Nodup) (hi : DI X W tg iter ci) (ok : BlkOk X.N X.env.scope scope own)
    (hg : ∀ (s : Shared) (H : Hp) (C : Addr) (cl : List (Str × Addr)) (fp : List Addr), PG (X.blk s H scope (compEnvC scope cl C X.env) fp) tg (gPat X.K p)) (ht : ∀ (s : Shared) (H : Hp) (C : Addr) (cl : List (Str × Addr)) (fp : List Addr), DTs (X.blk s H scope (compEnvC scope cl C X.env) fp) NoW ifs ct)
    (he : ∀ (s : Shared) (H : Hp) (C : Addr) (cl : List (Str × Addr)) (fp : List Addr), DE (X.blk s H scope (compEnvC scope cl C X.env) fp) NoW elt ce) (hy : X.N[i]? = some y := by rfl) (hyl : X.env.scope.names.lookup y = some .local := by rfl)
    (hk : X.env.scope.kind = .function := by rfl) (hl : (py.line == pos.line) = true := by rfl) (hl2 : (scope.names.any fun (n, k) => n == y && (k == .local || k == .cell)) = false := by rfl) (hp : ∀ i, i ∈ patIs p → i ∈ own.map (·.2) := by decide) (hs : ∀ x, foldedSetIterable iter X.env x = pure x := by intro _; rfl) :
    DS X W (.Assign [.Name y py] (.ListComp elt [⟨tg, iter, ifs, 0⟩] scope pos) spos) (sSet i (f (nLc ci p (own.map (·.2)) ct ce))) := ps_imp (ps_setLc hc hN hy hyl (sw_true hk hyl hl hl2) hi ok hg ht he hs) fun D σ H q => w_lc hp (hf _ _ _ _ (w_set q))
end
end
end Dl

/-! The D layer, 11: stores, methods of lists, {}. -/
namespace Dl
open PySem PySem.Spec PyProof.Rows L2
variable [Tb]

section
variable {X : Cx} {W : WX} {pos : Pos} {e o ix : Expr} {ce co cx : Env → M D} {cs : Env → M (List D)}
/-! ### a, b = x, y -/
def sPar2 (i j : Nat) (cs : Env → M (List D)) : SM := fun ρ h => (cs ρ h).then ρ fun xs h1 => match xs with
  | [x, y] => .nx ((ρ.set i (some x)).set j (some y)) h1
  | _ => .bad
def sPar3 (i j l : Nat) (cs : Env → M (List D)) : SM := fun ρ h => (cs ρ h).then ρ fun xs h1 => match xs with
  | [x, y, z] => .nx (((ρ.set i (some x)).set j (some y)).set l (some z)) h1
  | _ => .bad
theorem ds_par2 {i j : Nat} {x y : Str} {a b : Expr} {px py pt : Pos} {kt k2 pt2} (hc : X.calm = true) (hN : X.N.Nodup) (ha : DA X W [a, b] cs) (hi : X.N[i]? = some x := by rfl) (hj : X.N[j]? = some y := by rfl) (hij : i ≠ j := by decide)
    (hx : X.env.scope.names.lookup x = some .local := by rfl) (hy : X.env.scope.names.lookup y = some .local := by rfl)
    (hw : swappedStores [.Tuple [.Name x px, .Name y py] kt pt] (.Tuple [a, b] k2 pt2) X.env = pure (some [x, y]) := by rfl)
    (hs : swapsWithSole [.Tuple [.Name x px, .Name y py] kt pt] (.Tuple [a, b] k2 pt2) pos.line X.env = pure false := by rfl) :
    DS X W (.Assign [.Tuple [.Name x px, .Name y py] kt pt] (.Tuple [a, b] k2 pt2) pos) (sPar2 i j cs) := ps_imp (ps_par hc hN hi hj hij hx hy ha hw hs) fun D σ H ⟨ι, h, ρ, R, S, p⟩ => by
  refine ⟨ι, h, ρ, R, S, Post.imp (PostS.then p S) fun vs H1 ⟨ι1, h1, ds, x1, R1, r1, p1⟩ => ?_⟩
  split at p1
  · cases r1 with
    | cons r rr =>
      cases rr with
      | cons r' rr =>
        cases rr
        exact ⟨_, _, rfl, p1 ι1 H1 _ .refl R1 (((S.mono x1).set i r).set j r')⟩
  · exact p1.elim
/-! ### a, b = e -/
def sPat (p : Pat) (ce : Env → M D) : SM := fun ρ h => (ce ρ h).then ρ fun x h1 => match patD p x ρ with
  | some ρ1 => .nx ρ1 h1
  | none => .bad
theorem ds_pat {tg : Expr} {p : Pat} (he : DE X W e ce) (hg : PG X tg (gPat X.K p)) (hs : swapsWithSole [tg] e pos.line X.env = pure false := by rfl) (hw : swappedStores [tg] e X.env = pure none := by rfl)
    (h1 : (assignEach [tg] X.env).map (·.2) = [assign tg X.env] := by rfl) : DS X W (.Assign [tg] e pos) (sPat p ce) := ps_imp (ps_asg he hg hs hw h1) fun D σ H ⟨ι, h, ρ, R, S, p1⟩ => by
  refine ⟨ι, h, ρ, R, S, Post.imp (PostS.then p1 S) fun v H1 ⟨ι1, h1, d, x1, R1, r1, p1⟩ => ?_⟩
  split at p1
  · rename_i ρ1 ep
    exact gPat_ok (vs := patIs p) p r1 (S.mono x1) ep (fun _ z => z) fun σ' S' _ => p1 ι1 H1 σ' .refl R1 S'
  · exact p1.elim
/-! ### o[i] = e -/
def putKD (kvs : List (Key × D)) (k : Key) (d : D) : List (Key × D) := if (kvs.any fun kv => decide (kv.1 = k)) = true then kvs.map (fun kv => if kv.1 = k then (kv.1, d) else kv) else kvs ++ [(k, d)]
def setItemD (o i v : D) : Hs → Option Hs := fun h => match o with
  | .obj n => (match h[n]? with
    | some (.lst xs) => (match i with
      | .int k => (ixN xs.length k).map fun j => h.set n (.lst (xs.set j v))
      | _ => none)
    | some (.dI kvs) => (match keyOf i with
      | some k => if decide (kvs.length < 16777216) then some (h.set n (.dI (putKD kvs k v))) else none
      | none => none)
    | _ => none)
  | _ => none
def gSet : TSet := fun o i v H Q => rSetL o i v H Q ∨ rSetD o i v H Q
theorem set_all (hu : X.A.units + 1 < cLine) : PSet X gSet := by
  intro pins s σ H o i v ov iv u Q I ro ri rv h
  rcases h with h | h
  · exact set_list pins s σ H o i v ov iv u Q I ro ri rv h
  · exact set_dict hu pins s σ H o i v ov iv u Q I ro ri rv h
theorem rf_any {κ : Type} [DecidableEq κ] {K : PySem.W.Frag} {ι : Ix} {H : Hp} {k : κ} : ∀ {kvs : List (κ × D)} {us : List (κ × V)}, RF K ι H kvs us → (kvs.any fun kv => decide (kv.1 = k)) = us.any fun kv => decide (kv.1 = k)
  | _, _, .nil => rfl
  | _, _, .cons g r => by rw [List.any_cons, List.any_cons, rf_any r, g.1]
theorem rf_map {κ : Type} [DecidableEq κ] {K : PySem.W.Frag} {ι : Ix} {H : Hp} {k : κ} {d : D} {v : V} (rd : RD K ι H d v) : ∀ {kvs : List (κ × D)} {us : List (κ × V)}, RF K ι H kvs us → RF K ι H (kvs.map fun kv => if kv.1 = k then (kv.1, d) else kv) (us.map fun kv => if kv.1 = k then (kv.1, v) else kv)
  | _, _, .nil => .nil
  | p :: _, q :: _, .cons g r => by
    rw [List.map_cons, List.map_cons]
    refine .cons ?_ (rf_map rd r)
    by_cases e : p.1 = k
    · rw [if_pos e, if_pos (by rw [← g.1]; exact e)]
      exact ⟨g.1, rd⟩
    · rw [if_neg e, if_neg (by rw [← g.1]; exact e)]
      exact g
theorem rf_app {κ : Type} {K : PySem.W.Frag} {ι : Ix} {H : Hp} : ∀ {kvs kvs' : List (κ × D)} {us us' : List (κ × V)}, RF K ι H kvs us → RF K ι H kvs' us' → RF K ι H (kvs ++ kvs') (us ++ us')
  | _, _, _, _, .nil, s => s
  | _, _, _, _, .cons g r, s => .cons g (rf_app r s)
theorem rf_putK {K : PySem.W.Frag} {ι : Ix} {H : Hp} {k : Key} {d : D} {v : V} {kvs : List (Key × D)} {us : List (Key × V)} (r : RF K ι H kvs us) (rd : RD K ι H d v) : RF K ι H (putKD kvs k d) (putK us k v) := by
  unfold putKD putK
  rw [rf_any r]
  split
  · exact rf_map rd r
  · exact rf_app r (.cons ⟨rfl, rd⟩ .nil)
theorem setItem_ok {K : PySem.W.Frag} {ι : Ix} {H : Hp} {h h' : Hs} {x i d : D} {o j v : V} {Q : Hp → Prop} (R : Rel K ι h H) (rx : RD K ι H x o) (ri : RD K ι H i j) (rd : RD K ι H d v) (e : setItemD x i d h = some h')
    (q : ∀ H', Ext ι H ι H' → Rel K ι h' H' → Q H') : gSet o j v H Q := by
  unfold setItemD at e
  split at e
  · split at e
    · rename_i n xs en
      split at e
      · rename_i k
        obtain ⟨jj, e1, e2⟩ := Option.map_eq_some_iff.mp e
        subst e2
        cases rx with
        | @obj n a g =>
          obtain ⟨vs, h1, h2⟩ := R.at g en
          cases ri
          have m := List.mem_of_getElem? g
          refine .inl ⟨a, vs, k, jj, rfl, rfl, h1, by rw [← h2.length]; exact e1, q _ (.chg m (nfr h1)) (R.chg g ⟨_, upd_same, (RDs.set rd jj h2).mono (.chg m (nfr h1))⟩)⟩
      · cases e
    · rename_i n kvs en
      split at e
      · rename_i k ek
        split at e
        · rename_i hl
          cases e
          cases rx with
          | @obj n a g =>
            obtain ⟨us, h1, h2⟩ := R.at g en
            have m := List.mem_of_getElem? g
            refine .inr ⟨a, _, rfl, ?_, q _ (.chg m (nfr h1)) (R.chg g ⟨putK us k v, upd_same, (rf_putK h2 rd).mono (.chg m (nfr h1))⟩)⟩
            rw [keyOf_kV ri ek]
            exact DPut.k h1 (by rw [sizeLine_eq, ← rf_len h2]; exact of_decide_eq_true hl)
        · cases e
      · cases e
    · cases e
  · cases e
def sStore (ce co cx : Env → M D) : SM := fun ρ h => (ce ρ h).then ρ fun v h1 => (co ρ h1).then ρ fun o h2 => (cx ρ h2).then ρ fun i h3 => match setItemD o i v h3 with
  | some h4 => .nx ρ h4
  | none => .bad
theorem ds_store {p' : Pos} (hu : X.A.units + 1 < cLine) (he : DE X W e ce) (ho : DE X W o co) (hi : DE X W ix cx)
    (ha : ∀ v, assign (.Subscript o ix p') X.env v = (do
      let ov ← holding [v] (eval o X.env)
      let iv ← holding [v, ov] (eval ix X.env)
      standAt p'
      holding [v, ov, iv] (setItem ov iv v)
      release [v, ov, iv] []) := by intro _; rfl) (hs : swapsWithSole [.Subscript o ix p'] e pos.line X.env = pure false := by rfl) (hw : swappedStores [.Subscript o ix p'] e X.env = pure none := by rfl)
    (h1 : (assignEach [.Subscript o ix p'] X.env).map (·.2) = [assign (.Subscript o ix p') X.env] := by rfl) : DS X W (.Assign [.Subscript o ix p'] e pos) (sStore ce co cx) := ps_imp (ps_asg he (pg_sub ho hi (set_all hu) ha) hs hw h1) fun D σ H ⟨ι, h, ρ, R, S, p⟩ => by
  refine ⟨ι, h, ρ, R, S, Post.imp (PostS.then p S) fun v H1 ⟨ι1, h1, d, x1, R1, r1, p1⟩ => ?_⟩
  refine ⟨ι1, h1, ρ, R1, S.mono x1, Post.imp (PostS.then p1 (S.mono x1)) fun o H2 ⟨ι2, h2, od, x2, R2, r2, p2⟩ => ?_⟩
  have S2 := S.mono (x1.trans x2)
  refine ⟨ι2, h2, ρ, R2, S2, Post.imp (PostS.then p2 S2) fun j H3 ⟨ι3, h3, jd, x3, R3, r3, p3⟩ => ?_⟩
  split at p3
  · rename_i h4 e
    exact setItem_ok R3 (r2.mono x3) r3 (r1.mono (x2.trans x3)) e fun H' x4 R4 => p3 ι3 H' σ x4 R4 ((S2.mono x3).mono x4)
  · exact p3.elim
/-! ### o.f = e -/
def sFldD (C f : Str) (ce co : Env → M D) : SM := fun ρ h => (ce ρ h).then ρ fun v h1 => (co ρ h1).then ρ fun o h2 => match o, fieldsAt C h2 o with
  | .obj n, some fs => if decide (fs.length < 1000) then .nx ρ (h2.set n (.ins C (putFD f v fs))) else .bad
  | _, _ => .bad
theorem ds_fld {C f : Str} {p' : Pos} (c : Cls X.K (He.ga X.K C)) (nf : NoAttr X.K (He.ga X.K C) f) (he : DE X W e ce) (ho : DE X W o co) (hs : swapsWith e (some (.Attribute o f p')) pos.line X.env = pure false := by rfl) : DS X W (.Assign [.Attribute o f p'] e pos) (sFldD C f ce co) := ps_imp (ps_fld ho he hs) fun D σ H ⟨ι, h, ρ, R, S, p⟩ => by
  refine ⟨ι, h, ρ, R, S, Post.imp (PostS.then p S) fun v H1 ⟨ι1, h1, d, x1, R1, r1, p1⟩ => ?_⟩
  refine ⟨ι1, h1, ρ, R1, S.mono x1, Post.imp (PostS.then p1 (S.mono x1)) fun o H2 ⟨ι2, h2, od, x2, R2, r2, p2⟩ => ?_⟩
  split at p2
  · rename_i fs e1
    split at p2
    · rename_i hl
      obtain ⟨n, a, dx, us, e0, rfl, g, hn, hq, rf⟩ := fieldsAt_ok R2 r2 e1
      cases e0
      have m := List.mem_of_getElem? g
      refine ⟨a, _, dx, us, rfl, hq, c, nf, by rw [← rf_len rf]; exact of_decide_eq_true hl, p2 ι2 _ σ (.chg m (nfr hq)) (R2.chg g ⟨dx, _, upd_same, (rf_put (r1.mono x2) rf).mono (.chg m (nfr hq))⟩) ((S.mono (x1.trans x2)).mono (.chg m (nfr hq)))⟩
    · exact p2.elim
  · exact p2.elim
/-! ### {} -/
def eDct0 : Env → M D := fun _ h => .ok (.obj h.length) (h ++ [.dI []])
theorem de_dct0 : DE X W (.Dict [] [] pos) eDct0 := pe_imp pe_dnewK fun σ H Q ⟨ι, h, ρ, R, S, p⟩ a ha => by
  have x2 : Ext ι H (ι.push a) (upd H a (.dK [])) := .alloc ha (upd_keep ha)
  exact p (ι.push a) _ _ x2 (R.alloc (o := .dI []) ha (upd_keep ha) (by rw [upd_same]; exact fun z => nomatch z) ⟨[], upd_same, .nil⟩) (.obj (push_at R))
end
end Dl

/-! The D layer, 12: methods of lists; built-in functions. -/
namespace Dl
open PySem PySem.Spec PyProof.Rows L2
variable [Tb]

/-! ### methods of lists -/
def lstAt (h : Hs) : D → Option (Nat × List D)
  | .obj n => (match h[n]? with
    | some (.lst xs) => some (n, xs)
    | _ => none)
  | _ => none
def eLm (f : D → List D → M D) (ca : Env → M D) (cs : Env → M (List D)) : Env → M D := fun ρ h => (ca ρ h).bind fun x h1 => match lstAt h1 x with
  | some _ => (cs ρ h1).bind fun xs h2 => f x xs h2
  | none => .bad
def appD (x : D) (ys : List D) : M D := fun h => match lstAt h x, ys with
  | some (n, xs), [y] => if decide (xs.length < 16777216) then .ok .non (h.set n (.lst (xs ++ [y]))) else .bad
  | _, _ => .bad
def popD (x : D) (ys : List D) : M D := fun h => match lstAt h x, ys with
  | some (n, xs), [] => (match xs[xs.length - 1]? with
    | some d => .ok d (h.set n (.lst xs.dropLast))
    | none => .bad)
  | some (n, xs), [.int i] => if okI i then (match seqIndex? i xs.length with
    | some k => (match xs[k]? with
      | some d => .ok d (h.set n (.lst (xs.eraseIdx k)))
      | none => .bad)
    | none => .bad) else .bad
  | _, _ => .bad
abbrev OpM (X : Cx) (r : V → List V → Hp → VK → Prop) (f : D → List D → M D) : Prop := ∀ (ι : Ix) (h : Hs) (H : Hp) (x : D) (xs : List D) (v : V) (vs : List V) (W : XK) (Q : VK), Rel X.K ι h H → RD X.K ι H x v → RDs X.K ι H xs vs → Post X.K W (RD X.K) (f x xs h) ι H Q → r v vs H Q
section
variable {K : PySem.W.Frag} {ι : Ix} {H : Hp} {h : Hs}
theorem lstAt_ok (R : Rel K ι h H) {x : D} {v : V} {n : Nat} {xs : List D} (r : RD K ι H x v) (e : lstAt h x = some (n, xs)) : ∃ a vs, v = .ref a ∧ ι.os[n]? = some a ∧ H a = some (.lst vs) ∧ RDs K ι H xs vs := by
  cases r with
  | @obj m a g =>
    have e : (match h[m]? with
    | some (.lst xs) => some (m, xs)
    | _ => none) = some (n, xs) := e
    split at e
    · rename_i ys en
      cases e
      obtain ⟨vs, h1, h2⟩ := R.at g en
      exact ⟨a, vs, rfl, g, h1, h2⟩
    · cases e
  | _ => cases e
theorem RDs.dropLast : ∀ {xs : List D} {us : List V}, RDs K ι H xs us → RDs K ι H xs.dropLast us.dropLast
  | _, _, .nil => .nil
  | _, _, .cons _ .nil => .nil
  | _, _, .cons h (.cons g r) => .cons h (RDs.dropLast (.cons g r))
theorem RDs.erase : ∀ {xs : List D} {us : List V} (i : Nat), RDs K ι H xs us → RDs K ι H (xs.eraseIdx i) (us.eraseIdx i)
  | _, _, _, .nil => .nil
  | _, _, 0, .cons _ r => r
  | _, _, i + 1, .cons h r => .cons h (RDs.erase i r)
end
section
variable {X : Cx}
theorem m_app : OpM X rAppend appD := by
  intro ι h H x xs v vs W Q R rx rs p
  unfold appD at p
  split at p
  · rename_i n ys y e
    obtain ⟨c, p⟩ := p.guard
    obtain ⟨a, us, rfl, g, ha, ru⟩ := lstAt_ok R rx e
    cases rs with
    | cons r rr =>
      cases rr
      have m := List.mem_of_getElem? g
      exact ⟨a, us, _, rfl, rfl, ha, by rw [sizeLine_eq, ← ru.length]; exact of_decide_eq_true c, p ι _ _ (.chg m (nfr ha)) (R.chg g ⟨_, upd_same, (ru.append (.cons r .nil)).mono (.chg m (nfr ha))⟩) .non⟩
  · exact p.elim
def rPops : V → List V → Hp → VK → Prop := fun x vs H Q => rPop x vs H Q ∨ rPopAt x vs H Q
theorem mt_pops : MtR X "list.pop" rPops := by
  intro pins s σ H x xs v us Q I rx rv h
  rcases h with h | h
  · exact mt_pop pins s σ H x xs v us Q I rx rv h
  · exact mt_popAt pins s σ H x xs v us Q I rx rv h
theorem m_pop : OpM X rPops popD := by
  intro ι h H x xs v vs W Q R rx rs p
  unfold popD at p
  split at p
  · rename_i n ys e
    split at p
    · rename_i d e2
      obtain ⟨a, us, rfl, g, ha, ru⟩ := lstAt_ok R rx e
      cases rs
      obtain ⟨w, h1, h2⟩ := ru.get e2
      have m := List.mem_of_getElem? g
      exact .inl ⟨a, us, w, rfl, rfl, ha, by rw [← ru.length]; exact h1, p ι _ _ (.chg m (nfr ha)) (R.chg g ⟨_, upd_same, ru.dropLast.mono (.chg m (nfr ha))⟩) (h2.mono (.chg m (nfr ha)))⟩
    · exact p.elim
  · rename_i n ys i e
    obtain ⟨c, p⟩ := p.guard
    split at p
    · rename_i k ek
      split at p
      · rename_i d e2
        obtain ⟨a, us, rfl, g, ha, ru⟩ := lstAt_ok R rx e
        cases rs with
        | cons r rr =>
          cases rr
          cases r
          obtain ⟨w, h1, h2⟩ := ru.get e2
          have m := List.mem_of_getElem? g
          have c := okI_ok c
          exact .inr ⟨a, us, _, k, w, rfl, rfl, ha, by omega, by omega, by rw [← ru.length]; exact ek, h1, p ι _ _ (.chg m (nfr ha)) (R.chg g ⟨_, upd_same, (ru.erase k).mono (.chg m (nfr ha))⟩) (h2.mono (.chg m (nfr ha)))⟩
      · exact p.elim
    · exact p.elim
  · exact p.elim
variable {W : WX} {apos cpos : Pos} {o e : Expr} {es : List Expr} {ca : Env → M D} {cs : Env → M (List D)} {name : Str} {id : String} {r : V → List V → Hp → VK → Prop} {f : D → List D → M D}
theorem de_lm (slot : Slot "list" name id) (hty : typeOf (.builtin id) = pure (.type "method_descriptor")) (hm : MtR X id r) (om : OpM X r f) (ho : DE X W o ca) (ha : DA X W (e :: es) cs)
    (hbase : attributeBase o name X.env (eval o X.env) = eval o X.env := by rfl)
    (hfew : ((backTo cpos (starEach (e :: es) X.env)).all (fun x => !x.1) && (backToKw cpos (keywordEach [] X.env)).all (fun x => x.1.isSome)
      && decide ((e :: es).length + ([] : List Keyword).length + (if ([] : List Keyword).isEmpty then 0 else 1) < 30)) = true := by rfl)
    (hline : (apos.endLine == cpos.line) = true := by rfl) (hs : starEach (e :: es) X.env = (false, eval e X.env) :: starEach es X.env := by rfl) (hplain : (backTo cpos (starEach es X.env)).any (·.1) = false := by rfl) :
    DE X W (.Call (.Attribute o name apos) (e :: es) [] cpos) (eLm f ca cs) := pe_imp (pe_bm PySem.F.plainAttrs_list slot hty hm ho ha hbase hfew hline hs hplain) fun σ H Q ⟨ι, h, ρ, R, S, p⟩ => by
  refine ⟨ι, h, ρ, R, S, Post.imp (Post.bind p) fun v H1 ⟨ι1, h1, dx, x1, R1, r1, p1⟩ => ?_⟩
  split at p1
  · rename_i q e
    obtain ⟨a, us, rfl, g, ha, ru⟩ := lstAt_ok (n := q.1) (xs := q.2) R1 r1 e
    refine ⟨.inl ⟨rfl, us, SqL.of ha⟩, ι1, h1, ρ, R1, S.mono x1, Post.imp (Post.bind p1) fun vs H2 ⟨ι2, h2, ds, x2, R2, r2, p2⟩ => ?_⟩
    exact om ι2 h2 H2 dx ds _ vs _ Q R2 (r1.mono x2) r2 p2
  · exact p1.elim
section
variable (ho : DE X W o ca) (ha : DA X W (e :: es) cs)
    (hbase : attributeBase o name X.env (eval o X.env) = eval o X.env)
theorem de_app {es : List Expr} (ho : DE X W o ca) (ha : DA X W (e :: es) cs) (hbase : attributeBase o "append" X.env (eval o X.env) = eval o X.env := by rfl)
    (hfew : ((backTo cpos (starEach (e :: es) X.env)).all (fun x => !x.1) && (backToKw cpos (keywordEach [] X.env)).all (fun x => x.1.isSome)
      && decide ((e :: es).length + ([] : List Keyword).length + (if ([] : List Keyword).isEmpty then 0 else 1) < 30)) = true := by rfl)
    (hline : (apos.endLine == cpos.line) = true := by rfl) (hs : starEach (e :: es) X.env = (false, eval e X.env) :: starEach es X.env := by rfl) (hplain : (backTo cpos (starEach es X.env)).any (·.1) = false := by rfl) :
    DE X W (.Call (.Attribute o "append" apos) (e :: es) [] cpos) (eLm appD ca cs) := de_lm PySem.F.slot_list_append PySem.F.type_list_append mt_append m_app ho ha hbase hfew hline hs hplain
theorem de_pop1 {es : List Expr} (ho : DE X W o ca) (ha : DA X W (e :: es) cs) (hbase : attributeBase o "pop" X.env (eval o X.env) = eval o X.env := by rfl)
    (hfew : ((backTo cpos (starEach (e :: es) X.env)).all (fun x => !x.1) && (backToKw cpos (keywordEach [] X.env)).all (fun x => x.1.isSome)
      && decide ((e :: es).length + ([] : List Keyword).length + (if ([] : List Keyword).isEmpty then 0 else 1) < 30)) = true := by rfl)
    (hline : (apos.endLine == cpos.line) = true := by rfl) (hs : starEach (e :: es) X.env = (false, eval e X.env) :: starEach es X.env := by rfl) (hplain : (backTo cpos (starEach es X.env)).any (·.1) = false := by rfl) :
    DE X W (.Call (.Attribute o "pop" apos) (e :: es) [] cpos) (eLm popD ca cs) := de_lm PySem.F.slot_list_pop PySem.F.type_list_pop mt_pops m_pop ho ha hbase hfew hline hs hplain
end
end
end Dl

/-! The D layer, 13: built-in functions. -/
namespace Dl
open PySem PySem.Spec PyProof.Rows L2
variable [Tb]

def eBf (f : List D → M D) (cs : Env → M (List D)) : Env → M D := fun ρ h => (cs ρ h).bind f
def nBf (f : List D → M (List D)) (cs : Env → M (List D)) : Env → M (List D) := fun ρ h => (cs ρ h).bind f
abbrev OpA (X : Cx) (r : List V → Hp → VK → Prop) (f : List D → M D) : Prop := ∀ (ι : Ix) (h : Hs) (H : Hp) (xs : List D) (vs : List V) (W : XK) (Q : VK), Rel X.K ι h H → RDs X.K ι H xs vs → Post X.K W (RD X.K) (f xs h) ι H Q → r vs H Q
abbrev OpF (X : Cx) (r : List V → Hp → VK → Prop) (f : List D → M (List D)) : Prop := ∀ (ι : Ix) (h : Hs) (H : Hp) (xs : List D) (vs : List V) (ιb : Ix) (Hb : Hp) (W : XK) (Q : VK), Ext ιb Hb ι H → Rel X.K ι h H → RDs X.K ι H xs vs → PostN X.K W (f xs h) ιb Hb Q → r vs H Q
section
variable {X : Cx} {W : WX} {x : Str} {p pos : Pos} {e : Expr} {es : List Expr} {cs : Env → M (List D)} {id T : String} {r : List V → Hp → VK → Prop} {f : List D → M D} {g : List D → M (List D)}
theorem w_bf (o : OpA X r f) {σ : L2.St} {H : Hp} {Q : VK} (q : wE X.K W (eBf f cs) σ H Q) : tCB r (wA X.K W cs) σ H Q := by
  obtain ⟨ι, h, ρ, R, S, p⟩ := q
  exact ⟨ι, h, ρ, R, S, Post.imp (Post.bind p) fun vs H1 ⟨ι1, h1, ds, x1, R1, r1, p1⟩ => o ι1 h1 H1 ds vs _ Q R1 r1 p1⟩
theorem w_nf (o : OpF X r g) {σ : L2.St} {H : Hp} {Q : VK} (q : wN X.K W (nBf g cs) σ H Q) : tCB r (wA X.K W cs) σ H Q := by
  obtain ⟨ι, h, ρ, R, S, p⟩ := q
  exact ⟨ι, h, ρ, R, S, Post.imp (PostN.bind p) fun vs H1 ⟨ι1, h1, ds, x1, R1, r1, p1⟩ => o ι1 h1 H1 ds vs ι H _ Q x1 R1 r1 p1⟩
theorem de_bf (o : OpA X r f) (hc : CallR X (.builtin id) r) (hg : Gl X x) (hm : X.mg x = none) (hv : bootBuiltins x = some (.builtin id)) (ha : DA X W (e :: es) cs) (hn : x ≠ "__name__" := by decide) (hdb : (x == ("__debug__" : Str)) = false := by decide)
    (he : starEach (e :: es) X.env = (false, eval e X.env) :: starEach es X.env := by rfl) (hpl : (backTo pos (starEach es X.env)).any (·.1) = false := by rfl) : DE X W (.Call (.Name x p) (e :: es) [] pos) (eBf f cs) := pe_imp (pe_callB hc hg hm hv ha hn hdb he hpl) fun _ _ _ q => w_bf o q
theorem de_tf (o : OpA X r f) (hc : CallR X (.type T) r) (hg : Gl X x) (hm : X.mg x = none) (hv : bootBuiltins x = some (.type T)) (ha : DA X W (e :: es) cs) (hn : x ≠ "__name__" := by decide) (hdb : (x == ("__debug__" : Str)) = false := by decide)
    (he : starEach (e :: es) X.env = (false, eval e X.env) :: starEach es X.env := by rfl) (hpl : (backTo pos (starEach es X.env)).any (·.1) = false := by rfl) : DE X W (.Call (.Name x p) (e :: es) [] pos) (eBf f cs) := pe_imp (pe_callTy hc hg hm hv ha hn hdb he hpl) fun _ _ _ q => w_bf o q
theorem dn_bf (o : OpF X r g) (hc : CallR X (.builtin id) r) (hg : Gl X x) (hm : X.mg x = none) (hv : bootBuiltins x = some (.builtin id)) (ha : DA X W (e :: es) cs) (hn : x ≠ "__name__" := by decide) (hdb : (x == ("__debug__" : Str)) = false := by decide)
    (he : starEach (e :: es) X.env = (false, eval e X.env) :: starEach es X.env := by rfl) (hpl : (backTo pos (starEach es X.env)).any (·.1) = false := by rfl) : DN X W (.Call (.Name x p) (e :: es) [] pos) (nBf g cs) := pe_imp (pe_callB hc hg hm hv ha hn hdb he hpl) fun _ _ _ q => w_nf o q
theorem dn_tf (o : OpF X r g) (hc : CallR X (.type T) r) (hg : Gl X x) (hm : X.mg x = none) (hv : bootBuiltins x = some (.type T)) (ha : DA X W (e :: es) cs) (hn : x ≠ "__name__" := by decide) (hdb : (x == ("__debug__" : Str)) = false := by decide)
    (he : starEach (e :: es) X.env = (false, eval e X.env) :: starEach es X.env := by rfl) (hpl : (backTo pos (starEach es X.env)).any (·.1) = false := by rfl) : DN X W (.Call (.Name x p) (e :: es) [] pos) (nBf g cs) := pe_imp (pe_callTy hc hg hm hv ha hn hdb he hpl) fun _ _ _ q => w_nf o q
end

/-! ### what they compute -/
def lenD (xs : List D) : M D := fun h => match xs with
  | [.str z] => if okLen z.length then .ok (.int z.length) h else .bad
  | [.scr ns] => .ok (.int ns.length) h
  | [x] => (match seqOf h x with
    | some ys => .ok (.int ys.length) h
    | none => (match x with
      | .obj n => (match h[n]? with
        | some (.dI kvs) => .ok (.int kvs.length) h
        | _ => .bad)
      | _ => .bad))
  | _ => .bad
def absD (xs : List D) : M D := fun h => match xs with
  | [.int i] => .ok (.int (if i < 0 then -i else i)) h
  | _ => .bad
def intD (xs : List D) : M D := fun h => match xs with
  | [.int i] => .ok (.int i) h
  | [.bl k] => .ok (.int (if k then 1 else 0)) h
  | _ => .bad
def allInt : List D → Option (List Int)
  | [] => some []
  | .int i :: xs => (allInt xs).map (i :: ·)
  | _ :: _ => none
def allBl : List D → Option (List Bool)
  | [] => some []
  | .bl i :: xs => (allBl xs).map (i :: ·)
  | _ :: _ => none
def sumD (xs : List D) : M D := fun h => match xs with
  | [x] => (match (items h x).bind allInt with
    | some ns => .ok (.int ns.sum) h
    | none => .bad)
  | _ => .bad
def allD (xs : List D) : M D := fun h => match xs with
  | [x] => (match (items h x).bind allBl with
    | some bs => .ok (.bl (bs.all id)) h
    | none => .bad)
  | _ => .bad
def anyD (xs : List D) : M D := fun h => match xs with
  | [x] => (match (items h x).bind allBl with
    | some bs => .ok (.bl (bs.any id)) h
    | none => .bad)
  | _ => .bad
def tupD (xs : List D) : M D := fun h => match xs with
  | [.tup ys] => .ok (.tup ys) h
  | [x] => (match items h x with
    | some ys => .ok (.tup ys) h
    | none => .bad)
  | _ => .bad
def listN (xs : List D) : M (List D) := fun h => match xs with
  | [x] => (match seqOf h x with
    | some ys => .ok ys h
    | none => .bad)
  | _ => .bad
def okShow (d : PyData) : Bool := d.showable && (!d.hasDict && (decide (d.depth ≤ 62) && decide (d.shown.length ≤ 16777216)))
def reprD (xs : List D) : M D := fun h => match xs with
  | [x] => (match toPy h 62 x with
    | some d => if okShow d then .ok (.str d.shown) h else .bad
    | none => .bad)
  | _ => .bad
section
variable {K : PySem.W.Frag} {ι : Ix} {H : Hp} {h : Hs}
theorem RDs.one {x : D} {vs : List V} (r : RDs K ι H [x] vs) : ∃ v, vs = [v] ∧ RD K ι H x v := by
  cases r with
  | cons r rr => cases rr; exact ⟨_, rfl, r⟩
theorem RDs.two {x y : D} {vs : List V} (r : RDs K ι H [x, y] vs) : ∃ v u, vs = [v, u] ∧ RD K ι H x v ∧ RD K ι H y u := by
  cases r with
  | cons r rr => obtain ⟨u, rfl, r'⟩ := rr.one; exact ⟨_, _, rfl, r, r'⟩
theorem allInt_rd : ∀ {xs : List D} {vs : List V} {ns : List Int}, RDs K ι H xs vs → allInt xs = some ns → vs = ns.map V.int
  | [], _, _, .nil, e => by cases e; rfl
  | .int i :: xs, _, ns, .cons r rr, e => by
    obtain ⟨ms, e1, e2⟩ := Option.map_eq_some_iff.mp (show (allInt xs).map (i :: ·) = some ns from e)
    subst e2
    cases r
    rw [allInt_rd rr e1]
    rfl
  | .non :: _, _, _, _, e => by cases e
  | .bl _ :: _, _, _, _, e => by cases e
  | .str _ :: _, _, _, _, e => by cases e
  | .ty _ :: _, _, _, _, e => by cases e
  | .glo _ :: _, _, _, _, e => by cases e
  | .tup _ :: _, _, _, _, e => by cases e
  | .lst _ :: _, _, _, _, e => by cases e
  | .obj _ :: _, _, _, _, e => by cases e
  | .scr _ :: _, _, _, _, e => by cases e
theorem allBl_rd : ∀ {xs : List D} {vs : List V} {ns : List Bool}, RDs K ι H xs vs → allBl xs = some ns → vs = ns.map V.bl
  | [], _, _, .nil, e => by cases e; rfl
  | .bl i :: xs, _, ns, .cons r rr, e => by
    obtain ⟨ms, e1, e2⟩ := Option.map_eq_some_iff.mp (show (allBl xs).map (i :: ·) = some ns from e)
    subst e2
    cases r
    rw [allBl_rd rr e1]
    rfl
  | .non :: _, _, _, _, e => by cases e
  | .int _ :: _, _, _, _, e => by cases e
  | .str _ :: _, _, _, _, e => by cases e
  | .ty _ :: _, _, _, _, e => by cases e
  | .glo _ :: _, _, _, _, e => by cases e
  | .tup _ :: _, _, _, _, e => by cases e
  | .lst _ :: _, _, _, _, e => by cases e
  | .obj _ :: _, _, _, _, e => by cases e
  | .scr _ :: _, _, _, _, e => by cases e
theorem ints_of (R : Rel K ι h H) {x : D} {v : V} {ns : List Int} (r : RD K ι H x v) (e : (items h x).bind allInt = some ns) : ∃ a, v = .ref a ∧ SqL K H a (ns.map V.int) := by
  obtain ⟨xs, e1, e2⟩ := Option.bind_eq_some_iff.mp e
  obtain ⟨a, vs, rfl, ha, rv⟩ := items_ok R r e1
  rw [allInt_rd rv e2] at ha
  exact ⟨a, rfl, SqL.of ha⟩
theorem bls_of (R : Rel K ι h H) {x : D} {v : V} {ns : List Bool} (r : RD K ι H x v) (e : (items h x).bind allBl = some ns) : ∃ a, v = .ref a ∧ SqL K H a (ns.map V.bl) := by
  obtain ⟨xs, e1, e2⟩ := Option.bind_eq_some_iff.mp e
  obtain ⟨a, vs, rfl, ha, rv⟩ := items_ok R r e1
  rw [allBl_rd rv e2] at ha
  exact ⟨a, rfl, SqL.of ha⟩
end
section
variable {X : Cx}
abbrev rLen (K : PySem.W.Frag) : List V → Hp → VK → Prop := fun xs H Q => (∃ x n, xs = [x] ∧ LenV K x H n ∧ Q (.int n) H) ∨ (∃ a kvs, xs = [V.ref a] ∧ H a = some (.dK kvs) ∧ Q (.int kvs.length) H)
theorem c_len : CallR X (.builtin "len") (rLen X.K) := CallR.or call_len call_lenD
theorem o_len : OpA X (rLen X.K) lenD := by
  intro ι h H xs vs W Q R rs p
  unfold lenD at p
  split at p
  · obtain ⟨c, p⟩ := p.guard
    obtain ⟨v, rfl, r⟩ := rs.one
    cases r
    exact .inl ⟨_, _, rfl, ⟨okLen_ok c, rfl⟩, p.ok R (.int _)⟩
  · obtain ⟨v, rfl, r⟩ := rs.one
    cases r with
    | scr t => exact .inl ⟨_, _, rfl, .inl ⟨_, t.sq, rfl⟩, by rw [List.length_map]; exact p.ok R (.int _)⟩
  · obtain ⟨v, rfl, r⟩ := rs.one
    split at p
    · rename_i e
      obtain ⟨a, us, rfl, q, ru⟩ := seqOf_ok R r e
      rcases q with q | q
      · exact .inl ⟨_, _, rfl, .inl ⟨_, q, rfl⟩, by rw [← ru.length]; exact p.ok R (.int _)⟩
      · exact .inl ⟨_, _, rfl, .inr ⟨_, q, rfl⟩, by rw [← ru.length]; exact p.ok R (.int _)⟩
    · split at p
      · split at p
        · rename_i e
          cases r with
          | obj g =>
            obtain ⟨us, h1, h2⟩ := R.at g e
            exact .inr ⟨_, us, rfl, h1, by rw [← rf_len h2]; exact p.ok R (.int _)⟩
        · exact p.elim
      · exact p.elim
  · exact p.elim
abbrev rAbs : List V → Hp → VK → Prop := fun xs H Q => ∃ i, xs = [.int i] ∧ Q (.int (if i < 0 then -i else i)) H
theorem o_abs : OpA X rAbs absD := by
  intro ι h H xs vs W Q R rs p
  unfold absD at p
  split at p
  · obtain ⟨v, rfl, r⟩ := rs.one
    cases r
    exact ⟨_, rfl, p.ok R (.int _)⟩
  · exact p.elim
abbrev rInt : List V → Hp → VK → Prop := fun xs H Q => (∃ i, xs = [.int i] ∧ Q (.int i) H) ∨ ∃ k, xs = [.bl k] ∧ Q (.int (if k then 1 else 0)) H
theorem o_int : OpA X rInt intD := by
  intro ι h H xs vs W Q R rs p
  unfold intD at p
  split at p
  · obtain ⟨v, rfl, r⟩ := rs.one
    cases r
    exact .inl ⟨_, rfl, p.ok R (.int _)⟩
  · obtain ⟨v, rfl, r⟩ := rs.one
    cases r
    exact .inr ⟨_, rfl, p.ok R (.int _)⟩
  · exact p.elim
theorem o_sum : OpA X (rSum X.K) sumD := by
  intro ι h H xs vs W Q R rs p
  unfold sumD at p
  split at p
  · obtain ⟨v, rfl, r⟩ := rs.one
    split at p
    · rename_i e
      obtain ⟨a, rfl, q⟩ := ints_of R r e
      exact ⟨a, _, rfl, q, p.ok R (.int _)⟩
    · exact p.elim
  · exact p.elim
theorem o_all : OpA X (rAll X.K) allD := by
  intro ι h H xs vs W Q R rs p
  unfold allD at p
  split at p
  · obtain ⟨v, rfl, r⟩ := rs.one
    split at p
    · rename_i e
      obtain ⟨a, rfl, q⟩ := bls_of R r e
      exact ⟨a, _, rfl, q, p.ok R (.bl _)⟩
    · exact p.elim
  · exact p.elim
theorem o_any : OpA X (rAny X.K) anyD := by
  intro ι h H xs vs W Q R rs p
  unfold anyD at p
  split at p
  · obtain ⟨v, rfl, r⟩ := rs.one
    split at p
    · rename_i e
      obtain ⟨a, rfl, q⟩ := bls_of R r e
      exact ⟨a, _, rfl, q, p.ok R (.bl _)⟩
    · exact p.elim
  · exact p.elim
abbrev rTup (K : PySem.W.Frag) : List V → Hp → VK → Prop := fun xs H Q => ∃ p ys, xs = [.ref p] ∧ ((SqL K H p ys ∧ ∀ l, H l = none → Q (.ref l) (upd H l (.tup ys))) ∨ (SqT K H p ys ∧ Q (.ref p) H))
theorem o_tup : OpA X (rTup X.K) tupD := by
  intro ι h H xs vs W Q R rs p
  unfold tupD at p
  split at p
  · obtain ⟨v, rfl, r⟩ := rs.one
    cases r with
    | tup t q => exact ⟨_, _, rfl, .inr ⟨t.sq, p.ok R (.tup t q)⟩⟩
  · obtain ⟨v, rfl, r⟩ := rs.one
    split at p
    · rename_i e
      obtain ⟨a, us, rfl, ha, ru⟩ := items_ok R r e
      exact ⟨a, us, rfl, .inl ⟨SqL.of ha, fun l hl => p.tup R ru hl⟩⟩
    · exact p.elim
  · exact p.elim
abbrev rList (K : PySem.W.Frag) : List V → Hp → VK → Prop := fun xs H Q => ∃ p ys, xs = [.ref p] ∧ (SqL K H p ys ∨ SqT K H p ys) ∧ ∀ l, H l = none → Q (.ref l) (upd H l (.lst ys))
theorem o_list : OpF X (rList X.K) listN := by
  intro ι h H xs vs ιb Hb W Q e R rs p
  unfold listN at p
  split at p
  · obtain ⟨v, rfl, r⟩ := rs.one
    split at p
    · rename_i e1
      obtain ⟨a, us, rfl, q, ru⟩ := seqOf_ok R r e1
      exact ⟨a, us, rfl, q, fun l hl => p.new e R ru hl⟩
    · exact p.elim
  · exact p.elim
abbrev rRepr (K : PySem.W.Frag) : List V → Hp → VK → Prop := fun xs H Q => ∃ x d, xs = [x] ∧ Dp K H x d ∧ okShow d = true ∧ Q (.str d.shown) H
theorem c_repr (gd : X.A.guards = some []) (hu : X.A.units + 64 < cLine) : CallR X (.builtin "repr") (rRepr X.K) := by
  intro pins s σ H xs us Q I rv h
  obtain ⟨x, d, rfl, dp, ok, q⟩ := h
  obtain ⟨u, rfl, ru⟩ := vals1 rv
  unfold okShow at ok
  simp only [Bool.and_eq_true, decide_eq_true_eq, Bool.not_eq_true'] at ok
  obtain ⟨c1, c2, c3, c4⟩ := ok
  obtain ⟨as, rd⟩ := Dp.reads I d x u dp ru
  have fin : ∀ t tk, EP X pins σ Q (.str d.shown t) { s with toks := tk } := fun t tk => ⟨.str d.shown, H, I.tok tk, ⟨t, rfl⟩, q⟩
  have rd0 := rd
  cases rd with
  | none => exact PySem.P.repr_of_none (by simpa only [PyData.shown] using fin _ _)
  | bool b => exact PySem.P.repr_of_bool (by simpa only [PyData.shown] using fin _ _)
  | int i t => exact PySem.P.repr_of_int (by simpa [PyData.showable] using c1) (by simpa only [PyData.shown] using fin _ _)
  | str z t => exact PySem.P.repr_of_str (by simpa only [PyData.shown] using fin _ _) (by rw [sizeLine_eq]; simpa only [PyData.shown] using c4)
  | _ => exact PySem.repr_of_reads' rd0 c1 (fun z => by rw [c2] at z; cases z) gd (by omega) (fun _ _ z => z) (fun h' t tk k => ⟨.str _, H, I.kept k, ⟨t, rfl⟩, q⟩) (by rw [sizeLine_eq]; exact c4)
theorem o_repr : OpA X (rRepr X.K) reprD := by
  intro ι h H xs vs W Q R rs p
  unfold reprD at p
  split at p
  · obtain ⟨v, rfl, r⟩ := rs.one
    split at p
    · rename_i d e
      obtain ⟨c, p⟩ := p.guard
      exact ⟨v, d, rfl, toPy_ok R _ _ _ _ r e, c, p.ok R (.str _)⟩
    · exact p.elim
  · exact p.elim
end
end Dl

/-! The D layer, 14: a def by its body; a law's end; the head's hook. -/
namespace Dl
open PySem PySem.Spec PyProof.Rows L2
variable [Tb]

/-- a def: the slots at its entry, what its body gives -/
def ent (n : Nat) (ds : List D) : Env := ds.map some ++ List.replicate (n - ds.length) none
def mOf (r : SR) : R D := match r with
  | .ret d h => .ok d h
  | .nx _ h => .ok .non h
  | .exc _ C fs h => .exc C fs h
  | _ => .bad
def mDef (n : Nat) (body : SM) : List D → M D := fun ds h => mOf (body (ent n ds) h)
theorem ent_rs {K : PySem.W.Frag} {ι : Ix} {H : Hp} {N : List Str} {ds : List D} {vs : List V} (r : RDs K ι H ds vs) : RS K ι H (ent N.length ds) (start N vs) := by
  have hl := r.length
  refine ⟨?_, fun i d e => ?_⟩
  · unfold ent L2.start
    rw [List.length_append, List.length_append, List.length_map, List.length_map, List.length_replicate, List.length_replicate, hl]
  · unfold ent at e
    by_cases hi : i < ds.length
    · rw [List.getElem?_append_left (by rw [List.length_map]; exact hi), List.getElem?_map] at e
      obtain ⟨d', e1, e2⟩ := Option.map_eq_some_iff.mp e
      cases e2
      obtain ⟨v, h1, h2⟩ := r.get e1
      refine ⟨v, ?_, h2⟩
      unfold L2.start
      rw [List.getElem?_append_left (by rw [List.length_map, ← hl]; exact hi), List.getElem?_map, h1]
      rfl
    · rw [List.getElem?_append_right (by rw [List.length_map]; omega), List.getElem?_replicate] at e
      split at e <;> cases e
section
variable {P : Program} {w : World} {K : PySem.W.Frag} {mg : Str → Option Value} {base : Heap}
/-- a function's code object, its table of code objects -/
def codeA (K : PySem.W.Frag) (f : Addr) : Addr := match K.lookup f with
  | some ⟨_, _, .func fd, _⟩ => (match fd.code with
    | .ref c => c
    | _ => 0)
  | _ => 0
def tabA (K : PySem.W.Frag) (f : Addr) : Addr := match K.lookup (codeA K f) with
  | some ⟨_, _, .fields vs, _⟩ => (match (vs[11]? : Option Value) with
    | some (Value.ref P) => P
    | _ => 0)
  | _ => 0
theorem code_is {x qual : Str} {params : Arguments} {body : List Stmt} {scope : Scope} {f : Addr} {oc dV kV doc pm cdv ct : Value} {od an : Option Addr} {osl : Array (Option Value)} (lk : K.lookup f = some ⟨oc, od, .func (PySem.W.fnOf x qual params body scope dV kV doc pm an cdv ct), osl⟩) (hcd : PySem.W.codeIn K cdv qual = true) : cdv = .ref (codeA K f) := by
  unfold PySem.W.codeIn at hcd
  split at hcd
  · unfold codeA
    rw [lk]
  · cases hcd
/-- the rule for a def: the context is its body's, no repr is under way -/
theorem fnG_of {x qual : Str} {params : Arguments} {body : List Stmt} {scope : Scope} {f : Addr} {fd : FuncData} {N ps : List Str} {k : Nat} {sp : Sp} (F : FunD K x qual params body scope [] [] f fd) (S : FnScope N ps scope) (len : ∀ vs H Q E, sp vs H Q E → vs.length = ps.length)
    (hb : ∀ (cdv : Value) (A : Around) (outer : List PySem.Env) (s : Shared) (H : Hp) (vs : List V) (Q : VK) (E : XK), cdv = .ref (codeA K f) → Room k (A.deeper (envOfC qual scope s.heap.objs.size f cdv)) → A.guards = some [] → sp vs H Q E →
      ∃ t, PSs (cxOf (L2.CX P w) P w K mg base N qual scope f cdv A outer s H E) body t ∧ t { nx := fun _ H' => Q .non H', rt := Q } (start N vs) H) : FnG P w K mg base (L2.CX P w) (k + 1) f fd ps sp := by
  obtain ⟨oc, od, dV, kV, doc, pm, an, cdv, ct, osl, rfl, lk, hcd, _, _⟩ := F.ex
  refine ⟨len, fun A outer s H args us vs Q E hr gd e0 bt r hsp => ?_⟩
  have hl := len _ _ _ _ hsp
  have KX : K.In s.heap := e0.mod.kin.keeps fun b o e => (e0.bs b o e).1
  have lim : s.heap.NoLimit := e0.mod.nolimit.keeps fun b o e => (e0.bs b o e).1
  have hk : ∀ y ∈ ps.zip us, scope.names.lookup y.1 = some .local ∨ (scope.names.lookup y.1 = some .cell ∧ ((cellsFrom (s.heap.objs.size + 1) scope.names []).lookup y.1).isSome = true) := by
    rintro ⟨n, v⟩ hy
    have hp := S.par n (List.of_mem_zip hy).1
    exact hp.imp id fun q => ⟨q, PySem.W.cellsFrom_some _ _ _ (.inl q)⟩
  refine codeAny_call_function hr.depth (KX _ _ lk) rfl S.co S.gen rfl (PySem.W.codeRec_of KX hcd) (bt _ _ _ _ ?_)
  refine wpAny_newFunctionEnv_cells S.kind hk fun env he s1 ic => ?_
  subst he
  refine ⟨lim.keeps ic.toInCall.keep, codeAny_func ?_⟩
  obtain ⟨t, ht, hq⟩ := hb cdv A outer s H vs Q E (code_is lk hcd) (hr.deeper _) gd hsp
  have I := inv_start (CX := L2.CX P w) (E := E) S hr.hd e0 hl r ic
  refine wpAny_mono (ht.run [] s1 (start N vs) H _ I hq) (fun fl s' hs => ?_) fun _ _ hs => hs
  cases fl with
  | ret u =>
    obtain ⟨v, σ', H', J, rv, q⟩ := hs
    exact ⟨v, H', J.os, J.bare, J.base, J.hok, rv, q⟩
  | next =>
    obtain ⟨σ', H', J, q⟩ := hs
    exact ⟨.non, H', J.os, J.bare, J.base, J.hok, rfl, q⟩
  | brk => exact (show False from hs.elim fun _ z => z.elim fun _ z => z.2).elim
  | cont => exact (show False from hs.elim fun _ z => z.elim fun _ z => z.2).elim
/-- a def of the D layer -/
theorem fnD_ofC {x qual : Str} {params : Arguments} {body : List Stmt} {scope : Scope} {f : Addr} {fd : FuncData} {N ps : List Str} {k n : Nat} {c : SM} (F : FunD K x qual params body scope [] [] f fd) (S : FnScope N ps scope) (hn : ps.length = n) (b : Binds K fd ps [])
    (hb : ∀ (cdv : Value) (A : Around) (outer : List PySem.Env) (s : Shared) (H : Hp) (E : XK), cdv = .ref (codeA K f) → Room k (A.deeper (envOfC qual scope s.heap.objs.size f cdv)) → A.guards = some [] →
      DSs (cxOf (L2.CX P w) P w K mg base N qual scope f cdv A outer s H E) (fun cls d _ H => E cls d H) body c) : FnD P w K mg base (k + 1) f n (mDef N.length c) := by
  refine ⟨fd, ps, fnG_of F S (fun vs H Q E h => h.1.trans hn.symm) (fun cdv A outer s H vs Q E ec hr gd h => ⟨_, hb cdv A outer s H E ec hr gd, ?_⟩), b, F.kp⟩
  obtain ⟨_, ι, h0, ds, R, r, p⟩ := h
  refine ⟨ι, h0, ent N.length ds, R, ent_rs r, ?_⟩
  show PostS K _ (c (ent N.length ds) h0) ι H _
  unfold mDef at p
  cases q : c (ent N.length ds) h0 with
  | nx ρ h => rw [q] at p; exact fun ι' H' σ' e R' S' => p ι' H' .non e R' .non
  | ret d h => rw [q] at p; exact p
  | bk ρ h => rw [q] at p; exact p.elim
  | ct ρ h => rw [q] at p; exact p.elim
  | exc ρ C fs h => rw [q] at p; exact fun ι' H' od σ' e R' S' x => p ι' H' od e R' x
  | bad => rw [q] at p; exact p
theorem fnD_of {x qual : Str} {params : Arguments} {body : List Stmt} {scope : Scope} {f : Addr} {fd : FuncData} {N ps : List Str} {k n : Nat} {c : SM} (F : FunD K x qual params body scope [] [] f fd) (S : FnScope N ps scope) (hn : ps.length = n) (b : Binds K fd ps [])
    (hb : ∀ (cdv : Value) (A : Around) (outer : List PySem.Env) (s : Shared) (H : Hp) (E : XK), Room k (A.deeper (envOfC qual scope s.heap.objs.size f cdv)) → A.guards = some [] →
      DSs (cxOf (L2.CX P w) P w K mg base N qual scope f cdv A outer s H E) (fun cls d _ H => E cls d H) body c) : FnD P w K mg base (k + 1) f n (mDef N.length c) := fnD_ofC F S hn b fun cdv A outer s H E _ hr gd => hb cdv A outer s H E hr gd
end

/-! ### the law -/
theorem call_law {P : Program} {w : World} {K : PySem.W.Frag} {mg mb : Str → Option Value} {k : Nat} {fa a : Addr} {m : List D → M D} {s₁ : Shared} {vs : List Value} {ns : List Int}
    (KX : K.In s₁.heap) (hns : s₁.heap.Ns mainGlobals mg) (hb : s₁.heap.Ns builtinsNs mb) (hbb : ∀ x : Str, x ≠ "__name__" → mb x = bootBuiltins x) (hlim : s₁.heap.NoLimit) (hg : s₁.gens = #[])
    (ha : s₁.heap.get? a = some { cls := .type "list", data := .seq vs.toArray }) (hi : IntsAre vs ns) (hl : ns.length ≤ sizeLine) (hr : Room k callerA)
    (noT : Tb.ts K = []) (F : ∀ base : Heap, K.In base → base.Ns mainGlobals mg → FnD P w K mg base k fa 1 m) (hm : ∃ h', m [.scr ns] [] = .ok (.bl true) h') :
    codeAny (model P w) callerA (.call (.ref fa) ⟨[.ref a], []⟩) (fun r s' => r = .ok (.ret (.bool true)) ∧ OldK s₁.heap s'.heap ∧ s'.os = s₁.os ∧ AllBare s'.gens) s₁ := by
  have rv := vals_ints hi
  have lv := hi.length
  have core : ∀ H : Hp, Only H → SqL K H a (ns.map V.int) → HOk P w H s₁.heap → (∀ b, H b ≠ none → b = a) → (H a ≠ none → K.lookup a = none) →
      codeAny (model P w) callerA (.call (.ref fa) ⟨[.ref a], []⟩) (fun r s' => r = .ok (.ret (.bool true)) ∧ OldK s₁.heap s'.heap ∧ s'.os = s₁.os ∧ AllBare s'.gens) s₁ := by
    intro H hO hS hok hA hK
    have at0 : ∀ {b : Addr} {o : Obj}, s₁.heap.get? b = some o → H b = none → (hidT s₁.heap H).get? b = some o := fun e n => hidT_get e n
    have free : ∀ b, b ≠ a → H b = none := fun b n => by
      cases q : H b with
      | none => rfl
      | some u => exact absurd (hA b (by rw [q]; exact fun z => nomatch z)) n
    have noA : ∀ {b : Addr} {o : Obj} {es : Array DictEntry} {ep : Nat}, s₁.heap.get? b = some o → o.data = .dict es ep → H b = none := fun {b o es ep} e d => free b fun z => by
      rw [z, ha] at e
      cases e
      cases d
    have ns' : ∀ {b : Addr} {m : Str → Option Value}, s₁.heap.Ns b m → (hidT s₁.heap H).Ns b m := fun ⟨o, es, ep, e, d, r⟩ => ⟨o, es, ep, at0 e (noA e d), d, r⟩
    have hKb : K.In (hidT s₁.heap H) := fun b o e => at0 (KX b o e) (by
      by_cases z : b = a
      · subst z
        cases q : H b with
        | none => rfl
        | some u => rw [hK (by rw [q]; exact fun z => nomatch z)] at e; cases e
      · exact free b z)
    have hM : Mod K mg (hidT s₁.heap H) := ⟨hKb, ns' hns, ⟨mb, ns' hb, hbb⟩, hlim.imp fun mc z => ⟨ns' z.1, z.2⟩⟩
    have e0 : Env0 P w K mg (hidT s₁.heap H) callerA [] s₁ H := ⟨rfl, hM, fun b o e => of_hidT e, Nat.le_of_eq (hidT_size _ _), trivial, fun b hb => (List.not_mem_nil hb).elim, hok, .of_eq hg⟩
    obtain ⟨fd, ps, G, bd, _⟩ := F _ hKb (ns' hns)
    obtain ⟨h', em⟩ := hm
    have sp : spD K 1 m [.ref a] H (fun v _ => v = .bl true) fun _ _ _ => False := by
      refine ⟨rfl, ⟨[], []⟩, [], [.scr ns], ⟨rfl, List.nodup_nil, fun n b o e => (by cases e), fun b hb => (List.not_mem_nil hb).elim, fun q m => by rw [noT] at m; exact (List.not_mem_nil m).elim⟩, .cons (.scr ?_) .nil, ?_⟩
      · rcases hS with z | z
        · exact .inl ⟨⟨List.not_mem_nil, List.not_mem_nil⟩, z⟩
        · exact .inr z
      · rw [em]
        intro ι' H' b _ _ r
        cases r
        rfl
    have hlen : ps.length = 1 := (G.len _ _ _ _ sp).symm
    have bt : BindsTo s₁ fd ⟨[.ref a], []⟩ (ps.zip [.ref a]) := by
      have z := bd s₁ [.ref a] KX (by rw [List.append_nil]; exact hlen.symm)
      rwa [List.append_nil] at z
    refine codeAny_mono (G.run callerA [] s₁ H ⟨[.ref a], []⟩ [.ref a] [.ref a] _ _ hr rfl e0 bt (.cons rfl .nil) sp) fun r s' h => ?_
    cases r with
    | error e =>
      obtain ⟨_, _, _, _, _, _, _, _, _, _, _, _, z⟩ := h
      exact z.elim
    | ok fl =>
      cases fl with
      | next => exact False.elim h
      | brk => exact False.elim h
      | cont => exact False.elim h
      | ret u =>
        obtain ⟨v, H', os, bare, un, hok', r', q⟩ := h
        have q' : v = .bl true := q
        subst q'
        obtain rfl : u = Value.bool true := r'
        refine ⟨rfl, OldK.of_keep fun b o e => ?_, os, bare⟩
        cases q : H b with
        | none => exact un.keep b o e q List.not_mem_nil List.not_mem_nil
        | some u =>
          rcases hO b with z | ⟨ob, xs, z⟩
          · rw [q] at z; cases z
          · obtain ⟨e1, _⟩ := hok b _ z
            obtain ⟨e2, _⟩ := hok' b _ (un.frzs b ob _ z)
            rw [e] at e1; cases e1
            exact e2
  cases hk : K.lookup a with
  | some o =>
    have e := KX a o hk
    rw [ha] at e
    cases e
    exact core (fun _ => none) (fun _ => .inl rfl) (.inr ⟨_, vs.toArray, _, hk, rfl, rfl, rfl, by rw [List.size_toArray, lv]; exact hl, by simpa using rv⟩) (fun b u z => nomatch (show (none : Option HO) = some u from z)) (fun b z => absurd rfl z) fun z => absurd rfl z
  | none =>
    have at1 : ∀ b, b ≠ a → (if b = a then some (HO.frz { cls := .type "list", data := .seq vs.toArray } (.lst (ns.map V.int))) else none) = none := fun b n => if_neg n
    refine core (fun b => if b = a then some (.frz { cls := .type "list", data := .seq vs.toArray } (.lst (ns.map V.int))) else none) (fun b => ?_) (.inl (.inr ⟨{ cls := .type "list", data := .seq vs.toArray }, if_pos rfl⟩)) (fun b u z => ?_) (fun b z => ?_) fun _ => hk
    · by_cases n : b = a
      · exact .inr ⟨_, _, if_pos n⟩
      · exact .inl (at1 b n)
    · by_cases n : b = a
      · have z' := (if_pos n).symm.trans z
        cases z'
        subst n
        exact ⟨ha, by rw [List.length_map]; exact hl, vs, _, rv, ha⟩
      · have z' := (at1 b n).symm.trans z
        cases z'
    · by_cases n : b = a
      · exact n
      · exact absurd (at1 b n) z
/-- the end: the law's def keeps its promise over every base; its own computation answers true at every script -/
theorem walk_law {l : PySem.W.OpenLaw} {n k : Nat} {q : Program} {loose : List Str} {XP : (Str → Option Value) → Heap → Prop} {YP : World → Heap → Prop} {d : DefRec} {m : List D → M D}
    (noT : ∀ K, Tb.ts K = []) (hn : l.most = some n) (hn2 : n ≤ sizeLine) (hdf : d.params.defaults = []) (hr : Room k callerA)
    (F : ∀ (w : World) (mg : Str → Option Value) (fa : Addr) (h : Heap), YP w h → h.Ns mainGlobals mg → mg d.name = some (.ref fa) →
      ∃ K : PySem.W.Frag, K.In h ∧ ∀ base : Heap, K.In base → base.Ns mainGlobals mg → FnD l.prog w K mg base k fa 1 m)
    (hm : ∀ ns : List Int, ns.length ≤ n → (∀ z ∈ ns, Builtin.Int.intBits z ≤ 1048576) → ∃ h', m [.scr ns] [] = .ok (.bl true) h') :
    PySem.W.WalkO q loose XP YP l.row.toRowW d [] (fun f vs => PySem.call f vs) := by
  refine Att.attach_callB hn hdf fun w s₀ s₁ mg mb fa o pm cd doc a vs ns G Y ho hd hcd hmg hobj hints hlen hbits hg => ?_
  obtain ⟨K, KX, hF⟩ := F w mg fa _ Y G.T.g hmg
  exact call_law KX G.T.g G.T.b G.T.builtins G.T.nolimit hg hobj hints (Nat.le_trans hlen hn2) hr (noT K) hF (hm ns hlen hbits)

/-! ### the head's hook: defs, facts, one more -/
abbrev AlE : Type := He.AlD × Bool
def valE (fn : List He.DefD) : AlE := (He.valD fn, true)
structure SaysE (fa : List He.Fa) (fn : List He.DefD) (ex : PySem.W.Frag → Bool) (K : PySem.W.Frag) : Prop where
  d : He.SaysD fa fn K
  e : ex K = true
/-- a def's parameters bind -/
theorem binds_of {K : PySem.W.Frag} {x qual : Str} {params : Arguments} {body : List Stmt} {scope : Scope} {f : Addr} {fd : FuncData} {ps : List Str} (F : FunD K x qual params body scope [] [] f fd)
    (h : ∀ (kV doc pm : Value) (an : Option Addr) (cdv ct : Value) (us : List Value), us.length = ps.length → bindArgs (PySem.W.fnOf x qual params body scope .none kV doc pm an cdv ct) ⟨us, []⟩ = pure (ps.zip us)) : Binds K fd ps [] := F.bindsN h
end Dl

/-! The D layer, 15: isinstance, truth. -/
namespace Dl
open PySem PySem.Spec PyProof.Rows L2
variable [Tb]

/-! ### isinstance -/
inductive Tg where
  | b (n : String) | o (C : Str)
deriving DecidableEq
def tgV (K : PySem.W.Frag) : Tg → Value
  | .b n => .type n
  | .o C => .ref (He.ga K C)
def tagOf (h : Hs) : D → Option Tg
  | .non => some (.b "NoneType")
  | .bl _ => some (.b "bool")
  | .int _ => some (.b "int")
  | .str _ => some (.b "str")
  | .tup _ => some (.b "tuple")
  | .lst _ => some (.b "list")
  | .scr _ => some (.b "list")
  | .obj n => (match h[n]? with
    | some (.lst _) => some (.b "list")
    | some (.dI _) => some (.b "dict")
    | some (.ins C _) => some (.o C)
    | _ => none)
  | _ => none
def clsOf : D → Option Tg
  | .ty n => some (.b n)
  | .glo C => some (.o C)
  | _ => none
def tyNames : List String := ["NoneType", "bool", "int", "str", "list", "tuple", "dict"]
/-- the built-in types among themselves; what involves an own class stands in a table -/
def kit (own : List (Tg × Tg × Bool)) (t u : Tg) : Option Bool := match t, u with
  | .b a, .b c => if tyNames.contains a && tyNames.contains c then some (a == c || (a == "bool" && c == "int")) else none
  | t, u => (own.find? fun p => decide (p.1 = t ∧ p.2.1 = u)).map (·.2.2)
/-- what the table needs of the module -/
structure InsF (K : PySem.W.Frag) (C : Str) : Prop where
  cl : Cls K (He.ga K C)
  ha : PySem.W.findIn K (.ref (He.ga K C)) "__class__" = some (some (.builtin "object.__class__"))
  hn : PySem.W.specialIn K (.builtin "object.__class__") "__get__" = some (some (.builtin "getset_descriptor.__get__"))
  ht : PySem.W.takesIn K (.builtin "object.__class__") = some true
  hm : PySem.W.mroIn K (He.ga K C) (.type "object") = some true
def tgIns (K : PySem.W.Frag) : Tg → Prop
  | .b _ => True
  | .o C => InsF K C
structure OwnF (K : PySem.W.Frag) (own : List (Tg × Tg × Bool)) : Prop where
  at_ : ∀ p ∈ own, PySem.W.kitOne K (tgV K p.1) (tgV K p.2.1) = some p.2.2 ∧ tgIns K p.1
theorem OwnF.nil {K : PySem.W.Frag} : OwnF K [] := ⟨fun p h => nomatch h⟩
theorem kit_tab : ∀ a ∈ tyNames, ∀ c ∈ tyNames, kitB a c = some (a == c || (a == "bool" && c == "int")) := by decide +kernel
theorem kit_ok {K : PySem.W.Frag} {own : List (Tg × Tg × Bool)} (F : OwnF K own) {t u : Tg} {b : Bool} (e : kit own t u = some b) : PySem.W.kitOne K (tgV K t) (tgV K u) = some b ∧ tgIns K t := by
  have fin : (own.find? fun p => decide (p.1 = t ∧ p.2.1 = u)).map (·.2.2) = some b → PySem.W.kitOne K (tgV K t) (tgV K u) = some b ∧ tgIns K t := fun z => by
    obtain ⟨p, h1, h2⟩ := Option.map_eq_some_iff.mp z
    have h0 : decide (p.1 = t ∧ p.2.1 = u) = true := List.find?_some (p := fun p : Tg × Tg × Bool => decide (p.1 = t ∧ p.2.1 = u)) h1
    obtain ⟨e1, e2⟩ := of_decide_eq_true h0
    have h3 := F.at_ p (List.mem_of_find?_eq_some h1)
    rw [e1, e2, h2] at h3
    exact h3
  cases t with
  | b a =>
    cases u with
    | b c =>
      have e : (if (tyNames.contains a && tyNames.contains c) = true then some (a == c || (a == "bool" && c == "int")) else none) = some b := e
      by_cases hc : (tyNames.contains a && tyNames.contains c) = true
      · rw [if_pos hc] at e
        obtain ⟨h1, h2⟩ := Bool.and_eq_true_iff.mp hc
        exact ⟨kit_ty ((kit_tab a (List.contains_iff_mem.mp h1) c (List.contains_iff_mem.mp h2)).trans e), trivial⟩
      · rw [if_neg hc] at e
        cases e
    | o C => exact fin e
  | o C =>
    cases u <;> exact fin e
def isiD (own : List (Tg × Tg × Bool)) (xs : List D) : M D := fun h => match xs with
  | [x, c] => (match tagOf h x, clsOf c with
    | some t, some u => (match kit own t u with
      | some b => .ok (.bl b) h
      | none => .bad)
    | _, _ => .bad)
  | _ => .bad
section
variable {K : PySem.W.Frag} {ι : Ix} {H : Hp} {h : Hs}
theorem tag_ok (R : Rel K ι h H) {x : D} {v : V} {t : Tg} (r : RD K ι H x v) (e : tagOf h x = some t) (ti : tgIns K t) : TyX K H v (tgV K t) := by
  have sl : ∀ {a : Addr} {vs : List V}, SqL K H a vs → TyX K H (.ref a) (.type "list") := fun {a vs} q => by
    rcases q with (q | ⟨o, q⟩) | ⟨o, its, n, q, c, _⟩
    · exact .base (.lst q)
    · exact .base (.frz q)
    · exact .kList q c
  cases r with
  | non => cases e; exact .base .non
  | bl b => cases e; exact .base (.bl b)
  | int i => cases e; exact .base (.int i)
  | str z => cases e; exact .base (.str z)
  | tup q rs =>
    cases e
    rcases q.sq with (q | ⟨o, q⟩) | ⟨o, its, n, q, c, _⟩
    · exact .base (.tup q)
    · exact .fTuple q
    · exact .kTuple q c
  | lst q rs => cases e; exact sl q.sq
  | scr q => cases e; exact sl q.sq
  | @obj n a g =>
    have e : (match h[n]? with
    | some (.lst _) => some (Tg.b "list")
    | some (.dI _) => some (.b "dict")
    | some (.ins C _) => some (.o C)
    | _ => none) = some t := e
    split at e
    · rename_i xs en
      cases e
      obtain ⟨vs, h1, _⟩ := R.at g en
      exact .base (.lst h1)
    · rename_i kvs en
      cases e
      obtain ⟨us, h1, _⟩ := R.at g en
      exact .base (.dK h1)
    · rename_i C fs en
      cases e
      obtain ⟨dx, us, h1, _⟩ := R.at g en
      have f : InsF K C := ti
      exact .base (.ins h1 f.cl f.ha f.hn f.ht f.hm)
    · cases e
  | _ => cases e
theorem cls_ok {x : D} {v : V} {u : Tg} (r : RD K ι H x v) (e : clsOf x = some u) : ClsV v (tgV K u) := by
  cases r with
  | ty n => cases e; exact .ty n
  | glo x => cases e; exact .own _
  | _ => cases e
variable {X : Cx}
theorem o_isi {own : List (Tg × Tg × Bool)} (F : OwnF X.K own) : OpA X (rIsi X.K) (isiD own) := by
  intro ι h H xs vs W Q R rs p
  unfold isiD at p
  split at p
  · obtain ⟨v, u, rfl, r, r'⟩ := rs.two
    split at p
    · rename_i e1 e2
      split at p
      · rename_i b e3
        obtain ⟨h1, h2⟩ := kit_ok F e3
        exact ⟨v, u, _, _, b, rfl, cls_ok r' e2, tag_ok R r e1 h2, h1, p.ok R (.bl _)⟩
      · exact p.elim
    · exact p.elim
  · exact p.elim
/-! ### truth -/
def truD (h : Hs) : D → Option Bool
  | .non => some false
  | .bl b => some b
  | .int i => some (i != 0)
  | .str z => if okLen z.length then some ((z.length : Int) != 0) else none
  | .tup xs => some (!xs.isEmpty)
  | .lst xs => some (!xs.isEmpty)
  | .obj n => (match h[n]? with
    | some (.lst xs) => some (!xs.isEmpty)
    | some (.dI kvs) => some (!kvs.isEmpty)
    | _ => none)
  | _ => none
theorem rds_empty {xs : List D} {vs : List V} (r : RDs K ι H xs vs) : (!vs.isEmpty) = !xs.isEmpty := by cases r <;> rfl
theorem rf_empty {κ : Type} {xs : List (κ × D)} {vs : List (κ × V)} (r : RF K ι H xs vs) : (!vs.isEmpty) = !xs.isEmpty := by cases r <;> rfl
theorem tru_rd (R : Rel K ι h H) {x : D} {v : V} {b : Bool} (r : RD K ι H x v) (e : truD h x = some b) : TruV K v H b := by
  cases r with
  | non => cases e; exact rfl
  | bl b => cases e; exact rfl
  | int i => cases e; exact rfl
  | str z =>
    have e : (if okLen z.length then some ((z.length : Int) != 0) else none) = some b := e
    split at e
    · rename_i c
      cases e
      exact ⟨okLen_ok c, rfl⟩
    · cases e
  | tup q rs => cases e; exact .inr (.inl ⟨_, q.sq, (rds_empty rs).symm⟩)
  | lst q rs => cases e; exact .inl ⟨_, q.sq, (rds_empty rs).symm⟩
  | @obj n a g =>
    have e : (match h[n]? with
    | some (.lst xs) => some (!xs.isEmpty)
    | some (.dI kvs) => some (!kvs.isEmpty)
    | _ => none) = some b := e
    split at e
    · rename_i xs en
      cases e
      obtain ⟨vs, h1, h2⟩ := R.at g en
      exact .inl ⟨_, SqL.of h1, (rds_empty h2).symm⟩
    · rename_i kvs en
      cases e
      obtain ⟨us, h1, h2⟩ := R.at g en
      exact .inr (.inr ⟨_, h1, (rf_empty h2).symm⟩)
    · cases e
  | _ => cases e
/-- x or y, x and y, not x, by truth -/
def orX (ca cb : Env → M D) : Env → M D := fun ρ h => (ca ρ h).bind fun x h1 => match truD h1 x with
  | some true => .ok x h1
  | some false => cb ρ h1
  | none => .bad
def andX (ca cb : Env → M D) : Env → M D := fun ρ h => (ca ρ h).bind fun x h1 => match truD h1 x with
  | some true => cb ρ h1
  | some false => .ok x h1
  | none => .bad
def notX (x : D) : M D := fun h => match truD h x with
  | some b => .ok (.bl (!b)) h
  | none => .bad
variable {W : WX} {pos : Pos} {a b : Expr} {ca cb : Env → M D} {rest : List Expr}
theorem de_orX (ha : DE X W a ca) (hb : DE X W (.BoolOp .Or (b :: rest) pos) cb) : DE X W (.BoolOp .Or (a :: b :: rest) pos) (orX ca cb) := pe_imp (pe_orT ha hb) fun σ H Q ⟨ι, h, ρ, R, S, p⟩ => by
  refine ⟨ι, h, ρ, R, S, Post.imp (Post.bind p) fun x H1 ⟨ι1, h1, dx, x1, R1, r1, p1⟩ => ?_⟩
  split at p1
  · rename_i e
    refine ⟨true, tru_rd R1 r1 e, ?_⟩
    rw [if_pos rfl]
    exact p1.ok R1 r1
  · rename_i e
    refine ⟨false, tru_rd R1 r1 e, ?_⟩
    rw [if_neg Bool.false_ne_true]
    exact ⟨ι1, h1, ρ, R1, S.mono x1, p1⟩
  · exact p1.elim
theorem de_andX (ha : DE X W a ca) (hb : DE X W (.BoolOp .And (b :: rest) pos) cb) : DE X W (.BoolOp .And (a :: b :: rest) pos) (andX ca cb) := pe_imp (pe_andT ha hb) fun σ H Q ⟨ι, h, ρ, R, S, p⟩ => by
  refine ⟨ι, h, ρ, R, S, Post.imp (Post.bind p) fun x H1 ⟨ι1, h1, dx, x1, R1, r1, p1⟩ => ?_⟩
  split at p1
  · rename_i e
    refine ⟨true, tru_rd R1 r1 e, ?_⟩
    rw [if_pos rfl]
    exact ⟨ι1, h1, ρ, R1, S.mono x1, p1⟩
  · rename_i e
    refine ⟨false, tru_rd R1 r1 e, ?_⟩
    rw [if_neg Bool.false_ne_true]
    exact p1.ok R1 r1
  · exact p1.elim
theorem de_notX (ha : DE X W a ca) : DE X W (.UnaryOp .Not a pos) (e1 notX ca) := pe_imp (pe_notT ha) fun σ H Q ⟨ι, h, ρ, R, S, p⟩ => by
  refine ⟨ι, h, ρ, R, S, Post.imp (Post.bind p) fun x H1 ⟨ι1, h1, dx, x1, R1, r1, p1⟩ => ?_⟩
  unfold notX at p1
  split at p1
  · rename_i b e
    exact ⟨b, tru_rd R1 r1 e, p1.ok R1 (.bl _)⟩
  · exact p1.elim
def tru (ca : Env → M D) : Env → M Bool := fun ρ h => (ca ρ h).bind fun x h1 => match truD h1 x with
  | some b => .ok b h1
  | none => .bad
theorem dt_tru (ha : DE X W a ca) (he : ∀ whole, isTrue a X.env whole = (do let v ← whole; standAt a.pos; holding [v] (truthy v)) := by intro _; rfl) : DT X W a (tru ca) := pt_imp (pt_truth ha he) fun σ H Q ⟨ι, h, ρ, R, S, p⟩ => by
  refine ⟨ι, h, ρ, R, S, Post.imp (Post.bind p) fun x H1 ⟨ι1, h1, dx, x1, R1, r1, p1⟩ => ?_⟩
  split at p1
  · rename_i b e
    exact ⟨b, tru_rd R1 r1 e, p1.ok R1 rfl⟩
  · exact p1.elim
variable {c : Expr} {cc : Env → M D}
end
end Dl

/-! The D layer, 16: what the printed texts name. -/
namespace Dl
open PySem PySem.Spec PyProof.Rows L2
variable [Tb]

theorem u1 {k : Nat} {A : Around} (hr : Room k A) : A.units + 1 < cLine := by have := hr.un; omega
theorem u64 {k : Nat} {A : Around} (hr : Room k A) : A.units + 64 < cLine := by have := hr.un; omega
theorem u65 {k : Nat} {A : Around} (hr : Room k A) : A.units + 65 < cLine := by have := hr.un; omega
/-- a while's limit: the number in a slot goes down at each turn -/
def limI (i : Nat) (ρ : Env) (_ : Hs) : Nat := match ρ[i]? with
  | some (some (.int k)) => k.natAbs + 2
  | _ => 1
/-! ### break, continue -/
/-! ### facts of the module -/
theorem tup_kt {K : PySem.W.Frag} {x : Str} {is : List Int} (h : He.tupB K x (is.map He.Dv.int) = true) : KT K (He.ga K x) (is.map V.int) := by
  have z := He.tupB_ok h (fun _ => none)
  rw [List.map_map] at z
  have e : is.map (He.Dv.v K ∘ He.Dv.int) = is.map V.int := rfl
  rw [e] at z
  rcases z with (z | ⟨o, z⟩) | z
  · cases z
  · cases z
  · exact z
def insB (K : PySem.W.Frag) (C : Str) : Bool := (He.Fa.cls C).ok K && (He.eqO (PySem.W.findIn K (.ref (He.ga K C)) "__class__") (some (some (.builtin "object.__class__"))) && (He.eqO (PySem.W.specialIn K (.builtin "object.__class__") "__get__") (some (some (.builtin "getset_descriptor.__get__"))) &&
  (decide (PySem.W.takesIn K (.builtin "object.__class__") = some true) && decide (PySem.W.mroIn K (He.ga K C) (.type "object") = some true))))
def ownB (own : List (Tg × Tg × Bool)) (K : PySem.W.Frag) : Bool := own.all fun p => decide (PySem.W.kitOne K (tgV K p.1) (tgV K p.2.1) = some p.2.2) && (match p.1 with
  | .b _ => true
  | .o C => insB K C)
theorem ownB_ok {K : PySem.W.Frag} {own : List (Tg × Tg × Bool)} (h : ownB own K = true) : OwnF K own := by
  refine ⟨fun p hp => ?_⟩
  obtain ⟨h1, h2⟩ := He.ba (List.all_eq_true.mp h p hp)
  refine ⟨of_decide_eq_true h1, ?_⟩
  obtain ⟨t, u, b⟩ := p
  cases t with
  | b n => trivial
  | o C =>
    obtain ⟨k1, k2⟩ := He.ba (show insB K C = true from h2)
    obtain ⟨k2, k3⟩ := He.ba k2
    obtain ⟨k3, k4⟩ := He.ba k3
    obtain ⟨k4, k5⟩ := He.ba k4
    exact ⟨He.cls_ok k1, He.eqO_ok k2, He.eqO_ok k3, of_decide_eq_true k4, of_decide_eq_true k5⟩
end Dl

/-! The D layer, 17: sorted. -/
namespace Dl
open PySem PySem.Spec PyProof.Rows L2
variable [Tb]

/-! ### tuples, an empty one among them -/
def Mix (ds : List PyData) : Prop := (∀ d, d ∈ ds → ∃ xs, d = .tuple xs) ∧ .tuple [] ∈ ds
def SoK (ds : List PyData) : Prop := PySem.W.Sortable ds ∨ Mix ds
section
variable {prog : Program} {w : World} {A : Around} {E : Value → Shared → Prop} {s : Shared}
theorem oneLt_tuples {xs ys : List PyData} {a b : Value} {as bs : List Addr} {Q : Bool → Shared → Prop} (ra : Reads s.heap a (.tuple xs) as) (rb : Reads s.heap b (.tuple ys) bs) (h : PySem.W.alike (.tuple xs) (.tuple ys) = true)
    (hu : A.units + min (PyData.tuple xs).depth (PyData.tuple ys).depth < cLine) (hq : Q (PySem.W.dataLt (.tuple xs) (.tuple ys)) s) : wpAny (model prog w) A (oneLt' true a b) Q E s := by
  have hal : PySem.W.alikeAll xs ys = true := by simpa [PySem.W.alike] using h
  cases ra with
  | @tuple l o vs n _ as₁ h1 h2 h3 h4 =>
    cases rb with
    | @tuple l' o' vs' n' _ bs₁ k1 k2 k3 k4 =>
      have n1 : vs.size = xs.length := by simpa using SeqAt.ReadsAll.length _ _ _ h4
      have n2 : vs'.size = ys.length := by simpa using SeqAt.ReadsAll.length _ _ _ k4
      rw [PySem.W.dataLt_tuple, ← PySem.W.firstLt_toks xs ys hal, ← n1, ← n2] at hq
      rw [oneLt'_eq]
      simp only [if_true]
      refine wpAny_bind (wpAny_cRoomFor (SeqAt.room_here hu) ?_)
      obtain ⟨cls, dd, data, sl⟩ := o
      obtain ⟨cls2, dd2, data2, sl2⟩ := o'
      simp only at h2 h3 k2 k3
      subst h2 h3 k2 k3
      refine wpAny_bind (wpAny_callSpecialIfBound?_slot (T := "tuple") ⟨_, h1, rfl⟩ F.slot_tuple_lt (call_meets F.slot_tuple_lt ⟨_, h1, rfl⟩ F.entry_tuple_lt (F.args_tuple_lt_2 _ _) (SeqAt.tuple_ltAt l l' vs vs' n n' dd dd2 sl sl2 (PySem.SeqAt.pairEq xs ys) (fun j => PySem.W.dataLt (xs.getD j .none) (ys.getD j .none))) ⟨h1, k1, fun j j1 j2 => ?_, fun j j1 j2 hj => ?_, ?_⟩))
      · have := PySem.W.eqAt_alikeAll xs ys A.in1 s vs.toList vs'.toList _ _ h4 k4 hal (SeqAt.room_in hu) j (by simpa using j1) (by simpa using j2)
        simpa using this
      · have := PySem.W.rcLt_alikeAll xs ys A.in1 s vs.toList vs'.toList _ _ h4 k4 hal (SeqAt.room_in hu) j (by simpa using j1) (by simpa using j2) hj
        simpa using this
      · exact wpAny_truthy_bool hq
def fullT : PyData → Bool
  | .tuple (_ :: _) => true
  | _ => false
theorem firsts_run : ∀ {vs : List Value} {ds : List PyData}, PySem.W.EachIs (fun v d => ∃ as, Reads s.heap v d as) vs ds → (∀ d, d ∈ ds → ∃ xs, d = .tuple xs) →
    ∃ fs : List (Option Value), fs.map (·.isSome) = ds.map fullT ∧ ∀ {Q : List (Option Value) → Shared → Prop}, Q fs s → wpAny (model prog w) A (vs.mapM firstOfTuple') Q E s
  | _, _, .nil, _ => ⟨[], rfl, fun h => by rw [List.mapM_nil]; exact wpAny_pure h⟩
  | v :: vs, d :: ds, .cons ⟨as, r⟩ t, ht => by
    obtain ⟨fs, h1, h2⟩ := firsts_run t fun d hd => ht d (List.mem_cons_of_mem _ hd)
    obtain ⟨xs, rfl⟩ := ht d List.mem_cons_self
    cases r with
    | @tuple a o vals n _ _ ho hc hd hr =>
      refine ⟨vals[0]? :: fs, ?_, fun {Q} h => ?_⟩
      · rw [List.map_cons, List.map_cons, h1]
        congr 1
        have hl := SeqAt.ReadsAll.length _ _ _ hr
        rw [Array.length_toList] at hl
        cases xs with
        | nil =>
          have z : vals[0]? = none := Array.getElem?_eq_none (by rw [hl]; exact Nat.le_refl _)
          rw [z]
          rfl
        | cons x xs =>
          have z : vals[0]? = some (vals[0]'(by rw [hl]; exact Nat.succ_pos _)) := Array.getElem?_eq_getElem _
          rw [z]
          rfl
      · rw [List.mapM_cons]
        refine wpAny_bind ?_
        rw [PySem.W.kas_first_eq]
        refine wpAny_bind (PySem.W.Looks.here (show PySem.W.Looks (model prog w) s.heap (typeOf (.ref a)) o.cls from (PySem.W.Looks.ld ho).andThen .now) ?_)
        rw [hc, if_neg (by first | decide | simp)]
        refine wpAny_bind (listItems_at ho hd (wpAny_pure ?_))
        exact wpAny_bind (h2 (wpAny_pure h))
theorem sorts_mix {vs : List Value} {ds : List PyData} (e : PySem.W.EachIs (fun v d => ∃ as, Reads s.heap v d as) vs ds) (hal : PySem.W.AllAlike ds) (hk : Mix ds) (hu : ∀ d, d ∈ ds → A.units + d.depth < cLine) : PySem.W.SortsAt prog w A s (PySem.W.dataKind s.heap ds) vs := by
  have room : ∀ {d d' : PyData}, d ∈ ds → A.units + min d.depth d'.depth < cLine := fun {d d'} hd => Nat.lt_of_le_of_lt (Nat.add_le_add_left (Nat.min_le_left _ _) _) (hu d hd)
  obtain ⟨ht, hem⟩ := hk
  refine ⟨fun v hv => ?_, ?_⟩
  · obtain ⟨d, hd, as, r⟩ := e.left v hv
    exact ⟨_, PySem.W.dataKind_some hal hd r⟩
  · refine ⟨if (ds.map fullT).head? = some true then general' else oneType', ?_, fun h2 E Q hq => ?_⟩
    · intro E x y a b Q ha hb hq
      obtain ⟨d, as, hd, ra, rfl⟩ := PySem.W.dataKind_inv ha
      obtain ⟨d', as', hd', rb, rfl⟩ := PySem.W.dataKind_inv hb
      obtain ⟨xs, rfl⟩ := ht d hd
      obtain ⟨ys, rfl⟩ := ht d' hd'
      split
      · show wpAny _ _ (oneLt' false x y) _ _ _
        exact PySem.W.oneLt_alike (fun z => nomatch z) ra rb (hal _ hd _ hd') (fun z => nomatch z) (room hd) hq
      · rw [keyLt'_oneType]
        exact oneLt_tuples ra rb (hal _ hd _ hd') (room hd) hq
    · have hT : ∀ v ∈ vs, PySem.W.Looks (model prog w) s.heap (typeOf v) (.type "tuple") := fun v hv => by
        obtain ⟨d, hd, as, r⟩ := e.left v hv
        obtain ⟨xs, rfl⟩ := ht d hd
        exact PySem.W.looks_reads r
      obtain ⟨fs, f1, f2⟩ := firsts_run (prog := prog) (w := w) (A := A) (E := E) e ht
      rw [keyKind'_eq, List.mapM_toArray, map_eq_pure_bind]
      refine wpAny_bind (wpAny_bind (f2 (wpAny_pure ?_)))
      have nall : ¬ ((fs.toArray.all fun x => x.isSome) = true) := fun z => by
        rw [List.all_toArray] at z
        have z2 : (fs.map fun x => x.isSome).all id = true := by rw [List.all_map]; exact z
        rw [f1, List.all_map] at z2
        have := List.all_eq_true.mp z2 _ hem
        cases this
      rw [if_neg nall]
      have hd0 : ((fs.toArray[0]?.bind id).isSome = true) ↔ (ds.map fullT).head? = some true := by
        rw [← f1]
        cases fs with
        | nil => simp
        | cons f fr => simp
      by_cases g : (ds.map fullT).head? = some true
      · rw [if_pos (hd0.mpr g)]
        rw [if_pos g] at hq
        exact wpAny_pure hq
      · rw [if_neg fun z => g (hd0.mp z)]
        rw [if_neg g] at hq
        rw [oneTypeOnly'_eq, List.mapM_toArray, map_eq_pure_bind]
        refine wpAny_bind (wpAny_bind (wpAny_bind (PySem.W.kas_mapM (r := Value.type "tuple") _ (fun v hv Q' hq => (hT v hv).here hq) (wpAny_pure ?_))))
        cases vs with
        | nil => simp at h2
        | cons v vs =>
          have hall : ((List.map (fun _ => Value.type "tuple") (v :: vs)).toArray.all fun x => x == Value.type "tuple") = true := by
            simp only [List.all_toArray, List.all_map, List.all_eq_true]
            intro _ _
            exact beq_self_eq_true _
          have h0 : (List.map (fun _ => Value.type "tuple") (v :: vs)).toArray[0]? = some (Value.type "tuple") := by simp
          rw [h0]
          show wpAny _ _ (pure _) _ _ _
          refine wpAny_pure ?_
          rw [if_pos hall]
          exact wpAny_pure hq
theorem sorts_any {vs : List Value} {ds : List PyData} (e : PySem.W.EachIs (fun v d => ∃ as, Reads s.heap v d as) vs ds) (hal : PySem.W.AllAlike ds) (hk : SoK ds) (hu : ∀ d, d ∈ ds → A.units + d.depth < cLine) : PySem.W.SortsAt prog w A s (PySem.W.dataKind s.heap ds) vs :=
  hk.elim (fun k => PySem.W.SortsAt.data e hal k hu) fun k => sorts_mix e hal k hu
theorem sorted_dataA {β : Type} {vs : List Value} {bs : List β} {enc : β → PyData} {R : Value → β → Prop} {l : Addr} {Q : Value → Shared → Prop} (hl : s.heap.IsList l vs.toArray) (e : PySem.W.EachIs R vs bs) (er : PySem.W.EachIs (fun v b => ∃ as, Reads s.heap v (enc b) as) vs bs) (hal : PySem.W.AllAlike (bs.map enc)) (hk : SoK (bs.map enc)) (hL : bs.length ≤ sizeLine)
    (hu : ∀ b, b ∈ bs → A.units + 2 + (enc b).depth < cLine) (h : ∀ out, out.length = bs.length → PySem.W.EachIs R out (bs.mergeSort (PySem.W.dataLe false enc)) → Q (.ref (s.heap.objs.size + 1)) { s with heap := sortedAll s.heap vs (List.toArray out) }) :
    wpAny (model prog w) A (call (.builtin "sorted") [.ref l]) Q E s := by
  have er' : PySem.W.EachIs (fun v b => ∃ as, Reads (PySem.W.sortingHeap (PySem.W.copyHeap s.heap vs) (s.heap.objs.size + 1) vs) v (enc b) as) vs bs := er.mono fun _ _ ⟨as, r⟩ => ⟨as, PyProof.Rows.Reads.keeps (fun _ _ => PySem.W.sorting_copy_old) r⟩
  exact PySem.W.sorted_vals hl (sorts_any (s := { s with heap := PySem.W.sortingHeap (PySem.W.copyHeap s.heap vs) (s.heap.objs.size + 1) vs }) (PySem.W.each_map (R := fun v d => ∃ as, Reads (PySem.W.sortingHeap (PySem.W.copyHeap s.heap vs) (s.heap.objs.size + 1) vs) v d as) enc er') hal hk (PySem.W.bound_map hu)) (by rw [e.length]; exact hL)
    (h _ (by rw [PySem.W.sortVals_length false rfl]; exact e.length) (PySem.W.sortVals_data false e er' hal))
end
/-! ### sorted of a tuple: as of a list -/
section
variable {prog : Program} {w : World} {A : Around} {E : Value → Shared → Prop} {s : Shared}
theorem collect_tup {l : Addr} {vs : List Value} {Q : List Value → Shared → Prop} (hl : s.heap.IsTuple l vs.toArray)
    (h : Q vs { s with heap := (s.heap.push (seqObj "list" #[] 0)).update s.heap.objs.size (Obj.mapSeq (· ++ vs.toArray)) }) (hsz : vs.length ≤ sizeLine) :
    wpAny (model prog w) A (collect (.ref l)) Q E s := by
  obtain ⟨o, ho, hc, n, hd⟩ := id hl
  unfold collect
  refine wpAny_bind (wpAny_runValue (codeAny_builtin entry_proto_collect' ?_))
  show wpAny _ _ (do again (.builtin "list.__iadd__" ⟨[← newList [], .ref l], []⟩)) _ _ s
  refine wpAny_bind (wpAny_newList (wpAny_pure ⟨Code.quiet_builtin _ (by decide +kernel), codeAny_builtin entry_list_iadd' ?_⟩))
  show wpAny _ _ (Builtin.List.listExtendWith (.ref s.heap.objs.size) (.ref l) (.ref s.heap.objs.size)) _ _ { s with heap := s.heap.push (seqObj "list" #[] 0) }
  unfold Builtin.List.listExtendWith
  have ho' : (s.heap.push (seqObj "list" #[] 0)).get? l = some o := Heap.get?_push_of_some _ ho
  refine wpAny_bind (wpAny_typeOf (T := "tuple") ⟨o, ho', hc⟩ ?_)
  rw [if_pos (by rw [show (Value.type "tuple" == Value.type "tuple") = true from rfl, Bool.or_true])]
  refine wpAny_bind (listItems_at ho' hd ?_)
  refine wpAny_bind (listItems_at (xs := #[]) (n := 0) (Heap.get?_push_size _ rfl) rfl ?_)
  rw [if_neg (by simp)]
  refine wpAny_bind (listUpdate_at (xs := #[]) (n := 0) (Heap.get?_push_size _ rfl) rfl ?_ (Nat.zero_le _) (by show (#[] ++ vs.toArray).size ≤ sizeLine + 1; simp only [Array.size_append, List.size_toArray, List.length_nil]; omega))
  refine wpAny_pure ?_
  show wpAny (model prog w) A (do
      let o ← load s.heap.objs.size
      match o.data with
      | .seq xs _ => pure xs.toList
      | _ => unsupported "internal:collect") Q E { s with heap := (s.heap.push (seqObj "list" #[] 0)).update s.heap.objs.size (Obj.mapSeq (· ++ vs.toArray)) }
  refine wpAny_bind (wpAny_load (get?_update_seq (Heap.get?_push_size _ rfl) _) ?_)
  show wpAny _ _ (pure ((#[] : Array Value) ++ vs.toArray).toList) Q E _
  rw [show ((#[] : Array Value) ++ vs.toArray).toList = vs by simp]
  exact wpAny_pure h
theorem sorted_tupG {l : Addr} {vs : List Value} {Q : Value → Shared → Prop} (hl : s.heap.IsTuple l vs.toArray) (hL : vs.length ≤ sizeLine)
    (body : ∀ E' : Value → Shared → Prop, wpAny (model prog w) A.in1.in1 (Builtin.«list.sort» ⟨[.ref (s.heap.objs.size + 1)], []⟩) (fun f s' => f = .done (.ret .none) ∧ Q (.ref (s.heap.objs.size + 1)) s') E' { s with heap := PySem.W.copyHeap s.heap vs }) :
    wpAny (model prog w) A (call (.builtin "sorted") [.ref l]) Q E s := by
  refine PySem.Calls.call_function_entry kind_sorted plain_sorted entry_sorted (args_sorted1 _) ?_
  unfold Builtin.«sorted»
  refine wpAny_bind (m := checkCount "sorted" 1 1 _) (wpAny_pure ?_)
  refine wpAny_bind (collect_tup hl ?_ hL)
  refine wpAny_bind (wpAny_newList ?_ hL)
  have hz : ((s.heap.push (seqObj "list" #[] 0)).update s.heap.objs.size (Obj.mapSeq (· ++ vs.toArray))).objs.size = s.heap.objs.size + 1 := by
    rw [Heap.size_update, PyProof.Rows.size_push']
  show wpAny _ _ _ _ _ { s with heap := PySem.W.copyHeap s.heap vs }
  rw [hz]
  refine wpAny_bind (wpAny_holding (wpAny_call_entry slot_list_sort ⟨_, PySem.W.copyHeap_at s.heap vs, rfl⟩ entry_list_sort ?_ (args_list_sort _)))
  refine wpAny_mono (body _) (fun f s' hf => ?_) fun _ _ e => e
  obtain ⟨rfl, hq⟩ := hf
  exact ⟨_, rfl, wpAny_pure ⟨_, rfl, hq⟩⟩
theorem sorted_tupD {β : Type} {vs : List Value} {bs : List β} {enc : β → PyData} {R : Value → β → Prop} {l : Addr} {Q : Value → Shared → Prop} (hl : s.heap.IsTuple l vs.toArray) (e : PySem.W.EachIs R vs bs) (er : PySem.W.EachIs (fun v b => ∃ as, Reads s.heap v (enc b) as) vs bs) (hal : PySem.W.AllAlike (bs.map enc)) (hk : SoK (bs.map enc)) (hL : bs.length ≤ sizeLine)
    (hu : ∀ b, b ∈ bs → A.units + 2 + (enc b).depth < cLine) (h : ∀ out, out.length = bs.length → PySem.W.EachIs R out (bs.mergeSort (PySem.W.dataLe false enc)) → Q (.ref (s.heap.objs.size + 1)) { s with heap := sortedAll s.heap vs (List.toArray out) }) :
    wpAny (model prog w) A (call (.builtin "sorted") [.ref l]) Q E s := by
  have hv : vs.length ≤ sizeLine := by rw [e.length]; exact hL
  have er' : PySem.W.EachIs (fun v b => ∃ as, Reads (PySem.W.sortingHeap (PySem.W.copyHeap s.heap vs) (s.heap.objs.size + 1) vs) v (enc b) as) vs bs := er.mono fun _ _ ⟨as, r⟩ => ⟨as, PyProof.Rows.Reads.keeps (fun _ _ => PySem.W.sorting_copy_old) r⟩
  refine sorted_tupG hl hv fun E' => PySem.W.list_sort_vals (s := { s with heap := PySem.W.copyHeap s.heap vs }) (PySem.W.copyHeap_at s.heap vs)
    (sorts_any (s := { s with heap := PySem.W.sortingHeap (PySem.W.copyHeap s.heap vs) (s.heap.objs.size + 1) vs }) (PySem.W.each_map (R := fun v d => ∃ as, Reads (PySem.W.sortingHeap (PySem.W.copyHeap s.heap vs) (s.heap.objs.size + 1) vs) v d as) enc er') hal hk (PySem.W.bound_map hu)) hv ⟨rfl, ?_⟩
  exact h _ (by rw [PySem.W.sortVals_length false rfl]; exact e.length) (PySem.W.sortVals_data false e er' hal)
end
/-! ### the rule -/
def rSort (K : PySem.W.Frag) : List V → Hp → VK → Prop := fun xs H Q => ∃ (a : Addr) (bs : List (V × PyData)), xs = [.ref a] ∧ (SqL K H a (bs.map (·.1)) ∨ SqT K H a (bs.map (·.1))) ∧ (∀ b ∈ bs, Dp K H b.1 b.2 ∧ b.2.depth ≤ 60) ∧ PySem.W.AllAlike (bs.map (·.2)) ∧ SoK (bs.map (·.2)) ∧
  ∀ p, H p = none → Q (.ref p) (upd H p (.lst ((bs.mergeSort (PySem.W.dataLe false (·.2))).map (·.1))))
theorem each_reads {X : Cx} {pins : List (Addr × Obj)} {σ : L2.St} {H : Hp} {s : Shared} (I : Inv X pins σ H s) : ∀ {bs : List (V × PyData)} {its : List Value}, (∀ b ∈ bs, Dp X.K H b.1 b.2 ∧ b.2.depth ≤ 60) → Vals (bs.map (·.1)) its →
    PySem.W.EachIs (fun v b => RelV b.1 v) its bs ∧ PySem.W.EachIs (fun v b => ∃ as, Reads s.heap v b.2 as) its bs
  | [], _, _, .nil => ⟨.nil, .nil⟩
  | b :: bs, _, h, .cons r rr => by
    obtain ⟨h1, h2⟩ := each_reads I (bs := bs) (fun b hb => h b (List.mem_cons_of_mem _ hb)) rr
    exact ⟨.cons r h1, .cons (Dp.reads I b.2 b.1 _ (h b List.mem_cons_self).1 r) h2⟩
theorem each_vals : ∀ {bs : List (V × PyData)} {its : List Value}, PySem.W.EachIs (fun v b => RelV b.1 v) its bs → Vals (bs.map (·.1)) its
  | _, _, .nil => .nil
  | _, _, .cons r rr => .cons r (each_vals rr)
theorem c_sorted {X : Cx} (hu : X.A.units + 64 < cLine) : CallR X (.builtin "sorted") (rSort X.K) := by
  intro pins s σ H xs us Q I rv h
  obtain ⟨a, bs, rfl, hs, hd, hal, hk, q⟩ := h
  rw [Vals.ref1 rv]
  have fin : ∀ {its : List Value}, Vals (bs.map (·.1)) its → (bs.map (·.1)).length ≤ sizeLine → ∀ out : List Value, out.length = bs.length → PySem.W.EachIs (fun v (b : V × PyData) => RelV b.1 v) out (bs.mergeSort (PySem.W.dataLe false (·.2))) → EP X pins σ Q (.ref (s.heap.objs.size + 1)) { s with heap := sortedAll s.heap its (List.toArray out) } := fun {its} r hz out hl he => by
    obtain ⟨ep, he'⟩ := PyProof.Rows.sortedAll_at s.heap its out.toArray
    refine ⟨.ref _, upd H (s.heap.objs.size + 1) (.lst ((bs.mergeSort (PySem.W.dataLe false (·.2))).map (·.1))), I.laid (t' := s.toks) (fun _ _ => PyProof.Rows.sortedAll_old) (Nat.le_succ _) ⟨?_, out, ep, each_vals he, he'⟩, rfl, q _ (I.hok.fresh (Nat.le_succ _))⟩
    rw [List.length_map, List.length_mergeSort]
    rwa [List.length_map] at hz
  rcases hs with hs | hs
  · obtain ⟨its, r, pl, hz⟩ := I.list hs
    obtain ⟨e1, e2⟩ := each_reads I hd r
    exact sorted_dataA pl.isList e1 e2 hal hk (by rwa [List.length_map] at hz) (fun b hb => by have := (hd b hb).2; omega) (fin r hz)
  · obtain ⟨its, r, pl, hz⟩ := I.tuple hs
    obtain ⟨e1, e2⟩ := each_reads I hd r
    exact sorted_tupD pl e1 e2 hal hk (by rwa [List.length_map] at hz) (fun b hb => by have := (hd b hb).2; omega) (fin r hz)
/-! ### what it computes -/
def alikeB (ds : List PyData) : Bool := ds.all fun d => ds.all fun e => PySem.W.alike d e
def sortB (ds : List PyData) : Bool := (ds.all fun d => match d with
  | .tuple (_ :: _) => true
  | _ => false) || (ds.all fun d => match d with
  | .none => false
  | .tuple _ => false
  | _ => true) || ((ds.all fun d => match d with
  | .tuple _ => true
  | _ => false) && ds.any fun d => match d with
  | .tuple [] => true
  | _ => false)
def keyD (h : Hs) (xs : List D) : Option (List (D × PyData)) := optAll (fun d => (toPy h 60 d).map fun p => (d, p)) xs
def okSort (bs : List (D × PyData)) : Bool := alikeB (bs.map (·.2)) && (sortB (bs.map (·.2)) && bs.all fun b => decide (b.2.depth ≤ 60))
def sortN (xs : List D) : M (List D) := fun h => match xs with
  | [x] => (match (seqOf h x).bind (keyD h) with
    | some bs => if okSort bs then .ok ((bs.mergeSort (PySem.W.dataLe false (·.2))).map (·.1)) h else .bad
    | none => .bad)
  | _ => .bad
theorem sortB_ok {ds : List PyData} (h : sortB ds = true) : SoK ds := by
  rcases Bool.or_eq_true_iff.mp h with h | h
  · rcases Bool.or_eq_true_iff.mp h with h | h
    · refine .inl (.inl fun d hd => ?_)
      have z := List.all_eq_true.mp h d hd
      split at z
      · exact ⟨_, _, rfl⟩
      · cases z
    · refine .inl (.inr fun d hd => ?_)
      have z := List.all_eq_true.mp h d hd
      split at z
      · cases z
      · cases z
      · rename_i n1 n2
        exact ⟨n1, n2⟩
  · obtain ⟨h1, h2⟩ := Bool.and_eq_true_iff.mp h
    refine .inr ⟨fun d hd => ?_, ?_⟩
    · have z := List.all_eq_true.mp h1 d hd
      split at z
      · exact ⟨_, rfl⟩
      · cases z
    · obtain ⟨d, hd, z⟩ := List.any_eq_true.mp h2
      split at z
      · exact hd
      · cases z
section
variable {K : PySem.W.Frag} {ι : Ix} {H : Hp} {h : Hs}
/-- the three together -/
theorem keyD_ok (R : Rel K ι h H) : ∀ {xs : List D} {vs : List V} {bs : List (D × PyData)}, RDs K ι H xs vs → keyD h xs = some bs → ∃ ts : List (D × V × PyData), ts.map (fun t => (t.1, t.2.2)) = bs ∧ ts.map (·.2.1) = vs ∧ ∀ t ∈ ts, RD K ι H t.1 t.2.1 ∧ Dp K H t.2.1 t.2.2
  | [], _, _, .nil, e => by cases e; exact ⟨[], rfl, rfl, fun t h => nomatch h⟩
  | x :: xs, _, bs, .cons r rr, e => by
    unfold keyD optAll at e
    split at e
    · rename_i y ys e1 e2
      cases e
      obtain ⟨p, e3, e4⟩ := Option.map_eq_some_iff.mp e1
      subst e4
      obtain ⟨ts, h1, h2, h3⟩ := keyD_ok R rr (show keyD h xs = some ys from e2)
      refine ⟨(x, _, p) :: ts, by rw [List.map_cons, h1], by rw [List.map_cons, h2], fun t ht => ?_⟩
      rcases List.mem_cons.mp ht with z | z
      · subst z
        exact ⟨r, toPy_ok R _ _ _ _ r e3⟩
      · exact h3 t z
    · cases e
theorem rds_map : ∀ {ts : List (D × V × PyData)}, (∀ t ∈ ts, RD K ι H t.1 t.2.1) → RDs K ι H (ts.map (·.1)) (ts.map (·.2.1))
  | [], _ => .nil
  | t :: ts, h => .cons (h t List.mem_cons_self) (rds_map fun t ht => h t (List.mem_cons_of_mem _ ht))
end
theorem o_sorted {X : Cx} : OpF X (rSort X.K) sortN := by
  intro ι h H xs vs ιb Hb W Q e R rs p
  unfold sortN at p
  split at p
  · obtain ⟨v, rfl, r⟩ := rs.one
    split at p
    · rename_i bs e1
      obtain ⟨c, p⟩ := p.guard
      obtain ⟨ys, e2, e3⟩ := Option.bind_eq_some_iff.mp e1
      obtain ⟨a, us, rfl, q, ru⟩ := seqOf_ok R r e2
      obtain ⟨ts, h1, h2, h3⟩ := keyD_ok R ru e3
      obtain ⟨c1, c⟩ := He.ba c
      obtain ⟨c2, c3⟩ := He.ba c
      have k2 : bs.map (·.2) = (ts.map fun t => (t.2.1, t.2.2)).map (·.2) := by rw [← h1, List.map_map, List.map_map]; rfl
      have k1 : us = (ts.map fun t => (t.2.1, t.2.2)).map (·.1) := by rw [← h2, List.map_map]; rfl
      have s1 : bs.mergeSort (PySem.W.dataLe false (·.2)) = (ts.mergeSort (PySem.W.dataLe false fun t => t.2.2)).map fun t => (t.1, t.2.2) := by
        rw [← h1]
        exact (List.map_mergeSort (f := fun t : D × V × PyData => (t.1, t.2.2)) (r := PySem.W.dataLe false fun t => t.2.2) (s := PySem.W.dataLe false (·.2)) fun _ _ _ _ => rfl).symm
      have s2 : (ts.map fun t => (t.2.1, t.2.2)).mergeSort (PySem.W.dataLe false (·.2)) = (ts.mergeSort (PySem.W.dataLe false fun t => t.2.2)).map fun t => (t.2.1, t.2.2) :=
        (List.map_mergeSort (f := fun t : D × V × PyData => (t.2.1, t.2.2)) (r := PySem.W.dataLe false fun t => t.2.2) (s := PySem.W.dataLe false (·.2)) fun _ _ _ _ => rfl).symm
      refine ⟨a, ts.map fun t => (t.2.1, t.2.2), rfl, by rw [← k1]; exact q, fun b hb => ?_, fun d hd d' hd' => ?_, by rw [← k2]; exact sortB_ok c2, fun l hl => ?_⟩
      · obtain ⟨t, ht, rfl⟩ := List.mem_map.mp hb
        refine ⟨(h3 t ht).2, ?_⟩
        have z := List.all_eq_true.mp c3 (t.1, t.2.2) (by rw [← h1]; exact List.mem_map.mpr ⟨t, ht, rfl⟩)
        exact of_decide_eq_true z
      · rw [← k2] at hd hd'
        exact List.all_eq_true.mp (List.all_eq_true.mp c1 d hd) d' hd'
      · rw [s2, List.map_map]
        rw [s1, List.map_map] at p
        have pm := List.mergeSort_perm ts (PySem.W.dataLe false fun t => t.2.2)
        exact p.new e R (rds_map fun t ht => (h3 t (pm.mem_iff.mp ht)).1) hl
    · exact p.elim
  · exact p.elim
/-! ### by insertion -/
end Dl

/-! The D layer, 18: enumerate of a tuple or a list. -/
namespace PySem
open Sem (wp)
open AutoSeq1 (wpAny_loadPart')
set_option maxHeartbeats 1000000 in
theorem meets_enumerate_newB1 {v : Value} {o : Obj} {H : Heap → Prop} (B : Begins v o H) :
    Meets (Builtin.«enumerate.__new__» ⟨[.type "enumerate", v], []⟩) (fun _ R s => H s.heap ∧
      R (.ok (.ret (.ref (s.heap.push o).objs.size))) { s with heap := (s.heap.push o).push { cls := .type "enumerate", data := .fields #[.none, .bool false, .ref s.heap.objs.size, rawInt 0, .none, .none] } }) :=
  .of_wp fun prog w A R s h => by
    obtain ⟨hp, g, d, tk, os⟩ := s; obtain ⟨h1, h⟩ := h
    have hsub := sub_enumerate
    have q1 : ∀ {A' : Around} {E : Value → Shared → Prop} {Q : Value → Shared → Prop}, Q (.ref hp.objs.size) ⟨hp.push o, g, d, tk, os⟩ → wpAny (model prog w) A' (pyIter v) Q E ⟨hp, g, d, tk, os⟩ :=
      fun q => B.iter prog w _ _ ⟨hp, g, d, tk, os⟩ _ h1 q
    wp_walk using q1
    refine wpAny_stack_any fun st => wpAny_pure ?_
    split
    · rename_i c _ _ _ _ _
      cases (c == Value.type "enumerate")
      · wp_walk using q1
        exact ⟨_, rfl, h⟩
      · wp_walk using q1
        exact ⟨_, rfl, h⟩
    · wp_walk using q1
      exact ⟨_, rfl, h⟩
theorem call_enumerate_B {prog : Program} {w : World} {A : Around} {E : Value → Shared → Prop} {s : Shared} {v : Value} {o : Obj} {H : Heap → Prop} {Q : Value → Shared → Prop} (B : Begins v o H) (h1 : H s.heap)
    (h : ∀ h', IsEnum h' (s.heap.objs.size + 1) s.heap.objs.size 0 .none → h'.get? s.heap.objs.size = some o → h'.objs.size = s.heap.objs.size + 2 →
      (∀ b o, s.heap.get? b = some o → h'.get? b = some o) → Q (.ref (s.heap.objs.size + 1)) { s with heap := h' }) :
    wpAny (model prog w) A (call (.type "enumerate") [v]) Q E s := by
  refine callType_new F.called_enumerate (by decide) (F.typeCall_enumerate_1 _) (F.newCall_enumerate_1 _) (fun obj => F.args_object_init_2 obj _) F.entry_enumerate_new
    (meets_enumerate_newB1 B) ⟨h1, ?_⟩
  have hz : (s.heap.push o).objs.size = s.heap.objs.size + 1 := Heap.size_push ..
  show _ ∧ _
  rw [hz]
  have he : IsEnum ((s.heap.push o).push { cls := .type "enumerate", data := .fields #[.none, .bool false, .ref s.heap.objs.size, rawInt 0, .none, .none] }) (s.heap.objs.size + 1) s.heap.objs.size 0 .none := by
    have := Heap.get?_push_size (s.heap.push o) (o := { cls := .type "enumerate", data := .fields #[.none, .bool false, .ref s.heap.objs.size, rawInt 0, .none, .none] }) rfl
    rw [hz] at this; exact this
  refine ⟨⟨_, he, rfl⟩, h _ he (Heap.get?_push_of_some _ (Heap.get?_push_size _ B.free)) (by rw [Heap.size_push, hz]) fun b o x => Heap.get?_push_of_some _ (Heap.get?_push_of_some _ x)⟩
end PySem
namespace Dl
open PySem PySem.Spec PyProof.Rows L2
variable [Tb]
def IteT (K : PySem.W.Frag) (a : Addr) : It :=
  ⟨fun i H => ∃ (xs : List V) (x : V), SqT K H a xs ∧ xs[i]? = some x, fun i H v H' => ∃ T x, v = .ref T ∧ H T = none ∧ H' = upd H T (.tup [.int (i : Nat), x]) ∧ ∀ xs, SqT K H a xs → xs[i]? = some x, fun i H => ∃ xs : List V, SqT K H a xs ∧ xs.length ≤ i⟩
theorem turn_enumT {P : Program} {w : World} {K : PySem.W.Frag} {elts : List Expr} {kk : Nat} {tpos : Pos} (a e it : Addr) :
    Turn P w K (.Tuple elts kk tpos) (IteT K a) [e, it] e (fun i h => (∃ old, IsEnum h e it ((i : Nat) : Int) old) ∧ h.IsTupleIter it a i ∧ e ≠ it ∧ e ≠ a ∧ a ≠ it) where
  mem := by simp
  obj := fun i h st b hb => by
    obtain ⟨⟨old, he⟩, ⟨o, ho, hc, hd⟩, _⟩ := st
    have e' : b = e ∨ b = it := by simpa using hb
    rcases e' with z | z
    · rw [z]; exact ⟨_, he, fun v q => nomatch q⟩
    · rw [z]; exact ⟨o, ho, fun v q => by rw [hd] at q; cases q⟩
  keep := fun i h h' st k => let ⟨⟨old, he⟩, hi, hne⟩ := st; ⟨⟨old, k e (by simp) _ he⟩, hi.at fun o q => k it (by simp) o q, hne⟩
  item := by
    intro X hP hw hK hc i pins s σ H E I hf st hg
    subst hP hw hK
    obtain ⟨⟨old, he⟩, hit, hne, hea, hai⟩ := st
    obtain ⟨xs, x, hq, hx⟩ := hg
    obtain ⟨its, rv, p, hz⟩ := I.tuple hq
    obtain ⟨u, hu, ru⟩ := rv.get hx
    have hel : e < s.heap.objs.size := Heap.lt_size he
    have hil : it < s.heap.objs.size := by obtain ⟨_, q, _⟩ := hit; exact Heap.lt_size q
    have hlt : i < its.toArray.size := by
      rw [List.size_toArray]
      exact (List.getElem?_eq_some_iff.mp hu).1
    have pT : s.heap.IsTuple a its.toArray := p
    refine wpAny_pyNext_enum_itemC (fp := [it, a]) (c := ((i : Nat) : Int)) (Draws.tuple (A := X.A.in1) (show X.A.in1.handled = none from I.ok.hd hc) it a hai its.toArray) he ⟨hit, pT⟩ hlt hne (by simp [hne, hea]) fun x' h' tk hx' ho st' hT hsz hk => ?_
    obtain ⟨hit', _⟩ := st'
    have hxe : x' = u := by
      have : its.toArray[i]? = some u := by simpa using hu
      rw [this] at hx'
      exact (Option.some.inj hx').symm
    subst hxe
    refine ⟨_, rfl, wpAny_letOwnedTupleGo_enum (s := { s with heap := h', toks := tk + 1 }) ho fun h'' he' sb => ?_⟩
    have hT2 : h''.get? s.heap.objs.size = some { cls := .type "tuple", data := .seq #[.int i tk, x'] } := (sb.2 _ (Nat.ne_of_gt hel)).trans hT
    have new : ObjOk X.prog X.w (upd H s.heap.objs.size (.tup [.int (i : Nat), x])) h'' s.heap.objs.size (.tup [.int (i : Nat), x]) :=
      ⟨by show 2 ≤ sizeLine; decide, [.int i tk, x'], .cons ⟨_, rfl⟩ (.cons ru .nil), ⟨_, hT2, rfl, _, rfl⟩⟩
    have I1 : Inv X pins σ (upd H s.heap.objs.size (.tup [.int (i : Nat), x])) { s with heap := h'', toks := tk + 1 } :=
      I.turnedNew (ch := [e, it]) (fun b ob hb q => (sb.2 b (fun z => hb (by simp [z]))).trans (hk b ob (fun z => hb (by simp [z])) (fun z => hb (by simp [z])) q)) hf (Nat.le_refl _) new
    refine ⟨.ref s.heap.objs.size, _, I1, rfl, ⟨_, x, rfl, I.hok.fresh (Nat.le_refl _), rfl, fun ys hy => by rw [I.tuple_inj hy hq]; exact hx⟩, ⟨⟨x', ?_⟩, hit'.at fun o q => (sb.2 it (Ne.symm hne)).trans q, hne, hea, hai⟩, fun b hb => ?_⟩
    · have e1 : ((i + 1 : Nat) : Int) = (i : Int) + 1 := by omega
      rw [e1]; exact he'
    · have hb' : b < s.heap.objs.size := by
        have e' : b = e ∨ b = it := by simpa using hb
        rcases e' with z | z
        · rw [z]; exact hel
        · rw [z]; exact hil
      rw [upd_ne (Nat.ne_of_lt hb')]
      exact (hf b hb).1
  done := by
    intro X hP hw hK hc i pins s σ H E I hf st hg
    subst hP hw hK
    obtain ⟨⟨old, he⟩, hit, hne, hea, hai⟩ := st
    obtain ⟨xs, hq, hx⟩ := hg
    obtain ⟨its, rv, p, hz⟩ := I.tuple hq
    obtain ⟨f0, f1, f2, f3, f4, f5⟩ := hf it (by simp)
    have hl := rv.length
    have pT : s.heap.IsTuple a its.toArray := p
    have hT : s.TypeIs (.ref e) "enumerate" := ⟨_, he, rfl⟩
    unfold pyNext
    refine wpAny_bind (wpAny_attempt (wpAny_callSpecial?_slot (name := Str.ofString "__next__") hT F.slot_enumerate_next
      (wpAny_call_entry F.slot_enumerate_next hT F.entry_enumerate_next ?_ (F.args_enumerate_next_1 _))))
    show wpAny _ _ (field (.ref e) 2 >>= _) _ _ _
    refine wpAny_bind (wpAny_field he rfl (x := .ref it) rfl ?_)
    refine wpAny_bind (wpAny_nextOf_tuple_end (I.ok.hd hc) hit pT (by simp; omega) fun h' x he' hx' => ?_)
    obtain ⟨o, ho, hc'⟩ := hx'
    refine wpAny_bind (wpAny_isInstance (T := "StopIteration") (b := true) ⟨o, ho, hc'⟩ isSubtype_stop ?_)
    exact wpAny_pure ⟨rfl, I.turned (t' := s.toks) (fun b o hb q => he' b o hb q) f0 f1 f3 f4 f5⟩
  self := fun A i s Q E st h => let ⟨⟨_, he⟩, _⟩ := st; wpAny_pyIter_enum he h
def iEnumA (K : PySem.W.Frag) (ta : TA) : TI := fun σ H R => ta σ H fun vs H1 => ∃ a, vs = [.ref a] ∧ (((∃ xs, SqL K H1 a xs) ∧ R (Ite K a) H1) ∨ ((∃ xs, SqT K H1 a xs) ∧ R (IteT K a) H1))
theorem pi_enumA {X : Cx} {e : Expr} {ta : TA} {p pos tpos : Pos} {elts : List Expr} {kk : Nat} (hg : Gl X "enumerate") (hm : X.mg "enumerate" = none) (ha : PA X [e] ta) (hs : starEach [e] X.env = [(false, eval e X.env)] := by rfl) :
    PI X (.Tuple elts kk tpos) (.Call (.Name "enumerate" p) [e] [] pos) (iEnumA X.K ta) := by
  refine ⟨fun pins s σ H R I h => ?_⟩
  refine Call_ (ld_blt I hg hm boot_enumerate (PyProof.Rows.callWith_type1 (thn (ha.run pos pins s σ H _ I h) fun us s1 ⟨vs, H1, I1, r1, q1⟩ => ?_) hs rfl))
  obtain ⟨a, ex, q⟩ := q1
  subst ex
  cases r1 with
  | cons r rr =>
    cases rr
    cases r
    have fpn : ∀ b ∈ [s1.heap.objs.size + 1, s1.heap.objs.size], FpOk X pins H1 b := fun b hb => by
      have e' : b = s1.heap.objs.size + 1 ∨ b = s1.heap.objs.size := by simpa using hb
      have hle : s1.heap.objs.size ≤ b := by
        rcases e' with z | z
        · rw [z]; exact Nat.le_add_right _ _
        · rw [z]; exact Nat.le_refl _
      exact I1.fpOk hle (I1.hok.fresh hle)
    rcases q with ⟨⟨xs, hq⟩, q⟩ | ⟨⟨xs, hq⟩, q⟩
    · obtain ⟨its, rv, p', hz⟩ := I1.list hq
      refine call_enumerate_list p'.isList fun h' he hit hsz hk => wpAny_pyIter_enum he ?_
      have I2 : Inv X pins σ H1 { s1 with heap := h' } := I1.kept (t' := s1.toks) hk
      exact ⟨s1.heap.objs.size + 1, [s1.heap.objs.size + 1, s1.heap.objs.size], _, _, H1, rfl, I2, turn_enum a (s1.heap.objs.size + 1) s1.heap.objs.size, ⟨⟨.none, he⟩, hit, Nat.succ_ne_self _⟩, fpn, q⟩
    · obtain ⟨its, rv, p', hz⟩ := I1.tuple hq
      have pT : s1.heap.IsTuple a its.toArray := p'
      have hal : a < s1.heap.objs.size := by obtain ⟨_, q, _⟩ := pT; exact Heap.lt_size q
      refine call_enumerate_B (begins_tuple a its.toArray) pT fun h' he hit hsz hk => wpAny_pyIter_enum he ?_
      have I2 : Inv X pins σ H1 { s1 with heap := h' } := I1.kept (t' := s1.toks) hk
      exact ⟨s1.heap.objs.size + 1, [s1.heap.objs.size + 1, s1.heap.objs.size], _, _, H1, rfl, I2, turn_enumT a (s1.heap.objs.size + 1) s1.heap.objs.size, ⟨⟨.none, he⟩, ⟨_, hit, rfl, rfl⟩, Nat.succ_ne_self _, fun z => absurd (z ▸ hal) (Nat.not_lt.mpr (Nat.le_add_right _ _)), fun z => absurd (z ▸ hal) (Nat.lt_irrefl _)⟩, fpn, q⟩
section
variable {K : PySem.W.Frag} {ι : Ix} {H : Hp} {h : Hs}
theorem walk_enumTN {a : Addr} {n : Nat} : Walk (IteT K a) n (fun H => ∃ vs, SqT K H a vs ∧ vs.length = n) (fun i H v H' => ∃ T x y, v = .ref T ∧ H T = none ∧ H' = upd H T (.tup [x, y]) ∧ x = .int (i : Nat) ∧ ∀ ys, SqT K H a ys → ys[i]? = some y) := by
  refine ⟨fun i _ hi ⟨vs, q, e⟩ => ⟨vs, vs[i], q, by simp [e, hi]⟩, fun _ ⟨vs, q, e⟩ => ⟨vs, q, by omega⟩, fun i H v H' _ _ y => ?_⟩
  obtain ⟨T, x, h1, h2, h3, h4⟩ := y
  exact ⟨T, .int (i : Nat), x, h1, h2, h3, rfl, h4⟩
def iEnumD (cs : Env → M (List D)) : Env → M ItD := fun ρ h => (cs ρ h).bind fun ds h1 => match ds with
  | [x] => (match itOf h1 x with
    | some it => if okG it.gs h1 then .ok ⟨enumD 0 it.items, it.gs⟩ h1 else .bad
    | none => .bad)
  | _ => .bad
variable {X : Cx} {W : WX} {pos : Pos} {cs : Env → M (List D)}
theorem di_enumA {a : Expr} {p tpos : Pos} {elts : List Expr} {kk : Nat} (hg : Gl X "enumerate") (hm : X.mg "enumerate" = none) (ha : DA X W [a] cs) (hs : starEach [a] X.env = [(false, eval a X.env)] := by rfl) : DI X W (.Tuple elts kk tpos) (.Call (.Name "enumerate" p) [a] [] pos) (iEnumD cs) := pi_imp (pi_enumA hg hm ha hs) fun σ H Q ⟨ι, h, ρ, R, S, p⟩ => by
  refine ⟨ι, h, ρ, R, S, Post.imp (Post.bind p) fun vs H1 ⟨ι1, h1, ds, x1, R1, r1, p1⟩ => ?_⟩
  split at p1
  · rename_i x
    split at p1
    · rename_i it e
      obtain ⟨g, p1⟩ := p1.guard
      cases r1 with
      | cons r rr =>
        cases rr
        cases ex : isT x with
        | false =>
          obtain ⟨a, rfl, f⟩ := itOf_L r e ex
          obtain ⟨vs, q, _⟩ := f ι1 H1 h1 (Ext.refl.up) R1 g
          refine ⟨a, rfl, .inl ⟨⟨vs, q⟩, p1.ok R1 (ri_pair (walk_enumN (n := (enumD 0 it.items).length)) (fun ι' H' h' u R g => ?_) fun i ι' H' h' y z hi u R g hy hz => ?_)⟩⟩
          · obtain ⟨vs, q, r⟩ := f ι' H' h' u R g
            exact ⟨vs, q, by rw [enumD_len]; exact r.length.symm⟩
          · obtain ⟨vs, q, r⟩ := f ι' H' h' u R g
            obtain ⟨d, e1, e2⟩ := r.getV (hz vs q)
            refine ⟨_, d, enumD_at _ _ _ _ e1, ?_, e2⟩
            rw [hy, Nat.zero_add]
            exact .int _
        | true =>
          obtain ⟨a, rfl, f⟩ := itOf_T r e ex
          obtain ⟨vs, q, _⟩ := f ι1 H1 h1 (Ext.refl.up) R1 g
          refine ⟨a, rfl, .inr ⟨⟨vs, q⟩, p1.ok R1 (ri_pair (walk_enumTN (n := (enumD 0 it.items).length)) (fun ι' H' h' u R g => ?_) fun i ι' H' h' y z hi u R g hy hz => ?_)⟩⟩
          · obtain ⟨vs, q, r⟩ := f ι' H' h' u R g
            exact ⟨vs, q, by rw [enumD_len]; exact r.length.symm⟩
          · obtain ⟨vs, q, r⟩ := f ι' H' h' u R g
            obtain ⟨d, e1, e2⟩ := r.getV (hz vs q)
            refine ⟨_, d, enumD_at _ _ _ _ e1, ?_, e2⟩
            rw [hy, Nat.zero_add]
            exact .int _
    · exact p1.elim
  · exact p1.elim
end
end Dl

/-! The D layer, 19: sorted(set(a list of ints)). -/
namespace Dl
open PySem PySem.Spec PyProof.Rows L2
variable [Tb]

/-! ### the ints of a list, each once, rising -/
def insU (x : Int) : List Int → List Int
  | [] => [x]
  | y :: ys => if x < y then x :: y :: ys else if x = y then y :: ys else y :: insU x ys
def usort : List Int → List Int
  | [] => []
  | x :: xs => insU x (usort xs)
/-! ### set(a list of ints) -/
section
variable {P : Program} {w : World} {A : Around} {E : Value → Shared → Prop} {s : Shared}
end

/-! ### sorted(set(e)) -/
section
variable {X : Cx} {W : WX} {a : Expr} {ca : Env → M D} {p p2 q pos : Pos}
end
end Dl

/-! The D layer, 20: recursion; sorted(a dict); tuple(range(..)), list(range(..)); d.get(k, x); lists by an operator that may change. -/
namespace Dl
open PySem PySem.Spec PyProof.Rows L2
variable [Tb]

/-! ### what is never called -/
/-! ### sorted(d) of a dict whose keys are ints -/
section
variable {K : PySem.W.Frag} {ι : Ix} {H : Hp} {h : Hs}
end
section
variable {X : Cx}
end

/-! ### tuple(range(..)), list(range(..)) -/
section
variable {X : Cx} {W : WX} {a b : Expr} {ca cb : Env → M D} {p p2 q pos : Pos}
/-! ### d.get(k, x) -/
variable {co ck cx : Env → M D} {o k x : Expr} {apos cpos : Pos}
/-! ### [x] * n, a + b: a new list that may change -/
end
end Dl

/-! The D layer, 21: a dict that is walked: locked meanwhile. -/
namespace Dl
open PySem PySem.Spec PyProof.Rows L2
variable [Tb]

/-! ### the lock -/
section
variable {K : PySem.W.Frag} {ι ι' : Ix} {H H' : Hp} {h h' : Hs} {a : Addr} {n : Nat} {od : Obj} {us : List (Key × V)} {kvs kvs' : List (Key × D)}
end
section
variable {X : Cx} {W : WX} {pos : Pos}
theorem RS.up2 {K : PySem.W.Frag} {ι ι' : Ix} {H H' : Hp} {ρ : Env} {σ : L2.St} (S : RS K ι H ρ σ) (u : Up ι H ι' H') : RS K ι' H' ρ σ := ⟨S.1, fun i d g => let ⟨v, h1, h2⟩ := S.2 i d g; ⟨v, h1, h2.up u⟩⟩
/-! ### its keys -/
end
end Dl

/-! The D layer, 22: own exceptions whose __init__ says super().__init__(): made, raised. -/
namespace Dl
open PySem PySem.Spec PyProof.Rows L2
variable [Tb]

def veB : List Value := [.type "ValueError", .type "Exception", .type "BaseException", .type "object"]
/-- the text of such an __init__ -/
def SupBody (body : List Stmt) : Prop := ∃ p0 p1 p2 p3 p4, body = [.Expr (.Call (.Attribute (.Call (.Name "super" p0) [] [] p1) "__init__" p2) [] [] p3) p4] ∧ (p2.endLine == p3.line) = true
/-- the function of such an __init__ -/
def SupF (P : Program) (K : PySem.W.Frag) (C f : Addr) : Prop :=
  ∃ oc od osl name qual params body scope doc pm an cda ct cc ar ccl cdd vs ccs file tf cl cld csl, K.lookup f = some ⟨oc, od, .func (PySem.W.fnX name qual params body scope [("__class__", cc)] .none .none doc pm an (.ref cda) ct), osl⟩ ∧
    params = ⟨[], [ar], none, [], [], none, []⟩ ∧ ar.arg = ("self" : Str) ∧ SupBody body ∧ scope.names.lookup ("super" : Str) = some .globalImplicit ∧ scope.names.lookup ("__class__" : Str) = some .free ∧ scope.names.lookup ar.arg = some .local ∧ (∀ x ∈ scope.names, x.2 ≠ .cell) ∧
    scope.isCoroutine = false ∧ scope.isGenerator = false ∧ scope.kind = .function ∧ PySem.W.codeIn K (.ref cda) qual = true ∧ K.lookup cda = some ⟨ccl, cdd, .fields vs, ccs⟩ ∧ vs[2]? = some (.str file tf) ∧ ((P.main.file : Str) == file) = true ∧ K.lookup cc = some ⟨cl, cld, .cell (some (.ref C)), csl⟩
/-- the facts of such a class C, its __init__ f -/
structure SupC (P : Program) (K : PySem.W.Frag) (C f : Addr) : Prop where
  made : PySem.W.excInitIn K C veB "ValueError.__new__" = true
  ini : PySem.W.findIn K (.ref C) "__init__" = some (some (.ref f))
  typ : PySem.W.typeIn K (.ref f) = some (.type "function")
  kC : PySem.W.keepIn K (.ref C) = true
  exC : PySem.W.subIn K (.ref C) (.type "BaseException") = some true
  tyC : PySem.W.typeIn K (.ref C) = some (.type "type")
  veC : PySem.W.subIn K (.ref C) (.type "ValueError") = some true
  slf : PySem.W.mroIn K C (.ref C) = some true
  sup : PySem.W.ks_superIn K C C "__init__" = some (some (.builtin "ValueError.__init__"))
  opq : PySem.W.nsIn K cStatics "thirdparty.any" = some none
  fn : SupF P K C f
  noSup : (P.main.scope.names.lookup ("super" : Str)).isSome = false

section
open PySem.W PySem.Calls
variable {prog : Program} {w : World} {K : PySem.W.Frag} {C f : Addr}
theorem bind1 {name qual : Str} {an2 : Option Expr} {p : Pos} {body : List Stmt} {scope : Scope} {cl : List (Str × Addr)} {doc pm cdv ct : Value} {an : Option Addr} (u : Value) : bindArgs (PySem.W.fnX name qual ⟨[], [⟨("self" : Str), an2, p⟩], none, [], [], none, []⟩ body scope cl .none .none doc pm an cdv ct) ⟨[u], []⟩ = pure [(("self" : Str), u)] := by first | rfl | kernel_rfl

theorem eA {o : Expr} {name : Str} {apos pos : Pos} {env : PySem.Env} (hl : (apos.endLine == pos.line) = true) : eval (.Call (.Attribute o name apos) [] [] pos) env = (do
      let ov ← attributeBase o name env (eval o env)
      standAt apos.atName
      let (f, first) ← holding [ov] (getMethod ov name (do return (← importBound o env).getD true))
      callWith pos f first (backTo pos (starEach [] env)) []) := by
  have e : methodCallPos true o env apos pos = pure pos := by
    unfold methodCallPos
    rw [hl]
    rfl
  have e2 : ∀ ov : Value, methodCall o name apos pos env ov 0 (backTo pos (starEach [] env)) (backToKw pos (keywordEach [] env)) = (do
      let (f, first) ← holding [ov] (getMethod ov name (do return (← importBound o env).getD true))
      callWith pos f first (backTo pos (starEach [] env)) []) := fun ov => by
    show (do
      let (f, first) ← holding [ov] (getMethod ov name (do return (← importBound o env).getD true))
      let callPos ← methodCallPos true o env apos pos
      callWith callPos f first (backTo pos (starEach [] env)) []) = _
    rw [e]
    rfl
  rw [arm_eval_Call]
  show (do
    let ov ← attributeBase o name env (eval o env)
    standAt apos.atName
    methodCall o name apos pos env ov 0 (backTo pos (starEach [] env)) (backToKw pos (keywordEach [] env))) = _
  simp only [e2]

/-- the bound built-in __init__ called without arguments -/
theorem call_mw {A : Around} {E : Value → Shared → Prop} {h : Heap} {g : Array GenState} {d : Drawn} {t : Nat} {os : OsState} {nm q : Str} {N : Addr} {bs bm : List Value} {hdct : Bool} {sn : List Str} {sub : List Value} {ab : Bool} {col : Option Bool} {dd : Option Addr} {k0 k1 k2 k3 k5 : Option Value} {u e t0 : Addr} {Q : Value → Shared → Prop}
    (hC : h.get? C = some (excClassObj nm q C N bs bm hdct sn sub ab col dd k0 k1 k2 k3 k5 "ValueError.__new__")) (he : h.get? e = some (HandSPX.excO C t0)) (hu : h.get? u = some (kxs_mw "ValueError.__init__" e))
    (hq : ∀ h' t1, (∀ b o, b ≠ e → h.get? b = some o → h'.get? b = some o) → h'.get? e = some (HandSPX.excO C t1) → Q .none ⟨h', g, d, t, os⟩) :
    wpAny (model prog w) A (call (.ref u) []) Q E ⟨h, g, d, t, os⟩ := by
  refine wpAny_call (codeAny_of_tree ?_)
  show wpAny _ A.in1 (callAny (.ref u) ⟨[], []⟩) _ _ _
  simp only [callAny]
  refine wpAny_bind (wpAny_load hu ?_)
  simp only [kxs_mw, show (Value.type "method-wrapper" == Value.type "method" || Value.type "method-wrapper" == Value.type "builtin_function_or_method" || Value.type "method-wrapper" == Value.type "method-wrapper") = true by decide, if_true]
  refine W.KFB.if_so (by decide) ?_
  refine wpAny_bind (check_bound_init F.excBase_ValueError.toExcCallFacts hC he rfl ?_)
  refine wpAny_bind (wpAny_pure (wpAny_pure ?_))
  refine ⟨Code.quiet_builtin _ (by decide +kernel), codeAny_builtin F.excBase_ValueError.initEntry ?_⟩
  rw [Around.under_plainId F.excBase_ValueError.init.plain _]
  wp_walk
  refine hq _ h.objs.size (fun b o hb ho => ?_) ?_
  · rw [Heap.get?_update_other _ _ (Ne.symm hb)]
    exact Heap.get?_push_of_some _ ho
  · rw [Heap.get?_update_self _ (Heap.get?_push_of_some _ he) rfl]
    rfl

theorem run_sup {A : Around} {h : Heap} {g : Array GenState} {d : Drawn} {t : Nat} {os : OsState} {e t0 : Addr} {mg mb : Str → Option Value} {R : Result → Shared → Prop} (S : SupC prog K C f) (X : K.In h) (G : h.Ns mainGlobals mg) (hs : mg "super" = none) (B : h.Ns builtinsNs mb) (hb : mb "super" = some (.type "super"))
    (NL : h.NoLimit) (hroom : A.depth < recursionLimit) (he : h.get? e = some (HandSPX.excO C t0))
    (hq : ∀ h' t1 t', (∀ b o, b ≠ e → h.get? b = some o → h'.get? b = some o) → h'.get? e = some (HandSPX.excO C t1) → R (.ok (.ret .none)) ⟨h', g, d, t', os⟩) :
    codeAny (model prog w) A (.call (.ref f) ⟨[.ref e], []⟩) R ⟨h, g, d, t, os⟩ := by
  obtain ⟨oc, od, osl, name, qual, params, body, scope, doc, pm, an, cda, ct, cc, ar, ccl, cdd, vs, ccs, file, tf, cl, cld, csl, hf, hpar, har, ⟨p0, p1, p2, p3, p4, hbody, hline⟩, hks, hkc, hka, hcell, hco, hgen, hk, hcd, hcode, hvs, hfile, hcel⟩ := S.fn
  obtain ⟨arg, an2, pa⟩ := ar
  dsimp only at har hka
  subst hpar hbody har
  obtain ⟨nm, N, qn, bs, bm, hdct, sn, sub, ab, col, dd, k0, k1, k2, k3, k5, hC, hT⟩ := excInit_of X S.made
  refine ks_codeAny_call_defAt (fd := fnX name qual ⟨[], [⟨"self", an2, pa⟩], none, [], [], none, []⟩ [.Expr (.Call (.Attribute (.Call (.Name "super" p0) [] [] p1) "__init__" p2) [] [] p3) p4] scope [("__class__", cc)] .none .none doc pm an (.ref cda) ct) (binds := [(("self" : Str), .ref e)]) hroom (X _ _ hf) rfl NL (codeRec_of X hcd) rfl (BindsTo.of_eq (bind1 _)) hcell (fun x hx => by
    rw [List.mem_singleton.mp hx]
    exact hka) (fun h₀ hns hk0 => ?_) hco hgen hk
  have X0 : K.In h₀ := X.keeps hk0
  have he0 := hk0 _ _ he
  refine ks_wpAt_execs_cons (ks_wpAt_Expr_any (ks_wpAt_MethodCall ?_ (eA hline)) (hi := by show (scope.kind == ScopeKind.module && _) = false; rw [hk]; rfl))
  refine ks_wpAt_super_base hks hkc (by decide) rfl (X0 _ _ hf) rfl rfl rfl (X0 _ _ hcode) rfl hvs hfile S.noSup ?_
  refine ks_loadName_global hk hks (loadGlobal_builtin (G.keeps hk0) hs (B.keeps hk0) hb ⟨rfl, ?_⟩)
  refine wpAny_loadName_free hk hkc rfl ⟨_, X0 _ _ hcel, rfl⟩ ?_
  refine wpAny_loadName_local hk hka hns (v := .ref e) (by simp) ?_
  have I0 : InstAt h₀ e (HandSPX.excO C t0) C none := ⟨he0, rfl, rfl, trivial⟩
  obtain ⟨cd, hD⟩ : ∃ cd, clsIn K C = some cd := by
    cases z : clsIn K C with
    | some cd => exact ⟨cd, rfl⟩
    | none =>
      have y := S.slf
      unfold mroIn at y
      rw [z] at y
      cases y
  obtain ⟨oD, hD1, hD2⟩ : ∃ oD, h₀.get? C = some oD ∧ oD.data = .cls cd := by
    unfold clsIn at hD
    split at hD
    · rename_i c d cd' sl ho
      cases hD
      exact ⟨_, X0 _ _ ho, rfl⟩
    · cases hD
  refine ks_wpAny_isType_cls hD1 hD2 ⟨rfl, ?_⟩
  refine ks_wpAny_call_super hD1 hD2 he0 rfl (fun c z => by cases z) (looks_mroIn X0 S.slf) (fun h1 e1 kp1 => ?_)
  have X1 : K.In h1 := X0.keeps kp1
  have he1 := kp1 _ _ he0
  have I1 : InstAt h1 e (HandSPX.excO C t0) C none := ⟨he1, rfl, rfl, trivial⟩
  have sup := S.sup
  unfold ks_superIn at sup
  rw [hD, Option.bind_some] at sup
  have hI : Looks (model prog w) h1 (isInstance (.ref e) (.type "ValueError")) true := I1.type.andThen (looks_subIn X1 S.veC)
  refine kxs_getMethod kxs_ValueError e1 (looks_opaque X1 S.opq) (l₀ := cd.mro) ?_ rfl X1 sup hI (ks_ne X1 I1 hD) (by decide) ?_
  · exact fun A Q E s k q => wpAny_bind ((looks_clsIn X1 hD) A _ E s k (wpAny_pure q))
  have hu : (h1.push (kxs_mw "ValueError.__init__" e)).get? h1.objs.size = some (kxs_mw "ValueError.__init__" e) := Heap.get?_push_at rfl rfl
  have kp2 : ∀ b o, h1.get? b = some o → (h1.push (kxs_mw "ValueError.__init__" e)).get? b = some o := fun b o z => Heap.get?_push_of_some _ z
  refine kxs_callWith (i := "ValueError.__init__") (x := e) rfl (evalArgs_empty ⟨hu, ?_⟩)
  refine call_mw (kp2 _ _ (kp1 _ _ (hk0 _ _ hC))) (kp2 _ _ he1) hu fun h' t1 k' e' => ?_
  refine wpAt_of_wpAny (wpAny_execs_nil ?_)
  exact hq h' t1 _ (fun b o hb z => k' b o hb (kp2 _ _ (kp1 _ _ (hk0 _ _ z)))) e'
end

/-! ### C() -/
section
variable {X : Cx} {x : Str} {C f : Addr} {p pos : Pos} {k : Nat}
theorem pmk_sup (S : SupC X.prog X.K C f) (hr : Room (k + 1) X.A) (hg : Gl X x) (hm : X.mg x = some (.ref C)) (hsup : X.mg "super" = none) (hdb : (x == ("__debug__" : Str)) = false := by decide) :
    PMk X (.Call (.Name x p) [] [] pos) (fun _ H Q => Q (.ref C) none H) := by
  intro pins s σ H Q I h
  have mod := I.mod
  have bk := I.bk
  refine wpAny_Call_Name_kw (ld_glob I hg hm ?_ hdb)
  refine PySem.W.callWith_K0 I.kIn S.kC ?_
  show wpAny _ _ (call (.ref C) []) _ _ _
  obtain ⟨hp, g, dr, tk, os⟩ := s
  obtain ⟨nm, N, qn, bs, bm, hdct, sn, sub, ab, col, dd, k0, k1, k2, k3, k5, hC, hT⟩ := PySem.W.excInit_of I.kIn S.made
  have kk : ∀ b o, hp.get? b = some o → ((hp.push (PySem.W.kdv_tup [])).push (PySem.HandSPX.excO C hp.objs.size)).get? b = some o := fun b o e => Heap.get?_push_of_some _ (Heap.get?_push_of_some _ e)
  have hget : ((hp.push (PySem.W.kdv_tup [])).push (PySem.HandSPX.excO C hp.objs.size)).get? (hp.objs.size + 1) = some (PySem.HandSPX.excO C hp.objs.size) := by heap_get
  obtain ⟨mb, B1, B2⟩ := mod.blt
  have bk2 : ∀ b o, X.base.get? b = some o → ((hp.push (PySem.W.kdv_tup [])).push (PySem.HandSPX.excO C hp.objs.size)).get? b = some o := fun b o e => kk b o (bk b o e)
  have hsz : hp.objs.size ≤ hp.objs.size + 1 := Nat.le_succ _
  have fresh : hp.get? (hp.objs.size + 1) = none := by
    cases z : hp.get? (hp.objs.size + 1) with
    | none => rfl
    | some o =>
      exact absurd (Heap.lt_size z) (Nat.not_lt.mpr hsz)
  refine wpAny_call (PySem.HandSPX.call_own F.excBase_ValueError hT hC (PySem.W.looks_findIn I.kIn S.ini) (fun self => PySem.W.bind_fn I.kIn self S.typ) (by show 0 ≤ sizeLine; exact Nat.zero_le _)
    (run_sup S (I.kIn.keeps kk) (mod.glob.keeps bk2) hsup (B1.keeps bk2) ((B2 "super" (by decide)).trans (by first | rfl | decide +kernel)) (mod.nolimit.keeps bk2) (hr.make C [] []).depth hget fun h' t1 t' k' e' => ?_))
  refine ⟨rfl, hp.objs.size + 1, _, _, ⟨hp, g, dr, tk, os⟩, H, .ref C, none, rfl, I, fun b o z => k' b o (Nat.ne_of_lt (Nat.lt_of_lt_of_le (Heap.lt_size z) hsz)) (kk b o z), fresh, e', ⟨rfl, rfl⟩, rfl, rfl, I.hok.fresh hsz, rfl, I.bare, raises_own S.exC S.tyC, h⟩
/-- raise C() -/
def sRaise (x : Str) : SM := fun ρ h => .exc ρ x [] h
theorem ds_raise {W : WX} {pos' : Pos} {f : Addr} (S : SupC X.prog X.K (He.ga X.K x) f) (hr : Room (k + 1) X.A) (hc : X.calm = true) (tk : Takes X W) (hg : Gl X x) (hm : X.mg x = some (.ref (He.ga X.K x))) (hsup : X.mg "super" = none) (hdb : (x == ("__debug__" : Str)) = false := by decide) :
    DS X W (.Raise (some (.Call (.Name x p) [] [] pos)) none pos') (sRaise x) := ps_imp (ps_raise hc tk (pmk_sup S hr hg hm hsup hdb)) fun D σ H ⟨ι, h, ρ, R, S, p⟩ => p ι H none σ .refl R S (.inl ⟨rfl, rfl⟩)
end
end Dl

/-! The D layer, 23: try .. except: what the suite does, by the class of the error. -/
namespace Dl
open PySem PySem.Spec PyProof.Rows L2
variable [Tb]

/-- what a suite does -/
inductive Eff where
  | ret (d : D) | set (j : Nat) (d : D) | pass
def Eff.run : Eff → SM
  | .ret d => fun _ h => .ret d h
  | .set j d => fun ρ h => .nx (ρ.set j (some d)) h
  | .pass => fun ρ h => .nx ρ h
/-- a clause with a name: slot i -/
def sTryN (n i : Nat) (tbl : List (Str × Eff)) (cb : SM) : SM := fun ρ h => match cb ρ h with
  | .exc ρ1 C fs h1 => (match fs, tbl.lookup C with
    | [], some e => if ρ1.length = n then e.run (ρ1.set i none) h1 else .bad
    | _, _ => .bad)
  | r => r
section
variable {K : PySem.W.Frag} {ι : Ix} {H : Hp}
theorem RS.drop {ρ : Env} {σ : L2.St} {i j : Nat} {d : D} {x : Option D} (S : RS K ι H ((ρ.set i x).set j (some d)) σ) (ne : j ≠ i) : RS K ι H ((ρ.set i none).set j (some d)) (σ.set i none) := by
  refine ⟨by simpa using S.1, fun k d' g => ?_⟩
  by_cases ek : k = i
  · subst ek
    rw [List.getElem?_set_ne ne] at g
    by_cases hl : k < ρ.length
    · rw [List.getElem?_set_self hl] at g
      cases g
    · rw [List.getElem?_eq_none (by rw [List.length_set]; omega)] at g
      cases g
  · have g2 : ((ρ.set i x).set j (some d))[k]? = some (some d') := by
      by_cases ej : j = k
      · subst ej
        have hl : j < ρ.length := by
          rcases Nat.lt_or_ge j ρ.length with z | z
          · exact z
          · rw [List.getElem?_eq_none (by rw [List.length_set, List.length_set]; omega)] at g
            cases g
        rw [List.getElem?_set_self (by rw [List.length_set]; exact hl)] at g ⊢
        exact g
      · rw [List.getElem?_set_ne ej, List.getElem?_set_ne (Ne.symm ek)] at g ⊢
        exact g
    obtain ⟨v, h1, h2⟩ := S.2 k d' g2
    exact ⟨v, by rw [List.getElem?_set_ne (Ne.symm ek)]; exact h1, h2⟩
theorem RS.drop0 {ρ : Env} {σ : L2.St} {i : Nat} {x : Option D} (S : RS K ι H (ρ.set i x) σ) : RS K ι H (ρ.set i none) (σ.set i none) := by
  refine ⟨by simpa using S.1, fun k d' g => ?_⟩
  by_cases ek : k = i
  · subst ek
    by_cases hl : k < ρ.length
    · rw [List.getElem?_set_self hl] at g
      cases g
    · rw [List.getElem?_eq_none (by rw [List.length_set]; omega)] at g
      cases g
  · have g2 : (ρ.set i x)[k]? = some (some d') := by
      rw [List.getElem?_set_ne (Ne.symm ek)] at g ⊢
      exact g
    obtain ⟨v, h1, h2⟩ := S.2 k d' g2
    exact ⟨v, by rw [List.getElem?_set_ne (Ne.symm ek)]; exact h1, h2⟩
end
/-- the suite with the error in slot i does e -/
def Does (n i : Nat) (a : Ed) (cs : SM) (e : Eff) : Prop := ∀ (ρ : Env) (h : Hs), ρ.length = n → match e with
  | .ret d => cs (ρ.set i (some (.exn a))) h = .ret d h
  | .set j d => j ≠ i ∧ cs (ρ.set i (some (.exn a))) h = .nx ((ρ.set i (some (.exn a))).set j (some d)) h
  | .pass => cs (ρ.set i (some (.exn a))) h = .nx (ρ.set i (some (.exn a))) h
/-- a class that the clause takes, what its suite does -/
def HdN (X : Cx) (n i : Nat) (c : Value) (suite : List Stmt) (C : Str) (e : Eff) : Prop := PySem.W.exmOne X.K (.ref (He.ga X.K C)) c = some true ∧ ∃ cs : Ed → SM,
  (∀ (a : Ed) (oe : Obj) (pn : List (Addr × Obj)), Zc (.ref (He.ga X.K C)) (a.2.map (·.1)) oe → (∃ vs, oe.data = .fields vs) → DSs (X.suite a.1 ((a.1, oe) :: pn)) NoW suite (cs a)) ∧ ∀ a, Does n i a (cs a) e

section
variable {X : Cx} {Wout : WX} {x nm : Str} {c : Value} {i n : Nat} {body suite : List Stmt} {b₀ : Stmt} {np pos pos' : Pos} {cb : SM} {tbl : List (Str × Eff)}
theorem ds_tryN (hs : X.stack = X.env :: X.outer) (hf : X.env.frame = some X.env.locals) (hN : X.N.Nodup) (hi : X.N[i]? = some nm) (hln : X.env.kindOf nm = some .local) (hc : Names X x c) (tk : Takes X Wout)
    (hb : ∀ (W : WX) (pn : List (Addr × Obj)) (xe : Value → Shared → Prop), Takes (X.tr pn xe) W → PassesOwn (model X.prog X.w) X.A X.env xe → DSs (X.tr pn xe) W body cb)
    (hsu : ∀ C e, tbl.lookup C = some e → HdN X n i c (b₀ :: suite) C e) :
    DS X Wout (.Try body [.ExceptHandler (some (.Name x np)) (some nm) (b₀ :: suite) pos'] [] [] pos) (sTryN n i tbl cb) := by
  refine ps_imp (ps_try_as (i := i) (tb := fun W => wS X.K W cb) (ts := fun a cls d D σ H => ∃ (C : Str) (e : Eff) (cs : Addr → SM), (∀ (a : Addr) (oe : Obj) (pn : List (Addr × Obj)), Zc (.ref (He.ga X.K C)) none oe → (∃ vs, oe.data = .fields vs) → DSs (X.suite a ((a, oe) :: pn)) NoW (b₀ :: suite) (cs a)) ∧ cls = .ref (He.ga X.K C) ∧ d = none ∧ wS X.K NoW (cs a) D σ H) hs hf hN hi hln hc tk (fun W pn xe t1 t2 => hb W pn xe t1 t2) fun a oe cls d pn hz hf2 => ⟨fun pins s σ H D I ⟨C, e, cs, der, e1, e2, q⟩ => ?_⟩) fun D σ H ⟨ι, h, ρ, R, S, p⟩ => ?_
  · subst e1 e2
    exact (der a oe pn hz hf2).run pins s σ H D I q
  · refine ⟨ι, h, ρ, R, S, ?_⟩
    unfold sTryN at p
    cases q : cb ρ h with
    | nx ρ1 h1 => rw [q] at p; exact p
    | ret d h1 => rw [q] at p; exact p
    | bk ρ1 h1 => rw [q] at p; exact p
    | ct ρ1 h1 => rw [q] at p; exact p
    | bad => rw [q] at p; exact p
    | exc ρ1 C fs h1 =>
      rw [q] at p
      dsimp only at p
      split at p
      · rename_i e0 ee
        split at p
        · rename_i hlen
          intro ι' H' od σ' x R' S' xd
          have eod : od = none := by
            rcases xd with ⟨_, z⟩ | ⟨d, us, z, _⟩
            · exact z
            · exact absurd rfl z
          subst eod
          obtain ⟨h1', cs, der, does⟩ := hsu _ _ ee
          refine ⟨true, h1', fun _ a ha => ⟨C, e0, fun a => cs (a, none), fun a oe pn hz hf => der (a, none) oe pn hz hf, rfl, rfl, ι', h1, _, R', S'.set i (.exn (a, none) fun _ _ z => nomatch z), ?_⟩, fun z => nomatch z⟩
          have dz := does (a, none) ρ1 h1 hlen
          have p' := PostS.ext p x
          cases e0 with
          | ret d =>
            dsimp only at dz ⊢
            rw [dz]
            exact fun ι2 H2 v x2 R2 r2 => p' ι2 H2 v x2 R2 r2
          | set j d =>
            dsimp only at dz ⊢
            rw [dz.2]
            exact fun ι2 H2 σ2 x2 R2 S2 => p' ι2 H2 _ x2 R2 (S2.drop dz.1)
          | pass =>
            dsimp only at dz ⊢
            rw [dz]
            exact fun ι2 H2 σ2 x2 R2 S2 => p' ι2 H2 _ x2 R2 S2.drop0
        · exact p.elim
      · exact p.elim
/-- isinstance of an error that has fields or none -/
def rIsX (K : PySem.W.Frag) (D a : Addr) (od : Option Addr) : List V → Hp → VK → Prop := fun xs H Q => ∃ (c : V) (cv : Value) (b : Bool), xs = [.ref a, c] ∧ (∀ u, RelV c u → u = cv) ∧ PySem.W.kitOne K (.ref D) cv = some b ∧ (∀ d, od = some d → ∃ us, H d = some (.xd us)) ∧ Q (.bl b) H
theorem call_isX {X : Cx} {a D : Addr} {od : Option Addr} {oe : Obj} {pn : List (Addr × Obj)} (C : ExcC X.K D) (hz : Zc (.ref D) od oe) (hf : ∃ vs, oe.data = .fields vs) : CallR (X.suite a ((a, oe) :: pn)) (.builtin "isinstance") (rIsX X.K D a od) := by
  intro pins s σ H xs us Q I r ⟨c, cv, b, exs, hcv, ek, hd, q⟩
  subst exs
  cases r with
  | cons rx r2 =>
    cases r2 with
    | cons rt r3 =>
      cases r3
      cases rx
      have ec := hcv _ rt
      subst ec
      have hget := (I.pin (a, oe) (List.mem_append.mpr (.inl List.mem_cons_self))).1
      obtain ⟨vs, hv⟩ := hf
      obtain ⟨odx, J⟩ : ∃ odx, PySem.W.InstAt s.heap a oe D odx := by
        obtain ⟨oc, odd, oda, osl⟩ := oe
        obtain ⟨h1, h2⟩ := hz
        dsimp only at h1 h2 hv
        subst h1 h2 hv
        cases odd with
        | none => exact ⟨none, hget, rfl, rfl, trivial⟩
        | some d =>
          obtain ⟨us, hu⟩ := hd d rfl
          obtain ⟨_, ⟨o, _, _, eo, _⟩, _⟩ := I.hok d _ hu
          exact ⟨some o, hget, rfl, rfl, eo⟩
      obtain ⟨cdD, hcD, _⟩ := PySem.W.any_some C.hd
      exact PySem.W.kia_one (PySem.W.kitx_exc (od := odx) (by rw [hcD]; rfl) C.hg C.hk C.hs C.ha C.hn C.ht C.hm) I.kIn J ek (fun z => nomatch z) fun tk => ⟨.bl b, H, I.kept (t' := tk) fun _ _ z => z, rfl, q⟩
/-- isinstance of the error that the suite has -/
noncomputable def eIsE (a : Ed) (i : Nat) (b : Bool) : Env → M D := fun ρ h => (Classical.propDecidable (ρ[i]? = some (some (.exn a)))).casesOn (fun _ => .bad) fun _ => .ok (.bl b) h
theorem eIsE_at {a : Ed} {i : Nat} {b : Bool} {ρ : Env} {h : Hs} (e : ρ[i]? = some (some (.exn a))) : eIsE a i b ρ h = .ok (.bl b) h := by
  unfold eIsE
  cases Classical.propDecidable (ρ[i]? = some (some (.exn a))) with
  | isTrue _ => rfl
  | isFalse z => exact absurd e z
theorem eIsE_in {a : Ed} {i : Nat} {b : Bool} {ρ : Env} {h : Hs} {K : PySem.W.Frag} {W : XK} {ι : Ix} {H : Hp} {Q : V → Hp → Prop} (p : Post K W (RD K) (eIsE a i b ρ h) ι H Q) : ρ[i]? = some (some (.exn a)) := by
  unfold eIsE at p
  cases z : Classical.propDecidable (ρ[i]? = some (some (.exn a))) with
  | isTrue y => exact y
  | isFalse y => rw [z] at p; exact p.elim
theorem de_isE {W : WX} {a : Ed} {Da : Addr} {oe : Obj} {pn : List (Addr × Obj)} {b : Bool} {c2 : Str} {cv : Value} {cV : V} {p1 p2 p3 pos : Pos} (C : ExcC X.K Da) (hz : Zc (.ref Da) (a.2.map (·.1)) oe) (hf : ∃ vs, oe.data = .fields vs) (hg : Gl X "isinstance") (hm : X.mg "isinstance" = none) (hi : X.N[i]? = some nm) (hv : Vis X.env.scope nm)
    (hcls : PE (X.suite a.1 ((a.1, oe) :: pn)) (.Name c2 p3) (tC cV)) (hcv : ∀ u, RelV cV u → u = cv) (hk : PySem.W.kitOne X.K (.ref Da) cv = some b) (hd : (nm == ("__debug__" : Str)) = false := by decide) (hcd : (nm == ("__classdict__" : Str)) = false := by decide)
    (he : starEach [.Name nm p2, .Name c2 p3] X.env = (false, eval (.Name nm p2) X.env) :: starEach [.Name c2 p3] X.env := by rfl) (hpl : (backTo pos (starEach [.Name c2 p3] X.env)).any (·.1) = false := by rfl) :
    DE (X.suite a.1 ((a.1, oe) :: pn)) W (.Call (.Name "isinstance" p1) [.Name nm p2, .Name c2 p3] [] pos) (eIsE a i b) := by
  refine pe_imp (pe_callB (call_isX C hz hf) hg hm (by first | rfl | decide +kernel) (pa_cons (pv i hi hv hd hcd) (pa_cons hcls pa_nil)) (by decide) (by decide) he hpl) fun σ H Q ⟨ι, h, ρ, R, S, p⟩ => ?_
  have at1 := eIsE_in p
  rw [eIsE_at at1] at p
  obtain ⟨v, hv1, rv⟩ := S.2 i _ at1
  cases rv with
  | exn _ ok =>
    refine ⟨_, hv1, cV, cv, b, rfl, hcv, hk, fun d ed => ?_, p ι H _ .refl R (.bl b)⟩
    cases e2 : a.2 with
    | none => rw [e2] at ed; cases ed
    | some dp =>
      obtain ⟨d', ps⟩ := dp
      rw [e2] at ed
      cases ed
      obtain ⟨_, us, h1, _⟩ := ok d' ps e2
      exact ⟨us, h1⟩
end
end Dl

/-! The D layer, 24: o.f, o.g = e. -/
namespace Dl
open PySem PySem.Spec PyProof.Rows L2
variable [Tb]

section
variable {X : Cx} {W : WX} {pos p' p'' : Pos} {o o2 e : Expr} {f g : Str} {to : TE}
end
end Dl

/-! The D layer, 25: == and != of two instances by their own __eq__. -/
namespace Dl
open PySem PySem.Spec PyProof.Rows L2
variable [Tb]

/-- what an own __eq__ says, where it says a bool -/
def bl1 (r : R D) : R D := match r with
  | .ok (.bl b) h => .ok (.bl b) h
  | _ => .bad
def ownEq (C : Str) (mf : List D → M D) : D → D → M D := fun x y h => if (fieldsAt C h x).isSome && (fieldsAt C h y).isSome then bl1 (mf [x, y] h) else .bad
def ownNe (C : Str) (mf : List D → M D) : D → D → M D := fun x y h => if (fieldsAt C h x).isSome && (fieldsAt C h y).isSome then (bl1 (mf [x, y] h)).bind fun r h1 => match r with
  | .bl b => .ok (.bl (!b)) h1
  | _ => .bad
  else .bad
def ownR (K : PySem.W.Frag) (C : Str) (mf : List D → M D) (f : Bool → Bool) : R2 := fun v u H Q => ∃ ι h x y, Rel K ι h H ∧ RD K ι H x v ∧ RD K ι H y u ∧ (fieldsAt C h x).isSome = true ∧ (fieldsAt C h y).isSome = true ∧
  ∀ W : XK, Post K W (RD K) (mf [x, y] h) ι H (fun v H' => ∃ b, v = .bl b ∧ Q (.bl (f b)) H')
section
variable {X : Cx} {C : Str} {mf : List D → M D} {k : Nat} {W : WX}
theorem op_ownEq : Op2 X (ownR X.K C mf fun b => b) (ownEq C mf) := by
  intro ι h H x y v u W Q R r1 r2 p
  unfold ownEq at p
  split at p
  · rename_i e
    rw [Bool.and_eq_true] at e
    refine ⟨ι, h, x, y, R, r1, r2, e.1, e.2, fun W' => ?_⟩
    cases z : mf [x, y] h with
    | ok a h' =>
      rw [z] at p
      cases a with
      | bl b =>
        intro ι' H' w e' R' rw'
        have hw := rw'
        cases hw
        exact ⟨b, rfl, p ι' H' _ e' R' rw'⟩
      | _ => exact p.elim
    | exc c fs h' => rw [z] at p; exact p.elim
    | bad => rw [z] at p; exact p.elim
  · exact p.elim
theorem op_ownNe : Op2 X (ownR X.K C mf fun b => !b) (ownNe C mf) := by
  intro ι h H x y v u W Q R r1 r2 p
  unfold ownNe at p
  split at p
  · rename_i e
    rw [Bool.and_eq_true] at e
    refine ⟨ι, h, x, y, R, r1, r2, e.1, e.2, fun W' => ?_⟩
    cases z : mf [x, y] h with
    | ok a h' =>
      rw [z] at p
      cases a with
      | bl b =>
        intro ι' H' w e' R' rw'
        have hw := rw'
        cases hw
        exact ⟨b, rfl, p ι' H' _ e' R' (.bl _)⟩
      | _ => exact p.elim
    | exc c fs h' => rw [z] at p; exact p.elim
    | bad => rw [z] at p; exact p.elim
  · exact p.elim
/-- the facts of a class with an own __eq__ -/
structure OwnC (K : PySem.W.Frag) (C f : Addr) : Prop where
  eq : PySem.W.findIn K (.ref C) "__eq__" = some (some (.ref f))
  fn : PySem.W.isFn K (.ref f) = true
  ne : PySem.W.findIn K (.ref C) "__ne__" = some (some (.builtin "object.__ne__"))
  ob : PySem.W.subIn K (.ref C) (.type "object") = some true

theorem run_at {A : Around} {fd : FuncData} {ps : List Str} {f : Addr} {sp : Sp} {E : XK} {pins : List (Addr × Obj)} {σ : L2.St} {H : Hp} {s : Shared} {Q : VK} {us : List Value} {vs : List V} {CX : CXT} (F : FnG X.prog X.w X.K X.mg X.base CX k f fd ps sp) (hr : Room k A) (hA : A.frames = X.A.frames) (gd : A.guards = some []) (hb : Binds X.K fd ps []) (hx : PassesAt CX X σ E)
    (I : Inv X pins σ H s) (r : Vals vs us) (h : sp vs H Q E) : wpAny (model X.prog X.w) A (call (.ref f) us) (EP X pins σ Q) X.xe s := by
  have hl : us.length = ps.length := by rw [← r.length]; exact F.len _ _ _ _ h
  have b := hb s us I.kIn (by rw [List.append_nil]; exact hl)
  rw [List.append_nil] at b
  have e0 : Env0 X.prog X.w X.K X.mg X.base A X.stack s H := by
    have e := I.env0
    exact ⟨by rw [hA]; exact e.frames, e.mod, e.bs, e.bsz, e.funs, e.frf, e.hok, e.bare⟩
  refine wpAny_call (codeAny_mono (F.run A X.stack s H ⟨us, []⟩ us vs Q E hr gd e0 b r h) fun r s' hq => ?_)
  cases r with
  | error e => exact hx pins H s e s' I hq
  | ok fl =>
    cases fl with
    | ret u => exact I.after hq
    | next => exact False.elim hq
    | brk => exact False.elim hq
    | cont => exact False.elim hq
theorem opr_ownEq (F : FnD X.prog X.w X.K X.mg X.base k (He.ma X.K (He.ga X.K C) "__eq__") 2 mf) (hr : Room k X.A) (gd : X.A.guards = some []) (tk : Takes X W) (oc : OwnC X.K (He.ga X.K C) (He.ma X.K (He.ga X.K C) "__eq__")) :
    OpR X (compareOp .Eq) (ownR X.K C mf fun b => b) := by
  obtain ⟨fd, ps, F, b, kp⟩ := F
  intro pins s σ H x y v u Q I rx ry ⟨ι, h, dx, dy, R, r1, r2, f1, f2, p⟩
  obtain ⟨fs, e1⟩ := Option.isSome_iff_exists.mp f1
  obtain ⟨gs, e2⟩ := Option.isSome_iff_exists.mp f2
  obtain ⟨n, a, ax, us, rfl, rfl, g1, g2, ha, rf⟩ := fieldsAt_ok R r1 e1
  obtain ⟨n', a', ax', us', rfl, rfl, g1', g2', ha', rf'⟩ := fieldsAt_ok R r2 e2
  cases rx
  cases ry
  obtain ⟨mA, J, _⟩ := ins_get I.hok ha
  obtain ⟨mB, J', _⟩ := ins_get I.hok ha'
  obtain ⟨od, J, _⟩ := J.look
  obtain ⟨od', J', _⟩ := J'.look
  obtain ⟨m, hF⟩ := I.fr
  refine PySem.W.cmp_K (op := .Eq) (tb := .ref (He.ga X.K C)) hr.units0 hF I.ok.mod.kin J J'.type (by simp [PySem.W.notFirst]) oc.eq oc.fn ?_
  refine wpAny_mono (run_at (us := [.ref a, .ref a']) (vs := [.ref a, .ref a']) F hr rfl gd b (passAt tk σ) I (.cons rfl (.cons rfl .nil)) ⟨rfl, ι, h, _, R, .cons r1 (.cons r2 .nil), p _⟩) (fun w s' q => ?_) fun _ _ z => z
  obtain ⟨z, H', I', rz, c, rfl, q⟩ := q
  cases rz
  exact ⟨.bl c, H', I', rfl, q⟩

/-- != where the class's own is object's: object.__ne__ asks the own __eq__ -/
theorem ne_bound {A : Around} {s : Shared} {E : Value → Shared → Prop} {C f x : Addr} {ox : Obj} {od : Option Obj} {b : Value} {Q : Option Value → Shared → Prop} (hu : A.units + 1 < cLine) (Xk : X.K.In s.heap) (J : PySem.W.InstAt s.heap x ox C od) (oc : OwnC X.K C f)
    (h : wpAny (model X.prog X.w) A.in1 (call (.ref f) [.ref x, b]) (fun v s' => ∃ c, v = .bool c ∧ Q (some (.bool (!c))) s') E s) : wpAny (model X.prog X.w) A (callSpecialIfBound? (.ref x) "__ne__" [b]) Q E s := by
  simp only [callSpecialIfBound?, bindSpecialIfBound?]
  refine wpAny_holding (wpAny_bind (wpAny_bind (wpAny_bind (J.type.here ((PySem.W.looks_findIn Xk oc.ne).here ?_)))))
  simp only [PySem.F.cmp_object.ne.bind]
  have body : wpAny (model X.prog X.w) A.in1 (Builtin.«object.__ne__» ⟨[.ref x, b], []⟩) (fun fin s' => match fin with | .done f => wants (fun v => Q (some v)) E (.ok f) s' | .again c' => c'.quiet = true ∧ codeAny (model X.prog X.w) A c' (wants (fun v => Q (some v)) E) s') (fun e s' => wants (fun v => Q (some v)) E (.error e) s') s := by
    unfold Builtin.«object.__ne__»
    repeat (first
      | with_reducible refine wpAny_cRoomFor hu ?_
      | (refine wpAny_bind (m := callSpecialIfBound? (.ref x) (Str.ofString "__eq__") [b])
          (PySem.W.ifBound_K Xk J oc.eq oc.fn (wpAny_mono h (fun v s' hr => by
            obtain ⟨c, rfl, hq⟩ := hr
            repeat (first | exact hq | exact wpAny_pure hq | exact wpAny_truthy_bool hq | (refine wpAny_bind (m := truthy (.bool _)) (wpAny_truthy_bool ?_)) | wp_step)) fun _ _ e => e)))
      | wp_step)
  have hcall : wpAny (model X.prog X.w) A (call (.builtin "object.__ne__") [.ref x, b]) (fun v => Q (some v)) E s := by
    refine wpAny_call (codeAny_call_builtin PySem.F.cmp_object.ne.plain PySem.F.cmpEntry_ne ?_)
    simp only [checkBuiltinCall, PySem.F.cmpKind_ne, PySem.F.cmpSplit_ne]
    refine wpAny_bind ?_
    unfold isInstance
    refine wpAny_bind (J.type.here ((PySem.W.looks_subIn Xk oc.ob).here ?_))
    cases hsig : Manifest.signature? "object.__ne__" with
    | none => exact wpAny_pure body
    | some sig =>
      have ha := PySem.F.cmpArgs_ne (.ref x) b
      simp only [argsOk, hsig] at ha
      have h2 : Bind.checkArgs "object.__ne__" sig ⟨.ref x :: [b], []⟩ = pure () := ha
      show wpAny _ _ (Bind.checkArgs "object.__ne__" sig ⟨.ref x :: [b], []⟩) _ E _
      rw [h2]; exact wpAny_pure body
  have fin : wpAny (model X.prog X.w) A (call (.builtin "object.__ne__") ([.ref x] ++ [b]) >>= fun v => pure (some v)) Q E s := wpAny_bind (wpAny_mono hcall (fun v s' h' => wpAny_pure h') fun _ _ h' => h')
  refine wpAny_bind (wpAny_askSetting (wpAny_ite ?_))
  split
  · exact wpAny_bind (wpAny_pure (wpAny_pure fin))
  · exact wpAny_tryCatch (wpAny_bind (wpAny_pure (wpAny_pure fin)))
theorem opr_ownNe (F : FnD X.prog X.w X.K X.mg X.base k (He.ma X.K (He.ga X.K C) "__eq__") 2 mf) (hr : Room (k + 1) X.A) (gd : X.A.guards = some []) (tk : Takes X W) (oc : OwnC X.K (He.ga X.K C) (He.ma X.K (He.ga X.K C) "__eq__")) :
    OpR X (compareOp .NotEq) (ownR X.K C mf fun b => !b) := by
  obtain ⟨fd, ps, F, b, kp⟩ := F
  intro pins s σ H x y v u Q I rx ry ⟨ι, h, dx, dy, R, r1, r2, f1, f2, p⟩
  obtain ⟨fs, e1⟩ := Option.isSome_iff_exists.mp f1
  obtain ⟨gs, e2⟩ := Option.isSome_iff_exists.mp f2
  obtain ⟨n, a, ax, us, rfl, rfl, g1, g2, ha, rf⟩ := fieldsAt_ok R r1 e1
  obtain ⟨n', a', ax', us', rfl, rfl, g1', g2', ha', rf'⟩ := fieldsAt_ok R r2 e2
  cases rx
  cases ry
  obtain ⟨mA, J, _⟩ := ins_get I.hok ha
  obtain ⟨mB, J', _⟩ := ins_get I.hok ha'
  obtain ⟨od, J, _⟩ := J.look
  obtain ⟨od', J', _⟩ := J'.look
  have hcall : wpAny (model X.prog X.w) X.A.in1 (call (.ref (He.ma X.K (He.ga X.K C) "__eq__")) [.ref a, .ref a']) (fun v s' => ∃ c, v = .bool c ∧ EP X pins σ Q (.bool (!c)) s') X.xe s := by
    refine wpAny_mono (run_at (us := [.ref a, .ref a']) (vs := [.ref a, .ref a']) F hr.in1 rfl gd b (passAt tk σ) I (.cons rfl (.cons rfl .nil)) ⟨rfl, ι, h, _, R, .cons r1 (.cons r2 .nil), p _⟩) (fun w s' q => ?_) fun _ _ z => z
    obtain ⟨z, H', I', rz, c, rfl, q⟩ := q
    cases rz
    exact ⟨c, rfl, .bl (!c), H', I', rfl, q⟩
  have one : wpAny (model X.prog X.w) X.A (tryCompare (.ref a) "__ne__" (.ref a')) (fun r s' => ∃ v, r = some v ∧ EP X pins σ Q v s') X.xe s := by
    unfold tryCompare
    refine wpAny_bind (ne_bound hr.in1.units0 I.kIn J oc (wpAny_mono hcall (fun v s' hv => ?_) fun _ _ e => e))
    obtain ⟨c, rfl, q⟩ := hv
    exact ⟨c, rfl, wpAny_pure ⟨_, rfl, q⟩⟩
  show wpAny _ _ (richCompare .NotEq (.ref a) (.ref a')) _ _ _
  unfold richCompare
  simp only [oneThing_ref]
  refine wpAny_holding (wpAny_bind (wpAny_cRoomFor hr.units0 ?_))
  refine wpAny_bind (J.type.here (wpAny_bind (J'.type.here ?_)))
  rw [show (Value.ref (He.ga X.K C) != Value.ref (He.ga X.K C)) = false from by simp]
  simp only [Bool.false_eq_true, if_false]
  refine wpAny_bind (wpAny_pure ?_)
  simp only [Bool.false_eq_true, if_false]
  refine wpAny_bind (wpAny_mono one (fun r s' z => ?_) fun _ _ e => e)
  obtain ⟨v, rfl, hq⟩ := z
  exact wpAny_pure hq
variable {a b : Expr} {ca cb : Env → M D} {pos : Pos}
theorem de_ownEq (F : FnD X.prog X.w X.K X.mg X.base k (He.ma X.K (He.ga X.K C) "__eq__") 2 mf) (hr : Room k X.A) (gd : X.A.guards = some []) (tk : Takes X W) (oc : OwnC X.K (He.ga X.K C) (He.ma X.K (He.ga X.K C) "__eq__")) (ha : DE X W a ca) (hb : DE X W b cb)  :
    DE X W (.Compare a [.Eq] [b] pos) (e2 (ownEq C mf) ca cb) := de_cmp (opr_ownEq F hr gd tk oc) op_ownEq ha hb (nomark _)
theorem de_ownNe (F : FnD X.prog X.w X.K X.mg X.base k (He.ma X.K (He.ga X.K C) "__eq__") 2 mf) (hr : Room (k + 1) X.A) (gd : X.A.guards = some []) (tk : Takes X W) (oc : OwnC X.K (He.ga X.K C) (He.ma X.K (He.ga X.K C) "__eq__")) (ha : DE X W a ca) (hb : DE X W b cb)  :
    DE X W (.Compare a [.NotEq] [b] pos) (e2 (ownNe C mf) ca cb) := de_cmp (opr_ownNe F hr gd tk oc) op_ownNe ha hb (nomark _)
theorem dt_ownEq (F : FnD X.prog X.w X.K X.mg X.base k (He.ma X.K (He.ga X.K C) "__eq__") 2 mf) (hr : Room k X.A) (gd : X.A.guards = some []) (tk : Takes X W) (oc : OwnC X.K (He.ga X.K C) (He.ma X.K (He.ga X.K C) "__eq__")) (ha : DE X W a ca) (hb : DE X W b cb) :
    DT X W (.Compare a [.Eq] [b] pos) (tst (e2 (ownEq C mf) ca cb)) := w_cmp (opr_ownEq F hr gd tk oc) op_ownEq ha hb (nomark _)
theorem dt_ownNe (F : FnD X.prog X.w X.K X.mg X.base k (He.ma X.K (He.ga X.K C) "__eq__") 2 mf) (hr : Room (k + 1) X.A) (gd : X.A.guards = some []) (tk : Takes X W) (oc : OwnC X.K (He.ga X.K C) (He.ma X.K (He.ga X.K C) "__eq__")) (ha : DE X W a ca) (hb : DE X W b cb) :
    DT X W (.Compare a [.NotEq] [b] pos) (tst (e2 (ownNe C mf) ca cb)) := w_cmp (opr_ownNe F hr gd tk oc) op_ownNe ha hb (nomark _)
/-- the facts of a class with an own __eq__, checked -/
def oweB (K : PySem.W.Frag) (x : Str) : Bool := He.eqO (PySem.W.findIn K (.ref (He.ga K x)) "__ne__") (some (some (.builtin "object.__ne__"))) && decide (PySem.W.subIn K (.ref (He.ga K x)) (.type "object") = some true)
theorem oweB_ok {K : PySem.W.Frag} {x : Str} (m : Meth K (He.ga K x) "__eq__" (He.ma K (He.ga K x) "__eq__")) (h : oweB K x = true) : OwnC K (He.ga K x) (He.ma K (He.ga K x) "__eq__") :=
  ⟨m.at_, m.fn, He.eqO_ok (He.ba h).1, of_decide_eq_true (He.ba h).2⟩
theorem own_nil {K : PySem.W.Frag} : OwnF K [] := OwnF.nil
end
end Dl

/-! The D layer, 26: dicts whose keys are tuples of ints and tuples. -/
namespace Dl
open PySem PySem.Spec PyProof.Rows L2
variable [Tb]

/-! ### keys -/
section
variable {X : Cx} {pins : List (Addr × Obj)} {σ : L2.St} {H : Hp} {s : Shared} {ι : Ix} {h : Hs}
/-- a tuple as a key -/
def nkT : D → Option NestedKey
  | .tup xs => nkOf 4 (.tup xs)
  | _ => none
/-! ### the dict -/
def nAt (h : Hs) : D → Option (List (NestedKey × D))
  | .obj n => (match h[n]? with
    | some (.dN kvs) => some kvs
    | some (.dI []) => some []
    | _ => none)
  | _ => none
def putN (kvs : List (NestedKey × D)) (k : NestedKey) (d : D) : List (NestedKey × D) := if (look kvs k).isSome = true then kvs.map (fun kv => if kv.1 = k then (kv.1, d) else kv) else kvs ++ [(k, d)]
theorem putN_len (kvs : List (NestedKey × D)) (k : NestedKey) (d : D) : (putN kvs k d).length ≤ kvs.length + 1 := by
  unfold putN
  split
  · rw [List.length_map]; omega
  · rw [List.length_append, List.length_cons, List.length_nil]; omega
end

/-! ### k in d, d[k], d[k] = v -/
section
variable {X : Cx}
def itemN (x y : D) : M D := fun h => match nkT y, nAt h x with
  | some k, some kvs => (match look kvs k with
    | some d => .ok d h
    | none => .bad)
  | _, _ => .bad
variable {W : WX} {pos : Pos} {a b e o ix : Expr} {ca cb ce co cx : Env → M D}
end
end Dl

/-! The D layer, 27: dict(list of pairs). -/
namespace Dl
open PySem PySem.Spec PyProof.Rows L2
variable [Tb]

section
variable {K : PySem.W.Frag} {ι : Ix} {H : Hp}
end
section
variable {X : Cx}
end
end Dl

/-! The D layer, 28: tuple * 1 is that tuple. -/
namespace Dl
open PySem PySem.Spec PyProof.Rows L2
variable [Tb]

section
variable {X : Cx}
variable {W : WX} {pos : Pos} {a b : Expr} {ca cb : Env → M D}
end
end Dl

/-! The D layer, 29: zip of a tuple and a list, by cursors: whatever iterators two cursors stand for, zip takes a step of each. -/
namespace Dl
open PySem PySem.Spec PyProof.Rows L2 RZ
variable [Tb]

/-- an iterator, the thing it walks, one step of it, its end -/
structure Cur (it l : Addr) (items : Array Value) (pos : Nat → Heap → Prop) (src : Heap → Prop) : Prop where
  obj : ∀ {i h}, pos i h → ∃ o, h.get? it = some o ∧ ∀ v, o.data ≠ .cell v
  kept : ∀ {i h h'}, (∀ o, h.get? it = some o → h'.get? it = some o) → pos i h → pos i h'
  same : ∀ {h h'}, (∀ o, h.get? l = some o → h'.get? l = some o) → src h → src h'
  step : ∀ {prog : Program} {w : World} {A : Around} {E : Value → Shared → Prop} {s : Shared} {i : Nat} {x : Value} {Q : Value → Shared → Prop}, pos i s.heap → src s.heap → items[i]? = some x →
    (∀ h', pos (i + 1) h' → Heap.SameBut it s.heap h' → Q x { s with heap := h' }) → wpAny (model prog w) A (Builtin.SmallTypes.nextOf (.ref it)) Q E s
  last : ∀ {prog : Program} {w : World} {A : Around} {E : Value → Shared → Prop} {s : Shared} {i : Nat} {Q : Value → Shared → Prop}, A.handled = none → pos i s.heap → src s.heap → items[i]? = none →
    (∀ h' e, Heap.ExtBut it s.heap h' → (∃ o, h'.get? e = some o ∧ o.cls = .type "StopIteration") → E (.ref e) { s with heap := h' }) → wpAny (model prog w) A (Builtin.SmallTypes.nextOf (.ref it)) Q E s
section
variable {prog : Program} {w : World} {A : Around} {E : Value → Shared → Prop} {s : Shared} {z TI TO i1 i2 l1 l2 : Addr} {xs ys : Array Value} {pos1 pos2 : Nat → Heap → Prop} {src1 src2 : Heap → Prop} (C1 : Cur i1 l1 xs pos1 src1) (C2 : Cur i2 l2 ys pos2 src2) (D : ZipApart z TI TO i1 i2 l1 l2)
include C1 C2 D
end
/-! ### a new zip of a tuple and a list -/
/-! ### walked -/
end Dl

/-! The D layer, 30: the facts of an own exception class, looked at by a test. -/
namespace Dl
open PySem PySem.Spec PyProof.Rows L2
variable [Tb]

/-- is this the text  super().__init__()  -/
def supBody : List Stmt → Bool
  | [.Expr (.Call (.Attribute (.Call (.Name s _) [] [] _) i p2) [] [] p3) _] => decide (s = ("super" : Str)) && (decide (i = ("__init__" : Str)) && (p2.endLine == p3.line))
  | _ => false
theorem supBody_ok : ∀ {b : List Stmt}, supBody b = true → SupBody b := fun {b} h => by
  unfold supBody at h
  split at h
  · obtain ⟨h1, h2⟩ := Bool.and_eq_true_iff.mp h
    obtain ⟨h2, h3⟩ := Bool.and_eq_true_iff.mp h2
    have h1 := of_decide_eq_true h1
    have h2 := of_decide_eq_true h2
    subst h1 h2
    exact ⟨_, _, _, _, _, rfl, h3⟩
  · cases h
def kindsOk (sc : Scope) : Bool := decide (sc.names.lookup ("super" : Str) = some .globalImplicit) && (decide (sc.names.lookup ("__class__" : Str) = some .free) && (decide (sc.names.lookup ("self" : Str) = some .local) && (decide (∀ x ∈ sc.names, x.2 ≠ .cell) && (!sc.isCoroutine && (!sc.isGenerator && decide (sc.kind = .function))))))
def cellOk (K : PySem.W.Frag) (cc C : Addr) : Bool := match K.lookup cc with
  | some ⟨_, _, .cell (some (.ref D)), _⟩ => decide (D = C)
  | _ => false
def codeFile (K : PySem.W.Frag) (cda : Addr) (main : Str) : Bool := match K.lookup cda with
  | some ⟨_, _, .fields vs, _⟩ => (match (vs[2]? : Option Value) with
    | some (Value.str file _) => main == file
    | _ => false)
  | _ => false
def argsSelf : Arguments → Bool
  | ⟨[], [a], none, [], [], none, []⟩ => decide (a.arg = ("self" : Str))
  | _ => false
def supF (main : Str) (K : PySem.W.Frag) (C f : Addr) : Bool := match K.lookup f with
  | some ⟨_, _, .func ⟨name, qual, params, .stmts body, scope, g, [(c0, cc)], .none, .none, doc, pm, an, .ref cda, ct, b⟩, _⟩ =>
    decide (g = mainGlobals) && (decide (b = builtinsNs) && (decide (c0 = ("__class__" : Str)) && (argsSelf params && (supBody body && (kindsOk scope && (PySem.W.codeIn K (.ref cda) qual && (codeFile K cda main && cellOk K cc C)))))))
  | _ => false
theorem supF_ok {P : Program} {main : Str} {K : PySem.W.Frag} {C f : Addr} (hm : P.main.file = main) (h : supF main K C f = true) : SupF P K C f := by
  unfold supF at h
  split at h
  · rename_i oc od name qual params body scope g c0 cc doc pm an cda ct b osl q
    simp only [Bool.and_eq_true] at h
    obtain ⟨h1, h2, h3, h4, h5, h6, h7, h8, h9⟩ := h
    have h1 := of_decide_eq_true h1
    have h2 := of_decide_eq_true h2
    have h3 := of_decide_eq_true h3
    subst h1 h2 h3
    unfold argsSelf at h4
    split at h4
    · rename_i ar
      unfold kindsOk at h6
      simp only [Bool.and_eq_true, Bool.not_eq_true'] at h6
      obtain ⟨k1, k2, k3, k4, k5, k6, k7⟩ := h6
      unfold codeFile at h8
      split at h8
      · rename_i ccl cdd vs ccs qc
        split at h8
        · rename_i file tf qf
          unfold cellOk at h9
          split at h9
          · rename_i cl cld D csl qd
            have h9 := of_decide_eq_true h9
            subst h9
            have har := of_decide_eq_true h4
            exact ⟨oc, od, osl, name, qual, _, body, scope, doc, pm, an, cda, ct, cc, ar, ccl, cdd, vs, ccs, file, tf, cl, cld, csl, q, rfl, har, supBody_ok h5, of_decide_eq_true k1, of_decide_eq_true k2, by rw [har]; exact of_decide_eq_true k3, of_decide_eq_true k4, k5, k6, of_decide_eq_true k7, h7, qc, qf, by rw [hm]; exact h8, qd⟩
          · cases h9
        · cases h8
      · cases h8
    · cases h4
  · cases h
/-- the facts of the class that the name x stands for -/
def supB (main : Str) (K : PySem.W.Frag) (x : Str) : Bool :=
  PySem.W.excInitIn K (He.ga K x) veB "ValueError.__new__" && (He.eqO (PySem.W.findIn K (.ref (He.ga K x)) "__init__") (some (some (.ref (He.ma K (He.ga K x) "__init__")))) && (decide (PySem.W.typeIn K (.ref (He.ma K (He.ga K x) "__init__")) = some (.type "function")) &&
    (PySem.W.keepIn K (.ref (He.ga K x)) && (decide (PySem.W.subIn K (.ref (He.ga K x)) (.type "BaseException") = some true) && (decide (PySem.W.typeIn K (.ref (He.ga K x)) = some (.type "type")) && (decide (PySem.W.subIn K (.ref (He.ga K x)) (.type "ValueError") = some true) &&
      (decide (PySem.W.mroIn K (He.ga K x) (.ref (He.ga K x)) = some true) && (He.eqO (PySem.W.ks_superIn K (He.ga K x) (He.ga K x) "__init__") (some (some (.builtin "ValueError.__init__"))) && (He.eqO (PySem.W.nsIn K cStatics "thirdparty.any") (some none) && supF main K (He.ga K x) (He.ma K (He.ga K x) "__init__"))))))))))
theorem supB_ok {P : Program} {main : Str} {K : PySem.W.Frag} {x : Str} (hm : P.main.file = main) (hn : (P.main.scope.names.lookup ("super" : Str)).isSome = false) (h : supB main K x = true) : SupC P K (He.ga K x) (He.ma K (He.ga K x) "__init__") := by
  unfold supB at h
  simp only [Bool.and_eq_true] at h
  obtain ⟨h1, h2, h3, h4, h5, h6, h7, h8, h9, h10, h11⟩ := h
  exact ⟨h1, He.eqO_ok h2, of_decide_eq_true h3, h4, of_decide_eq_true h5, of_decide_eq_true h6, of_decide_eq_true h7, of_decide_eq_true h8, He.eqO_ok h9, He.eqO_ok h10, supF_ok hm h11, hn⟩
/-! ### the head's hook, that looks at the statics, too -/
def obsS (n : Nat) (fa : List He.Fa) (fn : List He.DefD) (ex : PySem.W.Frag → Bool) (g : Addr → Option Obj) : AlE := (He.obsD fa fn (He.frG g (cStatics :: He.asD g n)), ex (He.frG g (cStatics :: He.asD g n)))
def hookS (n : Nat) (fa : List He.Fa) (fn : List He.DefD) (ex : PySem.W.Frag → Bool) : PySem.W.Hook where
  α := AlE
  obs := fun s => obsS n fa fn ex s.heap.get?
  val := fun _ => valE fn
  says := fun _ h => ∃ K : PySem.W.Frag, K.In h ∧ SaysE fa fn ex K
  of := fun _ _ e => ⟨_, He.frG_in, congrArg (fun z : AlE => z.1) e, congrArg (fun z : AlE => z.2) e⟩
  keeps := fun _ _ _ ⟨K, hK, c⟩ k => ⟨K, PySem.W.Frag.In.keeps hK k, c⟩
theorem obsS_eq {n : Nat} {fa : List He.Fa} {fn : List He.DefD} {ex : PySem.W.Frag → Bool} {g : Addr → Option Obj} {s : Shared} (h : ∀ a, g a = s.heap.get? a) : obsS n fa fn ex g = (hookS n fa fn ex).obs s := by
  have e : g = s.heap.get? := funext h
  rw [e] <;> rfl
/-! ### what an except clause looks at -/
def excCB (K : PySem.W.Frag) (x : Str) : Bool :=
  He.eqO (PySem.W.findIn K (.ref (He.ga K x)) "__getattribute__") (some (some (.builtin "BaseException.__getattribute__"))) && (He.eqO (PySem.W.findIn K (.ref (He.ga K x)) "__getattr__") (some none) && (decide (PySem.W.subIn K (.ref (He.ga K x)) (.type "BaseException") = some true) && (PySem.W.hasDictIn K (He.ga K x) &&
    (He.eqO (PySem.W.findIn K (.ref (He.ga K x)) "__class__") (some (some (.builtin "object.__class__"))) && (He.eqO (PySem.W.specialIn K (.builtin "object.__class__") "__get__") (some (some (.builtin "getset_descriptor.__get__"))) && (decide (PySem.W.takesIn K (.builtin "object.__class__") = some true) && decide (PySem.W.mroIn K (He.ga K x) (.type "object") = some true)))))))
theorem excCB_ok {K : PySem.W.Frag} {x : Str} (h : excCB K x = true) : ExcC K (He.ga K x) := by
  unfold excCB at h
  simp only [Bool.and_eq_true] at h
  obtain ⟨h1, h2, h3, h4, h5, h6, h7, h8⟩ := h
  exact ⟨He.eqO_ok h1, He.eqO_ok h2, of_decide_eq_true h3, h4, He.eqO_ok h5, He.eqO_ok h6, of_decide_eq_true h7, of_decide_eq_true h8⟩
def kitB (K : PySem.W.Frag) (C B : Str) (b : Bool) : Bool := decide (PySem.W.kitOne K (.ref (He.ga K C)) (.ref (He.ga K B)) = some b)
theorem kitB_ok {K : PySem.W.Frag} {C B : Str} {b : Bool} (h : kitB K C B b = true) : PySem.W.kitOne K (.ref (He.ga K C)) (.ref (He.ga K B)) = some b := of_decide_eq_true h
theorem lk_one {C0 C : Str} {e0 e : Eff} {P : Str → Eff → Prop} (h : ([(C0, e0)] : List (Str × Eff)).lookup C = some e) (p : P C0 e0) : P C e := by
  by_cases z : C = C0
  · subst z
    rw [List.lookup_cons, beq_self_eq_true] at h
    cases h
    exact p
  · rw [List.lookup_cons, beq_false_of_ne z] at h
    cases h
end Dl

/-! The D layer, 31: an own __eq__ against what is no instance of the class. -/
namespace Dl
open PySem PySem.Spec PyProof.Rows L2
variable [Tb]

/-- the facts: neither tuples nor ints nor None come ahead of the class -/
structure OwnX (K : PySem.W.Frag) (C : Addr) : Prop where
  tup : PySem.W.notFirst K C (.type "tuple") = true
  int : PySem.W.notFirst K C (.type "int") = true
  non : PySem.W.notFirst K C (.type "NoneType") = true
section
variable {X : Cx} {C : Str} {mf : List D → M D} {k : Nat} {W : WX}
variable {a b : Expr} {ca cb : Env → M D} {pos : Pos}
end
/-! ### except without a name -/
section
variable {X : Cx} {Wout : WX} {x : Str} {c : Value} {n : Nat} {body suite : List Stmt} {b₀ : Stmt} {np pos pos' : Pos} {cb : SM} {tbl : List (Str × Eff)}
end
theorem own_sub {K : PySem.W.Frag} {own l : List (Tg × Tg × Bool)} (F : OwnF K own) (h : ∀ p ∈ l, p ∈ own) : OwnF K l := ⟨fun p hp => F.at_ p (h p hp)⟩
end Dl

/-! The D layer, 32: count and index of a list. -/
namespace Dl
open PySem PySem.Spec PyProof.Rows L2
variable [Tb]

/-- a method that only reads its list -/
def eRm (f : D → List D → M D) (ca : Env → M D) (cs : Env → M (List D)) : Env → M D := fun ρ h => (ca ρ h).bind fun x h1 => match items h1 x with
  | some _ => (cs ρ h1).bind fun ds h2 => f x ds h2
  | none => .bad
section
variable {X : Cx}
variable {W : WX} {apos cpos : Pos} {o e : Expr} {es : List Expr} {ca : Env → M D} {cs : Env → M (List D)} {name : Str} {id : String} {r : V → List V → Hp → VK → Prop} {f : D → List D → M D}
end
end Dl

/-! The D layer, 33: a lambda without parameters, handed to a def that calls it, where no repr is under way. -/
namespace Dl
open PySem PySem.Spec PyProof.Rows L2
open LamX (CodeO TabS Tabs ExtN LamS lamEnv lamCx lam_start2 lam_make2 run_ofS TabB tLam GivesTo)
variable [Tb]

section
variable {X : Cx} {pins : List (Addr × Obj)} {σ : L2.St} {H HZ : Hp} {s s1 : Shared}
/-- the table's next state: as it was, or longer by a new code object -/
def TabStep (H H1 : Hp) (P : Addr) (q : Str) (c' : Addr) : Prop := (H1 = H ∧ H c' = some (CodeO c' q)) ∨
  ∃ (ps : Array Value) (l : Pos), H P = some (.tbl ps) ∧ TriplesOk ps.toList ∧ H c' = none ∧ H1 = upd (upd H P (.tbl (ps ++ #[rawInt l.line, rawInt l.col, .ref c']))) c' (CodeO c' q)
theorem TabStep.code {P c' : Addr} {q : Str} {H1 : Hp} (t : TabStep H H1 P q c') : H1 c' = some (CodeO c' q) := by
  rcases t with ⟨rfl, e⟩ | ⟨ps, l, _, _, _, rfl⟩
  · exact e
  · exact upd_same
end
end Dl

/-! The D layer, 34: the word of a call's error: x(lambda: ..), x a def with a try. -/
namespace Dl
open PySem PySem.Spec PyProof.Rows L2
open LamX (CodeO TabS LamS lamEnv lamCx TabB GivesTo)
variable [Tb]

section
variable {K : PySem.W.Frag} {ι : Ix} {h : Hs} {H H1 : Hp} {P c' : Addr} {q : Str}
theorem TabStep.keep (st : TabStep H H1 P q c') : ∀ b o, b ≠ P → H b = some o → H1 b = some o := by
  intro b o n e
  rcases st with ⟨rfl, _⟩ | ⟨ps, l, _, _, hc, rfl⟩
  · exact e
  · rw [upd_ne (ne_of_none e hc), upd_ne n]
    exact e
theorem TabStep.ext (R : Rel K ι h H) (m : (P, q) ∈ Tb.ts K) (st : TabStep H H1 P q c') : Ext ι H ι H1 := by
  obtain ⟨rs, t⟩ := R.tab _ m
  obtain ⟨ps0, hP, _⟩ := id t
  have hP1 : H1 P ≠ none := by
    rcases st with ⟨rfl, _⟩ | ⟨ps, l, _, _, hc, rfl⟩
    · rw [hP]; exact fun z => nomatch z
    · exact upd_dom _ (upd_dom _ (by rw [hP]; exact fun z => nomatch z))
  refine ⟨⟨[], by simp⟩, rfl, fun a o e n r => ?_, fun _ m => .inl m, fun a od u e => ?_, fun a n => ?_⟩
  · refine st.keep a o (fun z => ?_) e
    subst z
    rw [hP] at e
    exact r rs ps0 (Option.some.inj e).symm
  · refine st.keep a _ (fun z => ?_) e
    subst z
    rw [hP] at e
    cases e
  · by_cases z : a = P
    · rw [z]; exact hP1
    · cases e : H a with
      | none => exact absurd e n
      | some o => rw [st.keep a o z e]; exact fun y => nomatch y
end
section
variable {X : Cx} {W : WX} {tbl : List (Str × Str)} {cb : Env → M D} {P : Addr} {q lw : Str}
end
end Dl

/-! The D layer, 35: the def that gets the lambda, by its text. -/
namespace Dl
open PySem PySem.Spec PyProof.Rows L2
open LamX (CodeO TabS LamS lamEnv lamCx TabB GivesTo)
variable [Tb]

/-- the context of the def that got the lambda -/
abbrev cxW (X : Cx) (Ng : List Str) (x : Str) (sg : Scope) (g : Addr) (cdg : Value) (s : Shared) (H : Hp) : Cx := (cxOf C8.CX0 X.prog X.w X.K X.mg X.base Ng x sg g cdg X.A X.stack s H C8.E0).nox
section
variable {X : Cx} {tbl : List (Str × Str)} {Ng : List Str} {x a e nm q lw : Str} {sg : Scope} {g : Addr} {cdg c : Value} {i j : Nat} {b0 : Stmt} {suite : List Stmt} {p1 p2 p3 p4 p5 p6 p7 p8 : Pos}
variable (hN : Ng.Nodup) (hi : Ng[i]? = some nm) (hln : ∀ (s : Shared) (H : Hp), (cxW X Ng x sg g cdg s H).env.kindOf nm = some .local) (hc : ∀ (s : Shared) (H : Hp), Names (cxW X Ng x sg g cdg s H) e c) (h0 : ∀ f : Addr, (L2.start Ng [V.ref f])[0]? = some (some (V.ref f)))
    (hsu : ∀ (s : Shared) (H : Hp) (C w : Str), tbl.lookup C = some w → HdN (cxW X Ng x sg g cdg s H) Ng.length i c (b0 :: suite) C (.ret (.str w)))
include hN hi hln hc h0 hsu
end
end Dl

/-! The D layer, 36: x(lambda: ..) as one computation. -/
namespace Dl
open PySem PySem.Spec PyProof.Rows L2
open LamX (CodeO TabS LamS lamSB lamEnv lamCx TabB GivesTo)
variable [Tb]

/-- what the def that makes a lambda must know of its own code object -/
structure LamM (X : Cx) (c P : Addr) : Prop where
  tb : TabB X.base X.mg c P
  code : X.env.code = .ref c
  ts : Tb.ts X.K = [(P, X.env.qual ++ "<lambda>")]
section
variable {X : Cx} {W : WX} {tbl : List (Str × Str)} {cb : Env → M D} {c P : Addr} {x a : Str} {k : Nat} {pg params : Arguments} {bg : List Stmt} {sg scope : Scope} {Ng : List Str} {body : Expr} {p lpos pos : Pos}
theorem LamM.mem (M : LamM X c P) : (P, X.env.qual ++ "<lambda>") ∈ Tb.ts X.K := by rw [M.ts]; exact List.mem_cons_self
theorem LamM.one (M : LamM X c P) : ∀ p ∈ Tb.ts X.K, p = (P, X.env.qual ++ "<lambda>") := fun p hp => by rw [M.ts] at hp; exact List.mem_singleton.mp hp
variable {e nm lw : Str} {cl : Value} {i j : Nat} {b0 : Stmt} {suite : List Stmt} {p1 p2 p3 p4 p5 p6 p7 p8 : Pos}
end
end Dl

/-! The D layer, 37: a law's end with one table of code objects; the head's hook that sees it. -/
namespace Dl
open PySem PySem.Spec PyProof.Rows L2
open LamX (TabB)
variable [Tb]

abbrev tab0 : Obj := { cls := .none, data := .fields #[] }
/-! ### the hook -/
/-- what the code object must be -/
def codeB (K : PySem.W.Frag) (c P : Addr) : Bool := match K.lookup c with
  | some ⟨.type "code", _, .fields vs, _⟩ => (match (vs[11]? : Option Value), vs.getD 11 .none, vs.getD 18 .none, vs.getD 7 .none, vs.getD 9 .none, vs.getD 10 .none with
    | some (.ref p1), .ref p2, .str _ _, .int _ _, .bool _, .int _ _ => decide (p1 = P) && (decide (p2 = P) && decide (c ≠ P))
    | _, _, _, _, _, _ => false)
  | _ => false
end Dl

/-! The D layer, 38: the head's hook that sees the law's code object and its table. -/
namespace Dl
open PySem PySem.Spec PyProof.Rows L2
variable [Tb]

def lawC (K : PySem.W.Frag) : Addr := codeA K (He.ga K "law")
def lawP (K : PySem.W.Frag) : Addr := tabA K (He.ga K "law")
structure SaysT (fa : List He.Fa) (fn : List He.DefD) (ex : PySem.W.Frag → Bool) (h : Heap) (K : PySem.W.Frag) : Prop where
  says : SaysE fa fn ex K
  code : codeB K (lawC K) (lawP K) = true
  out : K.lookup (lawP K) = none
  tab : h.get? (lawP K) = some tab0
end Dl

/-! The D layer, 39: a def picked out of a list, called. -/
namespace Dl
open PySem PySem.Spec PyProof.Rows L2
variable [Tb]

section
variable {X : Cx} {W : WX} {pos p2 : Pos} {a b e : Expr} {es : List Expr} {cf : Env → M D} {cs : Env → M (List D)} {k n : Nat} {tbl : List (Str × (List D → M D))}
end
end Dl

/-! The D layer, 40: what a suite looks at. -/
namespace Dl
open PySem PySem.Spec PyProof.Rows L2
variable [Tb]

def kitVB (K : PySem.W.Frag) (C : Str) (n : String) (b : Bool) : Bool := decide (PySem.W.kitOne K (.ref (He.ga K C)) (.type n) = some b)
theorem kitVB_ok {K : PySem.W.Frag} {C : Str} {n : String} {b : Bool} (h : kitVB K C n b = true) : PySem.W.kitOne K (.ref (He.ga K C)) (.type n) = some b := of_decide_eq_true h
section
variable {X : Cx} {W : WX} {a : Ed} {oe : Obj} {pn : List (Addr × Obj)} {i : Nat} {C B nm : Str} {b : Bool} {n : String} {p1 p2 p3 pos : Pos}
theorem de_isK (hz : Zc (.ref (He.ga X.K C)) (a.2.map (·.1)) oe) (hf : ∃ vs, oe.data = .fields vs) (EC : ExcC X.K (He.ga X.K C)) (hg : Gl X "isinstance") (hm : X.mg "isinstance" = none) (hi : X.N[i]? = some nm) (hv : Vis X.env.scope nm) (hgB : Gl X B) (hmB : X.mg B = some (.ref (He.ga X.K B)))
    (hk : PySem.W.kitOne X.K (.ref (He.ga X.K C)) (.ref (He.ga X.K B)) = some b) (hd : (nm == ("__debug__" : Str)) = false := by decide) (hcd : (nm == ("__classdict__" : Str)) = false := by decide) (hdB : (B == ("__debug__" : Str)) = false := by decide)
    (he : starEach [.Name nm p2, .Name B p3] X.env = (false, eval (.Name nm p2) X.env) :: starEach [.Name B p3] X.env := by rfl) (hpl : (backTo pos (starEach [.Name B p3] X.env)).any (·.1) = false := by rfl) :
    DE (X.suite a.1 ((a.1, oe) :: pn)) W (.Call (.Name "isinstance" p1) [.Name nm p2, .Name B p3] [] pos) (eIsE a i b) :=
  de_isE (cV := .ref (He.ga X.K B)) (cv := .ref (He.ga X.K B)) EC hz hf hg hm hi hv (pe_glob hgB hmB (by exact rfl) hdB) (fun u r => by cases r; rfl) hk hd hcd he hpl
theorem de_isV (hz : Zc (.ref (He.ga X.K C)) (a.2.map (·.1)) oe) (hf : ∃ vs, oe.data = .fields vs) (EC : ExcC X.K (He.ga X.K C)) (hg : Gl X "isinstance") (hm : X.mg "isinstance" = none) (hi : X.N[i]? = some nm) (hv : Vis X.env.scope nm) (hgB : Gl X B) (hmB : X.mg B = none) (hbB : bootBuiltins B = some (.type n))
    (hk : PySem.W.kitOne X.K (.ref (He.ga X.K C)) (.type n) = some b) (hn : B ≠ "__name__" := by decide) (hd : (nm == ("__debug__" : Str)) = false := by decide) (hcd : (nm == ("__classdict__" : Str)) = false := by decide) (hdB : (B == ("__debug__" : Str)) = false := by decide)
    (he : starEach [.Name nm p2, .Name B p3] X.env = (false, eval (.Name nm p2) X.env) :: starEach [.Name B p3] X.env := by rfl) (hpl : (backTo pos (starEach [.Name B p3] X.env)).any (·.1) = false := by rfl) :
    DE (X.suite a.1 ((a.1, oe) :: pn)) W (.Call (.Name "isinstance" p1) [.Name nm p2, .Name B p3] [] pos) (eIsE a i b) :=
  de_isE (cV := .ty n) (cv := .type n) EC hz hf hg hm hi hv (pe_bltn hgB hmB hbB (v := .ty n) rfl hn hdB) (fun u r => r) hk hd hcd he hpl
end
theorem boot_ValueError : bootBuiltins "ValueError" = some (.type "ValueError") := by first | rfl | decide +kernel
end Dl

/-! The D layer, 41: the end's looks in parts. -/
namespace Dl
open PySem PySem.Spec PyProof.Rows L2
variable [Tb]
variable {σ : Type} {x : Option σ}
end Dl

/-! The D layer, 42: sorted(d.items()) of a dict of ints and texts. -/
namespace Dl
open PySem PySem.Spec PyProof.Rows L2 L2.DX
variable [Tb]

abbrev B3 : Type := Key × V × PyData
section
variable {X : Cx}
end
theorem sqT_grow {K : PySem.W.Frag} {H H' : Hp} (g : ∀ b o, H b = some o → H' b = some o) {a : Addr} {xs : List V} (h : SqT K H a xs) : SqT K H' a xs := by
  rcases h with (h | ⟨o, h⟩) | h
  · exact .inl (.inl (g _ _ h))
  · exact .inl (.inr ⟨o, g _ _ h⟩)
  · exact .inr h
theorem sqL_grow {K : PySem.W.Frag} {H H' : Hp} (g : ∀ b o, H b = some o → H' b = some o) {a : Addr} {xs : List V} (h : SqL K H a xs) : SqL K H' a xs := by
  rcases h with (h | ⟨o, h⟩) | h
  · exact .inl (.inl (g _ _ h))
  · exact .inl (.inr ⟨o, g _ _ h⟩)
  · exact .inr h
mutual
theorem Dp.grow {K : PySem.W.Frag} {H H' : Hp} (g : ∀ b o, H b = some o → H' b = some o) : ∀ {v : V} {d : PyData}, Dp K H v d → Dp K H' v d
  | _, _, .non => .non
  | _, _, .bl b => .bl b
  | _, _, .int i => .int i
  | _, _, .str x => .str x
  | _, _, .lst q r => .lst (sqL_grow g q) (DpAll.grow g r)
  | _, _, .tup q r => .tup (sqT_grow g q) (DpAll.grow g r)
theorem DpAll.grow {K : PySem.W.Frag} {H H' : Hp} (g : ∀ b o, H b = some o → H' b = some o) : ∀ {v : List V} {d : List PyData}, DpAll K H v d → DpAll K H' v d
  | _, _, .nil => .nil
  | _, _, .cons h r => .cons (Dp.grow g h) (DpAll.grow g r)
end
theorem Ext.sub {ι : Ix} {H H' : Hp} (g : ∀ b o, H b = some o → H' b = some o) : Ext ι H ι H' := ⟨⟨[], by simp⟩, rfl, fun a o h _ _ => g a o h, fun _ h => .inl h, fun a od u h => g a _ h, fun a n z => by
  cases e : H a with
  | none => exact n e
  | some o => rw [g a o e] at z; cases z⟩
/-! ### the rule -/
section
variable {K : PySem.W.Frag} {ι : Ix} {H : Hp} {h : Hs}
end
section
variable {X : Cx} {W : WX} {o : Expr} {co : Env → M D} {p apos cpos pos : Pos}
end
end Dl

/-! The D layer, 43: the head's hook, over the objects that are met on short ways alone. -/
namespace Dl
open PySem PySem.Spec PyProof.Rows L2
variable [Tb]
end Dl

/-! The D layer, 44: list(zip(..)) of a tuple and a list: the pairs stay out. -/
namespace Dl
open PySem PySem.Spec PyProof.Rows L2 RZ
variable [Tb]

section
variable {prog : Program} {w : World} {A : Around} {E : Value → Shared → Prop} {s : Shared} {z TI TO T i1 i2 l1 l2 : Addr} {f : Bool} {oT : Obj} {k : Nat} {xs ys : Array Value} {pos1 pos2 : Nat → Heap → Prop} {src1 src2 : Heap → Prop} (C1 : Cur i1 l1 xs pos1 src1) (C2 : Cur i2 l2 ys pos2 src2) (D : ZipApart z TI TO i1 i2 l1 l2)
include C1 C2 D
/-- how the zip stands when k pairs are out -/
def ZSt (h : Heap) (z TI TO i1 i2 : Addr) (pos1 pos2 : Nat → Heap → Prop) (lo : Addr) (k : Nat) : Prop :=
  IsPair h TI (.ref i1) (.ref i2) ∧ pos1 k h ∧ pos2 k h ∧ ((IsZip h z TI TO .none ∧ ∃ a b, IsPair h TO a b) ∨ ∃ (T : Addr) (f : Bool) (oT : Obj), IsZipHeld h z TI TO T f ∧ h.get? T = some oT ∧ lo < T)
end
end Dl

/-! The D layer, 45: list(zip(..)) of a tuple and a list: the loop, the call, the rule. -/
namespace Dl
open PySem PySem.Spec PyProof.Rows L2 L2.DX RZ
variable [Tb]

theorem ZSt.up {h h' : Heap} {z TI TO i1 i2 l1 l2 : Addr} {xs ys : Array Value} {pos1 pos2 : Nat → Heap → Prop} {src1 src2 : Heap → Prop} (C1 : Cur i1 l1 xs pos1 src1) (C2 : Cur i2 l2 ys pos2 src2) {S : Addr} {k : Nat} (hst : ZSt h z TI TO i1 i2 pos1 pos2 S k)
    (u : ∀ b o, b ≠ S → h.get? b = some o → h'.get? b = some o) (lz : z < S) (lTI : TI < S) (lTO : TO < S) (l1 : i1 < S) (l2 : i2 < S) : ZSt h' z TI TO i1 i2 pos1 pos2 S k := by
  obtain ⟨hTI, p1, p2, hz⟩ := hst
  refine ⟨u _ _ (Nat.ne_of_lt lTI) hTI, C1.kept (fun o => u _ o (Nat.ne_of_lt l1)) p1, C2.kept (fun o => u _ o (Nat.ne_of_lt l2)) p2, ?_⟩
  rcases hz with ⟨hz, a, b, hTO⟩ | ⟨T, f, oT, hz, hT, lT⟩
  · exact .inl ⟨u _ _ (Nat.ne_of_lt lz) hz, a, b, u _ _ (Nat.ne_of_lt lTO) hTO⟩
  · exact .inr ⟨T, f, oT, u _ _ (Nat.ne_of_lt lz) hz, u _ _ (Nat.ne_of_gt lT) hT, lT⟩
structure MadeZ (xs ys : Array Value) (lo : Addr) (h : Heap) (as : List Addr) : Prop where
  rise : as.Pairwise (· < ·)
  above : ∀ a ∈ as, lo < a
  pairs : ∀ (j : Nat) (a : Addr), as[j]? = some a → ∃ x y, xs[j]? = some x ∧ ys[j]? = some y ∧ h.get? a = some { cls := .type "tuple", data := .seq #[x, y] }
section
variable {prog : Program} {w : World} {A : Around} {s : Shared} {R : Result → Shared → Prop} {z TI TO i1 i2 l1 l2 : Addr} {xs ys : Array Value} {pos1 pos2 : Nat → Heap → Prop} {src1 src2 : Heap → Prop}
end
/-! ### the rule -/
section
variable {X : Cx} {W : WX}
end
end Dl

/-! The D layer, 46: d.setdefault(k, x). -/
namespace Dl
open PySem PySem.Spec PyProof.Rows L2
variable [Tb]
section
variable {X : Cx} {W : WX} {co ck cx : Env → M D} {o k x : Expr} {apos cpos : Pos}
end
end Dl

/-! The D layer, 47: own exceptions whose __init__ says super().__init__(x), self.x = x. -/
namespace Dl
open PySem PySem.Spec PyProof.Rows L2
variable [Tb]

def Sup1Body (x : Str) (body : List Stmt) : Prop := ∃ p0 p1 p2 p3 p4 p5 p6 p7 p8 p9, body = [.Expr (.Call (.Attribute (.Call (.Name "super" p0) [] [] p1) "__init__" p2) [.Name x p5] [] p3) p4, .Assign [.Attribute (.Name "self" p6) x p7] (.Name x p8) p9] ∧ (p2.endLine == p3.line) = true
def Sup1F (P : Program) (K : PySem.W.Frag) (C f : Addr) (x : Str) : Prop :=
  ∃ oc od osl name qual params body scope doc pm an cda ct cc ar ar2 ccl cdd vs ccs file tf cl cld csl, K.lookup f = some ⟨oc, od, .func (PySem.W.fnX name qual params body scope [("__class__", cc)] .none .none doc pm an (.ref cda) ct), osl⟩ ∧
    params = ⟨[], [ar, ar2], none, [], [], none, []⟩ ∧ ar.arg = ("self" : Str) ∧ ar2.arg = x ∧ (x == ("self" : Str)) = false ∧ Sup1Body x body ∧ scope.names.lookup ("super" : Str) = some .globalImplicit ∧ scope.names.lookup ("__class__" : Str) = some .free ∧ scope.names.lookup ar.arg = some .local ∧ scope.names.lookup ar2.arg = some .local ∧ (∀ x ∈ scope.names, x.2 ≠ .cell) ∧
    scope.isCoroutine = false ∧ scope.isGenerator = false ∧ scope.kind = .function ∧ PySem.W.codeIn K (.ref cda) qual = true ∧ K.lookup cda = some ⟨ccl, cdd, .fields vs, ccs⟩ ∧ vs[2]? = some (.str file tf) ∧ ((P.main.file : Str) == file) = true ∧ K.lookup cc = some ⟨cl, cld, .cell (some (.ref C)), csl⟩
structure Sup1 (P : Program) (K : PySem.W.Frag) (C f : Addr) (x : Str) : Prop where
  made : PySem.W.excInitIn K C veB "ValueError.__new__" = true
  ini : PySem.W.findIn K (.ref C) "__init__" = some (some (.ref f))
  typ : PySem.W.typeIn K (.ref f) = some (.type "function")
  kC : PySem.W.keepIn K (.ref C) = true
  exC : PySem.W.subIn K (.ref C) (.type "BaseException") = some true
  tyC : PySem.W.typeIn K (.ref C) = some (.type "type")
  veC : PySem.W.subIn K (.ref C) (.type "ValueError") = some true
  slf : PySem.W.mroIn K C (.ref C) = some true
  sup : PySem.W.ks_superIn K C C "__init__" = some (some (.builtin "ValueError.__init__"))
  opq : PySem.W.nsIn K cStatics "thirdparty.any" = some none
  cd : ∃ cd, PySem.W.clsIn K C = some cd ∧ PySem.HandSPX.refsVE cd.mro = true ∧ cd.hasDict = true
  sa : PySem.W.findIn K (.ref C) "__setattr__" = some (some (.builtin "object.__setattr__"))
  no : PySem.W.findIn K (.ref C) x = some none
  fn : Sup1F P K C f x
  noSup : (P.main.scope.names.lookup ("super" : Str)).isSome = false
  ndb : (x == ("__debug__" : Str)) = false
  fld : x = ("most" : Str) ∨ x = ("line" : Str) ∨ x = ("name" : Str)

section
open PySem.W PySem.Calls
variable {prog : Program} {w : World} {K : PySem.W.Frag} {C f : Addr} {x : Str}
end

/-! ### C(e), raised -/
section
variable {X : Cx} {x fi : Str} {C f : Addr} {p pos : Pos} {k : Nat} {e : Expr} {ta : TA}
end
/-! ### the facts, looked at by a test -/
end Dl

/-! The D layer, 48: texts: split, join, int. -/
namespace Dl
open PySem PySem.Spec PyProof.Rows L2
variable [Tb]
section
variable {K : PySem.W.Frag} {ι : Ix} {H : Hp}
end
section
variable {X : Cx} {W : WX} {co ce cf : Env → M D} {o e f : Expr} {apos pos : Pos}
end
end Dl

/-! The D layer, 49: lambdas in a def other than law: its code object, its table. -/
namespace Dl
open PySem PySem.Spec PyProof.Rows L2
variable [Tb]

def fC (x : Str) (K : PySem.W.Frag) : Addr := codeA K (He.ga K x)
def fP (x : Str) (K : PySem.W.Frag) : Addr := tabA K (He.ga K x)
structure SaysX (x : Str) (fa : List He.Fa) (fn : List He.DefD) (ex : PySem.W.Frag → Bool) (h : Heap) (K : PySem.W.Frag) : Prop where
  says : SaysE fa fn ex K
  code : codeB K (fC x K) (fP x K) = true
  out : K.lookup (fP x K) = none
  tab : h.get? (fP x K) = some tab0
end Dl

/-! The D layer, 50: repr of data with empty dicts. -/
namespace Dl
open PySem PySem.Spec PyProof.Rows L2
variable [Tb]

mutual
inductive DpE (K : PySem.W.Frag) (H : Hp) : V → PyData → Prop
  | non : DpE K H .non .none
  | bl (b : Bool) : DpE K H (.bl b) (.bool b)
  | int (i : Int) : DpE K H (.int i) (.int i)
  | str (x : Str) : DpE K H (.str x) (.str x)
  | lst {a : Addr} {xs : List V} {ds : List PyData} : SqL K H a xs → DpEs K H xs ds → DpE K H (.ref a) (.list ds)
  | tup {a : Addr} {xs : List V} {ds : List PyData} : SqT K H a xs → DpEs K H xs ds → DpE K H (.ref a) (.tuple ds)
  | dct {a : Addr} : H a = some (.dK []) → DpE K H (.ref a) (.dict [])
inductive DpEs (K : PySem.W.Frag) (H : Hp) : List V → List PyData → Prop
  | nil : DpEs K H [] []
  | cons {v : V} {vs : List V} {d : PyData} {ds : List PyData} : DpE K H v d → DpEs K H vs ds → DpEs K H (v :: vs) (d :: ds)
end
section
variable {X : Cx} {pins : List (Addr × Obj)} {σ : L2.St} {H : Hp} {s : Shared}
theorem empty_reads (I : Inv X pins σ H s) {a : Addr} (e : H a = some (.dK [])) : ∃ as, Reads s.heap (.ref a) (.dict []) as := by
  obtain ⟨_, _, vs, kv, o, es, ep, eo, ex, ed, r⟩ := I.hok a _ e
  have hv : vs = [] := by cases kv; rfl
  subst hv
  have he : es.toList = [] := by
    have pr := r.2.1
    revert pr
    generalize es.toList = l
    intro pr
    cases pr
    rfl
  have r0 : ReadsAll s.heap (es.toList.map (·.key)) (([] : List (PyData × PyData)).map (·.1)) [] := by rw [he]; exact .nil
  have r1 : ReadsAll s.heap (es.toList.map (·.val)) (([] : List (PyData × PyData)).map (·.2)) [] := by rw [he]; exact .nil
  exact ⟨_, Reads.dict eo ex.1 ed r0 r1⟩
mutual
theorem DpE.reads (I : Inv X pins σ H s) : ∀ (d : PyData) (v : V) (u : Value), DpE X.K H v d → RelV v u → ∃ as, Reads s.heap u d as
  | .none, _, _, h, r => by
    cases h; cases r; exact ⟨_, Reads.none⟩
  | .bool b, _, _, h, r => by
    cases h; cases r; exact ⟨_, Reads.bool b⟩
  | .int i, _, _, h, r => by
    cases h
    obtain ⟨t, e⟩ := r
    subst e
    exact ⟨_, Reads.int i t⟩
  | .str x, _, _, h, r => by
    cases h
    obtain ⟨t, e⟩ := r
    subst e
    exact ⟨_, Reads.str x t⟩
  | .list ds, _, _, h, r => by
    cases h with
    | lst hs ha =>
      cases r
      obtain ⟨its, rv, ⟨o, n, ho, hc, _, hd⟩, _⟩ := I.list hs
      obtain ⟨as, hr⟩ := DpEs.reads I ds _ its ha rv
      exact ⟨_, Reads.list ho hc hd hr⟩
  | .tuple ds, _, _, h, r => by
    cases h with
    | tup hs ha =>
      cases r
      obtain ⟨its, rv, ⟨o, ho, hc, n, hd⟩, _⟩ := I.tuple hs
      obtain ⟨as, hr⟩ := DpEs.reads I ds _ its ha rv
      exact ⟨_, Reads.tuple ho hc hd hr⟩
  | .dict [], _, _, h, r => by
    cases h with
    | dct e =>
      cases r
      exact empty_reads I e
  | .dict (_ :: _), _, _, h, _ => by cases h
theorem DpEs.reads (I : Inv X pins σ H s) : ∀ (ds : List PyData) (vs : List V) (us : List Value), DpEs X.K H vs ds → Vals vs us → ∃ as, ReadsAll s.heap us ds as
  | [], _, _, h, r => by
    cases h; cases r; exact ⟨_, ReadsAll.nil⟩
  | d :: ds, _, _, h, r => by
    cases h with
    | cons h1 h2 =>
      cases r with
      | cons r1 r2 =>
        obtain ⟨as, q1⟩ := DpE.reads I d _ _ h1 r1
        obtain ⟨bs, q2⟩ := DpEs.reads I ds _ _ h2 r2
        exact ⟨_, ReadsAll.cons q1 q2⟩
end
end
section
variable {K : PySem.W.Frag} {ι : Ix} {H : Hp} {h : Hs}
end
section
variable {X : Cx}
end
end Dl

/-! The D layer, 51: an own == and != against things of any kind of a list. -/
namespace Dl
open PySem PySem.Spec PyProof.Rows L2
variable [Tb]

structure OwnT (K : PySem.W.Frag) (C : Str) (tys : List Tg) : Prop where
  at_ : ∀ t ∈ tys, PySem.W.notFirst K (He.ga K C) (tgV K t) = true ∧ tgIns K t
def tagIn (tys : List Tg) (h : Hs) (y : D) : Bool := match tagOf h y with
  | some t => decide (t ∈ tys)
  | none => false
def ownEqT (C : Str) (tys : List Tg) (mf : List D → M D) : D → D → M D := fun x y h => if (fieldsAt C h x).isSome && tagIn tys h y then bl1 (mf [x, y] h) else .bad
def ownNeT (C : Str) (tys : List Tg) (mf : List D → M D) : D → D → M D := fun x y h => if (fieldsAt C h x).isSome && tagIn tys h y then (bl1 (mf [x, y] h)).bind fun r h1 => match r with
  | .bl b => .ok (.bl (!b)) h1
  | _ => .bad
  else .bad
def ownRT (K : PySem.W.Frag) (C : Str) (tys : List Tg) (mf : List D → M D) (f : Bool → Bool) : R2 := fun v u H Q => ∃ ι h x y, Rel K ι h H ∧ RD K ι H x v ∧ RD K ι H y u ∧ (fieldsAt C h x).isSome = true ∧ tagIn tys h y = true ∧
  ∀ W : XK, Post K W (RD K) (mf [x, y] h) ι H (fun v H' => ∃ b, v = .bl b ∧ Q (.bl (f b)) H')
section
variable {X : Cx} {C : Str} {tys : List Tg} {mf : List D → M D} {k : Nat} {W : WX}
theorem op_ownEqT : Op2 X (ownRT X.K C tys mf fun b => b) (ownEqT C tys mf) := by
  intro ι h H x y v u W Q R r1 r2 p
  unfold ownEqT at p
  split at p
  · rename_i e
    rw [Bool.and_eq_true] at e
    refine ⟨ι, h, x, y, R, r1, r2, e.1, e.2, fun W' => ?_⟩
    cases z : mf [x, y] h with
    | ok a h' =>
      rw [z] at p
      cases a with
      | bl b =>
        intro ι' H' w e' R' rw'
        have hw := rw'
        cases hw
        exact ⟨b, rfl, p ι' H' _ e' R' rw'⟩
      | _ => exact p.elim
    | exc c fs h' => rw [z] at p; exact p.elim
    | bad => rw [z] at p; exact p.elim
  · exact p.elim
theorem op_ownNeT : Op2 X (ownRT X.K C tys mf fun b => !b) (ownNeT C tys mf) := by
  intro ι h H x y v u W Q R r1 r2 p
  unfold ownNeT at p
  split at p
  · rename_i e
    rw [Bool.and_eq_true] at e
    refine ⟨ι, h, x, y, R, r1, r2, e.1, e.2, fun W' => ?_⟩
    cases z : mf [x, y] h with
    | ok a h' =>
      rw [z] at p
      cases a with
      | bl b =>
        intro ι' H' w e' R' rw'
        have hw := rw'
        cases hw
        exact ⟨b, rfl, p ι' H' _ e' R' (.bl (!b))⟩
      | _ => exact p.elim
    | exc c fs h' => rw [z] at p; exact p.elim
    | bad => rw [z] at p; exact p.elim
  · exact p.elim
theorem tag_look {pins : List (Addr × Obj)} {σ : L2.St} {H : Hp} {s : Shared} {ι : Ix} {h : Hs} {y : D} {v : V} {u : Value} (I : Inv X pins σ H s) (R : Rel X.K ι h H) (r : RD X.K ι H y v) (rv : RelV v u) (ot : OwnT X.K C tys) (e : tagIn tys h y = true) : ∃ tb, PySem.W.Looks (model X.prog X.w) s.heap (typeOf u) tb ∧ PySem.W.notFirst X.K (He.ga X.K C) tb = true := by
  unfold tagIn at e
  split at e
  · rename_i t et
    obtain ⟨nf, ti⟩ := ot.at_ t (of_decide_eq_true e)
    obtain ⟨P, kx, ph, _⟩ := kit_of I rv (tag_ok R r et ti)
    exact ⟨_, kx.ty _ _ I.kIn ph, nf⟩
  · cases e
theorem opr_ownEqT (F : FnD X.prog X.w X.K X.mg X.base k (He.ma X.K (He.ga X.K C) "__eq__") 2 mf) (hr : Room k X.A) (gd : X.A.guards = some []) (tk : Takes X W) (oc : OwnC X.K (He.ga X.K C) (He.ma X.K (He.ga X.K C) "__eq__")) (ot : OwnT X.K C tys) :
    OpR X (compareOp .Eq) (ownRT X.K C tys mf fun b => b) := by
  obtain ⟨fd, ps, F, b, kp⟩ := F
  intro pins s σ H x y v u Q I rx ry ⟨ι, h, dx, dy, R, r1, r2, f1, f2, p⟩
  obtain ⟨fs, e1⟩ := Option.isSome_iff_exists.mp f1
  obtain ⟨n, a, ax, us, rfl, rfl, g1, g2, ha, rf⟩ := fieldsAt_ok R r1 e1
  cases rx
  obtain ⟨mA, J, _⟩ := ins_get I.hok ha
  obtain ⟨od, J, _⟩ := J.look
  obtain ⟨m, hF⟩ := I.fr
  obtain ⟨tb, lo, nf⟩ := tag_look I R r2 ry ot f2
  refine PySem.W.cmp_K (op := .Eq) (tb := tb) hr.units0 hF I.ok.mod.kin J lo nf oc.eq oc.fn ?_
  refine wpAny_mono (run_at (us := [.ref a, u]) (vs := [.ref a, y]) F hr rfl gd b (passAt tk σ) I (.cons rfl (.cons ry .nil)) ⟨rfl, ι, h, _, R, .cons r1 (.cons r2 .nil), p _⟩) (fun w s' q => ?_) fun _ _ z => z
  obtain ⟨z, H', I', rz, c, rfl, q⟩ := q
  cases rz
  exact ⟨.bl c, H', I', rfl, q⟩
theorem opr_ownNeT (F : FnD X.prog X.w X.K X.mg X.base k (He.ma X.K (He.ga X.K C) "__eq__") 2 mf) (hr : Room (k + 1) X.A) (gd : X.A.guards = some []) (tk : Takes X W) (oc : OwnC X.K (He.ga X.K C) (He.ma X.K (He.ga X.K C) "__eq__")) (ot : OwnT X.K C tys) :
    OpR X (compareOp .NotEq) (ownRT X.K C tys mf fun b => !b) := by
  obtain ⟨fd, ps, F, b, kp⟩ := F
  intro pins s σ H x y v u Q I rx ry ⟨ι, h, dx, dy, R, r1, r2, f1, f2, p⟩
  obtain ⟨fs, e1⟩ := Option.isSome_iff_exists.mp f1
  obtain ⟨n, a, ax, us, rfl, rfl, g1, g2, ha, rf⟩ := fieldsAt_ok R r1 e1
  cases rx
  obtain ⟨mA, J, _⟩ := ins_get I.hok ha
  obtain ⟨od, J, _⟩ := J.look
  obtain ⟨tb, lo, nf⟩ := tag_look I R r2 ry ot f2
  have hcall : wpAny (model X.prog X.w) X.A.in1 (call (.ref (He.ma X.K (He.ga X.K C) "__eq__")) [.ref a, u]) (fun v s' => ∃ c, v = .bool c ∧ EP X pins σ Q (.bool (!c)) s') X.xe s := by
    refine wpAny_mono (run_at (us := [.ref a, u]) (vs := [.ref a, y]) F hr.in1 rfl gd b (passAt tk σ) I (.cons rfl (.cons ry .nil)) ⟨rfl, ι, h, _, R, .cons r1 (.cons r2 .nil), p _⟩) (fun w s' q => ?_) fun _ _ z => z
    obtain ⟨z, H', I', rz, c, rfl, q⟩ := q
    cases rz
    exact ⟨c, rfl, .bl (!c), H', I', rfl, q⟩
  have one : wpAny (model X.prog X.w) X.A (tryCompare (.ref a) "__ne__" u) (fun r s' => ∃ v, r = some v ∧ EP X pins σ Q v s') X.xe s := by
    unfold tryCompare
    refine wpAny_bind (ne_bound hr.in1.units0 I.kIn J oc (wpAny_mono hcall (fun v s' hv => ?_) fun _ _ e => e))
    obtain ⟨c, rfl, q⟩ := hv
    exact ⟨c, rfl, wpAny_pure ⟨_, rfl, q⟩⟩
  show wpAny _ _ (richCompare .NotEq (.ref a) u) _ _ _
  unfold richCompare
  simp only [oneThing_ref]
  refine wpAny_holding (wpAny_bind (wpAny_cRoomFor hr.units0 ?_))
  refine wpAny_bind (J.type.here (wpAny_bind (lo.here ?_)))
  split
  · rename_i q
    have e : PySem.W.subIn X.K tb (.ref (He.ga X.K C)) = some false := by
      rcases Bool.or_eq_true_iff.mp nf with e | e
      · rw [beq_iff_eq.mp e] at q; simp at q
      · exact beq_iff_eq.mp e
    refine wpAny_bind ((PySem.W.looks_subIn I.kIn e).here ?_)
    simp only [Bool.false_eq_true, if_false]
    refine wpAny_bind (wpAny_mono one (fun r s' z => ?_) fun _ _ e => e)
    obtain ⟨v, rfl, hq⟩ := z
    exact wpAny_pure hq
  · refine wpAny_bind (wpAny_pure ?_)
    simp only [Bool.false_eq_true, if_false]
    refine wpAny_bind (wpAny_mono one (fun r s' z => ?_) fun _ _ e => e)
    obtain ⟨v, rfl, hq⟩ := z
    exact wpAny_pure hq
variable {a b : Expr} {ca cb : Env → M D} {pos : Pos}
theorem de_ownEqT (F : FnD X.prog X.w X.K X.mg X.base k (He.ma X.K (He.ga X.K C) "__eq__") 2 mf) (hr : Room k X.A) (gd : X.A.guards = some []) (tk : Takes X W) (oc : OwnC X.K (He.ga X.K C) (He.ma X.K (He.ga X.K C) "__eq__")) (ot : OwnT X.K C tys) (ha : DE X W a ca) (hb : DE X W b cb) :
    DE X W (.Compare a [.Eq] [b] pos) (e2 (ownEqT C tys mf) ca cb) := de_cmp (opr_ownEqT F hr gd tk oc ot) op_ownEqT ha hb (nomark _)
theorem de_ownNeT (F : FnD X.prog X.w X.K X.mg X.base k (He.ma X.K (He.ga X.K C) "__eq__") 2 mf) (hr : Room (k + 1) X.A) (gd : X.A.guards = some []) (tk : Takes X W) (oc : OwnC X.K (He.ga X.K C) (He.ma X.K (He.ga X.K C) "__eq__")) (ot : OwnT X.K C tys) (ha : DE X W a ca) (hb : DE X W b cb) :
    DE X W (.Compare a [.NotEq] [b] pos) (e2 (ownNeT C tys mf) ca cb) := de_cmp (opr_ownNeT F hr gd tk oc ot) op_ownNeT ha hb (nomark _)
end
def owtB (K : PySem.W.Frag) (C : Str) (tys : List Tg) : Bool := tys.all fun t => PySem.W.notFirst K (He.ga K C) (tgV K t) && (match t with
  | .b _ => true
  | .o D => insB K D)
theorem owtB_ok {K : PySem.W.Frag} {C : Str} {tys : List Tg} (h : owtB K C tys = true) : OwnT K C tys := by
  refine ⟨fun t ht => ?_⟩
  obtain ⟨h1, h2⟩ := He.ba (List.all_eq_true.mp h t ht)
  refine ⟨h1, ?_⟩
  cases t with
  | b n => trivial
  | o D =>
    obtain ⟨k1, k2⟩ := He.ba (show insB K D = true from h2)
    obtain ⟨k2, k3⟩ := He.ba k2
    obtain ⟨k3, k4⟩ := He.ba k3
    obtain ⟨k4, k5⟩ := He.ba k4
    exact ⟨He.cls_ok k1, He.eqO_ok k2, He.eqO_ok k3, of_decide_eq_true k4, of_decide_eq_true k5⟩
end Dl

/-! The D layer, 52: a word kept in a name: word = .. / try: call() / except .. as e: suite / return word. -/
namespace Dl
open PySem PySem.Spec PyProof.Rows L2
open LamX (CodeO TabS LamS lamSB lamEnv lamCx TabB GivesTo)
variable [Tb]

section
variable {X : Cx} {W : WX} {tbl : List (Str × Str)} {cb : Env → M D} {P : Addr} {q lw : Str}
end
def Does4 (n i jw : Nat) (a : Ed) (cs : SM) (w : Str) : Prop := ∀ (ρ : Env) (h : Hs), ρ.length = n → ∃ ρ', cs (ρ.set i (some (.exn a))) h = .nx ρ' h ∧ ρ'[jw]? = some (some (.str w))
def HdW (X : Cx) (n i jw : Nat) (c : Value) (suite : List Stmt) (C w : Str) : Prop := PySem.W.exmOne X.K (.ref (He.ga X.K C)) c = some true ∧ ∃ cs : Ed → SM,
  (∀ (a : Ed) (oe : Obj) (pn : List (Addr × Obj)), Zc (.ref (He.ga X.K C)) (a.2.map (·.1)) oe → (∃ vs, oe.data = .fields vs) → DSs (X.suite a.1 ((a.1, oe) :: pn)) NoW suite (cs a)) ∧ ∀ a, Does4 n i jw a (cs a) w
section
variable {X : Cx} {tbl : List (Str × Str)} {Ng : List Str} {x a e nm q lw wn : Str} {sg : Scope} {g : Addr} {cdg c : Value} {i j jw : Nat} {b0 : Stmt} {suite : List Stmt} {p1 p2 p3 p4 p5 p6 p7 p8 p9 p10 p11 : Pos}
variable (hN : Ng.Nodup) (hi : Ng[i]? = some nm) (hln : ∀ (s : Shared) (H : Hp), (cxW X Ng x sg g cdg s H).env.kindOf nm = some .local) (hc : ∀ (s : Shared) (H : Hp), Names (cxW X Ng x sg g cdg s H) e c) (h0 : ∀ f : Addr, ((L2.start Ng [V.ref f]).set jw (some (.str lw)))[0]? = some (some (V.ref f)))
    (hj : ∀ f : Addr, ((L2.start Ng [V.ref f]).set jw (some (.str lw)))[jw]? = some (some (.str lw))) (ne : jw ≠ i) (hw : Ng[jw]? = some wn) (hx : Loc sg wn) (hfn : sg.names.lookup wn = some .local) (hvw : Vis sg wn) (hdw : (wn == ("__debug__" : Str)) = false) (hcw : (wn == ("__classdict__" : Str)) = false)
    (hsu : ∀ (s : Shared) (H : Hp) (C w : Str), tbl.lookup C = some w → HdW (cxW X Ng x sg g cdg s H) Ng.length i jw c (b0 :: suite) C w)
    (hsw : ∀ (s : Shared) (H : Hp), swapsWith (.Constant (.str lw) j p5) (some (.Name wn p9)) p6.line (cxW X Ng x sg g cdg s H).env = pure false)
include hN hi hln hc h0 hj ne hw hx hfn hvw hdw hcw hsu hsw
end
section
variable {X : Cx} {W : WX} {tbl : List (Str × Str)} {cb : Env → M D} {c P : Addr} {x a : Str} {k : Nat} {pg params : Arguments} {bg : List Stmt} {sg scope : Scope} {Ng : List Str} {body : Expr} {p lpos pos : Pos}
variable {e nm lw wn : Str} {cl : Value} {i j jw : Nat} {b0 : Stmt} {suite : List Stmt} {p1 p2 p3 p4 p5 p6 p7 p8 p9 p10 p11 : Pos}
end
end Dl

/-! The D layer, 53: dict displays {k: v, ..}. -/
namespace Dl
open PySem PySem.Spec PyProof.Rows L2
variable [Tb]

section
variable {K : PySem.W.Frag} {ι ι' : Ix} {H H' : Hp} {h : Hs} {W : WX}
theorem XD.done {p : Addr} {fs : List (Str × D)} {od : Option Addr} (x : XD K (ι.with p) H fs od) : XD K ι H fs od := by
  rcases x with ⟨a, b⟩ | ⟨d, us, h1, h2, h3, h4, h5⟩
  · exact .inl ⟨a, b⟩
  · exact .inr ⟨d, us, h1, h2, h3, ⟨h4.1, fun z => h4.2 (List.mem_cons_of_mem _ z)⟩, h5.up Up.done⟩
end
section
variable {X : Cx} {W : WX} {pos : Pos} {keys : List (Option Expr)} {values : List Expr} {cs : List ((Env → M D) × (Env → M D))}
structure DPs (X : Cx) (W : WX) (pos : Pos) (keys : List (Option Expr)) (values : List Expr) (cs : List ((Env → M D) × (Env → M D))) : Prop where
  ps : PPs X pos keys values (cs.map fun c => (wE X.K W c.1, wE X.K W c.2))
end
end Dl

/-! The D layer, 54: min of a tuple of ints. -/
namespace Dl
open PySem PySem.Spec PyProof.Rows L2
variable [Tb]

section
variable {prog : Program} {w : World} {A : Around} {E : Value → Shared → Prop} {s : Shared} {l : Addr} {its : List Value} {ns : List Int} {Q : Value → Shared → Prop}
end
section
variable {X : Cx}
end
end Dl

/-! The D layer, 55: repr of data that holds empty dicts, by a fragment that holds the dict of modules. -/
namespace Dl
open PySem PySem.Spec PyProof.Rows L2
variable [Tb]

/-- the fragment holds the dict of modules, and it is a dict -/
def sysB (K : PySem.W.Frag) : Bool := match K.lookup sysModules with
  | some o => (match o.data with
    | .dict _ _ => true
    | _ => false)
  | none => false
theorem sys_at {K : PySem.W.Frag} {h : Heap} (X : K.In h) (b : sysB K = true) : ∃ o es n, h.get? sysModules = some o ∧ o.data = .dict es n := by
  unfold sysB at b
  cases e : K.lookup sysModules with
  | none => rw [e] at b; cases b
  | some o =>
    rw [e] at b
    cases d : o.data with
    | dict es n => exact ⟨o, es, n, X _ _ e, d⟩
    | _ => simp only [d] at b; cases b
theorem sys_ne {K : PySem.W.Frag} {h : Heap} (X : K.In h) (b : sysB K = true) {a : Addr} {o : Obj} {vs : Array Value} {n : Nat} (e : h.get? a = some o) (d : o.data = .seq vs n) : sysModules ≠ a := fun z => by
  obtain ⟨o', es, n', e', d'⟩ := sys_at X b
  rw [z, e] at e'
  cases e'
  rw [d] at d'
  cases d'
section
variable {X : Cx} {pins : List (Addr × Obj)} {σ : L2.St} {H : Hp} {s : Shared}
theorem empty_readsS (I : Inv X pins σ H s) {a : Addr} (e : H a = some (.dK [])) : ∃ as, Reads s.heap (.ref a) (.dict []) as ∧ sysModules ∉ as := by
  obtain ⟨_, hs, vs, kv, o, es, ep, eo, ex, ed, r⟩ := I.hok a _ e
  have hv : vs = [] := by cases kv; rfl
  subst hv
  have he : es.toList = [] := by
    have pr := r.2.1
    revert pr
    generalize es.toList = l
    intro pr
    cases pr
    rfl
  have r0 : ReadsAll s.heap (es.toList.map (·.key)) (([] : List (PyData × PyData)).map (·.1)) [] := by rw [he]; exact .nil
  have r1 : ReadsAll s.heap (es.toList.map (·.val)) (([] : List (PyData × PyData)).map (·.2)) [] := by rw [he]; exact .nil
  refine ⟨_, Reads.dict eo ex.1 ed r0 r1, fun m => ?_⟩
  have m' : sysModules ∈ [a] := m
  rw [List.mem_singleton] at m'
  rw [← m'] at hs
  exact absurd hs (by simp)
mutual
theorem DpE.readsS (I : Inv X pins σ H s) (b : sysB X.K = true) : ∀ (d : PyData) (v : V) (u : Value), DpE X.K H v d → RelV v u → ∃ as, Reads s.heap u d as ∧ sysModules ∉ as
  | .none, _, _, h, r => by
    cases h; cases r; exact ⟨_, Reads.none, fun m => nomatch m⟩
  | .bool b, _, _, h, r => by
    cases h; cases r; exact ⟨_, Reads.bool b, fun m => nomatch m⟩
  | .int i, _, _, h, r => by
    cases h
    obtain ⟨t, e⟩ := r
    subst e
    exact ⟨_, Reads.int i t, fun m => nomatch m⟩
  | .str x, _, _, h, r => by
    cases h
    obtain ⟨t, e⟩ := r
    subst e
    exact ⟨_, Reads.str x t, fun m => nomatch m⟩
  | .list ds, _, _, h, r => by
    cases h with
    | lst hs ha =>
      cases r
      obtain ⟨its, rv, ⟨o, n, ho, hc, _, hd⟩, _⟩ := I.list hs
      obtain ⟨as, hr, ns⟩ := DpEs.readsS I b ds _ its ha rv
      refine ⟨_, Reads.list ho hc hd hr, fun m => ?_⟩
      rcases List.mem_cons.mp m with e | m
      · exact sys_ne I.kIn b ho hd e
      · exact ns m
  | .tuple ds, _, _, h, r => by
    cases h with
    | tup hs ha =>
      cases r
      obtain ⟨its, rv, ⟨o, ho, hc, n, hd⟩, _⟩ := I.tuple hs
      obtain ⟨as, hr, ns⟩ := DpEs.readsS I b ds _ its ha rv
      exact ⟨_, Reads.tuple ho hc hd hr, ns⟩
  | .dict [], _, _, h, r => by
    cases h with
    | dct e =>
      cases r
      exact empty_readsS I e
  | .dict (_ :: _), _, _, h, _ => by cases h
theorem DpEs.readsS (I : Inv X pins σ H s) (b : sysB X.K = true) : ∀ (ds : List PyData) (vs : List V) (us : List Value), DpEs X.K H vs ds → Vals vs us → ∃ as, ReadsAll s.heap us ds as ∧ sysModules ∉ as
  | [], _, _, h, r => by
    cases h; cases r; exact ⟨_, ReadsAll.nil, fun m => nomatch m⟩
  | d :: ds, _, _, h, r => by
    cases h with
    | cons h1 h2 =>
      cases r with
      | cons r1 r2 =>
        obtain ⟨as, q1, n1⟩ := DpE.readsS I b d _ _ h1 r1
        obtain ⟨bs, q2, n2⟩ := DpEs.readsS I b ds _ _ h2 r2
        refine ⟨_, ReadsAll.cons q1 q2, fun m => ?_⟩
        rcases List.mem_append.mp m with m | m
        · exact n1 m
        · exact n2 m
end
end
section
variable {X : Cx}
end
/-! ### a hook that sees the dict of modules, too -/
end Dl

namespace Sh
open PySem PySem.Spec L2 Dl
/-! ### what the defs compute -/
/-- _law_tape -/
def c__law_tape : SM := sSeq (sSet 1 (e2 addD (e2 addD (e2 modD (eBf intD (aC (eBf sumD (aC (eSl (eV 0) pN (pS (eC (.int 1)))) aN)) aN)) (eC (.int 1000003))) (eBf lenD (aC (eV 0) aN))) (eC (.int 1)))) (sSeq (sFor (iSeq (eSl (eV 0) pN (pS (eC (.int 63))))) (.nm 2) (sSet 1 (e2 modD (eBf intD (aC (e2 addD (e2 addD (e2 mulD (eV 1) (eC (.int 48271))) (e2 modD (eBf intD (aC (eV 2) aN)) (eC (.int 2147483629)))) (eC (.int 11))) aN)) (eC (.int 2147483647))))) (sRet (thaw (nLst (aC (eV 1) (aC (eC (.int 0)) (aC (thaw (nLc (iSeq (eSl (eV 0) pN (pS (eC (.int 63))))) (.nm 2) [2] (tst (e2 geD (eBf absD (aC (eV 2) aN)) (e2 powD (eC (.int 10)) (eC (.int 18))))) (eBf absD (aC (eV 2) aN)))) aN)))))))
def m__law_tape : List D → M D := mDef 3 c__law_tape

/-- is_tuple -/
def c_is_tuple : SM := sRet (andX (eBf (isiD []) (aC (eV 0) (aC (eC (.ty "tuple")) aN))) (eCh leD leD (eV 1) (eBf lenD (aC (eV 0) aN)) (eV 2)))
def m_is_tuple : List D → M D := mDef 3 c_is_tuple

/-- is_integer -/
def c_is_integer : SM := sRet (andX (eBf (isiD []) (aC (eV 0) (aC (eC (.ty "int")) aN))) (e1 notX (eBf (isiD []) (aC (eV 0) (aC (eC (.ty "bool")) aN)))))
def m_is_integer : List D → M D := mDef 1 c_is_integer

/-- common -/
def c_common : SM := sSeq (sPar2 0 1 (aC (eBf absD (aC (eV 0) aN)) (aC (eBf absD (aC (eV 1) aN)) aN))) (sSeq (sWhile (limI 1) (tst (e2 gtD (eV 1) (eC (.int 0)))) (sPar2 0 1 (aC (eV 1) (aC (e2 modD (eV 0) (eV 1)) aN)))) (sRet (eV 0)))
def m_common : List D → M D := mDef 2 c_common

/-- is_fraction -/
def c_is_fraction : SM := sSeq (sIf (orT (notT (tru (eCall 3 m_is_tuple (aC (eV 0) (aC (eC (.int 2)) (aC (eC (.int 2)) aN)))))) (orT (notT (tru (eBf allD (aC (frz (nLc (iSeq (eV 0)) (.nm 1) [1] (tYes') (eCall 1 m_is_integer (aC (eV 1) aN)))) aN)))) (tst (e2 ltD (e2 itemD (eV 0) (eC (.int 1))) (eC (.int 1)))))) (sRet (eC (.bl false))) (sPass)) (sRet (e2 eqD (eCall 2 m_common (aC (e2 itemD (eV 0) (eC (.int 0))) (aC (e2 itemD (eV 0) (eC (.int 1))) aN))) (eC (.int 1))))
def m_is_fraction : List D → M D := mDef 2 c_is_fraction

/-- is_share -/
def c_is_share : SM := sRet (andX (eCall 1 m_is_fraction (aC (eV 0) aN)) (eCh leD leD (eC (.int 0)) (e2 itemD (eV 0) (eC (.int 0))) (e2 itemD (eV 0) (eC (.int 1)))))
def m_is_share : List D → M D := mDef 1 c_is_share

/-- is_tuple@ins -/
def c_is_tuple_ins : SM := sRet (andX (eBf (isiD [(.o "Trials", .b "tuple", false)]) (aC (eV 0) (aC (eC (.ty "tuple")) aN))) (eCh leD leD (eV 1) (eBf lenD (aC (eV 0) aN)) (eV 2)))
def m_is_tuple_ins : List D → M D := mDef 3 c_is_tuple_ins

/-- Trials.__init__ -/
def c_Trials___init___v3 : SM := sSeq (sIf (orT (notT (tru (eCall 3 m_is_tuple_ins (aC (eV 1) (aC (eC (.int 1)) (aC (eC (.int 12)) aN)))))) (notT (tru (eBf allD (aC (frz (nLc (iSeq (eV 1)) (.nm 2) [2] (tYes') (eCall 1 m_is_share (aC (eV 2) aN)))) aN))))) (sRaise "BadTrials") (sPass)) (sSeq (sFldD "Trials" "chances" (eV 1) (eV 0)) (sFldD "Trials" "looked" (eDct0) (eV 0)))
def m_Trials___init___v3 : List D → M D := mDef 3 c_Trials___init___v3

/-- is_within -/
def c_is_within : SM := sRet (andX (eCall 1 m_is_integer (aC (eV 0) aN)) (eCh leD leD (eV 1) (eV 0) (eV 2)))
def m_is_within : List D → M D := mDef 3 c_is_within

/-- lowest -/
def c_lowest : SM := sSeq (sIf (tst (e2 ltD (eV 1) (eC (.int 0)))) (sPar2 0 1 (aC (e1 negD (eV 0)) (aC (e1 negD (eV 1)) aN))) (sPass)) (sSeq (sSet 2 (eCall 2 m_common (aC (eV 0) (aC (eV 1) aN)))) (sRet (eTup (aC (e2 divD (eV 0) (eV 2)) (aC (e2 divD (eV 1) (eV 2)) aN)))))
def m_lowest : List D → M D := mDef 3 c_lowest

/-- minus -/
def c_minus : SM := sRet (eCall 2 m_lowest (aC (e2 subD (e2 mulD (e2 itemD (eV 0) (eC (.int 0))) (e2 itemD (eV 1) (eC (.int 1)))) (e2 mulD (e2 itemD (eV 1) (eC (.int 0))) (e2 itemD (eV 0) (eC (.int 1))))) (aC (e2 mulD (e2 itemD (eV 0) (eC (.int 1))) (e2 itemD (eV 1) (eC (.int 1)))) aN)))
def m_minus : List D → M D := mDef 2 c_minus

/-- plus -/
def c_plus : SM := sRet (eCall 2 m_lowest (aC (e2 addD (e2 mulD (e2 itemD (eV 0) (eC (.int 0))) (e2 itemD (eV 1) (eC (.int 1)))) (e2 mulD (e2 itemD (eV 1) (eC (.int 0))) (e2 itemD (eV 0) (eC (.int 1))))) (aC (e2 mulD (e2 itemD (eV 0) (eC (.int 1))) (e2 itemD (eV 1) (eC (.int 1)))) aN)))
def m_plus : List D → M D := mDef 2 c_plus

/-- _law_draw -/
def c__law_draw : SM := sSeq (sStore (e2 addD (e2 itemD (eV 0) (eC (.int 1))) (eC (.int 1))) (eV 0) (eC (.int 1))) (sSeq (sSet 2 (e2 itemD (eV 0) (eC (.int 2)))) (sSeq (sIf (tst (e2 gtD (eBf lenD (aC (eV 2) aN)) (eC (.int 0)))) (sSeq (sSet 3 (e2 modD (eBf intD (aC (e2 itemD (eV 2) (eC (.int 0))) aN)) (eV 1))) (sSeq (sStore (e2 divD (e2 itemD (eV 2) (eC (.int 0))) (eV 1)) (eV 2) (eC (.int 0))) (sSeq (sIf (tst (e2 eqD (e2 itemD (eV 2) (eC (.int 0))) (eC (.int 0)))) (sExp (eLm popD (eV 2) (aC (eC (.int 0)) aN))) (sPass)) (sRet (eV 3))))) (sPass)) (sSeq (sSet 4 (e2 modD (eBf intD (aC (e2 mulD (e2 addD (e2 itemD (eV 0) (eC (.int 0))) (e2 mulD (eC (.int 7919)) (e2 itemD (eV 0) (eC (.int 1))))) (eC (.int 48271))) aN)) (eC (.int 2147483647)))) (sSeq (sSet 4 (e2 modD (eBf intD (aC (e2 mulD (eV 4) (e2 addD (e2 divD (eV 4) (eC (.int 1009))) (eC (.int 69621)))) aN)) (eC (.int 2147483647)))) (sSeq (sSet 4 (e2 modD (eBf intD (aC (e2 mulD (eV 4) (e2 addD (e2 divD (eV 4) (eC (.int 2003))) (eC (.int 40692)))) aN)) (eC (.int 2147483399)))) (sRet (e2 modD (eBf intD (aC (e2 divD (eV 4) (eC (.int 16))) aN)) (eV 1))))))))
def m__law_draw : List D → M D := mDef 5 c__law_draw

/-- _law_any -/
def c__law_any : SM := sRet (e2 itemD (eV 1) (eCall 2 m__law_draw (aC (eV 0) (aC (eBf lenD (aC (eV 1) aN)) aN))))
def m__law_any : List D → M D := mDef 2 c__law_any

/-- _law_low -/
def c__law_low : SM := sSeq (sPar2 2 3 (aC (eBf absD (aC (eV 0) aN)) (aC (eV 1) aN))) (sSeq (sWhile (limI 3) (tst (e2 gtD (eV 3) (eC (.int 0)))) (sPar2 2 3 (aC (eV 3) (aC (e2 modD (eBf intD (aC (eV 2) aN)) (eV 3)) aN)))) (sRet (eTup (aC (e2 divD (eV 0) (eV 2)) (aC (e2 divD (eV 1) (eV 2)) aN)))))
def m__law_low : List D → M D := mDef 4 c__law_low

/-- _law_chances -/
def c__law_chances : SM := sSeq (sPar2 2 3 (aC (thaw (nLst aN)) (aC (e2 addD (eC (.int 1)) (eCall 2 m__law_draw (aC (eV 0) (aC (eV 1) aN)))) aN))) (sSeq (sFor (iR1 (aC (eV 3) aN)) (.nm 4) (sSeq (sSet 5 (eCall 2 m__law_any (aC (eV 0) (aC (frz (nLst (aC (eC (.int 2)) (aC (eC (.int 3)) (aC (eC (.int 4)) (aC (eC (.int 6)) (aC (e2 addD (eV 4) (eC (.int 1))) (aC (eC (.int 100)) (aC (e2 powD (eC (.int 10)) (eC (.int 9))) aN))))))))) aN)))) (sExp (eLm appD (eV 2) (aC (eCall 2 m__law_any (aC (eV 0) (aC (e2 addD (e2 mulD (frz (nLst (aC (eCall 2 m__law_low (aC (eCall 2 m__law_draw (aC (eV 0) (aC (e2 addD (eV 5) (eC (.int 1))) aN))) (aC (eV 5) aN))) aN))) (eC (.int 6))) (frz (nLst (aC (eTup (aC (eC (.int 1)) (aC (e2 addD (eV 4) (eC (.int 1))) aN))) (aC (eTup (aC (eC (.int 0)) (aC (eC (.int 1)) aN))) (aC (eTup (aC (eC (.int 1)) (aC (eC (.int 1)) aN))) aN)))))) aN))) aN))))) (sRet (eBf tupD (aC (eV 2) aN))))
def m__law_chances : List D → M D := mDef 6 c__law_chances

/-- _law_plus -/
def c__law_plus : SM := sRet (eCall 2 m__law_low (aC (e2 addD (e2 mulD (e2 itemD (eV 0) (eC (.int 0))) (e2 itemD (eV 1) (eC (.int 1)))) (e2 mulD (e2 itemD (eV 1) (eC (.int 0))) (e2 itemD (eV 0) (eC (.int 1))))) (aC (e2 mulD (e2 itemD (eV 0) (eC (.int 1))) (e2 itemD (eV 1) (eC (.int 1)))) aN)))
def m__law_plus : List D → M D := mDef 2 c__law_plus

/-- product -/
def c_product : SM := sRet (eCall 2 m_lowest (aC (e2 mulD (e2 itemD (eV 0) (eC (.int 0))) (e2 itemD (eV 1) (eC (.int 0)))) (aC (e2 mulD (e2 itemD (eV 0) (eC (.int 1))) (e2 itemD (eV 1) (eC (.int 1)))) aN)))
def m_product : List D → M D := mDef 2 c_product

/-- none_from -/
def c_none_from : SM := sSeq (sSet 2 (eC (.tup [.int 1, .int 1]))) (sSeq (sFor (iSeq (eSl (eFld "Trials" "chances" (eV 0)) (pS (eV 1)) pN)) (.nm 3) (sSet 2 (eCall 2 m_product (aC (eV 2) (aC (eCall 2 m_minus (aC (eC (.tup [.int 1, .int 1])) (aC (eV 3) aN))) aN))))) (sRet (eV 2)))
def m_none_from : List D → M D := mDef 4 c_none_from

/-- _law_mul -/
def c__law_mul : SM := sRet (eCall 2 m__law_low (aC (e2 mulD (e2 itemD (eV 0) (eC (.int 0))) (e2 itemD (eV 1) (eC (.int 0)))) (aC (e2 mulD (e2 itemD (eV 0) (eC (.int 1))) (e2 itemD (eV 1) (eC (.int 1)))) aN)))
def m__law_mul : List D → M D := mDef 2 c__law_mul

/-- _law_rest -/
def c__law_rest_v2 : SM := sRet (eTup (aC (e2 subD (e2 itemD (eV 0) (eC (.int 1))) (e2 itemD (eV 0) (eC (.int 0)))) (aC (e2 itemD (eV 0) (eC (.int 1))) aN)))
def m__law_rest_v2 : List D → M D := mDef 1 c__law_rest_v2

/-- is_lot -/
def c_is_lot : SM := sSeq (sIf (orT (notT (tru (eBf (isiD []) (aC (eV 0) (aC (eC (.ty "tuple")) aN))))) (notT (tru (eBf allD (aC (frz (nLc (iSeq (eV 0)) (.nm 2) [2] (tYes') (eCall 3 m_is_within (aC (eV 2) (aC (eC (.int 0)) (aC (e2 subD (eV 1) (eC (.int 1))) aN)))))) aN))))) (sRet (eC (.bl false))) (sPass)) (sRet (eBf allD (aC (frz (nLc (iZip (aC (eV 0) (aC (eSl (eV 0) (pS (eC (.int 1))) pN) aN))) (.tp [.nm 2, .nm 3]) [2, 3] (tYes') (e2 ltD (eV 2) (eV 3)))) aN)))
def m_is_lot : List D → M D := mDef 4 c_is_lot

/-- _law_lots -/
def c__law_lots : SM := sSeq (sSet 1 (frz (nLst (aC (eTup aN) aN)))) (sSeq (sFor (iR1 (aC (eV 0) aN)) (.nm 2) (sSet 1 (e2 addD (eV 1) (frz (nLc (iSeq (eV 1)) (.nm 3) [3] (tYes') (e2 addD (eV 3) (eTup (aC (eV 2) aN)))))))) (sRet (frz (nBf sortN (aC (eV 1) aN)))))
def m__law_lots : List D → M D := mDef 4 c__law_lots

/-- _law_product -/
def c__law_product : SM := sRet (eCall 2 m__law_low (aC (e2 mulD (e2 itemD (eV 0) (eC (.int 0))) (e2 itemD (eV 1) (eC (.int 0)))) (aC (e2 mulD (e2 itemD (eV 0) (eC (.int 1))) (e2 itemD (eV 1) (eC (.int 1)))) aN)))
def m__law_product : List D → M D := mDef 2 c__law_product

/-- last_shares -/
def c_last_shares : SM := sRet (frz (nLc (iEnumD (aC (eFld "Trials" "chances" (eV 0)) aN)) (.tp [.nm 1, .nm 2]) [1, 2] (tYes') (eCall 2 m_product (aC (eV 2) (aC (eCall 2 m_none_from (aC (eV 0) (aC (e2 addD (eV 1) (eC (.int 1))) aN))) aN)))))
def m_last_shares : List D → M D := mDef 3 c_last_shares

/-- won -/
def c_won : SM := sSeq (sPar2 2 3 (aC (eC (.tup [.int 0, .int 1])) (aC (eCall 1 m_last_shares (aC (eV 0) aN)) aN))) (sSeq (sSet 4 (eC (.tup [.int 1, .int 1]))) (sSeq (sFor (iSeq (eV 1)) (.nm 5) (sSeq (sSet 2 (eCall 2 m_plus (aC (eV 2) (aC (eCall 2 m_product (aC (eV 4) (aC (e2 itemD (eV 3) (eV 5)) aN))) aN)))) (sSet 4 (eCall 2 m_product (aC (eV 4) (aC (eCall 2 m_minus (aC (eC (.tup [.int 1, .int 1])) (aC (e2 itemD (eFld "Trials" "chances" (eV 0)) (eV 5)) aN))) aN)))))) (sRet (eV 2))))
def m_won : List D → M D := mDef 6 c_won

/-- win -/
def c_win : SM := sSeq (sIf (notT (tru (eCall 2 m_is_lot (aC (eV 1) (aC (eBf lenD (aC (eFld "Trials" "chances" (eV 0)) aN)) aN))))) (sBad) (sPass)) (sRet (eCall 2 m_won (aC (eV 0) (aC (eV 1) aN))))
def m_win : List D → M D := mDef 2 c_win

/-- _law_win -/
def c__law_win : SM := sSeq (sPat (.tp [.nm 2, .nm 3]) (eTup (aC (eTup (aC (eC (.int 0)) (aC (eC (.int 1)) aN))) (aC (eTup (aC (eC (.int 1)) (aC (eC (.int 1)) aN))) aN)))) (sSeq (sFor (iSeq (eV 1)) (.nm 4) (sSeq (sSet 5 (e2 itemD (eV 0) (eV 4))) (sSeq (sFor (iSeq (eSl (eV 0) (pS (e2 addD (eV 4) (eC (.int 1)))) pN)) (.nm 6) (sSet 5 (eCall 2 m__law_product (aC (eV 5) (aC (eCall 1 m__law_rest_v2 (aC (eV 6) aN)) aN))))) (sSeq (sSet 2 (eCall 2 m__law_plus (aC (eV 2) (aC (eCall 2 m__law_product (aC (eV 3) (aC (eV 5) aN))) aN)))) (sSet 3 (eCall 2 m__law_product (aC (eV 3) (aC (eCall 1 m__law_rest_v2 (aC (e2 itemD (eV 0) (eV 4)) aN)) aN)))))))) (sRet (eV 2)))
def m__law_win : List D → M D := mDef 7 c__law_win

/-- _law_is_integer -/
def c__law_is_integer : SM := sRet (andX (eBf (isiD []) (aC (eV 0) (aC (eC (.ty "int")) aN))) (e1 notX (eBf (isiD []) (aC (eV 0) (aC (eC (.ty "bool")) aN)))))
def m__law_is_integer : List D → M D := mDef 1 c__law_is_integer

/-- _law_is_share -/
def c__law_is_share_v2 : SM := sSeq (sIf (orT (notT (tru (eBf (isiD []) (aC (eV 0) (aC (eC (.ty "tuple")) aN))))) (orT (tst (e2 neD (eBf lenD (aC (eV 0) aN)) (eC (.int 2)))) (notT (tru (eBf allD (aC (frz (nLc (iSeq (eV 0)) (.nm 1) [1] (tYes') (eCall 1 m__law_is_integer (aC (eV 1) aN)))) aN)))))) (sRet (eC (.bl false))) (sPass)) (sRet (andX (eCh leD leD (eC (.int 0)) (e2 itemD (eV 0) (eC (.int 0))) (e2 itemD (eV 0) (eC (.int 1)))) (andX (e2 gtD (e2 itemD (eV 0) (eC (.int 1))) (eC (.int 0))) (e2 eqD (eCall 2 m__law_low (aC (e2 itemD (eV 0) (eC (.int 0))) (aC (e2 itemD (eV 0) (eC (.int 1))) aN))) (eV 0)))))
def m__law_is_share_v2 : List D → M D := mDef 2 c__law_is_share_v2

/-- _law_is_in -/
def c__law_is_in : SM := sRet (andX (eBf (isiD []) (aC (eV 0) (aC (eC (.ty "int")) aN))) (andX (e1 notX (eBf (isiD []) (aC (eV 0) (aC (eC (.ty "bool")) aN)))) (eCh leD leD (eV 1) (eV 0) (eV 2))))
def m__law_is_in : List D → M D := mDef 3 c__law_is_in

/-- _law_is_share -/
def c__law_is_share_v3 : SM := sSeq (sIf (orT (notT (tru (eBf (isiD []) (aC (eV 0) (aC (eC (.ty "tuple")) aN))))) (orT (tst (e2 neD (eBf lenD (aC (eV 0) aN)) (eC (.int 2)))) (notT (tru (eBf allD (aC (frz (nLc (iSeq (eV 0)) (.nm 1) [1] (tYes') (eCall 3 m__law_is_in (aC (eV 1) (aC (eC (.int 0)) (aC (e2 powD (eC (.int 10)) (eC (.int 64))) aN)))))) aN)))))) (sRet (eC (.bl false))) (sPass)) (sRet (andX (eCh leD leD (eC (.int 0)) (e2 itemD (eV 0) (eC (.int 0))) (e2 itemD (eV 0) (eC (.int 1)))) (andX (e2 gtD (e2 itemD (eV 0) (eC (.int 1))) (eC (.int 0))) (e2 eqD (eCall 2 m__law_low (aC (e2 itemD (eV 0) (eC (.int 0))) (aC (e2 itemD (eV 0) (eC (.int 1))) aN))) (eV 0)))))
def m__law_is_share_v3 : List D → M D := mDef 2 c__law_is_share_v3

/-- _law_are_chances -/
def c__law_are_chances_v2 : SM := sRet (andX (eBf (isiD [(.o "Trials", .b "tuple", false)]) (aC (eV 0) (aC (eC (.ty "tuple")) aN))) (andX (eCh leD leD (eC (.int 1)) (eBf lenD (aC (eV 0) aN)) (eC (.int 12))) (eBf allD (aC (frz (nLc (iSeq (eV 0)) (.nm 1) [1] (tYes') (eCall 1 m__law_is_share_v3 (aC (eV 1) aN)))) aN))))
def m__law_are_chances_v2 : List D → M D := mDef 2 c__law_are_chances_v2

/-- _law_deep -/
def c__law_deep_v4 : SM := sSeq (sSet 1 (eCall 2 m__law_any (aC (eV 0) (aC (frz (nLst (aC (eC .non) (aC (eC (.str "a")) (aC (eDct0) aN))))) aN)))) (sSeq (sFor (iR1 (aC (e2 addD (eC (.int 1)) (eCall 2 m__law_draw (aC (eV 0) (aC (eC (.int 30)) aN)))) aN)) (.nm 2) (sSet 1 (ifV (tst (e2 eqD (eCall 2 m__law_draw (aC (eV 0) (aC (eC (.int 2)) aN))) (eC (.int 0)))) (frz (nLst (aC (eV 1) aN))) (eTup (aC (eV 1) aN))))) (sRet (eV 1)))
def m__law_deep_v4 : List D → M D := mDef 3 c__law_deep_v4

/-- _law_bent -/
def c__law_bent_v3 : SM := sSeq (sSet 3 (eCall 2 m__law_draw (aC (eV 0) (aC (eBf lenD (aC (eV 1) aN)) aN)))) (sSeq (sSet 4 (e2 itemD (eV 1) (eV 3))) (sSeq (sSet 5 (frz (nLst (aC (eTup (aC (e2 mulD (eC (.int 2)) (e2 itemD (eV 4) (eC (.int 0)))) (aC (e2 mulD (eC (.int 2)) (e2 itemD (eV 4) (eC (.int 1)))) aN))) (aC (eTup (aC (e2 addD (e2 itemD (eV 4) (eC (.int 1))) (eC (.int 1))) (aC (e2 itemD (eV 4) (eC (.int 1))) aN))) (aC (eTup (aC (e1 negD (eC (.int 1))) (aC (eC (.int 2)) aN))) (aC (eTup (aC (eC (.int 1)) (aC (eC (.int 0)) aN))) (aC (eTup (aC (eC (.int 0)) (aC (eC (.int 0)) aN))) (aC (eTup (aC (eC (.int 0)) (aC (eC (.int 2)) aN))) (aC (e2 itemD (eV 4) (eC (.int 0))) (aC (eC .non) (aC (eC (.str "1/2")) aN)))))))))))) (sSeq (sSet 5 (e2 addD (eV 5) (frz (nLst (aC (frz (nBf listN (aC (eV 4) aN))) (aC (e2 addD (eV 4) (eTup (aC (eC (.int 1)) aN))) (aC (eSl (eV 4) pN (pS (eC (.int 1)))) (aC (eTup (aC (eC (.bl true)) (aC (eC (.int 1)) aN))) (aC (eTup (aC (eC (.int 1)) (aC (eC (.int 1)) aN))) (aC (eTup (aC (eC (.int 0)) (aC (eC (.int 1)) aN))) (aC (eTup (aC (eC (.int 1)) (aC (eC (.int 3)) aN))) (aC (eTup (aC (e2 itemD (eV 4) (eC (.int 0))) (aC (e1 negD (eC (.int 1))) aN))) (aC (eTup (aC (eC (.int 1)) (aC (eC (.bl true)) aN))) (aC (eTup aN) aN)))))))))))))) (sSeq (sSet 6 (e2 addD (e2 mulD (frz (nLst (aC (e2 addD (e2 addD (eSl (eV 1) pN (pS (eV 3))) (eTup (aC (eCall 2 m__law_any (aC (eV 0) (aC (eV 5) aN))) aN))) (eSl (eV 1) (pS (e2 addD (eV 3) (eC (.int 1)))) pN)) aN))) (eC (.int 6))) (frz (nLst (aC (frz (nBf listN (aC (eV 1) aN))) (aC (eSl (eV 1) (pS (eC (.int 1))) pN) (aC (e1 revD (eV 1)) (aC (eV 4) aN)))))))) (sRet (eCall 2 m__law_any (aC (eV 0) (aC (e2 addD (eV 6) (frz (nLst (aC (e2 addD (eV 1) (eTup (aC (eTup (aC (eC (.int 1)) (aC (eC (.int 2)) aN))) aN))) (aC (e2 mulD (eTup (aC (eTup (aC (eC (.int 1)) (aC (eC (.int 2)) aN))) aN)) (eC (.int 12))) (aC (e2 mulD (eTup (aC (eTup (aC (eC (.int 1)) (aC (eC (.int 2)) aN))) aN)) (eC (.int 13))) (aC (eTup aN) (aC (eC .non) (aC (eC (.int 0)) (aC (eDct0) (aC (eV 2) (aC (eCall 1 m__law_deep_v4 (aC (eV 0) aN)) aN)))))))))))) aN))))))))
def m__law_bent_v3 : List D → M D := mDef 7 c__law_bent_v3

/-- Trials.__eq__ -/
def c_Trials___eq___v3 : SM := sRet (andX (eBf (isiD [(.o "Trials", .o "Trials", true), (.b "tuple", .o "Trials", false), (.b "NoneType", .o "Trials", false), (.b "int", .o "Trials", false), (.b "str", .o "Trials", false), (.b "list", .o "Trials", false)]) (aC (eV 1) (aC (eC (.glo "Trials")) aN))) (e2 eqD (eFld "Trials" "chances" (eV 0)) (eFld "Trials" "chances" (eV 1))))
def m_Trials___eq___v3 : List D → M D := mDef 2 c_Trials___eq___v3

/-- _law_equal_right -/
def c__law_equal_right : SM := sSeq (sSet 3 (eMake "Trials" 2 m_Trials___init___v3 (aC (eBf tupD (aC (frz (nLc (iSeq (eV 1)) (.nm 8) [8] (tYes') (eBf tupD (aC (frz (nBf listN (aC (eV 8) aN))) aN)))) aN)) aN))) (sSeq (sIf (orT (notT (tst (e2 (ownEq "Trials" m_Trials___eq___v3) (eV 2) (eV 3)))) (orT (tst (e2 (ownNe "Trials" m_Trials___eq___v3) (eV 2) (eV 3))) (tst (e2 neD (eBf reprD (aC (eFld "Trials" "chances" (eV 2)) aN)) (eBf reprD (aC (eV 1) aN)))))) (sRet (eC (.bl false))) (sPass)) (sSeq (sIf (tru (eBf anyD (aC (frz (nLc (iSeq (eTup (aC (eV 1) (aC (eC .non) (aC (eC (.int 0)) (aC (eC (.str "trials")) (aC (frz (nLst (aC (eV 2) aN))) aN))))))) (.nm 9) [9] (tYes') (orX (e2 (ownEqT "Trials" [.b "tuple", .b "NoneType", .b "int", .b "str", .b "list"] m_Trials___eq___v3) (eV 2) (eV 9)) (e1 notX (e2 (ownNeT "Trials" [.b "tuple", .b "NoneType", .b "int", .b "str", .b "list"] m_Trials___eq___v3) (eV 2) (eV 9)))))) aN))) (sRet (eC (.bl false))) (sPass)) (sSeq (sFor (iR1 (aC (eC (.int 4)) aN)) (.nm 4) (sSeq (sSet 5 (eCall 3 m__law_bent_v3 (aC (eV 0) (aC (eV 1) (aC (eV 2) aN))))) (sIf (tru (eCall 1 m__law_are_chances_v2 (aC (eV 5) aN))) (sSeq (sPar2 6 7 (aC (eMake "Trials" 2 m_Trials___init___v3 (aC (eV 5) aN)) (aC (e2 eqD (eV 5) (eV 1)) aN))) (sIf (orT (tst (e2 neD (e2 (ownEq "Trials" m_Trials___eq___v3) (eV 2) (eV 6)) (eV 7))) (orT (tst (e2 neD (e2 (ownEq "Trials" m_Trials___eq___v3) (eV 6) (eV 2)) (eV 7))) (tst (e2 eqD (e2 (ownNe "Trials" m_Trials___eq___v3) (eV 2) (eV 6)) (eV 7))))) (sRet (eC (.bl false))) (sPass))) (sPass)))) (sRet (eC (.bl true))))))
def m__law_equal_right : List D → M D := mDef 10 c__law_equal_right

/-- _law_is_refused -/
def c__law_is_refused : SM := sSeq (sSet 1 (eC (.bl false))) (sSeq (sTryN 3 2 [("BadTrials", .set 1 (.bl true))] (sExp (eMake "Trials" 2 m_Trials___init___v3 (aC (eV 0) aN)))) (sRet (eV 1)))
def m__law_is_refused : List D → M D := mDef 3 c__law_is_refused

/-- _law_ways -/
def c__law_ways : SM := sSeq (sSet 2 (eTup (aC (eC (.int 0)) (aC (eC (.int 1)) aN)))) (sSeq (sFor (iSeq (eCall 1 m__law_lots (aC (eBf lenD (aC (eV 0) aN)) aN))) (.nm 3) (sSeq (sSet 4 (frz (nLc (iSeq (eV 1)) (.nm 6) [6] (tst (e2 inD (eV 6) (eV 3))) (eV 6)))) (sIf (andT (tst (e2 gtD (eBf lenD (aC (eV 4) aN)) (eC (.int 0)))) (tst (e2 eqD (e2 itemD (eV 4) (eC (.int 0))) (e2 itemD (eV 3) (e1 negD (eC (.int 1))))))) (sSeq (sSet 5 (eTup (aC (eC (.int 1)) (aC (eC (.int 1)) aN)))) (sSeq (sFor (iEnumD (aC (eV 0) aN)) (.tp [.nm 6, .nm 7]) (sSet 5 (eCall 2 m__law_product (aC (eV 5) (aC (ifV (tst (e2 inD (eV 6) (eV 3))) (eV 7) (eCall 1 m__law_rest_v2 (aC (eV 7) aN))) aN))))) (sSet 2 (eCall 2 m__law_plus (aC (eV 2) (aC (eV 5) aN)))))) (sPass)))) (sRet (eV 2)))
def m__law_ways : List D → M D := mDef 8 c__law_ways

/-- law -/
def c_law_k01 : SM := sSeq (sSet 1 (eCall 1 m__law_tape (aC (eV 0) aN))) (sSeq (sSet 2 (eMake "Trials" 2 m_Trials___init___v3 (aC (eTup (aC (eTup (aC (eC (.int 1)) (aC (eC (.int 2)) aN))) (aC (eTup (aC (eC (.int 1)) (aC (eC (.int 3)) aN))) (aC (eTup (aC (eC (.int 1)) (aC (eC (.int 6)) aN))) aN)))) aN))) (sSeq (sIf (tst (e2 neD (frz (nLc (iSeq (eTup (aC (eTup aN) (aC (eTup (aC (eC (.int 0)) aN)) (aC (eTup (aC (eC (.int 0)) (aC (eC (.int 1)) (aC (eC (.int 2)) aN)))) (aC (eTup (aC (eC (.int 2)) aN)) aN)))))) (.nm 8) [8] (tYes') (eCall 2 m_win (aC (eV 2) (aC (eV 8) aN))))) (frz (nLst (aC (eTup (aC (eC (.int 0)) (aC (eC (.int 1)) aN))) (aC (eTup (aC (eC (.int 5)) (aC (eC (.int 18)) aN))) (aC (eTup (aC (eC (.int 17)) (aC (eC (.int 36)) aN))) (aC (eTup (aC (eC (.int 1)) (aC (eC (.int 6)) aN))) aN)))))))) (sRet (eC (.bl false))) (sPass)) (sSeq (sIf (orT (notT (tru (eCall 1 m__law_is_refused (aC (eTup aN) aN)))) (orT (notT (tru (eCall 1 m__law_is_refused (aC (eTup (aC (eTup (aC (eC (.int 1)) (aC (eC (.int 2)) aN))) (aC (eTup (aC (eC (.int 2)) (aC (eC (.int 4)) aN))) aN))) aN)))) (tru (eCall 1 m__law_is_refused (aC (eTup (aC (eTup (aC (eC (.int 0)) (aC (eC (.int 1)) aN))) (aC (eTup (aC (eC (.int 1)) (aC (eC (.int 1)) aN))) aN))) aN))))) (sRet (eC (.bl false))) (sPass)) (sSeq (sFor (iR1 (aC (eC (.int 3)) aN)) (.nm 3) (sSeq (sSet 4 (eCall 2 m__law_chances (aC (eV 1) (aC (ifV (tst (e2 eqD (eCall 2 m__law_draw (aC (eV 1) (aC (eC (.int 3)) aN))) (eC (.int 0)))) (eC (.int 12)) (eC (.int 6))) aN)))) (sSeq (sPat (.tp [.nm 5, .nm 6]) (eTup (aC (eMake "Trials" 2 m_Trials___init___v3 (aC (eV 4) aN)) (aC (eBf lenD (aC (eV 4) aN)) aN)))) (sSeq (sIf (notT (tru (eCall 3 m__law_equal_right (aC (eV 1) (aC (eV 4) (aC (eV 5) aN)))))) (sRet (eC (.bl false))) (sPass)) (sSeq (sSet 7 (ifV (tst (e2 ltD (eV 6) (eC (.int 6)))) (eCall 1 m__law_lots (aC (eV 6) aN)) (frz (nLst aN)))) (sSeq (sFor (iSeq (e2 addD (eV 7) (frz (nLc (iR1 (aC (eC (.int 5)) aN)) (.nm 11) [11] (tYes') (eBf tupD (aC (frz (nLc (iR1 (aC (eV 6) aN)) (.nm 12) [12] (tst (e2 eqD (eCall 2 m__law_draw (aC (eV 1) (aC (eC (.int 2)) aN))) (eC (.int 0)))) (eV 12))) aN)))))) (.nm 8) (sIf (tst (e2 neD (eBf reprD (aC (eCall 2 m_win (aC (eV 5) (aC (eV 8) aN))) aN)) (eBf reprD (aC (eCall 2 m__law_win (aC (eV 4) (aC (eV 8) aN))) aN)))) (sRet (eC (.bl false))) (sPass))) (sSeq (sSet 8 (eBf tupD (aC (frz (nLc (iR1 (aC (eV 6) aN)) (.nm 12) [12] (tst (e2 eqD (eCall 2 m__law_draw (aC (eV 1) (aC (eC (.int 2)) aN))) (eC (.int 0)))) (eV 12))) aN))) (sSeq (sIf (andT (tst (e2 ltD (eV 6) (eC (.int 7)))) (tst (e2 neD (eCall 2 m_win (aC (eV 5) (aC (eV 8) aN))) (eCall 2 m__law_ways (aC (eV 4) (aC (eV 8) aN)))))) (sRet (eC (.bl false))) (sPass)) (sFor (iR1 (aC (eC (.int 7)) aN)) (.nm 9) (sSeq (sSet 10 (eCall 3 m__law_bent_v3 (aC (eV 1) (aC (eV 4) (aC (eV 5) aN))))) (sIf (tst (e2 eqD (eCall 1 m__law_is_refused (aC (eV 10) aN)) (eCall 1 m__law_are_chances_v2 (aC (eV 10) aN)))) (sRet (eC (.bl false))) (sPass)))))))))))) (sRet (eC (.bl true)))))))
def m_law_k01 : List D → M D := mDef 13 c_law_k01

end Sh

/-! Plain laws, 1: what a computation gives; the greatest common divisor; fractions in lowest terms. -/
namespace Pl
open Dl Sh
local instance : Dl.Tb := ⟨fun _ => []⟩

theorem nr {α : Sort _} {a b : α} (h : a = b) : a = b := h
def Wp {α : Type} (r : R α) (Q : α → Hs → Prop) : Prop := match r with
  | .ok a h => Q a h
  | _ => False
def WpS (r : SR) (N : Env → Hs → Prop) (T : D → Hs → Prop) : Prop := match r with
  | .nx ρ h => N ρ h
  | .ret d h => T d h
  | _ => False
section
variable {α β : Type}
theorem wp_ok {a : α} {h : Hs} {Q : α → Hs → Prop} : Wp (.ok a h) Q = Q a h := nr rfl
theorem wp_bad {Q : α → Hs → Prop} : Wp (.bad) Q = False := nr rfl
theorem wp_bind {r : R α} {f : α → M β} {Q : β → Hs → Prop} : Wp (r.bind f) Q = Wp r fun a h => Wp (f a h) Q := by cases r <;> rfl
theorem wp_mono {r : R α} {Q Q' : α → Hs → Prop} (p : Wp r Q) (k : ∀ a h, Q a h → Q' a h) : Wp r Q' := by
  cases r with
  | ok a h => exact k _ _ p
  | exc C fs h => exact p
  | bad => exact p
theorem wp_ex {r : R α} {Q : α → Hs → Prop} (p : Wp r Q) : ∃ a h, r = .ok a h ∧ Q a h := by
  cases r with
  | ok a h => exact ⟨a, h, rfl, p⟩
  | exc C fs h => exact p.elim
  | bad => exact p.elim
theorem wp_nox {r : R α} {Q : α → Hs → Prop} : Wp r.nox Q = Wp r Q := by cases r <;> rfl
theorem wps_then {r : R α} {ρ : Env} {f : α → Hs → SR} {N : Env → Hs → Prop} {T : D → Hs → Prop} : WpS (r.then ρ f) N T = Wp r fun a h => WpS (f a h) N T := by cases r <;> rfl
theorem wps_seq {a b : SM} {ρ : Env} {h : Hs} {N : Env → Hs → Prop} {T : D → Hs → Prop} : WpS (sSeq a b ρ h) N T = WpS (a ρ h) (fun ρ1 h1 => WpS (b ρ1 h1) N T) T := by
  unfold sSeq
  cases a ρ h <;> rfl
theorem wps_nx {ρ : Env} {h : Hs} {N : Env → Hs → Prop} {T : D → Hs → Prop} : WpS (.nx ρ h) N T = N ρ h := nr rfl
theorem wps_ret {d : D} {h : Hs} {N : Env → Hs → Prop} {T : D → Hs → Prop} : WpS (.ret d h) N T = T d h := nr rfl
theorem wps_mono {r : SR} {N N' : Env → Hs → Prop} {T T' : D → Hs → Prop} (p : WpS r N T) (k : ∀ ρ h, N ρ h → N' ρ h) (t : ∀ d h, T d h → T' d h) : WpS r N' T' := by
  cases r with
  | nx ρ h => exact k _ _ p
  | ret d h => exact t _ _ p
  | _ => exact p
theorem wp_def {n : Nat} {c : SM} {ds : List D} {h : Hs} {Q : D → Hs → Prop} : Wp (mDef n c ds h) Q = WpS (c (ent n ds) h) (fun _ h => Q .non h) Q := by
  unfold mDef
  cases c (ent n ds) h <;> rfl
theorem mdef_ret {n : Nat} {c : SM} {ds : List D} {h h' : Hs} {d : D} (e : c (ent n ds) h = .ret d h') : mDef n c ds h = .ok d h' := by
  unfold mDef
  rw [e]
  rfl
theorem seq_nx {a b : SM} {ρ ρ1 : Env} {h h1 : Hs} (e : a ρ h = .nx ρ1 h1) : sSeq a b ρ h = b ρ1 h1 := by
  unfold sSeq
  rw [e]
end
/-QBEGIN-/
theorem q_e2 {f : D → D → M D} {ca cb : Env → M D} {ρ : Env} {h : Hs} : e2 f ca cb ρ h = (ca ρ h).bind fun x h1 => (cb ρ h1).bind fun y h2 => f x y h2 := nr rfl
theorem q_e1 {f : D → M D} {ca : Env → M D} {ρ : Env} {h : Hs} : e1 f ca ρ h = (ca ρ h).bind fun x h1 => f x h1 := nr rfl
theorem q_eC {d : D} {ρ : Env} {h : Hs} : eC d ρ h = .ok d h := nr rfl
theorem q_aC {ca : Env → M D} {cs : Env → M (List D)} {ρ : Env} {h : Hs} : aC ca cs ρ h = (ca ρ h).bind fun x h1 => (cs ρ h1).bind fun xs h2 => .ok (x :: xs) h2 := nr rfl
theorem q_aN {ρ : Env} {h : Hs} : aN  ρ h = .ok [] h := nr rfl
theorem q_sPar2 {i j : Nat} {cs : Env → M (List D)} {ρ : Env} {h : Hs} : sPar2 i j cs ρ h = (cs ρ h).then ρ fun xs h1 => match xs with
    | [x, y] => .nx ((ρ.set i (some x)).set j (some y)) h1
    | _ => .bad := nr rfl
theorem q_sPar3 {i j l : Nat} {cs : Env → M (List D)} {ρ : Env} {h : Hs} : sPar3 i j l cs ρ h = (cs ρ h).then ρ fun xs h1 => match xs with
    | [x, y, z] => .nx (((ρ.set i (some x)).set j (some y)).set l (some z)) h1
    | _ => .bad := nr rfl
theorem q_sSet {i : Nat} {ce : Env → M D} {ρ : Env} {h : Hs} : sSet i ce ρ h = (ce ρ h).then ρ fun d h1 => .nx (ρ.set i (some d)) h1 := nr rfl
theorem q_sRet {ce : Env → M D} {ρ : Env} {h : Hs} : sRet ce ρ h = (ce ρ h).then ρ fun d h1 => .ret d h1 := nr rfl
theorem q_eBf {f : List D → M D} {cs : Env → M (List D)} {ρ : Env} {h : Hs} : eBf f cs ρ h = (cs ρ h).bind f := nr rfl
theorem q_nBf {f : List D → M (List D)} {cs : Env → M (List D)} {ρ : Env} {h : Hs} : nBf f cs ρ h = (cs ρ h).bind f := nr rfl
theorem q_eCall {n : Nat} {m : List D → M D} {cs : Env → M (List D)} {ρ : Env} {h : Hs} : eCall n m cs ρ h = (cs ρ h).bind fun xs h1 => if decide (xs.length = n) then m xs h1 else .bad := nr rfl
theorem q_tst {ca : Env → M D} {ρ : Env} {h : Hs} : tst ca ρ h = (ca ρ h).bind fun x h1 => match x with
    | .bl b => .ok b h1
    | _ => .bad := nr rfl
theorem q_tru {ca : Env → M D} {ρ : Env} {h : Hs} : tru ca ρ h = (ca ρ h).bind fun x h1 => match truD h1 x with
    | some b => .ok b h1
    | none => .bad := nr rfl
theorem q_ifV {ct : Env → M Bool} {ca cb : Env → M D} {ρ : Env} {h : Hs} : ifV ct ca cb ρ h = (ct ρ h).bind fun x h1 => if x = true then ca ρ h1 else cb ρ h1 := nr rfl
theorem q_sIf {ct : Env → M Bool} {c1 c2 : SM} {ρ : Env} {h : Hs} : sIf ct c1 c2 ρ h = (ct ρ h).then ρ fun b h1 => if b = true then c1 ρ h1 else c2 ρ h1 := nr rfl
theorem q_eTup {cs : Env → M (List D)} {ρ : Env} {h : Hs} : eTup cs ρ h = (cs ρ h).bind fun xs h1 => if okLen xs.length then .ok (.tup xs) h1 else .bad := nr rfl
theorem q_sPass {ρ : Env} {h : Hs} : sPass  ρ h = .nx ρ h := nr rfl
theorem q_sExp {ce : Env → M D} {ρ : Env} {h : Hs} : sExp ce ρ h = (ce ρ h).then ρ fun _ h1 => .nx ρ h1 := nr rfl
theorem q_eLm {f : D → List D → M D} {ca : Env → M D} {cs : Env → M (List D)} {ρ : Env} {h : Hs} : eLm f ca cs ρ h = (ca ρ h).bind fun x h1 => match lstAt h1 x with
    | some _ => (cs ρ h1).bind fun xs h2 => f x xs h2
    | none => .bad := nr rfl
theorem q_nLst {cs : Env → M (List D)} {ρ : Env} {h : Hs} : nLst cs ρ h = (cs ρ h).bind fun xs h1 => if okLen xs.length then .ok xs h1 else .bad := nr rfl
theorem q_frz {cs : Env → M (List D)} {ρ : Env} {h : Hs} : frz cs ρ h = (cs ρ h).bind fun xs h1 => .ok (.lst xs) h1 := nr rfl
theorem q_thaw {cs : Env → M (List D)} {ρ : Env} {h : Hs} : thaw cs ρ h = (cs ρ h).bind fun xs h1 => .ok (.obj h1.length) (h1 ++ [.lst xs]) := nr rfl
theorem q_iSeq {ce : Env → M D} {ρ : Env} {h : Hs} : iSeq ce ρ h = (ce ρ h).bind fun x h1 => match itOf h1 x with
    | some it => if okG it.gs h1 then .ok it h1 else .bad
    | none => .bad := nr rfl
theorem q_iR1 {cs : Env → M (List D)} {ρ : Env} {h : Hs} : iR1 cs ρ h = (cs ρ h).bind fun ds h1 => match ds with
    | [.int j] => if okI j then .ok ⟨rng 0 1 j.toNat, []⟩ h1 else .bad
    | _ => .bad := nr rfl
theorem q_iR2 {cs : Env → M (List D)} {ρ : Env} {h : Hs} : iR2 cs ρ h = (cs ρ h).bind fun ds h1 => match ds with
    | [.int i, .int j] => if okI i && okI j then .ok ⟨rng i 1 (j - i).toNat, []⟩ h1 else .bad
    | _ => .bad := nr rfl
theorem q_iR3 {cs : Env → M (List D)} {ρ : Env} {h : Hs} : iR3 cs ρ h = (cs ρ h).bind fun ds h1 => match ds with
    | [.int i, .int j, .int k] => if okI i && okI j && decide (k = -1) then .ok ⟨rng i (-1) (i - j).toNat, []⟩ h1 else .bad
    | _ => .bad := nr rfl
theorem q_iEnumD {cs : Env → M (List D)} {ρ : Env} {h : Hs} : iEnumD cs ρ h = (cs ρ h).bind fun ds h1 => match ds with
    | [x] => (match itOf h1 x with
      | some it => if okG it.gs h1 then .ok ⟨enumD 0 it.items, it.gs⟩ h1 else .bad
      | none => .bad)
    | _ => .bad := nr rfl
theorem q_iZip {cs : Env → M (List D)} {ρ : Env} {h : Hs} : iZip cs ρ h = (cs ρ h).bind fun ds h1 => match ds with
    | [x, y] => if isT x == isT y then (match itOf h1 x, itOf h1 y with
      | some it, some jt => if okG it.gs h1 && okG jt.gs h1 then .ok ⟨zipD it.items jt.items, it.gs ++ jt.gs⟩ h1 else .bad
      | _, _ => .bad) else .bad
    | _ => .bad := nr rfl
theorem q_andX {ca cb : Env → M D} {ρ : Env} {h : Hs} : andX ca cb ρ h = (ca ρ h).bind fun x h1 => match truD h1 x with
    | some true => cb ρ h1
    | some false => .ok x h1
    | none => .bad := nr rfl
theorem q_orX {ca cb : Env → M D} {ρ : Env} {h : Hs} : orX ca cb ρ h = (ca ρ h).bind fun x h1 => match truD h1 x with
    | some true => .ok x h1
    | some false => cb ρ h1
    | none => .bad := nr rfl
theorem q_andT {ca cb : Env → M Bool} {ρ : Env} {h : Hs} : andT ca cb ρ h = (ca ρ h).bind fun x h1 => if x = true then cb ρ h1 else .ok false h1 := nr rfl
theorem q_orT {ca cb : Env → M Bool} {ρ : Env} {h : Hs} : orT ca cb ρ h = (ca ρ h).bind fun x h1 => if x = true then .ok true h1 else cb ρ h1 := nr rfl
theorem q_notT {ca : Env → M Bool} {ρ : Env} {h : Hs} : notT ca ρ h = (ca ρ h).bind fun x h1 => .ok (!x) h1 := nr rfl
theorem q_eCh {f g : D → D → M D} {ca cb cc : Env → M D} {ρ : Env} {h : Hs} : eCh f g ca cb cc ρ h = (ca ρ h).bind fun x h1 => (cb ρ h1).bind fun y h2 => (f x y h2).bind fun z h3 => match z with
    | .bl true => (cc ρ h3).bind fun w h4 => g y w h4
    | .bl false => .ok (.bl false) h3
    | _ => .bad := nr rfl
theorem q_eFld {C f : PySem.Str} {ca : Env → M D} {ρ : Env} {h : Hs} : eFld C f ca ρ h = (ca ρ h).bind fun x h1 => match (fieldsAt C h1 x).bind (·.lookup f) with
    | some d => .ok d h1
    | none => .bad := nr rfl
theorem q_eMake {C : PySem.Str} {n : Nat} {mf : List D → M D} {cs : Env → M (List D)} {ρ : Env} {h : Hs} : eMake C n mf cs ρ h = (cs ρ h).bind fun xs h1 => if decide (xs.length + 1 = n) then
    (mf (.obj h1.length :: xs) (h1 ++ [.ins C []])).bind fun r h2 => match r with
    | .non => .ok (.obj h1.length) h2
    | _ => .bad
    else .bad := nr rfl
theorem q_eMeth {C m : PySem.Str} {n : Nat} {mf : List D → M D} {ca : Env → M D} {cs : Env → M (List D)} {ρ : Env} {h : Hs} : eMeth C m n mf ca cs ρ h = (ca ρ h).bind fun x h1 => match (fieldsAt C h1 x).map (·.lookup m) with
    | some none => (cs ρ h1).bind fun xs h2 => if decide (xs.length + 1 = n) then mf (x :: xs) h2 else .bad
    | _ => .bad := nr rfl
theorem q_sFldD {C f : PySem.Str} {ce co : Env → M D} {ρ : Env} {h : Hs} : sFldD C f ce co ρ h = (ce ρ h).then ρ fun v h1 => (co ρ h1).then ρ fun o h2 => match o, fieldsAt C h2 o with
    | .obj n, some fs => if decide (fs.length < 1000) then .nx ρ (h2.set n (.ins C (putFD f v fs))) else .bad
    | _, _ => .bad := nr rfl
theorem q_sPat {p : Pat} {ce : Env → M D} {ρ : Env} {h : Hs} : sPat p ce ρ h = (ce ρ h).then ρ fun x h1 => match patD p x ρ with
    | some ρ1 => .nx ρ1 h1
    | none => .bad := nr rfl
theorem q_eSl {ca : Env → M D} {cl cu : Env → M (Option Int)} {ρ : Env} {h : Hs} : eSl ca cl cu ρ h = (ca ρ h).bind fun x h1 => (cl ρ h1).bind fun lo h2 => (cu ρ h2).bind fun hi h3 => sliceD x lo hi h3 := nr rfl
theorem q_nSl {ca : Env → M D} {cl cu : Env → M (Option Int)} {ρ : Env} {h : Hs} : nSl ca cl cu ρ h = (ca ρ h).bind fun x h1 => (cl ρ h1).bind fun lo h2 => (cu ρ h2).bind fun hi h3 => sliceN x lo hi h3 := nr rfl
theorem q_pS {ca : Env → M D} {ρ : Env} {h : Hs} : pS ca ρ h = (ca ρ h).bind fun x h1 => match x with
    | .int i => .ok (some i) h1
    | _ => .bad := nr rfl
theorem q_pN {ρ : Env} {h : Hs} : pN  ρ h = .ok none h := nr rfl
theorem q_sRetN {ρ : Env} {h : Hs} : sRetN  ρ h = .ret .non h := nr rfl
theorem q_tYes {ρ : Env} {h : Hs} : tYes'  ρ h = .ok true h := nr rfl
theorem q_eDct0 {ρ : Env} {h : Hs} : eDct0  ρ h = .ok (.obj h.length) (h ++ [.dI []]) := nr rfl
/-QEND-/
/-! ### sizes -/
theorem bits_le {i : Int} {n : Nat} (h : i.natAbs < 2 ^ n) : PySem.Builtin.Int.intBits i ≤ n := by
  unfold PySem.Builtin.Int.intBits
  split
  · exact Nat.zero_le _
  · rename_i z
    have z1 : i.natAbs ≠ 0 := fun e => z (by simp; omega)
    exact (Nat.log2_lt z1).mpr h
theorem okMul_of {i j : Int} {a b : Nat} (hi : i.natAbs < 2 ^ a) (hj : j.natAbs < 2 ^ b) (h : a + b ≤ 134217728) : okMul i j = true := by
  have h1 := bits_le hi
  have h2 := bits_le hj
  exact decide_eq_true (by omega)
theorem okDiv_of {i j : Int} (hj : 0 < j) (hs : j.natAbs < 2 ^ 9000) : okDiv i j = true := by
  refine decide_eq_true ⟨hj, .inl ?_⟩
  exact (Nat.log2_lt (by omega)).mpr hs
/-! ### the greatest common divisor -/
theorem gcd_step (a b : Int) : Int.gcd b (a % b) = Int.gcd a b := by
  have e := Int.gcd_add_mul_left_right b (a % b) (a / b)
  rw [Int.emod_add_mul_ediv] at e
  rw [← e, Int.gcd_comm]
theorem gcd_while {ct : Env → M Bool} {body : SM} {mk : Int → Int → Env} (hct : ∀ a b h, ct (mk a b) h = .ok (decide (0 < b)) h) (hb : ∀ a b h, 0 ≤ a → 0 < b → body (mk a b) h = .nx (mk b (a % b)) h) (h : Hs) :
    ∀ (n : Nat) (a b : Int), 0 ≤ a → 0 ≤ b → b < n → whileF ct body n (mk a b) h = .nx (mk (Int.gcd a b) 0) h
  | 0, a, b, _, hb0, hn => by omega
  | n + 1, a, b, ha, hb0, hn => by
    show (ct (mk a b) h).then (mk a b) _ = _
    rw [hct]
    show (if decide (0 < b) = true then _ else _) = _
    by_cases z : 0 < b
    · rw [if_pos (decide_eq_true z)]
      simp only [hb a b h ha z]
      have m0 := Int.emod_nonneg a (show b ≠ 0 by omega)
      have m1 := Int.emod_lt_of_pos a z
      rw [gcd_while hct hb h n b (a % b) hb0 m0 (by omega), gcd_step]
    · rw [if_neg (by simpa using z)]
      have e : b = 0 := by omega
      subst e
      rw [Int.gcd_zero_right, Int.natAbs_of_nonneg ha]
theorem modD_ii {a b : Int} (hb : 0 < b) (h : Hs) : modD (.int a) (.int b) h = .ok (.int (a % b)) h := if_pos (decide_eq_true hb)
theorem divD_ii {a b : Int} (hb : okDiv a b = true) (h : Hs) : divD (.int a) (.int b) h = .ok (.int (a / b)) h := if_pos hb
theorem mulD_ii {a b : Int} (hb : okMul a b = true) (h : Hs) : mulD (.int a) (.int b) h = .ok (.int (a * b)) h := if_pos hb
theorem addD_ii {a b : Int} (h : Hs) : addD (.int a) (.int b) h = .ok (.int (a + b)) h := nr rfl
theorem subD_ii {a b : Int} (h : Hs) : subD (.int a) (.int b) h = .ok (.int (a - b)) h := nr rfl
theorem negD_i {a : Int} (h : Hs) : negD (.int a) h = .ok (.int (-a)) h := nr rfl
theorem absD_i {a : Int} (h : Hs) : absD [.int a] h = .ok (.int a.natAbs) h := by
  show Dl.R.ok (D.int (if a < 0 then -a else a)) h = _
  congr 2
  split <;> omega
theorem bind_ok' {α β : Type} (a : α) (h : Hs) (f : α → M β) : (Dl.R.ok a h).bind f = f a h := nr rfl
theorem then_ok {α : Type} (a : α) (h : Hs) (ρ : Env) (f : α → Hs → SR) : (Dl.R.ok a h).then ρ f = f a h := nr rfl
theorem eV0 {d : D} {ρ : Env} {h : Hs} : eV 0 (some d :: ρ) h = .ok d h := nr rfl
theorem eVs {n : Nat} {x : Option D} {ρ : Env} {h : Hs} : eV (n + 1) (x :: ρ) h = eV n ρ h := nr rfl
theorem zero_add' {n : Nat} : 0 + n = n := Nat.zero_add n
theorem okL0 : okLen 0 = true := nr rfl
theorem okL1 : okLen 1 = true := nr rfl
theorem okL2 : okLen 2 = true := nr rfl
theorem okL3 : okLen 3 = true := nr rfl
theorem okL4 : okLen 4 = true := nr rfl
theorem okL5 : okLen 5 = true := nr rfl
theorem okL6 : okLen 6 = true := nr rfl
theorem item_at {xs : List D} {i : Nat} {d : D} {h : Hs} (e : xs[i]? = some d) : itemD (.tup xs) (.int i) h = .ok d h := by
  have hl := (List.getElem?_eq_some_iff.mp e).1
  have z : L2.atI xs i = some d := by
    unfold L2.atI L2.ixN
    rw [if_pos (by omega), if_pos (by omega)]
    exact e
  show (match L2.atI xs i with
      | some d => Dl.R.ok d h
      | none => .bad) = _
  rw [z]
theorem item0 {a : D} {xs : List D} {h : Hs} : itemD (.tup (a :: xs)) (.int 0) h = .ok a h := item_at (i := 0) rfl
theorem item1 {a b : D} {xs : List D} {h : Hs} : itemD (.tup (a :: b :: xs)) (.int 1) h = .ok b h := item_at (i := 1) rfl
theorem ltD_ii {a b : Int} {h : Hs} : ltD (.int a) (.int b) h = .ok (.bl (decide (a < b))) h := nr rfl
theorem leD_ii {a b : Int} {h : Hs} : leD (.int a) (.int b) h = .ok (.bl (decide (a ≤ b))) h := nr rfl
theorem gtD_ii {a b : Int} {h : Hs} : gtD (.int a) (.int b) h = .ok (.bl (decide (b < a))) h := nr rfl
theorem geD_ii {a b : Int} {h : Hs} : geD (.int a) (.int b) h = .ok (.bl (decide (b ≤ a))) h := nr rfl
theorem truD_bl {b : Bool} {h : Hs} : truD h (.bl b) = some b := nr rfl
theorem wp_ite {α : Type} {c : Prop} [Decidable c] {a b : R α} {Q : α → Hs → Prop} : Wp (if c then a else b) Q = if c then Wp a Q else Wp b Q := by split <;> rfl
theorem wps_ite {c : Prop} [Decidable c] {a b : SR} {N : Env → Hs → Prop} {T : D → Hs → Prop} : WpS (if c then a else b) N T = if c then WpS a N T else WpS b N T := by split <;> rfl
theorem common_eq (a b : Int) (h : Hs) : m_common [.int a, .int b] h = .ok (.int (Int.gcd a b)) h := by
  refine mdef_ret (h' := h) ?_
  have w := gcd_while (ct := tst (e2 gtD (eV 1) (eC (.int 0)))) (body := sPar2 0 1 (aC (eV 1) (aC (e2 modD (eV 0) (eV 1)) aN))) (mk := fun a b => [some (.int a), some (.int b)]) (fun a b h => rfl) (fun a b h _ hb => ?_) h
    (b.natAbs + 2) a.natAbs b.natAbs (by omega) (by omega) (by omega)
  · unfold c_common
    rw [seq_nx (ρ1 := [some (.int a.natAbs), some (.int b.natAbs)]) (h1 := h), seq_nx (ρ1 := [some (.int (Int.gcd a.natAbs b.natAbs)), some (.int 0)]) (h1 := h)]
    · show SR.ret (.int (Int.gcd (a.natAbs : Int) b.natAbs)) h = _
      simp [Int.gcd]
    · exact w
    · simp only [eV0, eVs, bind_ok', then_ok, q_e2, q_e1, q_eC, q_aC, q_aN, q_sPar2, q_sPar3, q_sSet, q_sRet, q_eBf, q_nBf, q_eCall, q_tst, q_tru, q_ifV, q_sIf, q_eTup, q_sPass, q_sExp, q_eLm, q_nLst, q_frz, q_thaw, q_iSeq, q_iR2, q_iR3, q_iEnumD, q_iZip, q_andX, q_andT, q_orT, q_notT, q_eCh, q_sPat, q_eSl, q_nSl, q_pS, q_pN, q_sRetN, q_tYes, q_eDct0, okL0, okL1, okL2, okL3, okL4, okL5, okL6, ent, List.map_cons, List.map_nil, List.length_cons, List.length_nil, List.set_cons_zero, List.set_cons_succ, List.replicate, List.cons_append, List.nil_append, Nat.reduceAdd, Nat.reduceSub, Nat.sub_self, Nat.sub_zero, zero_add', ↓reduceIte, Bool.false_eq_true, item0, item1, addD_ii, subD_ii, negD_i, absD_i, ltD_ii, leD_ii, gtD_ii, geD_ii, truD_bl, decide_true, decide_false]
  · simp only [eV0, eVs, bind_ok', then_ok, q_e2, q_e1, q_eC, q_aC, q_aN, q_sPar2, q_sPar3, q_sSet, q_sRet, q_eBf, q_nBf, q_eCall, q_tst, q_tru, q_ifV, q_sIf, q_eTup, q_sPass, q_sExp, q_eLm, q_nLst, q_frz, q_thaw, q_iSeq, q_iR2, q_iR3, q_iEnumD, q_iZip, q_andX, q_andT, q_orT, q_notT, q_eCh, q_sPat, q_eSl, q_nSl, q_pS, q_pN, q_sRetN, q_tYes, q_eDct0, okL0, okL1, okL2, okL3, okL4, okL5, okL6, ent, List.map_cons, List.map_nil, List.length_cons, List.length_nil, List.set_cons_zero, List.set_cons_succ, List.replicate, List.cons_append, List.nil_append, Nat.reduceAdd, Nat.reduceSub, Nat.sub_self, Nat.sub_zero, zero_add', ↓reduceIte, Bool.false_eq_true, item0, item1, addD_ii, subD_ii, negD_i, absD_i, ltD_ii, leD_ii, gtD_ii, geD_ii, truD_bl, decide_true, decide_false, modD_ii hb]
/-! ### fractions -/
def fr (q : Rat) : D := .tup [.int q.num, .int q.den]
def Sz (n : Nat) (q : Rat) : Prop := q.num.natAbs < 2 ^ n ∧ q.den < 2 ^ n
theorem Sz.mono {m n : Nat} {q : Rat} (h : Sz m q) (l : m ≤ n) : Sz n q := ⟨Nat.lt_of_lt_of_le h.1 (Nat.pow_le_pow_right (by decide) l), Nat.lt_of_lt_of_le h.2 (Nat.pow_le_pow_right (by decide) l)⟩
theorem lowest_eq (n d : Int) (h : Hs) (hd : d ≠ 0) (hs : d.natAbs < 2 ^ 9000) : m_lowest [.int n, .int d] h = .ok (fr (Rat.divInt n d)) h := by
  have gpos : ∀ a b : Int, 0 < b → (0 : Int) < (Int.gcd a b : Int) := fun a b hb => by
    have := Int.gcd_pos_of_ne_zero_right a (show b ≠ 0 by omega)
    omega
  have gle : ∀ a b : Int, 0 < b → (Int.gcd a b) ≤ b.natAbs := fun a b hb => Nat.le_of_dvd (by omega) (Int.gcd_dvd_natAbs_right a b)
  have fin : ∀ a b : Int, 0 < b → b.natAbs < 2 ^ 9000 → okDiv a (Int.gcd a b : Int) = true ∧ okDiv b (Int.gcd a b : Int) = true ∧ (Rat.divInt a b).num = a / (Int.gcd a b : Int) ∧ ((Rat.divInt a b).den : Int) = b / (Int.gcd a b : Int) := fun a b hb hs => by
    have g1 := gpos a b hb
    have g2 := gle a b hb
    have g3 : ((Int.gcd a b : Int)).natAbs < 2 ^ 9000 := by rw [Int.natAbs_natCast]; omega
    refine ⟨okDiv_of g1 g3, okDiv_of g1 g3, ?_, ?_⟩
    · rw [Rat.num_divInt, Int.sign_eq_one_of_pos hb, Int.one_mul, Int.gcd_comm]
    · rw [Rat.den_divInt, if_neg (by omega), Int.gcd_comm]
      have e : (b.natAbs : Int) = b := by omega
      rw [Int.natCast_ediv, e]
  refine mdef_ret (h' := h) ?_
  unfold c_lowest
  by_cases z : d < 0
  · obtain ⟨k1, k2, k3, k4⟩ := fin (-n) (-d) (by omega) (by omega)
    rw [seq_nx (ρ1 := [some (.int (-n)), some (.int (-d)), none]) (h1 := h), seq_nx (ρ1 := [some (.int (-n)), some (.int (-d)), some (.int (Int.gcd (-n) (-d)))]) (h1 := h)]
    · simp only [eV0, eVs, bind_ok', then_ok, q_e2, q_e1, q_eC, q_aC, q_aN, q_sPar2, q_sPar3, q_sSet, q_sRet, q_eBf, q_nBf, q_eCall, q_tst, q_tru, q_ifV, q_sIf, q_eTup, q_sPass, q_sExp, q_eLm, q_nLst, q_frz, q_thaw, q_iSeq, q_iR2, q_iR3, q_iEnumD, q_iZip, q_andX, q_andT, q_orT, q_notT, q_eCh, q_sPat, q_eSl, q_nSl, q_pS, q_pN, q_sRetN, q_tYes, q_eDct0, okL0, okL1, okL2, okL3, okL4, okL5, okL6, ent, List.map_cons, List.map_nil, List.length_cons, List.length_nil, List.set_cons_zero, List.set_cons_succ, List.replicate, List.cons_append, List.nil_append, Nat.reduceAdd, Nat.reduceSub, Nat.sub_self, Nat.sub_zero, zero_add', ↓reduceIte, Bool.false_eq_true, item0, item1, addD_ii, subD_ii, negD_i, absD_i, ltD_ii, leD_ii, gtD_ii, geD_ii, truD_bl, decide_true, decide_false, divD_ii k1, divD_ii k2]
      unfold fr
      rw [← Rat.neg_divInt_neg n d, k3, k4]
    · simp only [eV0, eVs, bind_ok', then_ok, q_e2, q_e1, q_eC, q_aC, q_aN, q_sPar2, q_sPar3, q_sSet, q_sRet, q_eBf, q_nBf, q_eCall, q_tst, q_tru, q_ifV, q_sIf, q_eTup, q_sPass, q_sExp, q_eLm, q_nLst, q_frz, q_thaw, q_iSeq, q_iR2, q_iR3, q_iEnumD, q_iZip, q_andX, q_andT, q_orT, q_notT, q_eCh, q_sPat, q_eSl, q_nSl, q_pS, q_pN, q_sRetN, q_tYes, q_eDct0, okL0, okL1, okL2, okL3, okL4, okL5, okL6, ent, List.map_cons, List.map_nil, List.length_cons, List.length_nil, List.set_cons_zero, List.set_cons_succ, List.replicate, List.cons_append, List.nil_append, Nat.reduceAdd, Nat.reduceSub, Nat.sub_self, Nat.sub_zero, zero_add', ↓reduceIte, Bool.false_eq_true, item0, item1, addD_ii, subD_ii, negD_i, absD_i, ltD_ii, leD_ii, gtD_ii, geD_ii, truD_bl, decide_true, decide_false, common_eq]
    · simp only [eV0, eVs, bind_ok', then_ok, q_e2, q_e1, q_eC, q_aC, q_aN, q_sPar2, q_sPar3, q_sSet, q_sRet, q_eBf, q_nBf, q_eCall, q_tst, q_tru, q_ifV, q_sIf, q_eTup, q_sPass, q_sExp, q_eLm, q_nLst, q_frz, q_thaw, q_iSeq, q_iR2, q_iR3, q_iEnumD, q_iZip, q_andX, q_andT, q_orT, q_notT, q_eCh, q_sPat, q_eSl, q_nSl, q_pS, q_pN, q_sRetN, q_tYes, q_eDct0, okL0, okL1, okL2, okL3, okL4, okL5, okL6, ent, List.map_cons, List.map_nil, List.length_cons, List.length_nil, List.set_cons_zero, List.set_cons_succ, List.replicate, List.cons_append, List.nil_append, Nat.reduceAdd, Nat.reduceSub, Nat.sub_self, Nat.sub_zero, zero_add', ↓reduceIte, Bool.false_eq_true, item0, item1, addD_ii, subD_ii, negD_i, absD_i, ltD_ii, leD_ii, gtD_ii, geD_ii, truD_bl, decide_true, decide_false, decide_eq_true z]
  · obtain ⟨k1, k2, k3, k4⟩ := fin n d (by omega) hs
    rw [seq_nx (ρ1 := [some (.int n), some (.int d), none]) (h1 := h), seq_nx (ρ1 := [some (.int n), some (.int d), some (.int (Int.gcd n d))]) (h1 := h)]
    · simp only [eV0, eVs, bind_ok', then_ok, q_e2, q_e1, q_eC, q_aC, q_aN, q_sPar2, q_sPar3, q_sSet, q_sRet, q_eBf, q_nBf, q_eCall, q_tst, q_tru, q_ifV, q_sIf, q_eTup, q_sPass, q_sExp, q_eLm, q_nLst, q_frz, q_thaw, q_iSeq, q_iR2, q_iR3, q_iEnumD, q_iZip, q_andX, q_andT, q_orT, q_notT, q_eCh, q_sPat, q_eSl, q_nSl, q_pS, q_pN, q_sRetN, q_tYes, q_eDct0, okL0, okL1, okL2, okL3, okL4, okL5, okL6, ent, List.map_cons, List.map_nil, List.length_cons, List.length_nil, List.set_cons_zero, List.set_cons_succ, List.replicate, List.cons_append, List.nil_append, Nat.reduceAdd, Nat.reduceSub, Nat.sub_self, Nat.sub_zero, zero_add', ↓reduceIte, Bool.false_eq_true, item0, item1, addD_ii, subD_ii, negD_i, absD_i, ltD_ii, leD_ii, gtD_ii, geD_ii, truD_bl, decide_true, decide_false, divD_ii k1, divD_ii k2]
      unfold fr
      rw [k3, k4]
    · simp only [eV0, eVs, bind_ok', then_ok, q_e2, q_e1, q_eC, q_aC, q_aN, q_sPar2, q_sPar3, q_sSet, q_sRet, q_eBf, q_nBf, q_eCall, q_tst, q_tru, q_ifV, q_sIf, q_eTup, q_sPass, q_sExp, q_eLm, q_nLst, q_frz, q_thaw, q_iSeq, q_iR2, q_iR3, q_iEnumD, q_iZip, q_andX, q_andT, q_orT, q_notT, q_eCh, q_sPat, q_eSl, q_nSl, q_pS, q_pN, q_sRetN, q_tYes, q_eDct0, okL0, okL1, okL2, okL3, okL4, okL5, okL6, ent, List.map_cons, List.map_nil, List.length_cons, List.length_nil, List.set_cons_zero, List.set_cons_succ, List.replicate, List.cons_append, List.nil_append, Nat.reduceAdd, Nat.reduceSub, Nat.sub_self, Nat.sub_zero, zero_add', ↓reduceIte, Bool.false_eq_true, item0, item1, addD_ii, subD_ii, negD_i, absD_i, ltD_ii, leD_ii, gtD_ii, geD_ii, truD_bl, decide_true, decide_false, common_eq]
    · simp only [eV0, eVs, bind_ok', then_ok, q_e2, q_e1, q_eC, q_aC, q_aN, q_sPar2, q_sPar3, q_sSet, q_sRet, q_eBf, q_nBf, q_eCall, q_tst, q_tru, q_ifV, q_sIf, q_eTup, q_sPass, q_sExp, q_eLm, q_nLst, q_frz, q_thaw, q_iSeq, q_iR2, q_iR3, q_iEnumD, q_iZip, q_andX, q_andT, q_orT, q_notT, q_eCh, q_sPat, q_eSl, q_nSl, q_pS, q_pN, q_sRetN, q_tYes, q_eDct0, okL0, okL1, okL2, okL3, okL4, okL5, okL6, ent, List.map_cons, List.map_nil, List.length_cons, List.length_nil, List.set_cons_zero, List.set_cons_succ, List.replicate, List.cons_append, List.nil_append, Nat.reduceAdd, Nat.reduceSub, Nat.sub_self, Nat.sub_zero, zero_add', ↓reduceIte, Bool.false_eq_true, item0, item1, addD_ii, subD_ii, negD_i, absD_i, ltD_ii, leD_ii, gtD_ii, geD_ii, truD_bl, decide_true, decide_false, decide_eq_false z]
end Pl

/-! Plain laws, 2: fractions. -/
namespace Pl
open Dl Sh
local instance : Dl.Tb := ⟨fun _ => []⟩

theorem sz_divInt {k : Nat} {n d : Int} (hn : n.natAbs < 2 ^ k) (hd : d.natAbs < 2 ^ k) (h0 : d ≠ 0) : Sz k (Rat.divInt n d) := by
  refine ⟨?_, ?_⟩
  · rw [Rat.num_divInt]
    have e : (d.sign * n / (Int.gcd d n : Int)).natAbs ≤ n.natAbs := by
      refine Nat.le_trans (Int.natAbs_ediv_le_natAbs _ _) ?_
      rw [Int.natAbs_mul]
      have : d.sign.natAbs ≤ 1 := by
        rcases Int.lt_trichotomy d 0 with z | z | z
        · rw [Int.sign_eq_neg_one_of_neg z]; decide
        · exact absurd z h0
        · rw [Int.sign_eq_one_of_pos z]; decide
      calc d.sign.natAbs * n.natAbs ≤ 1 * n.natAbs := Nat.mul_le_mul_right _ this
        _ = n.natAbs := Nat.one_mul _
    exact Nat.lt_of_le_of_lt e hn
  · rw [Rat.den_divInt, if_neg h0]
    exact Nat.lt_of_le_of_lt (Nat.div_le_self _ _) hd
theorem pow_mul_lt {a b x y : Nat} (hx : x < 2 ^ a) (hy : y < 2 ^ b) : x * y < 2 ^ (a + b) := by
  rw [Nat.pow_add]
  exact Nat.mul_lt_mul'' hx hy
theorem den_pos (q : Rat) : 0 < q.den := Nat.pos_of_ne_zero q.den_nz
theorem fr_num {q : Rat} {h : Hs} : itemD (fr q) (.int 0) h = .ok (.int q.num) h := item0
theorem fr_den {q : Rat} {h : Hs} : itemD (fr q) (.int 1) h = .ok (.int q.den) h := item1
section
variable {p q : Rat} {a b : Nat} (hp : Sz a p) (hq : Sz b q) (hab : a + b ≤ 8000)
include hp hq
theorem mul_nn : (p.num * q.num).natAbs < 2 ^ (a + b) := by rw [Int.natAbs_mul]; exact pow_mul_lt hp.1 hq.1
theorem mul_nd : (p.num * (q.den : Int)).natAbs < 2 ^ (a + b) := by rw [Int.natAbs_mul]; exact pow_mul_lt hp.1 hq.2
theorem mul_dn : (q.num * (p.den : Int)).natAbs < 2 ^ (a + b) := by rw [Int.natAbs_mul, Nat.mul_comm]; exact pow_mul_lt hp.2 hq.1
theorem mul_dd : ((p.den : Int) * (q.den : Int)).natAbs < 2 ^ (a + b) := by rw [Int.natAbs_mul]; exact pow_mul_lt hp.2 hq.2
omit hp hq in
theorem dd_ne : ((p.den : Int) * (q.den : Int)) ≠ 0 := by
  have h1 := den_pos p
  have h2 := den_pos q
  have := Nat.mul_pos h1 h2
  intro z
  have e : ((p.den * q.den : Nat) : Int) = 0 := by rw [Int.natCast_mul]; exact z
  omega
include hab
theorem ok_nd : okMul p.num (q.den : Int) = true := okMul_of hp.1 (show ((q.den : Int)).natAbs < 2 ^ b from hq.2) (by omega)
theorem ok_dn : okMul q.num (p.den : Int) = true := okMul_of hq.1 (show ((p.den : Int)).natAbs < 2 ^ a from hp.2) (by omega)
theorem ok_dd : okMul (p.den : Int) (q.den : Int) = true := okMul_of (show ((p.den : Int)).natAbs < 2 ^ a from hp.2) (show ((q.den : Int)).natAbs < 2 ^ b from hq.2) (by omega)
theorem lt9000 {x : Nat} (h : x < 2 ^ (a + b)) : x < 2 ^ 9000 := Nat.lt_of_lt_of_le h (Nat.pow_le_pow_right (by decide) (by omega))
theorem plus_eq (h : Hs) : m_plus [fr p, fr q] h = .ok (fr (p + q)) h := by
  refine mdef_ret (h' := h) ?_
  unfold c_plus
  simp only [eV0, eVs, bind_ok', then_ok, q_e2, q_e1, q_eC, q_aC, q_aN, q_sPar2, q_sPar3, q_sSet, q_sRet, q_eBf, q_nBf, q_eCall, q_tst, q_tru, q_ifV, q_sIf, q_eTup, q_sPass, q_sExp, q_eLm, q_nLst, q_frz, q_thaw, q_iSeq, q_iR2, q_iR3, q_iEnumD, q_iZip, q_andX, q_andT, q_orT, q_notT, q_eCh, q_sPat, q_eSl, q_nSl, q_pS, q_pN, q_sRetN, q_tYes, q_eDct0, okL0, okL1, okL2, okL3, okL4, okL5, okL6, ent, List.map_cons, List.map_nil, List.length_cons, List.length_nil, List.set_cons_zero, List.set_cons_succ, List.replicate, List.cons_append, List.nil_append, Nat.reduceAdd, Nat.reduceSub, Nat.sub_self, Nat.sub_zero, zero_add', ↓reduceIte, Bool.false_eq_true, item0, item1, addD_ii, subD_ii, negD_i, absD_i, ltD_ii, leD_ii, gtD_ii, geD_ii, truD_bl, decide_true, decide_false, fr_num, fr_den, mulD_ii (ok_nd hp hq hab), mulD_ii (ok_dn hp hq hab), mulD_ii (ok_dd hp hq hab), lowest_eq _ _ h (dd_ne (p := p) (q := q)) (lt9000 hp hq hab (mul_dd hp hq))]
  rw [Rat.add_def', ← Int.natCast_mul, Rat.divInt_ofNat]
theorem minus_eq (h : Hs) : m_minus [fr p, fr q] h = .ok (fr (p - q)) h := by
  refine mdef_ret (h' := h) ?_
  unfold c_minus
  simp only [eV0, eVs, bind_ok', then_ok, q_e2, q_e1, q_eC, q_aC, q_aN, q_sPar2, q_sPar3, q_sSet, q_sRet, q_eBf, q_nBf, q_eCall, q_tst, q_tru, q_ifV, q_sIf, q_eTup, q_sPass, q_sExp, q_eLm, q_nLst, q_frz, q_thaw, q_iSeq, q_iR2, q_iR3, q_iEnumD, q_iZip, q_andX, q_andT, q_orT, q_notT, q_eCh, q_sPat, q_eSl, q_nSl, q_pS, q_pN, q_sRetN, q_tYes, q_eDct0, okL0, okL1, okL2, okL3, okL4, okL5, okL6, ent, List.map_cons, List.map_nil, List.length_cons, List.length_nil, List.set_cons_zero, List.set_cons_succ, List.replicate, List.cons_append, List.nil_append, Nat.reduceAdd, Nat.reduceSub, Nat.sub_self, Nat.sub_zero, zero_add', ↓reduceIte, Bool.false_eq_true, item0, item1, addD_ii, subD_ii, negD_i, absD_i, ltD_ii, leD_ii, gtD_ii, geD_ii, truD_bl, decide_true, decide_false, fr_num, fr_den, mulD_ii (ok_nd hp hq hab), mulD_ii (ok_dn hp hq hab), mulD_ii (ok_dd hp hq hab), lowest_eq _ _ h (dd_ne (p := p) (q := q)) (lt9000 hp hq hab (mul_dd hp hq))]
  rw [Rat.sub_def', ← Int.natCast_mul, Rat.divInt_ofNat]
end
section
variable {p q : Rat} {a b : Nat} (hp : Sz a p) (hq : Sz b q)
include hp hq
theorem Sz.mul : Sz (a + b) (p * q) := by
  rw [Rat.mul_def', ← Rat.divInt_ofNat, Int.natCast_mul]
  exact sz_divInt (mul_nn hp hq) (mul_dd hp hq) dd_ne
theorem Sz.add : Sz (a + b + 1) (p + q) := by
  rw [Rat.add_def', ← Rat.divInt_ofNat, Int.natCast_mul]
  have h1 := mul_nd hp hq
  have h2 := mul_dn hp hq
  have h3 := mul_dd hp hq
  have e : 2 ^ (a + b + 1) = 2 * 2 ^ (a + b) := by rw [Nat.pow_succ, Nat.mul_comm]
  refine sz_divInt ?_ (by omega) dd_ne
  have := Int.natAbs_add_le (p.num * (q.den : Int)) (q.num * (p.den : Int))
  omega
theorem Sz.sub : Sz (a + b + 1) (p - q) := by
  rw [Rat.sub_def', ← Rat.divInt_ofNat, Int.natCast_mul]
  have h1 := mul_nd hp hq
  have h2 := mul_dn hp hq
  have h3 := mul_dd hp hq
  have e : 2 ^ (a + b + 1) = 2 * 2 ^ (a + b) := by rw [Nat.pow_succ, Nat.mul_comm]
  refine sz_divInt ?_ (by omega) dd_ne
  have := Int.natAbs_sub_le (p.num * (q.den : Int)) (q.num * (p.den : Int))
  omega
theorem Sz.div : Sz (a + b) (p / q) := by
  by_cases h0 : q = 0
  · subst h0
    rw [Rat.div_def, Rat.inv_zero, Rat.mul_zero]
    exact ⟨Nat.pow_pos (by decide), by
      have := hp.2
      have h1 := den_pos p
      have : 1 < 2 ^ a := by omega
      have h2 : 2 ^ a ≤ 2 ^ (a + b) := Nat.pow_le_pow_right (by decide) (by omega)
      show 1 < _
      omega⟩
  have n0 : q.num ≠ 0 := fun z => h0 (Rat.num_eq_zero.mp z)
  have e1 : p / q = Rat.divInt (p.num * q.den) (p.den * q.num) := by
    rw [Rat.div_def, Rat.inv_def]
    conv => lhs; rw [← Rat.num_divInt_den p]
    rw [Rat.divInt_mul_divInt]
  rw [e1]
  exact sz_divInt (mul_nd hp hq) (by rw [Int.natAbs_mul]; exact pow_mul_lt hp.2 hq.1) (Int.mul_ne_zero (by have := den_pos p; omega) n0)
end
theorem sz0 : Sz 1 0 := ⟨by decide, by decide⟩
theorem sz1 : Sz 1 1 := ⟨by decide, by decide⟩
theorem fr0 : fr 0 = .tup [.int 0, .int 1] := rfl
theorem fr1 : fr 1 = .tup [.int 1, .int 1] := rfl
end Pl

/-! Plain laws, 0: == and repr of data that stay. -/
namespace Pl
open Dl
local instance : Dl.Tb := ⟨fun _ => []⟩

instance : DecidableEq D := fun x y => if h : D.beq x y = true then .isTrue (D.beq_eq x y h) else .isFalse fun e => h (by rw [e]; exact D.beq_refl y)
mutual
def pyF : D → PySem.PyData
  | .int i => .int i
  | .str x => .str x
  | .tup xs => .tuple (pyFs xs)
  | .lst xs => .list (pyFs xs)
  | .bl b => .bool b
  | _ => .none
def pyFs : List D → List PySem.PyData
  | [] => []
  | x :: xs => pyF x :: pyFs xs
end
/-- data of None, ints, tuples, lists that stay; n its depth at most -/
inductive Fz : Nat → D → Prop
  | non {n : Nat} : Fz n .non
  | int {n : Nat} (i : Int) : Fz n (.int i)
  | tup {n : Nat} {xs : List D} : (∀ x ∈ xs, Fz n x) → Fz (n + 1) (.tup xs)
  | lst {n : Nat} {xs : List D} : (∀ x ∈ xs, Fz n x) → Fz (n + 1) (.lst xs)
theorem Fz.mono {n : Nat} {d : D} (h : Fz n d) : ∀ {m : Nat}, n ≤ m → Fz m d := by
  induction h with
  | non => exact fun _ => .non
  | int i => exact fun _ => .int i
  | tup _ ih => exact fun {m} l => match m, l with
    | m + 1, l => .tup fun x hx => ih x hx (by omega)
  | lst _ ih => exact fun {m} l => match m, l with
    | m + 1, l => .lst fun x hx => ih x hx (by omega)
theorem optAll_eq {f : D → Option PySem.PyData} : ∀ {xs : List D}, (∀ x ∈ xs, f x = some (pyF x)) → optAll f xs = some (pyFs xs)
  | [], _ => rfl
  | x :: xs, h => by
    unfold optAll
    rw [h x List.mem_cons_self, optAll_eq fun y hy => h y (List.mem_cons_of_mem _ hy)]
    simp only [pyFs]
theorem toPy_fz {h : Hs} {n : Nat} {d : D} (f : Fz n d) : toPy h n d = some (pyF d) := by
  induction f with
  | @non n => cases n <;> simp only [pyF] <;> rfl
  | @int n i => cases n <;> simp only [pyF] <;> rfl
  | @tup n xs _ ih =>
    show (optAll (toPy h n) xs).map PySem.PyData.tuple = _
    rw [optAll_eq ih]
    simp only [pyF]
    rfl
  | @lst n xs _ ih =>
    show (optAll (toPy h n) xs).map PySem.PyData.list = _
    rw [optAll_eq ih]
    simp only [pyF]
    rfl
theorem lays_fz : ∀ {xs : List D}, (∀ x ∈ xs, (pyF x).canLay0 = true) → PySem.PyData.canLayAll0 (pyFs xs) = true
  | [], _ => by simp only [pyFs, PySem.PyData.canLayAll0]
  | x :: xs, h => by
    simp only [pyFs, PySem.PyData.canLayAll0]
    rw [h x List.mem_cons_self, lays_fz fun y hy => h y (List.mem_cons_of_mem _ hy)]
    rfl
theorem depths_fz {n : Nat} : ∀ {xs : List D}, (∀ x ∈ xs, (pyF x).depth ≤ n) → PySem.PyData.depthAll (pyFs xs) ≤ n
  | [], _ => by simp only [pyFs, PySem.PyData.depthAll]; exact Nat.zero_le _
  | x :: xs, h => by
    simp only [pyFs, PySem.PyData.depthAll]
    have h1 := h x List.mem_cons_self
    have h2 := depths_fz (n := n) fun y hy => h y (List.mem_cons_of_mem _ hy)
    omega
theorem lay_fz {n : Nat} {d : D} (f : Fz n d) : (pyF d).canLay0 = true ∧ (pyF d).depth ≤ n := by
  induction f with
  | non => simp only [pyF, PySem.PyData.canLay0, PySem.PyData.depth]; exact ⟨trivial, Nat.zero_le _⟩
  | int i => simp only [pyF, PySem.PyData.canLay0, PySem.PyData.depth]; exact ⟨trivial, Nat.zero_le _⟩
  | @tup n xs _ ih =>
    simp only [pyF, PySem.PyData.canLay0, PySem.PyData.depth]
    exact ⟨lays_fz fun x hx => (ih x hx).1, Nat.succ_le_succ (depths_fz fun x hx => (ih x hx).2)⟩
  | @lst n xs _ ih =>
    simp only [pyF, PySem.PyData.canLay0, PySem.PyData.depth]
    exact ⟨lays_fz fun x hx => (ih x hx).1, Nat.succ_le_succ (depths_fz fun x hx => (ih x hx).2)⟩
theorem shaped_fz {n : Nat} {d : D} (f : Fz n d) (l : n ≤ 64) : PySem.SeqAt.shaped (pyF d) = true := by
  obtain ⟨h1, h2⟩ := lay_fz f
  unfold PySem.SeqAt.shaped
  rw [h1, decide_eq_true (by omega)]
  rfl
theorem eqvs_fz : ∀ {xs ys : List D}, (∀ x ∈ xs, ∀ y ∈ ys, (PySem.PyData.eqv (pyF x) (pyF y) = true ↔ x = y)) → (PySem.PyData.eqvAll (pyFs xs) (pyFs ys) = true ↔ xs = ys)
  | [], [], _ => by simp [pyFs, PySem.PyData.eqvAll]
  | [], _ :: _, _ => by simp [pyFs, PySem.PyData.eqvAll]
  | _ :: _, [], _ => by simp [pyFs, PySem.PyData.eqvAll]
  | x :: xs, y :: ys, h => by
    simp only [pyFs, PySem.PyData.eqvAll, Bool.and_eq_true, List.cons.injEq]
    rw [h x List.mem_cons_self y List.mem_cons_self, eqvs_fz fun a ha b hb => h a (List.mem_cons_of_mem _ ha) b (List.mem_cons_of_mem _ hb)]
theorem eqv_fz {n : Nat} {x : D} (f : Fz n x) : ∀ {m : Nat} {y : D}, Fz m y → (PySem.PyData.eqv (pyF x) (pyF y) = true ↔ x = y) := by
  induction f with
  | non => intro m y g; cases g <;> simp [pyF, PySem.PyData.eqv]
  | int i => intro m y g; cases g <;> simp [pyF, PySem.PyData.eqv]
  | @tup n xs _ ih =>
    intro m y g
    cases g with
    | tup g =>
      simp only [pyF, PySem.PyData.eqv, D.tup.injEq]
      exact eqvs_fz fun a ha b hb => ih a ha (g b hb)
    | _ => simp [pyF, PySem.PyData.eqv]
  | @lst n xs _ ih =>
    intro m y g
    cases g with
    | lst g =>
      simp only [pyF, PySem.PyData.eqv, D.lst.injEq]
      exact eqvs_fz fun a ha b hb => ih a ha (g b hb)
    | _ => simp [pyF, PySem.PyData.eqv]
theorem eqvB_fz {n m : Nat} {x y : D} (f : Fz n x) (g : Fz m y) : PySem.PyData.eqv (pyF x) (pyF y) = decide (x = y) := by
  have e := eqv_fz f g
  cases z : PySem.PyData.eqv (pyF x) (pyF y) with
  | true => exact (decide_eq_true (e.mp z)).symm
  | false => exact (decide_eq_false fun h => by rw [e.mpr h] at z; cases z).symm
section
variable {x y : D} {h : Hs} (f : Fz 8 x) (g : Fz 8 y)
include f g
theorem eqD_fz : eqD x y h = .ok (.bl (decide (x = y))) h := by
  unfold eqD eqPy
  rw [toPy_fz (f.mono (show 8 ≤ pyDepth by decide)), toPy_fz (g.mono (show 8 ≤ pyDepth by decide))]
  show (if (PySem.SeqAt.shaped (pyF x) && PySem.SeqAt.shaped (pyF y)) = true then _ else _) = _
  rw [shaped_fz f (by decide), shaped_fz g (by decide), eqvB_fz f g]
  rfl
theorem neD_fz : neD x y h = .ok (.bl (!decide (x = y))) h := by
  unfold neD eqPy
  rw [toPy_fz (f.mono (show 8 ≤ pyDepth by decide)), toPy_fz (g.mono (show 8 ≤ pyDepth by decide))]
  show (if (PySem.SeqAt.shaped (pyF x) && PySem.SeqAt.shaped (pyF y)) = true then _ else _) = _
  rw [shaped_fz f (by decide), shaped_fz g (by decide), eqvB_fz f g]
  rfl
end
theorem any_fz {x : D} {n : Nat} (f : Fz n x) : ∀ {ys : List D}, (∀ y ∈ ys, Fz n y) → ((pyFs ys).any fun z => PySem.PyData.eqv z (pyF x)) = decide (x ∈ ys)
  | [], _ => rfl
  | y :: ys, h => by
    simp only [pyFs, List.any_cons, eqvB_fz (h y List.mem_cons_self) f, any_fz f fun z hz => h z (List.mem_cons_of_mem _ hz)]
    by_cases e : y = x
    · subst e; simp
    · have e' : x ≠ y := fun z => e z.symm
      simp [e, e']
theorem inD_fz {x : D} {ys : List D} {h : Hs} (f : Fz 8 x) (g : ∀ y ∈ ys, Fz 8 y) : inD x (.tup ys) h = .ok (.bl (decide (x ∈ ys))) h ∧ inD x (.lst ys) h = .ok (.bl (decide (x ∈ ys))) h := by
  have e1 : optAll (toPy h pyDepth) ys = some (pyFs ys) := optAll_eq fun y hy => toPy_fz ((g y hy).mono (show 8 ≤ pyDepth by decide))
  have e2 := toPy_fz (h := h) (f.mono (show 8 ≤ pyDepth by decide))
  have e3 : PySem.SeqAt.shaped (.tuple (pyFs ys)) = true := by
    have z := shaped_fz (.tup g) (show 8 + 1 ≤ 64 by decide)
    simpa only [pyF] using z
  have e4 := shaped_fz f (by decide)
  constructor
  · show (match toPy h pyDepth x, optAll (toPy h pyDepth) ys with
      | some p, some ps => if PySem.SeqAt.shaped p && PySem.SeqAt.shaped (.tuple ps) then Dl.R.ok (D.bl (if false = true then _ else ps.any fun z => PySem.PyData.eqv z p)) h else .bad
      | _, _ => .bad) = _
    rw [e1, e2]
    show (if (PySem.SeqAt.shaped (pyF x) && PySem.SeqAt.shaped (.tuple (pyFs ys))) = true then _ else _) = _
    rw [e3, e4, any_fz f g]
    rfl
  · show (match toPy h pyDepth x, optAll (toPy h pyDepth) ys with
      | some p, some ps => if PySem.SeqAt.shaped p && PySem.SeqAt.shaped (.tuple ps) then Dl.R.ok (D.bl (if false = true then _ else ps.any fun z => PySem.PyData.eqv z p)) h else .bad
      | _, _ => .bad) = _
    rw [e1, e2]
    show (if (PySem.SeqAt.shaped (pyF x) && PySem.SeqAt.shaped (.tuple (pyFs ys))) = true then _ else _) = _
    rw [e3, e4, any_fz f g]
    rfl
theorem eqD_ii {a b : Int} {h : Hs} : eqD (.int a) (.int b) h = .ok (.bl (decide (a = b))) h := by
  rw [eqD_fz (.int a) (.int b)]
  simp
theorem neD_ii {a b : Int} {h : Hs} : neD (.int a) (.int b) h = .ok (.bl (!decide (a = b))) h := by
  rw [neD_fz (.int a) (.int b)]
  simp
theorem fz_fr (q : Rat) : Fz 1 (fr q) := .tup fun x hx => by
  rcases List.mem_cons.mp hx with e | hx
  · subst e; exact .int _
  · rw [List.mem_singleton.mp hx]; exact .int _
/-! ### what is shown -/
inductive Sh' : Nat → D → Prop
  | non {w : Nat} : 4 ≤ w → Sh' w .non
  | int {w : Nat} {i : Int} : i.natAbs < 2 ^ 1900 → 1921 ≤ w → Sh' w (.int i)
  | tup {w u : Nat} {xs : List D} : (∀ x ∈ xs, Sh' u x) → (u + 2) * xs.length + 3 ≤ w → Sh' w (.tup xs)
  | lst {w u : Nat} {xs : List D} : (∀ x ∈ xs, Sh' u x) → (u + 2) * xs.length + 3 ≤ w → Sh' w (.lst xs)
theorem Sh'.mono {w v : Nat} {d : D} (h : Sh' w d) (l : w ≤ v) : Sh' v d := by
  cases h with
  | non a => exact .non (by omega)
  | int a b => exact .int a (by omega)
  | tup a b => exact .tup a (by omega)
  | lst a b => exact .lst a (by omega)
theorem listText_le (ts : List PySem.Str) : (PySem.listText ts).length ≤ PySem.piled ts + 3 := by
  cases ts with
  | nil => decide +kernel
  | cons t r =>
    have h := PySem.textFrom_length_pos r 1 (("[" : PySem.Str) ++ (if (0 : Nat) > 0 then ", " else "" : String) ++ t) (Nat.succ_pos 0)
    have e : ((("[" : PySem.Str) ++ (if (0 : Nat) > 0 then ", " else "" : String) ++ t)).length = 1 + t.length := by
      rw [PySem.strLen_append, PySem.strLen_append]; rfl
    have hX : (PySem.listText (t :: r)).length = (PySem.textFrom 0 "[" (t :: r)).length + 1 := by
      show (PySem.textFrom 0 "[" (t :: r) ++ ("]" : PySem.Str)).length = _
      rw [PySem.strLen_append]; rfl
    have hY : (PySem.textFrom 0 "[" (t :: r)).length = (PySem.textFrom 1 (("[" : PySem.Str) ++ (if (0 : Nat) > 0 then ", " else "" : String) ++ t) r).length := rfl
    rw [hX, hY, h, e, PySem.piled_cons]
    omega
theorem tupleText_le (ts : List PySem.Str) : (PySem.tupleText ts).length ≤ PySem.piled ts + 3 := by
  cases ts with
  | nil => decide +kernel
  | cons t r =>
    have h := PySem.join_length_add (t :: r) (by simp)
    unfold PySem.tupleText
    rw [PySem.strLen_append, PySem.strLen_append]
    have e : ((if (t :: r).length == 1 then ",)" else ")" : String) : PySem.Str).length ≤ 2 := by split <;> decide +kernel
    have e1 : (("(" : PySem.Str)).length = 1 := by decide +kernel
    omega
theorem int_shown {i : Int} (h : i.natAbs < 2 ^ 1900) : (PySem.PyData.shown (.int i)).length ≤ 1921 ∧ PySem.PyData.showable (.int i) = true := by
  have l : i.natAbs.log2 < 1920 := by
    by_cases z : i.natAbs = 0
    · rw [z]; decide
    · have := (Nat.log2_lt z).mpr h
      omega
  refine ⟨?_, by simp only [PySem.PyData.showable]; exact decide_eq_true l⟩
  have e := PySem.int_text_length_le (a := i) (k := 1920) (by decide) l
  simp only [PySem.PyData.shown]
  show (PySem.Str.ofString (toString i)).length ≤ 1921
  rw [PySem.ofString_length]
  exact e
end Pl

/-! Plain laws, 3: the tape. -/
namespace Pl
open Dl Sh
local instance : Dl.Tb := ⟨fun _ => []⟩

theorem items_obj {h : Hs} {n : Nat} {xs : List D} (e : h[n]? = some (.lst xs)) : items h (.obj n) = some xs := by
  show (match h[n]? with
    | some (.lst xs) => some xs
    | _ => none) = some xs
  rw [e]
theorem item_obj {h : Hs} {n : Nat} {xs : List D} {i : Nat} {d : D} (e : h[n]? = some (.lst xs)) (e2 : xs[i]? = some d) : itemD (.obj n) (.int i) h = .ok d h := by
  have hl := (List.getElem?_eq_some_iff.mp e2).1
  have z : L2.atI xs i = some d := by
    unfold L2.atI L2.ixN
    rw [if_pos (by omega), if_pos (by omega)]
    exact e2
  have s : seqOf h (.obj n) = some xs := by
    exact items_obj e
  show (match seqOf h (.obj n) with
    | some xs => (match L2.atI xs i with
        | some d => Dl.R.ok d h
        | none => .bad)
    | none => _) = _
  rw [s]
  show (match L2.atI xs i with
        | some d => Dl.R.ok d h
        | none => .bad) = _
  rw [z]
theorem set_obj {h : Hs} {n : Nat} {xs : List D} {i : Nat} {v : D} (e : h[n]? = some (.lst xs)) (hl : i < xs.length) : setItemD (.obj n) (.int i) v h = some (h.set n (.lst (xs.set i v))) := by
  show (match h[n]? with
    | some (.lst xs) => (L2.ixN xs.length i).map fun j => h.set n (.lst (xs.set j v))
    | some (.dI kvs) => _
    | _ => none) = _
  rw [e]
  show (L2.ixN xs.length i).map _ = _
  unfold L2.ixN
  rw [if_pos (by omega), if_pos (by omega)]
  rfl
theorem wps_store {ce co cx : Env → M D} {ρ : Env} {h : Hs} {N : Env → Hs → Prop} {T : D → Hs → Prop} : WpS (sStore ce co cx ρ h) N T = Wp (ce ρ h) fun v h1 => Wp (co ρ h1) fun o h2 => Wp (cx ρ h2) fun i h3 => WpS (match setItemD o i v h3 with
  | some h4 => .nx ρ h4
  | none => .bad) N T := by
  unfold sStore
  cases ce ρ h with
  | ok v h1 =>
    show WpS ((co ρ h1).then ρ _) N T = Wp (co ρ h1) _
    rw [wps_then]
    cases co ρ h1 with
    | ok o h2 =>
      show WpS ((cx ρ h2).then ρ _) N T = Wp (cx ρ h2) _
      rw [wps_then]
      try rfl
    | _ => rfl
  | _ => rfl
/-- the tape stands at 1, its cells at 0; N bounds the draws so far -/
structure Tp (h : Hs) (N : Nat) : Prop where
  ex : ∃ (s n : Int) (cs : List Int), h[1]? = some (.lst [.int s, .int n, .obj 0]) ∧ h[0]? = some (.lst (cs.map D.int)) ∧ 0 ≤ s ∧ s < 4294967296 ∧ 0 ≤ n ∧ n ≤ N
/-- what stood behind the tape stands -/
structure Ge (h h' : Hs) : Prop where
  len : h.length ≤ h'.length
  keep : ∀ j, 2 ≤ j → j < h.length → h'[j]? = h[j]?
theorem Ge.refl {h : Hs} : Ge h h := ⟨Nat.le_refl _, fun _ _ _ => rfl⟩
theorem Ge.trans {a b c : Hs} (x : Ge a b) (y : Ge b c) : Ge a c := ⟨Nat.le_trans x.len y.len, fun j h1 h2 => (y.keep j h1 (Nat.lt_of_lt_of_le h2 x.len)).trans (x.keep j h1 h2)⟩
theorem Ge.set {h : Hs} {i : Nat} {o : DO} (hi : i < 2) : Ge h (h.set i o) := ⟨by rw [List.length_set]; exact Nat.le_refl _, fun j h1 _ => List.getElem?_set_ne (by omega)⟩
theorem Ge.app {h : Hs} {l : List DO} (hl : 2 ≤ h.length) : Ge h (h ++ l) := ⟨by rw [List.length_append]; omega, fun j _ h2 => List.getElem?_append_left h2⟩
theorem Ge.at {h h' : Hs} (g : Ge h h') {j : Nat} {o : DO} (hj : 2 ≤ j) (e : h[j]? = some o) : h'[j]? = some o := (g.keep j hj (List.getElem?_eq_some_iff.mp e).1).trans e
theorem Tp.mono {h : Hs} {N M : Nat} (t : Tp h N) (l : N ≤ M) : Tp h M := by
  obtain ⟨s, n, cs, h1, h2, h3, h4, h5, h6⟩ := t.ex
  exact ⟨s, n, cs, h1, h2, h3, h4, h5, by omega⟩
theorem Tp.two {h : Hs} {N : Nat} (t : Tp h N) : 2 ≤ h.length := by
  obtain ⟨s, n, cs, h1, _⟩ := t.ex
  exact (List.getElem?_eq_some_iff.mp h1).1
theorem Tp.app {h : Hs} {N : Nat} {l : List DO} (t : Tp h N) : Tp (h ++ l) N := by
  have h2 := t.two
  obtain ⟨s, n, cs, h1, h2', r⟩ := t.ex
  exact ⟨s, n, cs, by rw [List.getElem?_append_left (by omega)]; exact h1, by rw [List.getElem?_append_left (by omega)]; exact h2', r⟩
theorem Tp.set {h : Hs} {N i : Nat} {o : DO} (t : Tp h N) (hi : 2 ≤ i) : Tp (h.set i o) N := by
  obtain ⟨s, n, cs, h1, h2', r⟩ := t.ex
  exact ⟨s, n, cs, by rw [List.getElem?_set_ne (by omega)]; exact h1, by rw [List.getElem?_set_ne (by omega)]; exact h2', r⟩
theorem okMul_small {i j : Int} (hi : i.natAbs < 2 ^ 1000) (hj : j.natAbs < 2 ^ 1000) : okMul i j = true := okMul_of hi hj (by decide)
theorem pow18 : 2 ^ 64 ≤ 2 ^ 9000 := Nat.pow_le_pow_right (by decide) (by decide)
theorem small_lt {i : Int} (h : i.natAbs < 18446744073709551616) : i.natAbs < 2 ^ 1000 := Nat.lt_of_lt_of_le h (show (2 ^ 64 : Nat) ≤ 2 ^ 1000 from Nat.pow_le_pow_right (by decide) (by decide))
theorem okDiv_small {i j : Int} (h0 : 0 < j) (h : j.natAbs < 18446744073709551616) : okDiv i j = true := okDiv_of h0 (Nat.lt_of_lt_of_le h pow18)
theorem intD_i {i : Int} {h : Hs} : intD [.int i] h = .ok (.int i) h := rfl
theorem lenD_obj {h : Hs} {n : Nat} {xs : List D} (e : h[n]? = some (.lst xs)) : lenD [.obj n] h = .ok (.int xs.length) h := by
  show (match seqOf h (.obj n) with
    | some ys => Dl.R.ok (D.int ys.length) h
    | none => _) = _
  have s : seqOf h (.obj n) = some xs := by
    exact items_obj e
  rw [s]
theorem pop0_obj {h : Hs} {n : Nat} {x : D} {xs : List D} (e : h[n]? = some (.lst (x :: xs))) : popD (.obj n) [.int 0] h = .ok x (h.set n (.lst xs)) := by
  unfold popD
  have l : lstAt h (.obj n) = some (n, x :: xs) := by
    show (match h[n]? with
    | some (.lst xs) => some (n, xs)
    | _ => none) = _
    rw [e]
  rw [l]
  show (if okI 0 = true then (match PySem.seqIndex? 0 (x :: xs).length with
    | some k => (match (x :: xs)[k]? with
      | some d => Dl.R.ok d (h.set n (.lst ((x :: xs).eraseIdx k)))
      | none => .bad)
    | none => .bad) else .bad) = _
  have z : PySem.seqIndex? 0 (x :: xs).length = some 0 := by
    unfold PySem.seqIndex?
    simp
  rw [z]
  rfl
theorem mixed_le {x : Int} (h0 : 0 ≤ x) (h1 : x < 2147483647) : okMul x (x / 1009 + 69621) = true ∧ okMul x (x / 2003 + 40692) = true := by
  have e1 : 0 ≤ x / 1009 := Int.ediv_nonneg h0 (by decide)
  have e2 : x / 1009 ≤ x := Int.ediv_le_self _ h0
  have e3 : 0 ≤ x / 2003 := Int.ediv_nonneg h0 (by decide)
  have e4 : x / 2003 ≤ x := Int.ediv_le_self _ h0
  exact ⟨okMul_small (small_lt (by omega)) (small_lt (by omega)), okMul_small (small_lt (by omega)) (small_lt (by omega))⟩
theorem draw_spec {h : Hs} {N : Nat} {sides : Int} {Q : D → Hs → Prop} (t : Tp h N) (h0 : 0 < sides) (hs : sides < 18446744073709551616) (hN : N < 1000000) (k : ∀ d h', 0 ≤ d → d < sides → Tp h' (N + 1) → Ge h h' → Q (.int d) h') : Wp (m__law_draw [.obj 1, .int sides] h) Q := by
  obtain ⟨s, n, cs, h1, h2, s0, s1, n0, n1⟩ := t.ex
  have two := t.two
  have i11 : itemD (.obj 1) (.int 1) h = .ok (.int n) h := item_obj (i := 1) h1 rfl
  have st : setItemD (.obj 1) (.int 1) (.int (n + 1)) h = some (h.set 1 (.lst [.int s, .int (n + 1), .obj 0])) := set_obj (i := 1) h1 (by simp)
  unfold m__law_draw c__law_draw
  simp only [wps_store, eV0, eVs, bind_ok', then_ok, q_e2, q_e1, q_eC, q_aC, q_aN, q_sPar2, q_sPar3, q_sSet, q_sRet, q_eBf, q_nBf, q_eCall, q_tst, q_tru, q_ifV, q_sIf, q_eTup, q_sPass, q_sExp, q_eLm, q_nLst, q_frz, q_thaw, q_iSeq, q_iR2, q_iR3, q_iEnumD, q_iZip, q_andX, q_andT, q_orT, q_notT, q_eCh, q_sPat, q_eSl, q_nSl, q_pS, q_pN, q_sRetN, q_tYes, q_eDct0, okL0, okL1, okL2, okL3, okL4, okL5, okL6, ent, List.map_cons, List.map_nil, List.length_cons, List.length_nil, List.set_cons_zero, List.set_cons_succ, List.replicate, List.cons_append, List.nil_append, Nat.reduceAdd, Nat.reduceSub, Nat.sub_self, Nat.sub_zero, zero_add', ↓reduceIte, Bool.false_eq_true, item0, item1, addD_ii, subD_ii, negD_i, absD_i, ltD_ii, leD_ii, gtD_ii, geD_ii, truD_bl, decide_true, decide_false, wp_ok, wp_bad, wp_bind, wp_nox, wp_def, wps_then, wps_seq, wps_nx, wps_ret, wp_ite, wps_ite, i11, st]
  have g1 : (h.set 1 (.lst [.int s, .int (n + 1), .obj 0]))[1]? = some (.lst [.int s, .int (n + 1), .obj 0]) := List.getElem?_set_self (by omega)
  have g0 : (h.set 1 (.lst [.int s, .int (n + 1), .obj 0]))[0]? = some (.lst (cs.map D.int)) := by rw [List.getElem?_set_ne (by decide)]; exact h2
  have gg : Ge h (h.set 1 (.lst [.int s, .int (n + 1), .obj 0])) := .set (by decide)
  generalize h.set 1 (.lst [.int s, .int (n + 1), .obj 0]) = g at g1 g0 gg ⊢
  have j12 : itemD (.obj 1) (.int 2) g = .ok (.obj 0) g := item_obj (i := 2) g1 rfl
  have j10 : itemD (.obj 1) (.int 0) g = .ok (.int s) g := item_obj (i := 0) g1 rfl
  have j11 : itemD (.obj 1) (.int 1) g = .ok (.int (n + 1)) g := item_obj (i := 1) g1 rfl
  have l0 := lenD_obj g0
  rw [List.length_map] at l0
  simp only [eV0, eVs, bind_ok', then_ok, q_e2, q_e1, q_eC, q_aC, q_aN, q_sPar2, q_sPar3, q_sSet, q_sRet, q_eBf, q_nBf, q_eCall, q_tst, q_tru, q_ifV, q_sIf, q_eTup, q_sPass, q_sExp, q_eLm, q_nLst, q_frz, q_thaw, q_iSeq, q_iR2, q_iR3, q_iEnumD, q_iZip, q_andX, q_andT, q_orT, q_notT, q_eCh, q_sPat, q_eSl, q_nSl, q_pS, q_pN, q_sRetN, q_tYes, q_eDct0, okL0, okL1, okL2, okL3, okL4, okL5, okL6, ent, List.map_cons, List.map_nil, List.length_cons, List.length_nil, List.set_cons_zero, List.set_cons_succ, List.replicate, List.cons_append, List.nil_append, Nat.reduceAdd, Nat.reduceSub, Nat.sub_self, Nat.sub_zero, zero_add', ↓reduceIte, Bool.false_eq_true, item0, item1, addD_ii, subD_ii, negD_i, absD_i, ltD_ii, leD_ii, gtD_ii, geD_ii, truD_bl, decide_true, decide_false, wp_ok, wp_bad, wp_bind, wp_nox, wp_def, wps_then, wps_seq, wps_nx, wps_ret, wp_ite, wps_ite, j12, l0]
  cases cs with
  | nil =>
    have z : ¬ ((0 : Int) < (([] : List Int).length : Int)) := by simp
    have m1 : okMul 7919 (n + 1) = true := okMul_small (by decide +kernel) (small_lt (by omega))
    have m2 : okMul (s + 7919 * (n + 1)) 48271 = true := okMul_small (small_lt (by omega)) (by decide +kernel)
    have b0 := Int.emod_nonneg ((s + 7919 * (n + 1)) * 48271) (show (2147483647 : Int) ≠ 0 by decide)
    have b1 := Int.emod_lt_of_pos ((s + 7919 * (n + 1)) * 48271) (show (0 : Int) < 2147483647 by decide)
    simp only [eV0, eVs, bind_ok', then_ok, q_e2, q_e1, q_eC, q_aC, q_aN, q_sPar2, q_sPar3, q_sSet, q_sRet, q_eBf, q_nBf, q_eCall, q_tst, q_tru, q_ifV, q_sIf, q_eTup, q_sPass, q_sExp, q_eLm, q_nLst, q_frz, q_thaw, q_iSeq, q_iR2, q_iR3, q_iEnumD, q_iZip, q_andX, q_andT, q_orT, q_notT, q_eCh, q_sPat, q_eSl, q_nSl, q_pS, q_pN, q_sRetN, q_tYes, q_eDct0, okL0, okL1, okL2, okL3, okL4, okL5, okL6, ent, List.map_cons, List.map_nil, List.length_cons, List.length_nil, List.set_cons_zero, List.set_cons_succ, List.replicate, List.cons_append, List.nil_append, Nat.reduceAdd, Nat.reduceSub, Nat.sub_self, Nat.sub_zero, zero_add', ↓reduceIte, Bool.false_eq_true, item0, item1, addD_ii, subD_ii, negD_i, absD_i, ltD_ii, leD_ii, gtD_ii, geD_ii, truD_bl, decide_true, decide_false, wp_ok, wp_bad, wp_bind, wp_nox, wp_def, wps_then, wps_seq, wps_nx, wps_ret, wp_ite, wps_ite, decide_eq_false z, sPass, j10, j11, mulD_ii m1, mulD_ii m2, intD_i, modD_ii (show (0 : Int) < 2147483647 by decide)]
    generalize (s + 7919 * (n + 1)) * 48271 % 2147483647 = x at b0 b1 ⊢
    obtain ⟨m3, _⟩ := mixed_le b0 b1
    have c0 := Int.emod_nonneg (x * (x / 1009 + 69621)) (show (2147483647 : Int) ≠ 0 by decide)
    have c1 := Int.emod_lt_of_pos (x * (x / 1009 + 69621)) (show (0 : Int) < 2147483647 by decide)
    simp only [eV0, eVs, bind_ok', then_ok, q_e2, q_e1, q_eC, q_aC, q_aN, q_sPar2, q_sPar3, q_sSet, q_sRet, q_eBf, q_nBf, q_eCall, q_tst, q_tru, q_ifV, q_sIf, q_eTup, q_sPass, q_sExp, q_eLm, q_nLst, q_frz, q_thaw, q_iSeq, q_iR2, q_iR3, q_iEnumD, q_iZip, q_andX, q_andT, q_orT, q_notT, q_eCh, q_sPat, q_eSl, q_nSl, q_pS, q_pN, q_sRetN, q_tYes, q_eDct0, okL0, okL1, okL2, okL3, okL4, okL5, okL6, ent, List.map_cons, List.map_nil, List.length_cons, List.length_nil, List.set_cons_zero, List.set_cons_succ, List.replicate, List.cons_append, List.nil_append, Nat.reduceAdd, Nat.reduceSub, Nat.sub_self, Nat.sub_zero, zero_add', ↓reduceIte, Bool.false_eq_true, item0, item1, addD_ii, subD_ii, negD_i, absD_i, ltD_ii, leD_ii, gtD_ii, geD_ii, truD_bl, decide_true, decide_false, wp_ok, wp_bad, wp_bind, wp_nox, wp_def, wps_then, wps_seq, wps_nx, wps_ret, wp_ite, wps_ite, divD_ii (okDiv_small (i := x) (j := 1009) (by decide) (by decide)), mulD_ii m3, intD_i, modD_ii (show (0 : Int) < 2147483647 by decide)]
    generalize x * (x / 1009 + 69621) % 2147483647 = y at c0 c1 ⊢
    obtain ⟨_, m4⟩ := mixed_le c0 c1
    simp only [eV0, eVs, bind_ok', then_ok, q_e2, q_e1, q_eC, q_aC, q_aN, q_sPar2, q_sPar3, q_sSet, q_sRet, q_eBf, q_nBf, q_eCall, q_tst, q_tru, q_ifV, q_sIf, q_eTup, q_sPass, q_sExp, q_eLm, q_nLst, q_frz, q_thaw, q_iSeq, q_iR2, q_iR3, q_iEnumD, q_iZip, q_andX, q_andT, q_orT, q_notT, q_eCh, q_sPat, q_eSl, q_nSl, q_pS, q_pN, q_sRetN, q_tYes, q_eDct0, okL0, okL1, okL2, okL3, okL4, okL5, okL6, ent, List.map_cons, List.map_nil, List.length_cons, List.length_nil, List.set_cons_zero, List.set_cons_succ, List.replicate, List.cons_append, List.nil_append, Nat.reduceAdd, Nat.reduceSub, Nat.sub_self, Nat.sub_zero, zero_add', ↓reduceIte, Bool.false_eq_true, item0, item1, addD_ii, subD_ii, negD_i, absD_i, ltD_ii, leD_ii, gtD_ii, geD_ii, truD_bl, decide_true, decide_false, wp_ok, wp_bad, wp_bind, wp_nox, wp_def, wps_then, wps_seq, wps_nx, wps_ret, wp_ite, wps_ite, divD_ii (okDiv_small (i := y) (j := 2003) (by decide) (by decide)), mulD_ii m4, intD_i, modD_ii (show (0 : Int) < 2147483399 by decide)]
    generalize y * (y / 2003 + 40692) % 2147483399 = u
    simp only [eV0, eVs, bind_ok', then_ok, q_e2, q_e1, q_eC, q_aC, q_aN, q_sPar2, q_sPar3, q_sSet, q_sRet, q_eBf, q_nBf, q_eCall, q_tst, q_tru, q_ifV, q_sIf, q_eTup, q_sPass, q_sExp, q_eLm, q_nLst, q_frz, q_thaw, q_iSeq, q_iR2, q_iR3, q_iEnumD, q_iZip, q_andX, q_andT, q_orT, q_notT, q_eCh, q_sPat, q_eSl, q_nSl, q_pS, q_pN, q_sRetN, q_tYes, q_eDct0, okL0, okL1, okL2, okL3, okL4, okL5, okL6, ent, List.map_cons, List.map_nil, List.length_cons, List.length_nil, List.set_cons_zero, List.set_cons_succ, List.replicate, List.cons_append, List.nil_append, Nat.reduceAdd, Nat.reduceSub, Nat.sub_self, Nat.sub_zero, zero_add', ↓reduceIte, Bool.false_eq_true, item0, item1, addD_ii, subD_ii, negD_i, absD_i, ltD_ii, leD_ii, gtD_ii, geD_ii, truD_bl, decide_true, decide_false, wp_ok, wp_bad, wp_bind, wp_nox, wp_def, wps_then, wps_seq, wps_nx, wps_ret, wp_ite, wps_ite, divD_ii (okDiv_small (i := u) (j := 16) (by decide) (by decide)), intD_i, modD_ii h0]
    exact k _ _ (Int.emod_nonneg _ (by omega)) (Int.emod_lt_of_pos _ h0) ⟨s, n + 1, [], g1, g0, s0, s1, by omega, by omega⟩ gg
  | cons c cs =>
    have z : ((0 : Int) < ((cs.length + 1 : Nat) : Int)) := by omega
    have p0 : itemD (.obj 0) (.int 0) g = .ok (.int c) g := item_obj (i := 0) g0 rfl
    have st : setItemD (.obj 0) (.int 0) (.int (c / sides)) g = some (g.set 0 (.lst (D.int (c / sides) :: cs.map D.int))) := set_obj (i := 0) g0 (by simp)
    simp only [eV0, eVs, bind_ok', then_ok, q_e2, q_e1, q_eC, q_aC, q_aN, q_sPar2, q_sPar3, q_sSet, q_sRet, q_eBf, q_nBf, q_eCall, q_tst, q_tru, q_ifV, q_sIf, q_eTup, q_sPass, q_sExp, q_eLm, q_nLst, q_frz, q_thaw, q_iSeq, q_iR2, q_iR3, q_iEnumD, q_iZip, q_andX, q_andT, q_orT, q_notT, q_eCh, q_sPat, q_eSl, q_nSl, q_pS, q_pN, q_sRetN, q_tYes, q_eDct0, okL0, okL1, okL2, okL3, okL4, okL5, okL6, ent, List.map_cons, List.map_nil, List.length_cons, List.length_nil, List.set_cons_zero, List.set_cons_succ, List.replicate, List.cons_append, List.nil_append, Nat.reduceAdd, Nat.reduceSub, Nat.sub_self, Nat.sub_zero, zero_add', ↓reduceIte, Bool.false_eq_true, item0, item1, addD_ii, subD_ii, negD_i, absD_i, ltD_ii, leD_ii, gtD_ii, geD_ii, truD_bl, decide_true, decide_false, wp_ok, wp_bad, wp_bind, wp_nox, wp_def, wps_then, wps_seq, wps_nx, wps_ret, wp_ite, wps_ite, wps_store, decide_eq_true z, p0, intD_i, modD_ii h0, divD_ii (okDiv_small (i := c) h0 (by omega)), st]
    have lg : 2 ≤ g.length := (List.getElem?_eq_some_iff.mp g1).1
    have f1 : (g.set 0 (.lst (D.int (c / sides) :: cs.map D.int)))[1]? = some (.lst [.int s, .int (n + 1), .obj 0]) := by rw [List.getElem?_set_ne (by decide)]; exact g1
    have f0 : (g.set 0 (.lst (D.int (c / sides) :: cs.map D.int)))[0]? = some (.lst (D.int (c / sides) :: cs.map D.int)) := List.getElem?_set_self (by omega)
    have ff : Ge h (g.set 0 (.lst (D.int (c / sides) :: cs.map D.int))) := gg.trans (.set (by decide))
    generalize g.set 0 (.lst (D.int (c / sides) :: cs.map D.int)) = f at f1 f0 ff ⊢
    have q0 : itemD (.obj 0) (.int 0) f = .ok (.int (c / sides)) f := item_obj (i := 0) f0 rfl
    have r0 := Int.emod_nonneg c (show sides ≠ 0 by omega)
    have r1 := Int.emod_lt_of_pos c h0
    have lf : 2 ≤ f.length := (List.getElem?_eq_some_iff.mp f1).1
    simp only [eV0, eVs, bind_ok', then_ok, q_e2, q_e1, q_eC, q_aC, q_aN, q_sPar2, q_sPar3, q_sSet, q_sRet, q_eBf, q_nBf, q_eCall, q_tst, q_tru, q_ifV, q_sIf, q_eTup, q_sPass, q_sExp, q_eLm, q_nLst, q_frz, q_thaw, q_iSeq, q_iR2, q_iR3, q_iEnumD, q_iZip, q_andX, q_andT, q_orT, q_notT, q_eCh, q_sPat, q_eSl, q_nSl, q_pS, q_pN, q_sRetN, q_tYes, q_eDct0, okL0, okL1, okL2, okL3, okL4, okL5, okL6, ent, List.map_cons, List.map_nil, List.length_cons, List.length_nil, List.set_cons_zero, List.set_cons_succ, List.replicate, List.cons_append, List.nil_append, Nat.reduceAdd, Nat.reduceSub, Nat.sub_self, Nat.sub_zero, zero_add', ↓reduceIte, Bool.false_eq_true, item0, item1, addD_ii, subD_ii, negD_i, absD_i, ltD_ii, leD_ii, gtD_ii, geD_ii, truD_bl, decide_true, decide_false, wp_ok, wp_bad, wp_bind, wp_nox, wp_def, wps_then, wps_seq, wps_nx, wps_ret, wp_ite, wps_ite, q0, eqD_ii]
    by_cases e : c / sides = 0
    · have pp := pop0_obj (n := 0) (h := f) f0
      simp only [eV0, eVs, bind_ok', then_ok, q_e2, q_e1, q_eC, q_aC, q_aN, q_sPar2, q_sPar3, q_sSet, q_sRet, q_eBf, q_nBf, q_eCall, q_tst, q_tru, q_ifV, q_sIf, q_eTup, q_sPass, q_sExp, q_eLm, q_nLst, q_frz, q_thaw, q_iSeq, q_iR2, q_iR3, q_iEnumD, q_iZip, q_andX, q_andT, q_orT, q_notT, q_eCh, q_sPat, q_eSl, q_nSl, q_pS, q_pN, q_sRetN, q_tYes, q_eDct0, okL0, okL1, okL2, okL3, okL4, okL5, okL6, ent, List.map_cons, List.map_nil, List.length_cons, List.length_nil, List.set_cons_zero, List.set_cons_succ, List.replicate, List.cons_append, List.nil_append, Nat.reduceAdd, Nat.reduceSub, Nat.sub_self, Nat.sub_zero, zero_add', ↓reduceIte, Bool.false_eq_true, item0, item1, addD_ii, subD_ii, negD_i, absD_i, ltD_ii, leD_ii, gtD_ii, geD_ii, truD_bl, decide_true, decide_false, wp_ok, wp_bad, wp_bind, wp_nox, wp_def, wps_then, wps_seq, wps_nx, wps_ret, wp_ite, wps_ite, sExp, eLm, decide_eq_true e, lstAt, f0, pp]
      refine k _ _ r0 r1 ⟨s, n + 1, cs, by rw [List.getElem?_set_ne (by decide)]; exact f1, List.getElem?_set_self (by omega), s0, s1, by omega, by omega⟩ (ff.trans (.set (by decide)))
    · simp only [eV0, eVs, bind_ok', then_ok, q_e2, q_e1, q_eC, q_aC, q_aN, q_sPar2, q_sPar3, q_sSet, q_sRet, q_eBf, q_nBf, q_eCall, q_tst, q_tru, q_ifV, q_sIf, q_eTup, q_sPass, q_sExp, q_eLm, q_nLst, q_frz, q_thaw, q_iSeq, q_iR2, q_iR3, q_iEnumD, q_iZip, q_andX, q_andT, q_orT, q_notT, q_eCh, q_sPat, q_eSl, q_nSl, q_pS, q_pN, q_sRetN, q_tYes, q_eDct0, okL0, okL1, okL2, okL3, okL4, okL5, okL6, ent, List.map_cons, List.map_nil, List.length_cons, List.length_nil, List.set_cons_zero, List.set_cons_succ, List.replicate, List.cons_append, List.nil_append, Nat.reduceAdd, Nat.reduceSub, Nat.sub_self, Nat.sub_zero, zero_add', ↓reduceIte, Bool.false_eq_true, item0, item1, addD_ii, subD_ii, negD_i, absD_i, ltD_ii, leD_ii, gtD_ii, geD_ii, truD_bl, decide_true, decide_false, wp_ok, wp_bad, wp_bind, wp_nox, wp_def, wps_then, wps_seq, wps_nx, wps_ret, wp_ite, wps_ite, sPass, decide_eq_false e]
      exact k _ _ r0 r1 ⟨s, n + 1, _ :: cs, f1, f0, s0, s1, by omega, by omega⟩ ff
end Pl

/-! Plain laws, 4: loops, comprehensions, small equations. -/
namespace Pl
open Dl Sh
local instance : Dl.Tb := ⟨fun _ => []⟩

theorem okG_nil {h : Hs} : okG [] h = true := rfl
/-- a for: I by the turn -/
theorem wps_loop {p : Pat} {body : SM} {gs : List (Nat × List D)} {N : Env → Hs → Prop} {T : D → Hs → Prop} (I : Nat → Env → Hs → Prop) : ∀ (xs : List D) (i : Nat) (ρ : Env) (h : Hs),
    (∀ j x ρ h, xs[j]? = some x → I (i + j) ρ h → okG gs h = true ∧ ∃ ρ1, patD p x ρ = some ρ1 ∧ WpS (body ρ1 h) (fun ρ' h' => I (i + j + 1) ρ' h') T) →
    (∀ ρ h, I (i + xs.length) ρ h → okG gs h = true ∧ N ρ h) → I i ρ h → WpS (loopF p body gs xs ρ h) N T
  | [], i, ρ, h, _, fin, st => by
    obtain ⟨g, n⟩ := fin ρ h st
    unfold loopF
    rw [if_pos g]
    exact n
  | x :: xs, i, ρ, h, step, fin, st => by
    obtain ⟨g, ρ1, e, b⟩ := step 0 x ρ h rfl st
    unfold loopF
    rw [if_pos g, e]
    have ih := fun ρ' h' => wps_loop I xs (i + 1) ρ' h' (fun j x ρ h hx hI => by
      have z := step (j + 1) x ρ h (by simpa using hx) (by rw [show i + (j + 1) = i + 1 + j by omega]; exact hI)
      rw [show i + (j + 1) + 1 = i + 1 + j + 1 by omega] at z
      exact z) (fun ρ h hI => fin ρ h (by rw [List.length_cons, show i + (xs.length + 1) = i + 1 + xs.length by omega]; exact hI)) 
    cases q : body ρ1 h with
    | nx ρ2 h2 =>
      rw [q] at b
      simp only [q]
      exact ih ρ2 h2 b
    | ret d h2 => rw [q] at b; simp only [q]; exact b
    | bk ρ2 h2 => rw [q] at b; exact b.elim
    | ct ρ2 h2 => rw [q] at b; exact b.elim
    | exc ρ2 C fs h2 => rw [q] at b; exact b.elim
    | bad => rw [q] at b; exact b.elim
theorem wps_for {ci : Env → M ItD} {p : Pat} {body : SM} {ρ : Env} {h : Hs} {N : Env → Hs → Prop} {T : D → Hs → Prop} : WpS (sFor ci p body ρ h) N T = Wp (ci ρ h) fun it h1 => WpS (loopF p body it.gs it.items ρ h1) N T := by
  unfold sFor
  rw [wps_then]
/-- a comprehension without effects -/
theorem lcF_pure {p : Pat} {ce : Env → M D} {gs : List (Nat × List D)} {ρ : Env} {h : Hs} {f : D → D} (g : okG gs h = true) : ∀ {xs : List D}, (∀ x ∈ xs, ∃ ρ1, patD p x ρ = some ρ1 ∧ ce ρ1 h = .ok (f x) h) → lcF p tYes' ce gs ρ xs h = .ok (xs.map f) h
  | [], _ => by
    unfold lcF
    rw [if_pos g]
    rfl
  | x :: xs, k => by
    obtain ⟨ρ1, e, c⟩ := k x List.mem_cons_self
    unfold lcF
    rw [if_pos g, e]
    show ((ce ρ1 h).nox.bind fun d h2 => (lcF p tYes' ce gs ρ xs h2).bind fun ds h3 => .ok (d :: ds) h3) = _
    rw [c]
    show ((lcF p tYes' ce gs ρ xs h).bind fun ds h3 => .ok (f x :: ds) h3) = _
    rw [lcF_pure g fun y hy => k y (List.mem_cons_of_mem _ hy)]
    rfl
/-- with a test -/
theorem lcF_test {p : Pat} {ct : Env → M Bool} {ce : Env → M D} {gs : List (Nat × List D)} {ρ : Env} {h : Hs} {t : D → Bool} {f : D → D} (g : okG gs h = true) : ∀ {xs : List D}, (∀ x ∈ xs, ∃ ρ1, patD p x ρ = some ρ1 ∧ ct ρ1 h = .ok (t x) h ∧ (t x = true → ce ρ1 h = .ok (f x) h)) → lcF p ct ce gs ρ xs h = .ok ((xs.filter t).map f) h
  | [], _ => by
    unfold lcF
    rw [if_pos g]
    rfl
  | x :: xs, k => by
    obtain ⟨ρ1, e, c1, c2⟩ := k x List.mem_cons_self
    unfold lcF
    rw [if_pos g, e]
    show ((ct ρ1 h).nox.bind fun b h1 => if b = true then (ce ρ1 h1).nox.bind fun d h2 => (lcF p ct ce gs ρ xs h2).bind fun ds h3 => .ok (d :: ds) h3 else lcF p ct ce gs ρ xs h1) = _
    rw [c1]
    show (if t x = true then (ce ρ1 h).nox.bind fun d h2 => (lcF p ct ce gs ρ xs h2).bind fun ds h3 => .ok (d :: ds) h3 else lcF p ct ce gs ρ xs h) = _
    have ih := lcF_test (ct := ct) (ce := ce) (p := p) (ρ := ρ) g (xs := xs) fun y hy => k y (List.mem_cons_of_mem _ hy)
    by_cases z : t x = true
    · rw [if_pos z, c2 z, List.filter_cons_of_pos z]
      show ((lcF p ct ce gs ρ xs h).bind fun ds h3 => .ok (f x :: ds) h3) = _
      rw [ih]
      rfl
    · rw [if_neg z, List.filter_cons_of_neg z]
      exact ih
/-- with effects: I by the turn, P of each item made -/
theorem wp_lc {p : Pat} {ce : Env → M D} {gs : List (Nat × List D)} {ρ : Env} (I : Nat → Hs → Prop) (P : D → Prop) : ∀ (xs : List D) (i : Nat) (h : Hs) {Q : List D → Hs → Prop},
    (∀ j x h, xs[j]? = some x → I (i + j) h → okG gs h = true ∧ ∃ ρ1, patD p x ρ = some ρ1 ∧ Wp (ce ρ1 h) fun d h' => P d ∧ I (i + j + 1) h') →
    (∀ h, I (i + xs.length) h → okG gs h = true) → I i h → (∀ ds h', ds.length = xs.length → (∀ d ∈ ds, P d) → I (i + xs.length) h' → Q ds h') → Wp (lcF p tYes' ce gs ρ xs h) Q
  | [], i, h, Q, _, fin, st, k => by
    unfold lcF
    rw [if_pos (fin h st)]
    exact k [] h rfl (by simp) st
  | x :: xs, i, h, Q, step, fin, st, k => by
    obtain ⟨g, ρ1, e, b⟩ := step 0 x h rfl st
    unfold lcF
    rw [if_pos g, e]
    show Wp ((ce ρ1 h).nox.bind fun d h2 => (lcF p tYes' ce gs ρ xs h2).bind fun ds h3 => .ok (d :: ds) h3) Q
    rw [wp_bind, wp_nox]
    refine wp_mono b fun d h2 ⟨pd, i2⟩ => ?_
    rw [wp_bind]
    refine wp_lc I P xs (i + 1) h2 (fun j x h hx hI => ?_) (fun h hI => fin h (by rw [List.length_cons, show i + (xs.length + 1) = i + 1 + xs.length by omega]; exact hI)) i2 fun ds h3 hl hp hI => ?_
    · have z := step (j + 1) x h (by simpa using hx) (by rw [show i + (j + 1) = i + 1 + j by omega]; exact hI)
      rw [show i + (j + 1) + 1 = i + 1 + j + 1 by omega] at z
      exact z
    · rw [wp_ok]
      refine k _ _ (by rw [List.length_cons, List.length_cons, hl]) (fun d' hd => ?_) (by rw [List.length_cons, show i + (xs.length + 1) = i + 1 + xs.length by omega]; exact hI)
      rcases List.mem_cons.mp hd with z | z
      · rw [z]; exact pd
      · exact hp d' z
theorem nLc_eq {ci : Env → M ItD} {p : Pat} {own : List Nat} {ct : Env → M Bool} {ce : Env → M D} {ρ : Env} {h : Hs} : nLc ci p own ct ce ρ h = (ci ρ h).bind fun it h1 => if okLen it.items.length then lcF p ct ce it.gs (wipeD ρ own) it.items h1 else .bad := nr rfl
theorem okLen_of {n : Nat} (h : n ≤ 16777216) : okLen n = true := decide_eq_true h
theorem okI_of {i : Int} (h : -4611686018427387904 ≤ i) (h2 : i < 4611686018427387904) : okI i = true := decide_eq_true ⟨h, h2⟩
/-! ### small equations -/
theorem lenD_tup {xs : List D} {h : Hs} : lenD [.tup xs] h = .ok (.int xs.length) h := nr rfl
theorem lenD_lst {xs : List D} {h : Hs} : lenD [.lst xs] h = .ok (.int xs.length) h := nr rfl
theorem lenD_scr {xs : List Int} {h : Hs} : lenD [.scr xs] h = .ok (.int xs.length) h := nr rfl
theorem tupD_lst {xs : List D} {h : Hs} : tupD [.lst xs] h = .ok (.tup xs) h := nr rfl
theorem tupD_obj {n : Nat} {xs : List D} {h : Hs} (e : h[n]? = some (.lst xs)) : tupD [.obj n] h = .ok (.tup xs) h := by
  show (match items h (.obj n) with
    | some ys => Dl.R.ok (D.tup ys) h
    | none => .bad) = _
  rw [items_obj e]
theorem item_lst {xs : List D} {i : Nat} {d : D} {h : Hs} (e : xs[i]? = some d) : itemD (.lst xs) (.int i) h = .ok d h := by
  have hl := (List.getElem?_eq_some_iff.mp e).1
  have z : L2.atI xs i = some d := by
    unfold L2.atI L2.ixN
    rw [if_pos (by omega), if_pos (by omega)]
    exact e
  show (match L2.atI xs i with
      | some d => Dl.R.ok d h
      | none => .bad) = _
  rw [z]
theorem app_obj {h : Hs} {n : Nat} {xs : List D} {y : D} (e : h[n]? = some (.lst xs)) (hl : xs.length < 16777216) : appD (.obj n) [y] h = .ok .non (h.set n (.lst (xs ++ [y]))) := by
  unfold appD
  have l : lstAt h (.obj n) = some (n, xs) := by
    show (match h[n]? with
    | some (.lst xs) => some (n, xs)
    | _ => none) = _
    rw [e]
  rw [l]
  exact if_pos (decide_eq_true hl)
theorem lstAt_obj {h : Hs} {n : Nat} {xs : List D} (e : h[n]? = some (.lst xs)) : lstAt h (.obj n) = some (n, xs) := by
  show (match h[n]? with
    | some (.lst xs) => some (n, xs)
    | _ => none) = _
  rw [e]
theorem itOf_tup {xs : List D} {h : Hs} : itOf h (.tup xs) = some ⟨xs, []⟩ := nr rfl
theorem addD_tt {xs ys : List D} {h : Hs} (l : xs.length + ys.length ≤ 16777216) : addD (.tup xs) (.tup ys) h = .ok (.tup (xs ++ ys)) h := if_pos (okLen_of l)
theorem addD_ll {xs ys : List D} {h : Hs} (l : xs.length + ys.length ≤ 16777216) : addD (.lst xs) (.lst ys) h = .ok (.lst (xs ++ ys)) h := if_pos (okLen_of l)
theorem mulD_l {x : D} {k : Nat} {h : Hs} (l : k ≤ 1000000) : mulD (.lst [x]) (.int k) h = .ok (.lst (List.replicate k x)) h := by
  have e : (List.replicate k [x]).flatten = List.replicate k x := by
    induction k with
    | zero => rfl
    | succ k ih => rw [List.replicate_succ, List.flatten_cons, ih (by omega), List.replicate_succ]; rfl
  show (if okRep [x].length k = true then Dl.R.ok (D.lst (List.replicate ((k : Int)).toNat [x]).flatten) h else .bad) = _
  rw [if_pos (show okRep [x].length k = true from decide_eq_true ⟨by omega, by omega, by simp; omega⟩), Int.toNat_natCast, e]
/-! ### any of some things -/
theorem any_spec {h : Hs} {N : Nat} {xs : List D} {Q : D → Hs → Prop} (t : Tp h N) (hx : xs ≠ []) (hl : xs.length ≤ 1000) (hN : N < 1000000) (k : ∀ d h', d ∈ xs → Tp h' (N + 1) → Ge h h' → Q d h') : Wp (m__law_any [.obj 1, .lst xs] h) Q := by
  have hp : 0 < xs.length := List.length_pos_iff.mpr hx
  unfold m__law_any c__law_any
  simp only [eV0, eVs, bind_ok', then_ok, q_e2, q_e1, q_eC, q_aC, q_aN, q_sPar2, q_sPar3, q_sSet, q_sRet, q_eBf, q_nBf, q_eCall, q_tst, q_tru, q_ifV, q_sIf, q_eTup, q_sPass, q_sExp, q_eLm, q_nLst, q_frz, q_thaw, q_iSeq, q_iR2, q_iR3, q_iEnumD, q_iZip, q_andX, q_andT, q_orT, q_notT, q_eCh, q_sPat, q_eSl, q_nSl, q_pS, q_pN, q_sRetN, q_tYes, q_eDct0, okL0, okL1, okL2, okL3, okL4, okL5, okL6, ent, List.map_cons, List.map_nil, List.length_cons, List.length_nil, List.set_cons_zero, List.set_cons_succ, List.replicate, List.cons_append, List.nil_append, Nat.reduceAdd, Nat.reduceSub, Nat.sub_self, Nat.sub_zero, zero_add', ↓reduceIte, Bool.false_eq_true, item0, item1, addD_ii, subD_ii, negD_i, absD_i, ltD_ii, leD_ii, gtD_ii, geD_ii, truD_bl, decide_true, decide_false, wp_ok, wp_bad, wp_bind, wp_nox, wp_def, wps_then, wps_seq, wps_nx, wps_ret, wp_ite, wps_ite, lenD_lst]
  refine draw_spec t (sides := xs.length) (by omega) (by omega) hN fun d h' d0 d1 t' g => ?_
  obtain ⟨i, rfl⟩ : ∃ i : Nat, d = i := ⟨d.toNat, by omega⟩
  have hi : i < xs.length := by omega
  rw [item_lst (List.getElem?_eq_getElem hi), wp_ok]
  exact k _ _ (List.getElem_mem hi) t' g
end Pl

/-! Plain laws, 5: shares, trials. -/
namespace Pl
open Dl Sh
local instance : Dl.Tb := ⟨fun _ => []⟩

theorem comp_eq {ci : Env → M ItD} {p : Pat} {own : List Nat} {ce : Env → M D} {ρ : Env} {h : Hs} {xs : List D} {f : D → D} (e : ci ρ h = .ok ⟨xs, []⟩ h) (l : xs.length ≤ 16777216) (k : ∀ x ∈ xs, ∃ ρ1, patD p x (wipeD ρ own) = some ρ1 ∧ ce ρ1 h = .ok (f x) h) :
    nLc ci p own tYes' ce ρ h = .ok (xs.map f) h := by
  rw [nLc_eq, e]
  show (if okLen xs.length = true then _ else _) = _
  rw [if_pos (okLen_of l)]
  exact lcF_pure rfl k
theorem allBl_map {α : Type} (t : α → Bool) : ∀ xs : List α, allBl (xs.map fun x => D.bl (t x)) = some (xs.map t)
  | [] => rfl
  | x :: xs => by
    show (allBl (xs.map fun x => D.bl (t x))).map (t x :: ·) = _
    rw [allBl_map t xs]
    rfl
theorem allInt_map : ∀ xs : List Int, allInt (xs.map D.int) = some xs
  | [] => rfl
  | x :: xs => by
    show (allInt (xs.map D.int)).map (x :: ·) = _
    rw [allInt_map xs]
    rfl
theorem allD_map {α : Type} (t : α → Bool) (xs : List α) (h : Hs) : allD [.lst (xs.map fun x => D.bl (t x))] h = .ok (.bl (xs.all t)) h := by
  show (match (some (xs.map fun x => D.bl (t x))).bind allBl with
    | some bs => Dl.R.ok (D.bl (bs.all id)) h
    | none => .bad) = _
  rw [Option.bind_some, allBl_map]
  show Dl.R.ok (D.bl ((xs.map t).all id)) h = _
  rw [List.all_map]
  rfl
theorem sumD_ints (xs : List Int) (h : Hs) : sumD [.lst (xs.map D.int)] h = .ok (.int xs.sum) h := by
  show (match (some (xs.map D.int)).bind allInt with
    | some ns => Dl.R.ok (D.int ns.sum) h
    | none => .bad) = _
  rw [Option.bind_some, allInt_map]
theorem isi_int {i : Int} {h : Hs} : isiD [] [.int i, .ty "int"] h = .ok (.bl true) h := nr rfl
theorem isi_bool {i : Int} {h : Hs} : isiD [] [.int i, .ty "bool"] h = .ok (.bl false) h := nr rfl
theorem isi_tup {xs : List D} {h : Hs} : isiD [] [.tup xs, .ty "tuple"] h = .ok (.bl true) h := nr rfl
theorem notX_b {b : Bool} {h : Hs} : notX (.bl b) h = .ok (.bl (!b)) h := nr rfl
theorem isint_eq {i : Int} {h : Hs} : m_is_integer [.int i] h = .ok (.bl true) h := by
  refine mdef_ret (h' := h) ?_
  unfold c_is_integer
  simp only [eV0, eVs, bind_ok', then_ok, q_e2, q_e1, q_eC, q_aC, q_aN, q_sPar2, q_sPar3, q_sSet, q_sRet, q_eBf, q_nBf, q_eCall, q_tst, q_tru, q_ifV, q_sIf, q_eTup, q_sPass, q_sExp, q_eLm, q_nLst, q_frz, q_thaw, q_iSeq, q_iR2, q_iR3, q_iEnumD, q_iZip, q_andX, q_andT, q_orT, q_notT, q_eCh, q_sPat, q_eSl, q_nSl, q_pS, q_pN, q_sRetN, q_tYes, q_eDct0, okL0, okL1, okL2, okL3, okL4, okL5, okL6, ent, List.map_cons, List.map_nil, List.length_cons, List.length_nil, List.set_cons_zero, List.set_cons_succ, List.replicate, List.cons_append, List.nil_append, Nat.reduceAdd, Nat.reduceSub, Nat.sub_self, Nat.sub_zero, zero_add', ↓reduceIte, Bool.false_eq_true, item0, item1, addD_ii, subD_ii, negD_i, absD_i, ltD_ii, leD_ii, gtD_ii, geD_ii, truD_bl, decide_true, decide_false, isi_int, isi_bool, notX_b, Bool.not_false]
theorem istup_eq {xs : List D} {lo hi : Int} {h : Hs} (h1 : lo ≤ xs.length) (h2 : (xs.length : Int) ≤ hi) : m_is_tuple [.tup xs, .int lo, .int hi] h = .ok (.bl true) h := by
  refine mdef_ret (h' := h) ?_
  unfold c_is_tuple
  simp only [eV0, eVs, bind_ok', then_ok, q_e2, q_e1, q_eC, q_aC, q_aN, q_sPar2, q_sPar3, q_sSet, q_sRet, q_eBf, q_nBf, q_eCall, q_tst, q_tru, q_ifV, q_sIf, q_eTup, q_sPass, q_sExp, q_eLm, q_nLst, q_frz, q_thaw, q_iSeq, q_iR2, q_iR3, q_iEnumD, q_iZip, q_andX, q_andT, q_orT, q_notT, q_eCh, q_sPat, q_eSl, q_nSl, q_pS, q_pN, q_sRetN, q_tYes, q_eDct0, okL0, okL1, okL2, okL3, okL4, okL5, okL6, ent, List.map_cons, List.map_nil, List.length_cons, List.length_nil, List.set_cons_zero, List.set_cons_succ, List.replicate, List.cons_append, List.nil_append, Nat.reduceAdd, Nat.reduceSub, Nat.sub_self, Nat.sub_zero, zero_add', ↓reduceIte, Bool.false_eq_true, item0, item1, addD_ii, subD_ii, negD_i, absD_i, ltD_ii, leD_ii, gtD_ii, geD_ii, truD_bl, decide_true, decide_false, isi_tup, lenD_tup, decide_eq_true h1, decide_eq_true h2]
theorem iswithin_eq {i lo hi : Int} {h : Hs} (h1 : lo ≤ i) (h2 : i ≤ hi) : m_is_within [.int i, .int lo, .int hi] h = .ok (.bl true) h := by
  refine mdef_ret (h' := h) ?_
  unfold c_is_within
  simp only [eV0, eVs, bind_ok', then_ok, q_e2, q_e1, q_eC, q_aC, q_aN, q_sPar2, q_sPar3, q_sSet, q_sRet, q_eBf, q_nBf, q_eCall, q_tst, q_tru, q_ifV, q_sIf, q_eTup, q_sPass, q_sExp, q_eLm, q_nLst, q_frz, q_thaw, q_iSeq, q_iR2, q_iR3, q_iEnumD, q_iZip, q_andX, q_andT, q_orT, q_notT, q_eCh, q_sPat, q_eSl, q_nSl, q_pS, q_pN, q_sRetN, q_tYes, q_eDct0, okL0, okL1, okL2, okL3, okL4, okL5, okL6, ent, List.map_cons, List.map_nil, List.length_cons, List.length_nil, List.set_cons_zero, List.set_cons_succ, List.replicate, List.cons_append, List.nil_append, Nat.reduceAdd, Nat.reduceSub, Nat.sub_self, Nat.sub_zero, zero_add', ↓reduceIte, Bool.false_eq_true, item0, item1, addD_ii, subD_ii, negD_i, absD_i, ltD_ii, leD_ii, gtD_ii, geD_ii, truD_bl, decide_true, decide_false, isint_eq, decide_eq_true h1, decide_eq_true h2]
theorem seq_tup {ce : Env → M D} {ρ : Env} {h : Hs} {xs : List D} (e : ce ρ h = .ok (.tup xs) h) : iSeq ce ρ h = .ok ⟨xs, []⟩ h := by
  rw [q_iSeq, e]
  rfl
theorem seq_lst {ce : Env → M D} {ρ : Env} {h : Hs} {xs : List D} (e : ce ρ h = .ok (.lst xs) h) : iSeq ce ρ h = .ok ⟨xs, []⟩ h := by
  rw [q_iSeq, e]
  rfl
theorem isfrac_eq {q : Rat} {h : Hs} : m_is_fraction [fr q] h = .ok (.bl true) h := by
  refine mdef_ret (h' := h) ?_
  unfold c_is_fraction
  have c := comp_eq (ci := iSeq (eV 0)) (p := .nm 1) (own := [1]) (ce := eCall 1 m_is_integer (aC (eV 1) aN)) (ρ := [some (fr q), none]) (h := h) (xs := [.int q.num, .int q.den]) (f := fun _ => .bl true)
    (seq_tup eV0) (by simp) fun x hx => ⟨[some (fr q), some x], rfl, by
      obtain ⟨i, rfl⟩ : ∃ i, x = .int i := by
        rcases List.mem_cons.mp hx with e | hx
        · exact ⟨_, e⟩
        · exact ⟨_, List.mem_singleton.mp hx⟩
      simp only [eV0, eVs, bind_ok', then_ok, q_e2, q_e1, q_eC, q_aC, q_aN, q_sPar2, q_sPar3, q_sSet, q_sRet, q_eBf, q_nBf, q_eCall, q_tst, q_tru, q_ifV, q_sIf, q_eTup, q_sPass, q_sExp, q_eLm, q_nLst, q_frz, q_thaw, q_iSeq, q_iR2, q_iR3, q_iEnumD, q_iZip, q_andX, q_andT, q_orT, q_notT, q_eCh, q_sPat, q_eSl, q_nSl, q_pS, q_pN, q_sRetN, q_tYes, q_eDct0, okL0, okL1, okL2, okL3, okL4, okL5, okL6, ent, List.map_cons, List.map_nil, List.length_cons, List.length_nil, List.set_cons_zero, List.set_cons_succ, List.replicate, List.cons_append, List.nil_append, Nat.reduceAdd, Nat.reduceSub, Nat.sub_self, Nat.sub_zero, zero_add', ↓reduceIte, Bool.false_eq_true, item0, item1, addD_ii, subD_ii, negD_i, absD_i, ltD_ii, leD_ii, gtD_ii, geD_ii, truD_bl, decide_true, decide_false, isint_eq]⟩
  have a : allD [.lst [.bl true, .bl true]] h = .ok (.bl true) h := nr rfl
  have d0 : ¬ ((q.den : Int) < 1) := by have := den_pos q; omega
  have t2 : m_is_tuple [fr q, .int 2, .int 2] h = .ok (.bl true) h := istup_eq (by simp) (by simp)
  have g1 : ((Int.gcd q.num q.den : Nat) : Int) = 1 := by
    have z := q.reduced
    have e : Int.gcd q.num q.den = q.num.natAbs.gcd q.den := rfl
    rw [e, z]
    rfl
  simp only [eV0, eVs, bind_ok', then_ok, q_e2, q_e1, q_eC, q_aC, q_aN, q_sPar2, q_sPar3, q_sSet, q_sRet, q_eBf, q_nBf, q_eCall, q_tst, q_tru, q_ifV, q_sIf, q_eTup, q_sPass, q_sExp, q_eLm, q_nLst, q_frz, q_thaw, q_iSeq, q_iR2, q_iR3, q_iEnumD, q_iZip, q_andX, q_andT, q_orT, q_notT, q_eCh, q_sPat, q_eSl, q_nSl, q_pS, q_pN, q_sRetN, q_tYes, q_eDct0, okL0, okL1, okL2, okL3, okL4, okL5, okL6, ent, List.map_cons, List.map_nil, List.length_cons, List.length_nil, List.set_cons_zero, List.set_cons_succ, List.replicate, List.cons_append, List.nil_append, Nat.reduceAdd, Nat.reduceSub, Nat.sub_self, Nat.sub_zero, zero_add', ↓reduceIte, Bool.false_eq_true, item0, item1, addD_ii, subD_ii, negD_i, absD_i, ltD_ii, leD_ii, gtD_ii, geD_ii, truD_bl, decide_true, decide_false, t2, c, a, fr_num, fr_den, decide_eq_false d0, Bool.not_true, wps_ite, sPass, common_eq, g1, eqD_ii, List.all_cons, List.all_nil, Bool.and_true, sSeq]
theorem isshare_eq {q : Rat} {h : Hs} (h0 : 0 ≤ q) (h1 : q ≤ 1) : m_is_share [fr q] h = .ok (.bl true) h := by
  have n0 : (0 : Int) ≤ q.num := Rat.num_nonneg.mpr h0
  have n1 : q.num ≤ q.den := by
    have z := (Rat.le_iff q 1).mp h1
    simpa using z
  refine mdef_ret (h' := h) ?_
  unfold c_is_share
  simp only [eV0, eVs, bind_ok', then_ok, q_e2, q_e1, q_eC, q_aC, q_aN, q_sPar2, q_sPar3, q_sSet, q_sRet, q_eBf, q_nBf, q_eCall, q_tst, q_tru, q_ifV, q_sIf, q_eTup, q_sPass, q_sExp, q_eLm, q_nLst, q_frz, q_thaw, q_iSeq, q_iR2, q_iR3, q_iEnumD, q_iZip, q_andX, q_andT, q_orT, q_notT, q_eCh, q_sPat, q_eSl, q_nSl, q_pS, q_pN, q_sRetN, q_tYes, q_eDct0, okL0, okL1, okL2, okL3, okL4, okL5, okL6, ent, List.map_cons, List.map_nil, List.length_cons, List.length_nil, List.set_cons_zero, List.set_cons_succ, List.replicate, List.cons_append, List.nil_append, Nat.reduceAdd, Nat.reduceSub, Nat.sub_self, Nat.sub_zero, zero_add', ↓reduceIte, Bool.false_eq_true, item0, item1, addD_ii, subD_ii, negD_i, absD_i, ltD_ii, leD_ii, gtD_ii, geD_ii, truD_bl, decide_true, decide_false, isfrac_eq, fr_num, fr_den, decide_eq_true n0, decide_eq_true n1]
theorem low_eq (n d : Int) (h : Hs) (hd : 0 < d) (hs : d.natAbs < 2 ^ 9000) : m__law_low [.int n, .int d] h = .ok (fr (Rat.divInt n d)) h := by
  have g1 : (0 : Int) < (Int.gcd n d : Int) := by
    have := Int.gcd_pos_of_ne_zero_right n (show d ≠ 0 by omega)
    omega
  have g2 : Int.gcd n d ≤ d.natAbs := Nat.le_of_dvd (by omega) (Int.gcd_dvd_natAbs_right n d)
  have g3 : ((Int.gcd n d : Int)).natAbs < 2 ^ 9000 := by rw [Int.natAbs_natCast]; exact Nat.lt_of_le_of_lt g2 hs
  have k3 : (Rat.divInt n d).num = n / (Int.gcd n d : Int) := by rw [Rat.num_divInt, Int.sign_eq_one_of_pos hd, Int.one_mul, Int.gcd_comm]
  have k4 : ((Rat.divInt n d).den : Int) = d / (Int.gcd n d : Int) := by
    rw [Rat.den_divInt, if_neg (by omega), Int.gcd_comm]
    have e : (d.natAbs : Int) = d := by omega
    rw [Int.natCast_ediv, e]
  refine mdef_ret (h' := h) ?_
  have w := gcd_while (ct := tst (e2 gtD (eV 3) (eC (.int 0)))) (body := sPar2 2 3 (aC (eV 3) (aC (e2 modD (eBf intD (aC (eV 2) aN)) (eV 3)) aN))) (mk := fun a b => [some (.int n), some (.int d), some (.int a), some (.int b)]) (fun a b h => rfl) (fun a b h _ hb => ?_) h
    (d.natAbs + 2) n.natAbs d (by omega) (by omega) (by omega)
  · unfold c__law_low
    rw [seq_nx (ρ1 := [some (.int n), some (.int d), some (.int n.natAbs), some (.int d)]) (h1 := h), seq_nx (ρ1 := [some (.int n), some (.int d), some (.int (Int.gcd n d)), some (.int 0)]) (h1 := h)]
    · simp only [eV0, eVs, bind_ok', then_ok, q_e2, q_e1, q_eC, q_aC, q_aN, q_sPar2, q_sPar3, q_sSet, q_sRet, q_eBf, q_nBf, q_eCall, q_tst, q_tru, q_ifV, q_sIf, q_eTup, q_sPass, q_sExp, q_eLm, q_nLst, q_frz, q_thaw, q_iSeq, q_iR2, q_iR3, q_iEnumD, q_iZip, q_andX, q_andT, q_orT, q_notT, q_eCh, q_sPat, q_eSl, q_nSl, q_pS, q_pN, q_sRetN, q_tYes, q_eDct0, okL0, okL1, okL2, okL3, okL4, okL5, okL6, ent, List.map_cons, List.map_nil, List.length_cons, List.length_nil, List.set_cons_zero, List.set_cons_succ, List.replicate, List.cons_append, List.nil_append, Nat.reduceAdd, Nat.reduceSub, Nat.sub_self, Nat.sub_zero, zero_add', ↓reduceIte, Bool.false_eq_true, item0, item1, addD_ii, subD_ii, negD_i, absD_i, ltD_ii, leD_ii, gtD_ii, geD_ii, truD_bl, decide_true, decide_false, divD_ii (okDiv_of (i := n) g1 g3), divD_ii (okDiv_of (i := d) g1 g3)]
      unfold fr
      rw [k3, k4]
    · rw [show Int.gcd n d = Int.gcd (n.natAbs : Int) d by simp [Int.gcd]]
      exact w
    · simp only [eV0, eVs, bind_ok', then_ok, q_e2, q_e1, q_eC, q_aC, q_aN, q_sPar2, q_sPar3, q_sSet, q_sRet, q_eBf, q_nBf, q_eCall, q_tst, q_tru, q_ifV, q_sIf, q_eTup, q_sPass, q_sExp, q_eLm, q_nLst, q_frz, q_thaw, q_iSeq, q_iR2, q_iR3, q_iEnumD, q_iZip, q_andX, q_andT, q_orT, q_notT, q_eCh, q_sPat, q_eSl, q_nSl, q_pS, q_pN, q_sRetN, q_tYes, q_eDct0, okL0, okL1, okL2, okL3, okL4, okL5, okL6, ent, List.map_cons, List.map_nil, List.length_cons, List.length_nil, List.set_cons_zero, List.set_cons_succ, List.replicate, List.cons_append, List.nil_append, Nat.reduceAdd, Nat.reduceSub, Nat.sub_self, Nat.sub_zero, zero_add', ↓reduceIte, Bool.false_eq_true, item0, item1, addD_ii, subD_ii, negD_i, absD_i, ltD_ii, leD_ii, gtD_ii, geD_ii, truD_bl, decide_true, decide_false]
  · simp only [eV0, eVs, bind_ok', then_ok, q_e2, q_e1, q_eC, q_aC, q_aN, q_sPar2, q_sPar3, q_sSet, q_sRet, q_eBf, q_nBf, q_eCall, q_tst, q_tru, q_ifV, q_sIf, q_eTup, q_sPass, q_sExp, q_eLm, q_nLst, q_frz, q_thaw, q_iSeq, q_iR2, q_iR3, q_iEnumD, q_iZip, q_andX, q_andT, q_orT, q_notT, q_eCh, q_sPat, q_eSl, q_nSl, q_pS, q_pN, q_sRetN, q_tYes, q_eDct0, okL0, okL1, okL2, okL3, okL4, okL5, okL6, ent, List.map_cons, List.map_nil, List.length_cons, List.length_nil, List.set_cons_zero, List.set_cons_succ, List.replicate, List.cons_append, List.nil_append, Nat.reduceAdd, Nat.reduceSub, Nat.sub_self, Nat.sub_zero, zero_add', ↓reduceIte, Bool.false_eq_true, item0, item1, addD_ii, subD_ii, negD_i, absD_i, ltD_ii, leD_ii, gtD_ii, geD_ii, truD_bl, decide_true, decide_false, intD_i, modD_ii hb]
theorem lplus_eq {p q : Rat} {a b : Nat} (hp : Sz a p) (hq : Sz b q) (hab : a + b ≤ 8000) (h : Hs) : m__law_plus [fr p, fr q] h = .ok (fr (p + q)) h := by
  have d0 : (0 : Int) < (p.den : Int) * (q.den : Int) := by
    have := Nat.mul_pos (den_pos p) (den_pos q)
    have e : ((p.den * q.den : Nat) : Int) = (p.den : Int) * (q.den : Int) := Int.natCast_mul ..
    omega
  refine mdef_ret (h' := h) ?_
  unfold c__law_plus
  simp only [eV0, eVs, bind_ok', then_ok, q_e2, q_e1, q_eC, q_aC, q_aN, q_sPar2, q_sPar3, q_sSet, q_sRet, q_eBf, q_nBf, q_eCall, q_tst, q_tru, q_ifV, q_sIf, q_eTup, q_sPass, q_sExp, q_eLm, q_nLst, q_frz, q_thaw, q_iSeq, q_iR2, q_iR3, q_iEnumD, q_iZip, q_andX, q_andT, q_orT, q_notT, q_eCh, q_sPat, q_eSl, q_nSl, q_pS, q_pN, q_sRetN, q_tYes, q_eDct0, okL0, okL1, okL2, okL3, okL4, okL5, okL6, ent, List.map_cons, List.map_nil, List.length_cons, List.length_nil, List.set_cons_zero, List.set_cons_succ, List.replicate, List.cons_append, List.nil_append, Nat.reduceAdd, Nat.reduceSub, Nat.sub_self, Nat.sub_zero, zero_add', ↓reduceIte, Bool.false_eq_true, item0, item1, addD_ii, subD_ii, negD_i, absD_i, ltD_ii, leD_ii, gtD_ii, geD_ii, truD_bl, decide_true, decide_false, fr_num, fr_den, mulD_ii (ok_nd hp hq hab), mulD_ii (ok_dn hp hq hab), mulD_ii (ok_dd hp hq hab), low_eq _ _ h d0 (lt9000 hp hq hab (mul_dd hp hq))]
  rw [Rat.add_def', ← Int.natCast_mul, Rat.divInt_ofNat]
/-! ### odds -/
def od (q : Rat) : Option Rat := if q = 1 then none else some (q / (1 - q))
theorem Sz.od {q r : Rat} {a : Nat} (hq : Sz a q) (e : od q = some r) : Sz (2 * a + 2) r := by
  unfold Pl.od at e
  split at e
  · cases e
  · cases e
    exact (hq.div (sz1.sub hq)).mono (by omega)
end Pl

/-! Plain laws, 6: a Trials object; from which trial on. -/
namespace Pl
open Dl Sh
local instance : Dl.Tb := ⟨fun _ => []⟩

theorem eq_of_wp {α : Type} {r : Dl.R α} {a : α} {h : Hs} (w : Wp r fun d h' => d = a ∧ h' = h) : r = .ok a h := by
  obtain ⟨d, h', e, rfl, rfl⟩ := wp_ex w
  exact e
theorem fields_at {h : Hs} {n : Nat} {C : PySem.Str} {fs : List (PySem.Str × D)} (e : h[n]? = some (.ins C fs)) : fieldsAt C h (.obj n) = some fs := by
  show (match h[n]? with
    | some (.ins C' fs) => if decide (C' = C) then some fs else none
    | _ => none) = _
  rw [e]
  exact if_pos (decide_eq_true rfl)
theorem wps_fld {C f : PySem.Str} {ce co : Env → M D} {ρ : Env} {h : Hs} {N : Env → Hs → Prop} {T : D → Hs → Prop} {v : D} {n : Nat} {fs : List (PySem.Str × D)} {h1 : Hs} (e1 : ce ρ h = .ok v h1) (e2 : co ρ h1 = .ok (.obj n) h1) (e : h1[n]? = some (.ins C fs)) (hl : fs.length < 1000) (k : N ρ (h1.set n (.ins C (putFD f v fs)))) : WpS (sFldD C f ce co ρ h) N T := by
  rw [q_sFldD, e1, then_ok, e2, then_ok, fields_at e]
  show WpS (if decide (fs.length < 1000) = true then _ else _) N T
  rw [if_pos (decide_eq_true hl)]
  exact k
theorem set_last {α : Type} {l : List α} {x y : α} : (l ++ [x]).set l.length y = l ++ [y] := by
  rw [List.set_append_right _ _ (Nat.le_refl _)]
  simp
theorem get_last {α : Type} {l t : List α} {x : α} : (l ++ x :: t)[l.length]? = some x := by
  rw [List.getElem?_append_right (Nat.le_refl _)]
  simp
/-- a Trials object -/
def TrAt (h : Hs) (i : Nat) (cs : List Rat) : Prop := ∃ fs, h[i]? = some (.ins "Trials" fs) ∧ fs.lookup ("chances" : PySem.Str) = some (.tup (cs.map fr)) ∧ fs.lookup ("looked" : PySem.Str) = some (.obj (i + 1)) ∧ fs.length < 10
theorem tr_new {cs : List Rat} {h : Hs} : TrAt (h ++ [.ins "Trials" [("chances", .tup (cs.map fr)), ("looked", .obj (h.length + 1))], .dI []]) h.length cs := by
  exact ⟨[("chances", .tup (cs.map fr)), ("looked", .obj (h.length + 1))], get_last, rfl, rfl, by simp⟩
theorem fld_ch {h : Hs} {i : Nat} {cs : List Rat} (t : TrAt h i cs) {ca : Env → M D} {ρ : Env} (e : ca ρ h = .ok (.obj i) h) : eFld "Trials" "chances" ca ρ h = .ok (.tup (cs.map fr)) h := by
  obtain ⟨fs, h1, h2, _⟩ := t
  rw [q_eFld, e, bind_ok', fields_at h1, Option.bind_some, h2]
end Pl

/-! Plain laws, 7: the trial from which to take, the program's way and the law's. -/
namespace Pl
open Dl Sh
local instance : Dl.Tb := ⟨fun _ => []⟩

theorem cutL_from {α : Type} (xs : List α) (m : Nat) : cutL xs (some (m : Int)) none = xs.drop m := by
  unfold cutL
  rw [HT.sIx_nat, HT.sIx_none]
  by_cases h : m ≤ xs.length
  · rw [Nat.min_eq_left h]
    exact List.take_of_length_le (by rw [List.length_drop]; omega)
  · rw [Nat.min_eq_right (by omega), List.drop_of_length_le (Nat.le_refl _), List.drop_of_length_le (by omega)]
    simp
theorem cutL_to {α : Type} (xs : List α) (m : Nat) : cutL xs none (some (m : Int)) = xs.take m := by
  unfold cutL
  rw [HT.sIx_nat, HT.sIx_none, List.drop_zero]
  by_cases h : m ≤ xs.length
  · rw [Nat.min_eq_left h, Nat.sub_zero]
  · rw [Nat.min_eq_right (by omega), Nat.sub_zero, List.take_of_length_le (Nat.le_refl _), List.take_of_length_le (by omega)]
theorem slD_tup_from {xs : List D} {m : Nat} {h : Hs} : sliceD (.tup xs) (some (m : Int)) none h = .ok (.tup (xs.drop m)) h := by
  show Dl.R.ok (D.tup (cutL xs (some (m : Int)) none)) h = _
  rw [cutL_from]
def so : List Rat → Rat
  | [] => 0
  | q :: cs => q / (1 - q) + so cs
def good (cs : List Rat) : Bool := decide ((1 : Rat) ∉ cs ∧ so cs < 1)
def Ff : List Rat → Option Nat
  | [] => none
  | c :: cs => match Ff cs with
    | some k => some (k + 1)
    | none => if good (c :: cs) then none else some 0
/-! ### a sum of fractions -/
end Pl

/-! Plain laws, 8: the law's own way to it; its facts. -/
namespace Pl
open Dl Sh
local instance : Dl.Tb := ⟨fun _ => []⟩

/-! ### a trial ahead, a trial behind -/
end Pl

/-! Plain laws, 9: texts that are shown, compared; the tape made; draws of chances. -/
namespace Pl
open Dl Sh
local instance : Dl.Tb := ⟨fun _ => []⟩

theorem strOk_app (a b : PySem.Str) : PySem.PyData.strOk (a ++ b) = (PySem.PyData.strOk a && PySem.PyData.strOk b) := by
  show (a.cps ++ b.cps).all _ = _
  rw [Array.all_append]
  rfl
theorem strOk_of (s : String) : PySem.PyData.strOk (PySem.Str.ofString s) = true := by
  unfold PySem.PyData.strOk
  rw [PySem.Str.ofString_eq_toList]
  simp only [List.all_toArray, List.all_map, List.all_eq_true, Function.comp_apply, decide_eq_true_eq]
  intro c _
  have := c.valid
  have h : c.val.toNat < 1114112 := by
    rcases this with h | h
    · have : c.val.toNat < 0xd800 := h
      omega
    · exact h.2
  exact h
theorem strOk_join (sep : PySem.Str) (hs : PySem.PyData.strOk sep = true) : ∀ ts : List PySem.Str, (∀ t ∈ ts, PySem.PyData.strOk t = true) → PySem.PyData.strOk (PySem.Str.join sep ts) = true
  | [], _ => by
    show (PySem.Str.empty.cps.all _) = true
    decide +kernel
  | [x], h => h x List.mem_cons_self
  | x :: y :: r, h => by
    show PySem.PyData.strOk (x ++ sep ++ PySem.Str.join sep (y :: r)) = true
    rw [strOk_app, strOk_app, h x List.mem_cons_self, hs, strOk_join sep hs (y :: r) fun t ht => h t (List.mem_cons_of_mem _ ht)]
    rfl
theorem strOk_text : ∀ (ts : List PySem.Str) (k : Nat) (acc : PySem.Str), PySem.PyData.strOk acc = true → (∀ t ∈ ts, PySem.PyData.strOk t = true) → PySem.PyData.strOk (PySem.textFrom k acc ts) = true
  | [], _, _, h, _ => h
  | t :: ts, k, acc, h, ht => by
    show PySem.PyData.strOk (PySem.textFrom (k + 1) (acc ++ (if k > 0 then ", " else "" : String) ++ t) ts) = true
    refine strOk_text ts (k + 1) _ ?_ fun x hx => ht x (List.mem_cons_of_mem _ hx)
    rw [strOk_app, strOk_app, h, ht t List.mem_cons_self, strOk_of]
    rfl
theorem str_shaped {s : PySem.Str} (h : PySem.PyData.strOk s = true) : PySem.SeqAt.shaped (.str s) = true := by
  unfold PySem.SeqAt.shaped
  simp only [PySem.PyData.canLay0, PySem.PyData.depth, h]
  rfl
theorem neD_str {s : PySem.Str} {h : Hs} (o : PySem.PyData.strOk s = true) : neD (.str s) (.str s) h = .ok (.bl false) h := by
  show (if (PySem.SeqAt.shaped (.str s) && PySem.SeqAt.shaped (.str s)) = true then _ else _) = _
  rw [str_shaped o]
  simp [PySem.PyData.eqv]
/-! ### the tape is made -/
theorem slD_scr_to {ns : List Int} {m : Nat} {h : Hs} : sliceD (.scr ns) none (some (m : Int)) h = .ok (.lst ((ns.take m).map D.int)) h := by
  rw [show sliceD (.scr ns) none (some (m : Int)) h = ((Dl.R.ok ((cutL ns none (some (m : Int))).map D.int) h : Dl.R (List D)).bind fun xs h1 => .ok (.lst xs) h1) from rfl, cutL_to]
  rfl
theorem pow_1018 {h : Hs} : powD (.int 10) (.int 18) h = .ok (.int 1000000000000000000) h := nr rfl
theorem pow_109 {h : Hs} : powD (.int 10) (.int 9) h = .ok (.int 1000000000) h := nr rfl
theorem all_ints : ∀ {l : List D}, (∀ d ∈ l, ∃ i, d = .int i) → ∃ cs : List Int, l = cs.map D.int
  | [], _ => ⟨[], rfl⟩
  | d :: l, h => by
    obtain ⟨i, rfl⟩ := h d List.mem_cons_self
    obtain ⟨cs, e⟩ := all_ints fun x hx => h x (List.mem_cons_of_mem _ hx)
    exact ⟨i :: cs, by rw [e]; rfl⟩
theorem tape_spec {ns : List Int} {Q : D → Hs → Prop} (hl : ns.length ≤ 63) (k : ∀ h, Tp h 0 → h.length = 2 → Q (.obj 1) h) : Wp (m__law_tape [.scr ns] []) Q := by
  unfold m__law_tape c__law_tape
  have s1 : ∀ ρ : Env, eSl (eV 0) pN (pS (eC (.int 1))) (some (.scr ns) :: ρ) [] = .ok (.lst ((ns.take 1).map D.int)) [] := fun ρ => by
    have z : sliceD (.scr ns) none (some 1) [] = .ok (.lst ((ns.take 1).map D.int)) [] := slD_scr_to (m := 1)
    simp only [eV0, eVs, bind_ok', then_ok, q_e2, q_e1, q_eC, q_aC, q_aN, q_sPar2, q_sPar3, q_sSet, q_sRet, q_eBf, q_nBf, q_eCall, q_tst, q_tru, q_ifV, q_sIf, q_eTup, q_sPass, q_sExp, q_eLm, q_nLst, q_frz, q_thaw, q_iSeq, q_iR2, q_iR3, q_iEnumD, q_iZip, q_andX, q_andT, q_orT, q_notT, q_eCh, q_sPat, q_eSl, q_nSl, q_pS, q_pN, q_sRetN, q_tYes, q_eDct0, okL0, okL1, okL2, okL3, okL4, okL5, okL6, ent, List.map_cons, List.map_nil, List.length_cons, List.length_nil, List.set_cons_zero, List.set_cons_succ, List.replicate, List.cons_append, List.nil_append, Nat.reduceAdd, Nat.reduceSub, Nat.sub_self, Nat.sub_zero, zero_add', ↓reduceIte, Bool.false_eq_true, item0, item1, addD_ii, subD_ii, negD_i, absD_i, ltD_ii, leD_ii, gtD_ii, geD_ii, truD_bl, decide_true, decide_false, z]
  have s63 : ∀ ρ : Env, eSl (eV 0) pN (pS (eC (.int 63))) (some (.scr ns) :: ρ) [] = .ok (.lst ((ns.take 63).map D.int)) [] := fun ρ => by
    have z : sliceD (.scr ns) none (some 63) [] = .ok (.lst ((ns.take 63).map D.int)) [] := slD_scr_to (m := 63)
    simp only [eV0, eVs, bind_ok', then_ok, q_e2, q_e1, q_eC, q_aC, q_aN, q_sPar2, q_sPar3, q_sSet, q_sRet, q_eBf, q_nBf, q_eCall, q_tst, q_tru, q_ifV, q_sIf, q_eTup, q_sPass, q_sExp, q_eLm, q_nLst, q_frz, q_thaw, q_iSeq, q_iR2, q_iR3, q_iEnumD, q_iZip, q_andX, q_andT, q_orT, q_notT, q_eCh, q_sPat, q_eSl, q_nSl, q_pS, q_pN, q_sRetN, q_tYes, q_eDct0, okL0, okL1, okL2, okL3, okL4, okL5, okL6, ent, List.map_cons, List.map_nil, List.length_cons, List.length_nil, List.set_cons_zero, List.set_cons_succ, List.replicate, List.cons_append, List.nil_append, Nat.reduceAdd, Nat.reduceSub, Nat.sub_self, Nat.sub_zero, zero_add', ↓reduceIte, Bool.false_eq_true, item0, item1, addD_ii, subD_ii, negD_i, absD_i, ltD_ii, leD_ii, gtD_ii, geD_ii, truD_bl, decide_true, decide_false, z]
  have m0 := Int.emod_nonneg (ns.take 1).sum (show (1000003 : Int) ≠ 0 by decide)
  have m1 := Int.emod_lt_of_pos (ns.take 1).sum (show (0 : Int) < 1000003 by decide)
  have p1 : ((0 : Int) < 1000003) := by decide
  rw [wp_def, wps_seq]
  have e1 : ent 3 [D.scr ns] = [some (.scr ns), none, none] := rfl
  rw [e1, q_sSet, wps_then, q_e2]
  simp only [q_e2, q_eBf, q_aC, q_aN, q_eC, s1, eV0, eVs, bind_ok', sumD_ints, intD_i, modD_ii p1, lenD_scr, addD_ii, wp_ok, wp_bad, wp_bind, wp_nox, wp_def, wps_then, wps_seq, wps_nx, wps_ret, wp_ite, wps_ite, List.set_cons_zero, List.set_cons_succ]
  generalize hs0 : (ns.take 1).sum % 1000003 + (ns.length : Int) + 1 = s0
  have b0 : 0 ≤ s0 ∧ s0 < 4294967296 := by omega
  rw [wps_for, seq_lst (s63 _), wp_ok]
  refine wps_loop (fun _ ρ h => ∃ (s : Int) (z : Option D), ρ = [some (.scr ns), some (.int s), z] ∧ 0 ≤ s ∧ s < 4294967296 ∧ h = []) _ 0 _ _ ?_ ?_ ⟨s0, none, rfl, b0.1, b0.2, rfl⟩
  · rintro j x ρ h hx ⟨s, z, rfl, a0, a1, rfl⟩
    refine ⟨rfl, [some (.scr ns), some (.int s), some x], rfl, ?_⟩
    obtain ⟨i, hi, rfl⟩ := List.mem_map.mp (List.mem_of_getElem? hx)
    have c0 := Int.emod_nonneg i (show (2147483629 : Int) ≠ 0 by decide)
    have c1 := Int.emod_lt_of_pos i (show (0 : Int) < 2147483629 by decide)
    have mm : okMul s 48271 = true := okMul_small (small_lt (by omega)) (by decide +kernel)
    simp only [eV0, eVs, bind_ok', then_ok, q_e2, q_e1, q_eC, q_aC, q_aN, q_sPar2, q_sPar3, q_sSet, q_sRet, q_eBf, q_nBf, q_eCall, q_tst, q_tru, q_ifV, q_sIf, q_eTup, q_sPass, q_sExp, q_eLm, q_nLst, q_frz, q_thaw, q_iSeq, q_iR2, q_iR3, q_iEnumD, q_iZip, q_andX, q_andT, q_orT, q_notT, q_eCh, q_sPat, q_eSl, q_nSl, q_pS, q_pN, q_sRetN, q_tYes, q_eDct0, okL0, okL1, okL2, okL3, okL4, okL5, okL6, ent, List.map_cons, List.map_nil, List.length_cons, List.length_nil, List.set_cons_zero, List.set_cons_succ, List.replicate, List.cons_append, List.nil_append, Nat.reduceAdd, Nat.reduceSub, Nat.sub_self, Nat.sub_zero, zero_add', ↓reduceIte, Bool.false_eq_true, item0, item1, addD_ii, subD_ii, negD_i, absD_i, ltD_ii, leD_ii, gtD_ii, geD_ii, truD_bl, decide_true, decide_false, wp_ok, wp_bad, wp_bind, wp_nox, wp_def, wps_then, wps_seq, wps_nx, wps_ret, wp_ite, wps_ite, mulD_ii mm, intD_i, modD_ii (show (0 : Int) < 2147483629 by decide), modD_ii (show (0 : Int) < 2147483647 by decide)]
    have d0 := Int.emod_nonneg (s * 48271 + i % 2147483629 + 11) (show (2147483647 : Int) ≠ 0 by decide)
    have d1 := Int.emod_lt_of_pos (s * 48271 + i % 2147483629 + 11) (show (0 : Int) < 2147483647 by decide)
    exact ⟨_, _, rfl, d0, by omega, trivial⟩
  · rintro ρ h ⟨s, z, rfl, a0, a1, rfl⟩
    refine ⟨rfl, ?_⟩
    have c : nLc (iSeq (eSl (eV 0) pN (pS (eC (.int 63))))) (.nm 2) [2] (tst (e2 geD (eBf absD (aC (eV 2) aN)) (e2 powD (eC (.int 10)) (eC (.int 18))))) (eBf absD (aC (eV 2) aN)) [some (.scr ns), some (.int s), z] [] =
        .ok ((((ns.take 63).map D.int).filter fun d => match d with | .int i => decide ((1000000000000000000 : Int) ≤ i.natAbs) | _ => false).map fun d => match d with | .int i => .int i.natAbs | _ => .non) [] := by
      rw [nLc_eq, seq_lst (s63 _), bind_ok']
      show (if okLen ((ns.take 63).map D.int).length = true then _ else _) = _
      rw [if_pos (okLen_of (by rw [List.length_map, List.length_take]; omega))]
      refine lcF_test rfl fun x hx => ⟨[some (.scr ns), some (.int s), some x], rfl, ?_⟩
      obtain ⟨i, hi, rfl⟩ := List.mem_map.mp hx
      refine ⟨?_, fun _ => ?_⟩
      · simp only [eV0, eVs, bind_ok', then_ok, q_e2, q_e1, q_eC, q_aC, q_aN, q_sPar2, q_sPar3, q_sSet, q_sRet, q_eBf, q_nBf, q_eCall, q_tst, q_tru, q_ifV, q_sIf, q_eTup, q_sPass, q_sExp, q_eLm, q_nLst, q_frz, q_thaw, q_iSeq, q_iR2, q_iR3, q_iEnumD, q_iZip, q_andX, q_andT, q_orT, q_notT, q_eCh, q_sPat, q_eSl, q_nSl, q_pS, q_pN, q_sRetN, q_tYes, q_eDct0, okL0, okL1, okL2, okL3, okL4, okL5, okL6, ent, List.map_cons, List.map_nil, List.length_cons, List.length_nil, List.set_cons_zero, List.set_cons_succ, List.replicate, List.cons_append, List.nil_append, Nat.reduceAdd, Nat.reduceSub, Nat.sub_self, Nat.sub_zero, zero_add', ↓reduceIte, Bool.false_eq_true, item0, item1, addD_ii, subD_ii, negD_i, absD_i, ltD_ii, leD_ii, gtD_ii, geD_ii, truD_bl, decide_true, decide_false, pow_1018]
      · simp only [eV0, eVs, bind_ok', then_ok, q_e2, q_e1, q_eC, q_aC, q_aN, q_sPar2, q_sPar3, q_sSet, q_sRet, q_eBf, q_nBf, q_eCall, q_tst, q_tru, q_ifV, q_sIf, q_eTup, q_sPass, q_sExp, q_eLm, q_nLst, q_frz, q_thaw, q_iSeq, q_iR2, q_iR3, q_iEnumD, q_iZip, q_andX, q_andT, q_orT, q_notT, q_eCh, q_sPat, q_eSl, q_nSl, q_pS, q_pN, q_sRetN, q_tYes, q_eDct0, okL0, okL1, okL2, okL3, okL4, okL5, okL6, ent, List.map_cons, List.map_nil, List.length_cons, List.length_nil, List.set_cons_zero, List.set_cons_succ, List.replicate, List.cons_append, List.nil_append, Nat.reduceAdd, Nat.reduceSub, Nat.sub_self, Nat.sub_zero, zero_add', ↓reduceIte, Bool.false_eq_true, item0, item1, addD_ii, subD_ii, negD_i, absD_i, ltD_ii, leD_ii, gtD_ii, geD_ii, truD_bl, decide_true, decide_false]
    obtain ⟨cs, hc⟩ := all_ints (l := (((ns.take 63).map D.int).filter fun d => match d with | .int i => decide ((1000000000000000000 : Int) ≤ i.natAbs) | _ => false).map fun d => match d with | .int i => .int i.natAbs | _ => .non) fun d hd => by
      obtain ⟨x, hx, rfl⟩ := List.mem_map.mp hd
      obtain ⟨i, hi, rfl⟩ := List.mem_map.mp (List.mem_filter.mp hx).1
      exact ⟨_, rfl⟩
    rw [hc] at c
    simp only [eV0, eVs, bind_ok', then_ok, q_e2, q_e1, q_eC, q_aC, q_aN, q_sPar2, q_sPar3, q_sSet, q_sRet, q_eBf, q_nBf, q_eCall, q_tst, q_tru, q_ifV, q_sIf, q_eTup, q_sPass, q_sExp, q_eLm, q_nLst, q_frz, q_thaw, q_iSeq, q_iR2, q_iR3, q_iEnumD, q_iZip, q_andX, q_andT, q_orT, q_notT, q_eCh, q_sPat, q_eSl, q_nSl, q_pS, q_pN, q_sRetN, q_tYes, q_eDct0, okL0, okL1, okL2, okL3, okL4, okL5, okL6, ent, List.map_cons, List.map_nil, List.length_cons, List.length_nil, List.set_cons_zero, List.set_cons_succ, List.replicate, List.cons_append, List.nil_append, Nat.reduceAdd, Nat.reduceSub, Nat.sub_self, Nat.sub_zero, zero_add', ↓reduceIte, Bool.false_eq_true, item0, item1, addD_ii, subD_ii, negD_i, absD_i, ltD_ii, leD_ii, gtD_ii, geD_ii, truD_bl, decide_true, decide_false, wp_ok, wp_bad, wp_bind, wp_nox, wp_def, wps_then, wps_seq, wps_nx, wps_ret, wp_ite, wps_ite, c]
    exact k _ ⟨s, 0, cs, rfl, rfl, a0, a1, Int.le_refl _, Int.le_refl _⟩ rfl
end Pl

/-! Plain laws, 10: chances that are drawn. -/
namespace Pl
open Dl Sh
local instance : Dl.Tb := ⟨fun _ => []⟩

/-- a share of a small size -/
def Sh1 (q : Rat) : Prop := 0 ≤ q ∧ q ≤ 1 ∧ Sz 40 q
theorem div_sh {n d : Int} (h0 : 0 ≤ n) (h1 : n ≤ d) (h2 : 0 < d) (h3 : d < 1099511627776) : Sh1 (Rat.divInt n d) := by
  have dp : (0 : Rat) < (d : Rat) := Rat.intCast_pos.mpr h2
  have e : Rat.divInt n d = (n : Rat) / (d : Rat) := Rat.divInt_eq_div n d
  refine ⟨?_, ?_, ?_⟩
  · exact Rat.divInt_nonneg h0 (by omega)
  · rw [e]
    have c : (n : Rat) ≤ (d : Rat) := Rat.intCast_le_intCast.mpr h1
    have m : (n : Rat) / d * d = n := Rat.div_mul_cancel (by grind)
    rcases Rat.le_total (a := (n : Rat) / d) (b := 1) with z | z
    · exact z
    · have k := Rat.mul_le_mul_of_nonneg_right z (Rat.le_of_lt dp)
      rw [m, Rat.one_mul] at k
      have eq : (n : Rat) = d := Rat.le_antisymm c k
      rw [eq, Rat.div_def, Rat.mul_inv_cancel _ (by grind)]
      exact Rat.le_refl
  · have p : (2 : Nat) ^ 40 = 1099511627776 := by decide
    exact sz_divInt (by rw [p]; omega) (by rw [p]; omega) (by omega)
theorem one_over (k : Nat) (hk : k < 1000000) : ∃ q, D.tup [.int 1, .int ((k : Int) + 1)] = fr q ∧ Sh1 q := by
  have z := div_sh (n := 1) (d := (k : Int) + 1) (by decide) (by omega) (by omega) (by omega)
  refine ⟨_, ?_, z⟩
  unfold fr
  rw [Rat.num_divInt, Rat.den_divInt, if_neg (by omega), Int.sign_eq_one_of_pos (by omega)]
  have g : Int.gcd ((k : Int) + 1) 1 = 1 := by simp
  rw [g]
  simp
  omega
theorem zero_sh : D.tup [.int 0, .int 1] = fr 0 ∧ Sh1 0 := ⟨rfl, Rat.le_refl, by decide +kernel, sz0.mono (by decide)⟩
theorem one_sh : D.tup [.int 1, .int 1] = fr 1 ∧ Sh1 1 := ⟨rfl, by decide +kernel, Rat.le_refl, sz1.mono (by decide)⟩
def DSh (d : D) : Prop := ∃ q, d = fr q ∧ Sh1 q
/-- what chances that are drawn are -/
def Drawn (qs : List Rat) : Prop := 1 ≤ qs.length ∧ qs.length ≤ 12 ∧ ∀ q ∈ qs, Sh1 q
theorem iR1_eq {cs : Env → M (List D)} {ρ : Env} {h h' : Hs} {n : Nat} (e : cs ρ h = .ok [.int n] h') (l : n ≤ 1000000) : iR1 cs ρ h = .ok ⟨rng 0 1 n, []⟩ h' := by
  rw [q_iR1, e, bind_ok']
  show (if okI n = true then Dl.R.ok (ItD.mk (rng 0 1 ((n : Int)).toNat) []) h' else .bad) = _
  rw [if_pos (okI_of (by omega) (by omega)), Int.toNat_natCast]
theorem Ge.set' {h h' : Hs} {i : Nat} {o : DO} (g : Ge h h') (hi : h.length ≤ i) : Ge h (h'.set i o) := ⟨by rw [List.length_set]; exact g.len, fun j h1 h2 => by rw [List.getElem?_set_ne (by omega)]; exact g.keep j h1 h2⟩
theorem chances_spec {h : Hs} {N : Nat} {most : Int} {Q : D → Hs → Prop} (t : Tp h N) (m1 : 1 ≤ most) (m2 : most ≤ 12) (hN : N + 50 ≤ 1000000) (k : ∀ qs h', Drawn qs → (qs.length : Int) ≤ most → Tp h' (N + 50) → Ge h h' → Q (.tup (qs.map fr)) h') : Wp (m__law_chances [.obj 1, .int most] h) Q := by
  have two := t.two
  unfold m__law_chances c__law_chances
  rw [wp_def, wps_seq]
  have e1 : ent 6 [D.obj 1, .int most] = [some (.obj 1), some (.int most), none, none, none, none] := rfl
  rw [e1]
  simp only [eV0, eVs, bind_ok', then_ok, q_e2, q_e1, q_eC, q_aC, q_aN, q_sPar2, q_sPar3, q_sSet, q_sRet, q_eBf, q_nBf, q_eCall, q_tst, q_tru, q_ifV, q_sIf, q_eTup, q_sPass, q_sExp, q_eLm, q_nLst, q_frz, q_thaw, q_iSeq, q_iR2, q_iR3, q_iEnumD, q_iZip, q_andX, q_andT, q_orT, q_notT, q_eCh, q_sPat, q_eSl, q_nSl, q_pS, q_pN, q_sRetN, q_tYes, q_eDct0, okL0, okL1, okL2, okL3, okL4, okL5, okL6, ent, List.map_cons, List.map_nil, List.length_cons, List.length_nil, List.set_cons_zero, List.set_cons_succ, List.replicate, List.cons_append, List.nil_append, Nat.reduceAdd, Nat.reduceSub, Nat.sub_self, Nat.sub_zero, zero_add', ↓reduceIte, Bool.false_eq_true, item0, item1, addD_ii, subD_ii, negD_i, absD_i, ltD_ii, leD_ii, gtD_ii, geD_ii, truD_bl, decide_true, decide_false, wp_ok, wp_bad, wp_bind, wp_nox, wp_def, wps_then, wps_seq, wps_nx, wps_ret, wp_ite, wps_ite]
  refine draw_spec (t.app (l := [.lst []])) (sides := most) (by omega) (by omega) (by omega) fun d h1 d0 d1 t1 g1 => ?_
  obtain ⟨n, rfl⟩ : ∃ n : Nat, d = n := ⟨d.toNat, by omega⟩
  have f0 : h1[h.length]? = some (.lst []) := g1.at two get_last
  have gg : Ge h h1 := (Ge.app (l := [.lst []]) two).trans g1
  have ir : iR1 (aC (eV 3) aN) [some (.obj 1), some (.int most), some (.obj h.length), some (.int (1 + (n : Int))), none, none] h1 = .ok ⟨rng 0 1 (n + 1), []⟩ h1 := iR1_eq (n := n + 1) (by simp only [eV0, eVs, bind_ok', then_ok, q_e2, q_e1, q_eC, q_aC, q_aN, q_sPar2, q_sPar3, q_sSet, q_sRet, q_eBf, q_nBf, q_eCall, q_tst, q_tru, q_ifV, q_sIf, q_eTup, q_sPass, q_sExp, q_eLm, q_nLst, q_frz, q_thaw, q_iSeq, q_iR2, q_iR3, q_iEnumD, q_iZip, q_andX, q_andT, q_orT, q_notT, q_eCh, q_sPat, q_eSl, q_nSl, q_pS, q_pN, q_sRetN, q_tYes, q_eDct0, okL0, okL1, okL2, okL3, okL4, okL5, okL6, ent, List.map_cons, List.map_nil, List.length_cons, List.length_nil, List.set_cons_zero, List.set_cons_succ, List.replicate, List.cons_append, List.nil_append, Nat.reduceAdd, Nat.reduceSub, Nat.sub_self, Nat.sub_zero, zero_add', ↓reduceIte, Bool.false_eq_true, item0, item1, addD_ii, subD_ii, negD_i, absD_i, ltD_ii, leD_ii, gtD_ii, geD_ii, truD_bl, decide_true, decide_false]; congr 2; simp; omega) (by omega)
  simp only [addD_ii, wp_ok]
  rw [wps_for, ir, wp_ok]
  refine wps_loop (fun j ρ h' => Tp h' (N + 1 + 3 * j) ∧ Ge h h' ∧ ∃ (qs : List Rat) (y z : Option D), ρ = [some (.obj 1), some (.int most), some (.obj h.length), some (.int (1 + (n : Int))), y, z] ∧ h'[h.length]? = some (.lst (qs.map fr)) ∧ qs.length = j ∧ ∀ q ∈ qs, Sh1 q) _ 0 _ _ ?_ ?_ ⟨t1, gg, [], none, none, rfl, f0, rfl, by simp⟩
  · rintro j x ρ h2 hx ⟨t2, g2, qs, y, z, rfl, fq, lq, sq⟩
    rw [Nat.zero_add] at t2 lq ⊢
    have hj : j < n + 1 := by
      have := (List.getElem?_eq_some_iff.mp hx).1
      rwa [rng_len] at this
    rw [rng_at _ _ _ _ hj] at hx
    cases hx
    refine ⟨rfl, [some (.obj 1), some (.int most), some (.obj h.length), some (.int (1 + (n : Int))), some (.int (0 + (j : Int) * 1)), z], rfl, ?_⟩
    simp only [eV0, eVs, bind_ok', then_ok, q_e2, q_e1, q_eC, q_aC, q_aN, q_sPar2, q_sPar3, q_sSet, q_sRet, q_eBf, q_nBf, q_eCall, q_tst, q_tru, q_ifV, q_sIf, q_eTup, q_sPass, q_sExp, q_eLm, q_nLst, q_frz, q_thaw, q_iSeq, q_iR2, q_iR3, q_iEnumD, q_iZip, q_andX, q_andT, q_orT, q_notT, q_eCh, q_sPat, q_eSl, q_nSl, q_pS, q_pN, q_sRetN, q_tYes, q_eDct0, okL0, okL1, okL2, okL3, okL4, okL5, okL6, ent, List.map_cons, List.map_nil, List.length_cons, List.length_nil, List.set_cons_zero, List.set_cons_succ, List.replicate, List.cons_append, List.nil_append, Nat.reduceAdd, Nat.reduceSub, Nat.sub_self, Nat.sub_zero, zero_add', ↓reduceIte, Bool.false_eq_true, item0, item1, addD_ii, subD_ii, negD_i, absD_i, ltD_ii, leD_ii, gtD_ii, geD_ii, truD_bl, decide_true, decide_false, wp_ok, wp_bad, wp_bind, wp_nox, wp_def, wps_then, wps_seq, wps_nx, wps_ret, wp_ite, wps_ite, pow_109, Int.zero_add, Int.mul_one]
    refine any_spec t2 (by simp) (by simp) (by omega) fun b h3 hb t3 g3 => ?_
    obtain ⟨v, rfl, v1, v2⟩ : ∃ v : Int, b = .int v ∧ 1 ≤ v ∧ v ≤ 1000000000 := by
      simp only [List.mem_cons, List.not_mem_nil, or_false] at hb
      rcases hb with e | e | e | e | e | e | e <;> exact ⟨_, e, by omega, by omega⟩
    simp only [eV0, eVs, bind_ok', then_ok, q_e2, q_e1, q_eC, q_aC, q_aN, q_sPar2, q_sPar3, q_sSet, q_sRet, q_eBf, q_nBf, q_eCall, q_tst, q_tru, q_ifV, q_sIf, q_eTup, q_sPass, q_sExp, q_eLm, q_nLst, q_frz, q_thaw, q_iSeq, q_iR2, q_iR3, q_iEnumD, q_iZip, q_andX, q_andT, q_orT, q_notT, q_eCh, q_sPat, q_eSl, q_nSl, q_pS, q_pN, q_sRetN, q_tYes, q_eDct0, okL0, okL1, okL2, okL3, okL4, okL5, okL6, ent, List.map_cons, List.map_nil, List.length_cons, List.length_nil, List.set_cons_zero, List.set_cons_succ, List.replicate, List.cons_append, List.nil_append, Nat.reduceAdd, Nat.reduceSub, Nat.sub_self, Nat.sub_zero, zero_add', ↓reduceIte, Bool.false_eq_true, item0, item1, addD_ii, subD_ii, negD_i, absD_i, ltD_ii, leD_ii, gtD_ii, geD_ii, truD_bl, decide_true, decide_false, wp_ok, wp_bad, wp_bind, wp_nox, wp_def, wps_then, wps_seq, wps_nx, wps_ret, wp_ite, wps_ite]
    have g23 := g2.trans g3
    have fq3 : h3[h.length]? = some (.lst (qs.map fr)) := g3.at two fq
    rw [lstAt_obj fq3]
    simp only [eV0, eVs, bind_ok', then_ok, q_e2, q_e1, q_eC, q_aC, q_aN, q_sPar2, q_sPar3, q_sSet, q_sRet, q_eBf, q_nBf, q_eCall, q_tst, q_tru, q_ifV, q_sIf, q_eTup, q_sPass, q_sExp, q_eLm, q_nLst, q_frz, q_thaw, q_iSeq, q_iR2, q_iR3, q_iEnumD, q_iZip, q_andX, q_andT, q_orT, q_notT, q_eCh, q_sPat, q_eSl, q_nSl, q_pS, q_pN, q_sRetN, q_tYes, q_eDct0, okL0, okL1, okL2, okL3, okL4, okL5, okL6, ent, List.map_cons, List.map_nil, List.length_cons, List.length_nil, List.set_cons_zero, List.set_cons_succ, List.replicate, List.cons_append, List.nil_append, Nat.reduceAdd, Nat.reduceSub, Nat.sub_self, Nat.sub_zero, zero_add', ↓reduceIte, Bool.false_eq_true, item0, item1, addD_ii, subD_ii, negD_i, absD_i, ltD_ii, leD_ii, gtD_ii, geD_ii, truD_bl, decide_true, decide_false, wp_ok, wp_bad, wp_bind, wp_nox, wp_def, wps_then, wps_seq, wps_nx, wps_ret, wp_ite, wps_ite]
    refine draw_spec t3 (sides := v + 1) (by omega) (by omega) (by omega) fun d h4 d0 d1 t4 g4 => ?_
    have low := low_eq d v h4 (by omega) (Nat.lt_of_lt_of_le (show v.natAbs < 2 ^ 64 by omega) pow18)
    have m6 := mulD_l (x := fr (Rat.divInt d v)) (k := 6) (h := h4) (by decide)
    have m6' : mulD (.lst [fr (Rat.divInt d v)]) (.int 6) h4 = .ok (.lst (List.replicate 6 (fr (Rat.divInt d v)))) h4 := m6
    have ad : addD (.lst (List.replicate 6 (fr (Rat.divInt d v)))) (.lst [.tup [.int 1, .int ((j : Int) + 1)], .tup [.int 0, .int 1], .tup [.int 1, .int 1]]) h4 = .ok (.lst (List.replicate 6 (fr (Rat.divInt d v)) ++ [.tup [.int 1, .int ((j : Int) + 1)], .tup [.int 0, .int 1], .tup [.int 1, .int 1]])) h4 := addD_ll (by simp)
    simp only [q_nLst, q_frz, q_eTup, q_aC, q_aN, q_eC, q_e2, eV0, eVs, bind_ok', wp_bind, wp_ok, low, m6', ad, addD_ii, List.length_cons, List.length_nil, okL1, okL2, okL3, ↓reduceIte, Nat.reduceAdd, Nat.zero_add]
    refine any_spec t4 (by simp) (by simp) (by omega) fun b h5 hb t5 g5 => ?_
    obtain ⟨q, rfl, hq⟩ : DSh b := by
      rcases List.mem_append.mp hb with e | e
      · exact ⟨_, List.eq_of_mem_replicate e, div_sh d0 (by omega) (by omega) (by omega)⟩
      · simp only [List.mem_cons, List.not_mem_nil, or_false] at e
        rcases e with e | e | e
        · rw [e]; exact one_over j (by omega)
        · exact ⟨0, e, zero_sh.2⟩
        · exact ⟨1, e, one_sh.2⟩
    have fq5 : h5[h.length]? = some (.lst (qs.map fr)) := (g4.trans g5).at two fq3
    simp only [app_obj fq5 (by rw [List.length_map]; omega), wp_ok, wps_nx]
    have g25 := (g23.trans g4).trans g5
    have lh : h.length < h5.length := (List.getElem?_eq_some_iff.mp fq5).1
    refine ⟨(t5.set two).mono (by omega), g25.set' (Nat.le_refl _), qs ++ [q], _, _, rfl, ?_, by rw [List.length_append, lq]; rfl, fun x hx => ?_⟩
    · rw [List.getElem?_set_self lh, List.map_append]
      rfl
    · rcases List.mem_append.mp hx with e | e
      · exact sq x e
      · rw [List.mem_singleton.mp e]; exact hq
  · rintro ρ h2 ⟨t2, g2, qs, y, z, rfl, fq, lq, sq⟩
    refine ⟨rfl, ?_⟩
    rw [Nat.zero_add, rng_len] at t2 lq
    have z := tupD_obj fq
    simp only [eV0, eVs, bind_ok', then_ok, q_e2, q_e1, q_eC, q_aC, q_aN, q_sPar2, q_sPar3, q_sSet, q_sRet, q_eBf, q_nBf, q_eCall, q_tst, q_tru, q_ifV, q_sIf, q_eTup, q_sPass, q_sExp, q_eLm, q_nLst, q_frz, q_thaw, q_iSeq, q_iR2, q_iR3, q_iEnumD, q_iZip, q_andX, q_andT, q_orT, q_notT, q_eCh, q_sPat, q_eSl, q_nSl, q_pS, q_pN, q_sRetN, q_tYes, q_eDct0, okL0, okL1, okL2, okL3, okL4, okL5, okL6, ent, List.map_cons, List.map_nil, List.length_cons, List.length_nil, List.set_cons_zero, List.set_cons_succ, List.replicate, List.cons_append, List.nil_append, Nat.reduceAdd, Nat.reduceSub, Nat.sub_self, Nat.sub_zero, zero_add', ↓reduceIte, Bool.false_eq_true, item0, item1, addD_ii, subD_ii, negD_i, absD_i, ltD_ii, leD_ii, gtD_ii, geD_ii, truD_bl, decide_true, decide_false, wp_ok, wp_bad, wp_bind, wp_nox, wp_def, wps_then, wps_seq, wps_nx, wps_ret, wp_ite, wps_ite, z]
    exact k qs h2 ⟨by omega, by omega, sq⟩ (by omega) (t2.mono (by omega)) g2
end Pl

/-! Plain laws, 11: draws in general; the hand. -/
namespace Pl
open Dl Sh
local instance : Dl.Tb := ⟨fun _ => []⟩

/-- what stood from b on stands -/
structure Gb (b : Nat) (h h' : Hs) : Prop where
  len : h.length ≤ h'.length
  keep : ∀ j, b ≤ j → j < h.length → h'[j]? = h[j]?
section
variable {b : Nat}
theorem Gb.refl {h : Hs} : Gb b h h := ⟨Nat.le_refl _, fun _ _ _ => rfl⟩
theorem Gb.trans {x y z : Hs} (p : Gb b x y) (q : Gb b y z) : Gb b x z := ⟨Nat.le_trans p.len q.len, fun j h1 h2 => (q.keep j h1 (Nat.lt_of_lt_of_le h2 p.len)).trans (p.keep j h1 h2)⟩
theorem Gb.set {h : Hs} {i : Nat} {o : DO} (hi : i < b) : Gb b h (h.set i o) := ⟨by rw [List.length_set]; exact Nat.le_refl _, fun j h1 _ => List.getElem?_set_ne (by omega)⟩
theorem Gb.app {h : Hs} {l : List DO} : Gb b h (h ++ l) := ⟨by rw [List.length_append]; omega, fun j _ h2 => List.getElem?_append_left h2⟩
theorem Gb.at {h h' : Hs} (g : Gb b h h') {j : Nat} {o : DO} (hj : b ≤ j) (e : h[j]? = some o) : h'[j]? = some o := (g.keep j hj (List.getElem?_eq_some_iff.mp e).1).trans e
theorem Gb.set' {h h' : Hs} {i : Nat} {o : DO} (g : Gb b h h') (hi : h.length ≤ i) : Gb b h (h'.set i o) := ⟨by rw [List.length_set]; exact g.len, fun j h1 h2 => by rw [List.getElem?_set_ne (by omega)]; exact g.keep j h1 h2⟩
end
/-- a way to draw: dm, with the thing o, what stands below b -/
structure Dr (dm : List D → M D) (o : D) (b : Nat) (T : Hs → Nat → Prop) : Prop where
  len : ∀ {h N}, T h N → b ≤ h.length
  app : ∀ {h N} {l : List DO}, T h N → T (h ++ l) N
  set : ∀ {h N i} {x : DO}, T h N → b ≤ i → T (h.set i x) N
  mono : ∀ {h N M}, T h N → N ≤ M → T h M
  draw : ∀ {h : Hs} {N : Nat} {sides : Int} {Q : D → Hs → Prop}, T h N → 0 < sides → sides < 18446744073709551616 → N < 1000000 → (∀ d h', 0 ≤ d → d < sides → T h' (N + 1) → Gb b h h' → Q (.int d) h') → Wp (dm [o, .int sides] h) Q
theorem tape_dr : Dr m__law_draw (.obj 1) 2 Tp := ⟨fun t => t.two, fun t => t.app, fun t l => t.set l, fun t l => t.mono l, fun t a b c k => draw_spec t a b c fun d h' p q r s => k d h' p q r ⟨s.len, s.keep⟩⟩
section
variable {dm : List D → M D} {o : D} {b : Nat} {T : Hs → Nat → Prop} (R : Dr dm o b T)
include R
theorem Dr.any {h : Hs} {N : Nat} {xs : List D} {Q : D → Hs → Prop} (t : T h N) (hx : xs ≠ []) (hl : xs.length ≤ 1000000) (hN : N < 1000000) (k : ∀ d h', d ∈ xs → T h' (N + 1) → Gb b h h' → Q d h') : Wp (mDef 2 (sRet (e2 itemD (eV 1) (eCall 2 dm (aC (eV 0) (aC (eBf lenD (aC (eV 1) aN)) aN))))) [o, .lst xs] h) Q := by
  have hp : 0 < xs.length := List.length_pos_iff.mpr hx
  simp only [eV0, eVs, bind_ok', then_ok, q_e2, q_e1, q_eC, q_aC, q_aN, q_sPar2, q_sPar3, q_sSet, q_sRet, q_eBf, q_nBf, q_eCall, q_tst, q_tru, q_ifV, q_sIf, q_eTup, q_sPass, q_sExp, q_eLm, q_nLst, q_frz, q_thaw, q_iSeq, q_iR2, q_iR3, q_iEnumD, q_iZip, q_andX, q_andT, q_orT, q_notT, q_eCh, q_sPat, q_eSl, q_nSl, q_pS, q_pN, q_sRetN, q_tYes, q_eDct0, okL0, okL1, okL2, okL3, okL4, okL5, okL6, ent, List.map_cons, List.map_nil, List.length_cons, List.length_nil, List.set_cons_zero, List.set_cons_succ, List.replicate, List.cons_append, List.nil_append, Nat.reduceAdd, Nat.reduceSub, Nat.sub_self, Nat.sub_zero, zero_add', ↓reduceIte, Bool.false_eq_true, item0, item1, addD_ii, subD_ii, negD_i, absD_i, ltD_ii, leD_ii, gtD_ii, geD_ii, truD_bl, decide_true, decide_false, wp_ok, wp_bad, wp_bind, wp_nox, wp_def, wps_then, wps_seq, wps_nx, wps_ret, wp_ite, wps_ite, lenD_lst]
  refine R.draw t (sides := xs.length) (by omega) (by omega) hN fun d h' d0 d1 t' g => ?_
  obtain ⟨i, rfl⟩ : ∃ i : Nat, d = i := ⟨d.toNat, by omega⟩
  have hi : i < xs.length := by omega
  rw [item_lst (List.getElem?_eq_getElem hi), wp_ok]
  exact k _ _ (List.getElem_mem hi) t' g
end
/-! ### the hand -/
/-- the hand stands at 0; N bounds the draws so far -/
structure Hd (h : Hs) (N : Nat) : Prop where
  ex : ∃ (cs : List Int) (p : Nat) (z s n : Int), h[0]? = some (.lst [.lst (cs.map D.int), .int p, .int z, .int s, .int n]) ∧ (∀ c ∈ cs, 0 ≤ c ∧ PySem.Builtin.Int.intBits c ≤ 1048576) ∧ 0 ≤ z ∧ 0 ≤ s ∧ s < 4294967296 ∧ 0 ≤ n ∧ n ≤ N
theorem Hd.one {h : Hs} {N : Nat} (t : Hd h N) : 1 ≤ h.length := by
  obtain ⟨cs, p, z, s, n, h1, _⟩ := t.ex
  exact (List.getElem?_eq_some_iff.mp h1).1
end Pl

/-! Plain laws, 12: products of fractions; what is left when none is good; the shares of the last good ones. -/
namespace Pl
open Dl Sh
local instance : Dl.Tb := ⟨fun _ => []⟩

section
variable {p q : Rat} {a b : Nat} (hp : Sz a p) (hq : Sz b q) (hab : a + b ≤ 8000)
include hp hq hab
theorem product_eq (h : Hs) : m_product [fr p, fr q] h = .ok (fr (p * q)) h := by
  refine mdef_ret (h' := h) ?_
  unfold c_product
  have nn : okMul p.num q.num = true := okMul_of hp.1 hq.1 (by omega)
  simp only [eV0, eVs, bind_ok', then_ok, q_e2, q_e1, q_eC, q_aC, q_aN, q_sPar2, q_sPar3, q_sSet, q_sRet, q_eBf, q_nBf, q_eCall, q_tst, q_tru, q_ifV, q_sIf, q_eTup, q_sPass, q_sExp, q_eLm, q_nLst, q_frz, q_thaw, q_iSeq, q_iR2, q_iR3, q_iEnumD, q_iZip, q_andX, q_andT, q_orT, q_notT, q_eCh, q_sPat, q_eSl, q_nSl, q_pS, q_pN, q_sRetN, q_tYes, q_eDct0, okL0, okL1, okL2, okL3, okL4, okL5, okL6, ent, List.map_cons, List.map_nil, List.length_cons, List.length_nil, List.set_cons_zero, List.set_cons_succ, List.replicate, List.cons_append, List.nil_append, Nat.reduceAdd, Nat.reduceSub, Nat.sub_self, Nat.sub_zero, zero_add', ↓reduceIte, Bool.false_eq_true, item0, item1, addD_ii, subD_ii, negD_i, absD_i, ltD_ii, leD_ii, gtD_ii, geD_ii, truD_bl, decide_true, decide_false, fr_num, fr_den, mulD_ii nn, mulD_ii (ok_dd hp hq hab), lowest_eq _ _ h (dd_ne (p := p) (q := q)) (lt9000 hp hq hab (mul_dd hp hq))]
  rw [Rat.mul_def', ← Int.natCast_mul, Rat.divInt_ofNat]
theorem lmul_eq (h : Hs) : m__law_mul [fr p, fr q] h = .ok (fr (p * q)) h := by
  have d0 : (0 : Int) < (p.den : Int) * (q.den : Int) := by
    have := Nat.mul_pos (den_pos p) (den_pos q)
    have e : ((p.den * q.den : Nat) : Int) = (p.den : Int) * (q.den : Int) := Int.natCast_mul ..
    omega
  refine mdef_ret (h' := h) ?_
  unfold c__law_mul
  have nn : okMul p.num q.num = true := okMul_of hp.1 hq.1 (by omega)
  simp only [eV0, eVs, bind_ok', then_ok, q_e2, q_e1, q_eC, q_aC, q_aN, q_sPar2, q_sPar3, q_sSet, q_sRet, q_eBf, q_nBf, q_eCall, q_tst, q_tru, q_ifV, q_sIf, q_eTup, q_sPass, q_sExp, q_eLm, q_nLst, q_frz, q_thaw, q_iSeq, q_iR2, q_iR3, q_iEnumD, q_iZip, q_andX, q_andT, q_orT, q_notT, q_eCh, q_sPat, q_eSl, q_nSl, q_pS, q_pN, q_sRetN, q_tYes, q_eDct0, okL0, okL1, okL2, okL3, okL4, okL5, okL6, ent, List.map_cons, List.map_nil, List.length_cons, List.length_nil, List.set_cons_zero, List.set_cons_succ, List.replicate, List.cons_append, List.nil_append, Nat.reduceAdd, Nat.reduceSub, Nat.sub_self, Nat.sub_zero, zero_add', ↓reduceIte, Bool.false_eq_true, item0, item1, addD_ii, subD_ii, negD_i, absD_i, ltD_ii, leD_ii, gtD_ii, geD_ii, truD_bl, decide_true, decide_false, fr_num, fr_den, mulD_ii nn, mulD_ii (ok_dd hp hq hab), low_eq _ _ h d0 (lt9000 hp hq hab (mul_dd hp hq))]
  rw [Rat.mul_def', ← Int.natCast_mul, Rat.divInt_ofNat]
end
theorem one_sub (q : Rat) : 1 - q = Rat.divInt (q.den - q.num) q.den := by
  have qe : q = Rat.divInt q.num q.den := (Rat.num_divInt_den q).symm
  have dn : (q.den : Int) ≠ 0 := by have := den_pos q; omega
  conv => lhs; rw [qe]
  rw [Rat.divInt_eq_div, Rat.divInt_eq_div]
  have dn' : ((q.den : Int) : Rat) ≠ 0 := by
    intro y
    exact dn (by simpa using y)
  rw [Rat.intCast_sub]
  grind
/-! ### a bottom that all have -/
def Iq (d : Nat) (q : Rat) : Prop := ∃ m : Int, q = Rat.divInt m d
theorem Iq.self (q : Rat) : Iq q.den q := ⟨q.num, (Rat.num_divInt_den q).symm⟩
theorem Iq.one : Iq 1 1 := ⟨1, by decide +kernel⟩
theorem Iq.zero : Iq 1 0 := ⟨0, by decide +kernel⟩
theorem Iq.mul {a b : Nat} {p q : Rat} (x : Iq a p) (y : Iq b q) : Iq (a * b) (p * q) := by
  obtain ⟨m, rfl⟩ := x
  obtain ⟨n, rfl⟩ := y
  exact ⟨m * n, by rw [Rat.divInt_mul_divInt, Int.natCast_mul]⟩
theorem Iq.up {a : Nat} {p : Rat} (x : Iq a p) {b : Nat} (h : a ∣ b) (hb : 0 < b) : Iq b p := by
  obtain ⟨m, rfl⟩ := x
  obtain ⟨k, rfl⟩ := h
  have k0 : (k : Int) ≠ 0 := fun z => by
    have : k = 0 := by omega
    subst this
    simp at hb
  exact ⟨m * k, by rw [Int.natCast_mul, Rat.divInt_mul_right k0]⟩
theorem Iq.add {d : Nat} {p q : Rat} (x : Iq d p) (y : Iq d q) : Iq d (p + q) := by
  obtain ⟨m, rfl⟩ := x
  obtain ⟨n, rfl⟩ := y
  exact ⟨m + n, by rw [Rat.divInt_eq_div, Rat.divInt_eq_div, Rat.divInt_eq_div, Rat.div_def, Rat.div_def, Rat.div_def, ← Rat.add_mul, Rat.intCast_add]⟩
theorem Iq.rest (q : Rat) : Iq q.den (1 - q) := ⟨_, one_sub q⟩
theorem Iq.sz {d b k : Nat} {q : Rat} (x : Iq d q) (h0 : 0 < d) (hb : k * d < 2 ^ b) (hk : 0 < k) (q0 : 0 ≤ q) (q1 : q ≤ (k : Int)) : Sz b q := by
  have dl : q.den ≤ d := by
    obtain ⟨m, rfl⟩ := x
    rw [Rat.den_divInt, if_neg (by omega)]
    exact Nat.div_le_self _ _
  have n0 : (0 : Int) ≤ q.num := Rat.num_nonneg.mpr q0
  have n1 : q.num ≤ k * q.den := by
    have z := (Rat.le_iff q ((k : Int) : Rat)).mp q1
    simpa using z
  have kd : k * q.den ≤ k * d := Nat.mul_le_mul_left _ dl
  have k1 : d ≤ k * d := Nat.le_mul_of_pos_left _ hk
  refine ⟨?_, by omega⟩
  have e : ((k * q.den : Nat) : Int) = (k : Int) * (q.den : Int) := Int.natCast_mul ..
  omega
theorem Iq.sz1 {d b : Nat} {q : Rat} (x : Iq d q) (h0 : 0 < d) (hb : d < 2 ^ b) (q0 : 0 ≤ q) (q1 : q ≤ 1) : Sz b q := x.sz (k := 1) h0 (by omega) (by decide) q0 (by simpa using q1)
def Dd : List Rat → Nat
  | [] => 1
  | c :: cs => c.den * Dd cs
theorem Dd_pos : ∀ cs : List Rat, 0 < Dd cs
  | [] => Nat.one_pos
  | c :: cs => Nat.mul_pos (den_pos c) (Dd_pos cs)
theorem Dd_le {a : Nat} : ∀ {cs : List Rat}, (∀ c ∈ cs, Sz a c) → Dd cs ≤ 2 ^ (a * cs.length)
  | [], _ => Nat.le_refl _
  | c :: cs, h => by
    have h1 := (h c List.mem_cons_self).2
    have h2 := Dd_le (cs := cs) fun x hx => h x (List.mem_cons_of_mem _ hx)
    rw [List.length_cons, Nat.mul_succ, Nat.add_comm, Nat.pow_add]
    exact Nat.mul_le_mul (Nat.le_of_lt h1) h2
theorem Dd_app : ∀ (xs ys : List Rat), Dd (xs ++ ys) = Dd xs * Dd ys
  | [], ys => (Nat.one_mul _).symm
  | x :: xs, ys => by
    show x.den * Dd (xs ++ ys) = x.den * Dd xs * Dd ys
    rw [Dd_app xs ys, Nat.mul_assoc]
theorem Dd_drop (cs : List Rat) (m : Nat) : Dd (cs.drop m) ∣ Dd cs := by
  conv => rhs; rw [← List.take_append_drop m cs, Dd_app]
  exact Nat.dvd_mul_left _ _
/-! ### none is good -/
def nf : List Rat → Rat
  | [] => 1
  | c :: cs => (1 - c) * nf cs
def ls : List Rat → List Rat
  | [] => []
  | c :: cs => c * nf cs :: ls cs
def In1 (q : Rat) : Prop := 0 ≤ q ∧ q ≤ 1
theorem In1.rest {q : Rat} (h : In1 q) : In1 (1 - q) := ⟨by have := h.2; grind, by have := h.1; grind⟩
theorem In1.mul {p q : Rat} (h : In1 p) (k : In1 q) : In1 (p * q) := ⟨Rat.mul_nonneg h.1 k.1, by
  have z := Rat.mul_le_mul_of_nonneg_left k.2 h.1
  rw [Rat.mul_one] at z
  exact Rat.le_trans z h.2⟩
theorem In1.one : In1 1 := ⟨by decide +kernel, Rat.le_refl⟩
theorem nf_in : ∀ {cs : List Rat}, (∀ c ∈ cs, In1 c) → In1 (nf cs)
  | [], _ => .one
  | c :: cs, h => (h c List.mem_cons_self).rest.mul (nf_in fun x hx => h x (List.mem_cons_of_mem _ hx))
theorem nf_iq : ∀ cs : List Rat, Iq (Dd cs) (nf cs)
  | [] => .one
  | c :: cs => (Iq.rest c).mul (nf_iq cs)
theorem ls_at : ∀ {cs : List Rat} {i : Nat} {c : Rat}, cs[i]? = some c → (ls cs)[i]? = some (c * nf (cs.drop (i + 1)))
  | [], _, _, e => by simp at e
  | c :: cs, 0, _, e => by
    simp at e
    subst e
    rfl
  | c :: cs, i + 1, d, e => by
    have z := ls_at (cs := cs) (i := i) (c := d) (by simpa using e)
    unfold ls
    rw [List.getElem?_cons_succ, z]
    rfl
theorem ls_in : ∀ {cs : List Rat}, (∀ c ∈ cs, In1 c) → ∀ q ∈ ls cs, In1 q
  | [], _, q, hq => by simp [ls] at hq
  | c :: cs, h, q, hq => by
    unfold ls at hq
    rcases List.mem_cons.mp hq with e | e
    · rw [e]
      exact (h c List.mem_cons_self).mul (nf_in fun x hx => h x (List.mem_cons_of_mem _ hx))
    · exact ls_in (fun x hx => h x (List.mem_cons_of_mem _ hx)) q e
theorem ls_iq : ∀ {cs : List Rat}, ∀ q ∈ ls cs, Iq (Dd cs) q
  | [], q, hq => by simp [ls] at hq
  | c :: cs, q, hq => by
    unfold ls at hq
    rcases List.mem_cons.mp hq with e | e
    · rw [e]
      exact (Iq.self c).mul (nf_iq cs)
    · exact (ls_iq q e).up (Nat.dvd_mul_left _ _) (Dd_pos _)
/-- chances of a size, all bottoms together below 2 ^ B -/
structure Cs (B : Nat) (cs : List Rat) : Prop where
  one : ∀ c ∈ cs, In1 c
  dd : Dd cs < 2 ^ B
theorem Cs.den {B : Nat} {cs : List Rat} (k : Cs B cs) {c : Rat} (hc : c ∈ cs) : c.den < 2 ^ B := by
  have d : ∀ {cs : List Rat}, c ∈ cs → c.den ∣ Dd cs := fun {cs} h => by
    induction cs with
    | nil => simp at h
    | cons x xs ih =>
      rcases List.mem_cons.mp h with e | e
      · rw [e]; exact Nat.dvd_mul_right _ _
      · exact Nat.dvd_trans (ih e) (Nat.dvd_mul_left _ _)
  exact Nat.lt_of_le_of_lt (Nat.le_of_dvd (Dd_pos _) (d hc)) k.dd
theorem Cs.sz {B : Nat} {cs : List Rat} (k : Cs B cs) {c : Rat} (hc : c ∈ cs) : Sz B c := (Iq.self c).sz1 (den_pos c) (k.den hc) (k.one c hc).1 (k.one c hc).2
theorem Cs.drop {B : Nat} {cs : List Rat} (k : Cs B cs) (m : Nat) : Cs B (cs.drop m) := ⟨fun c hc => k.one c (List.mem_of_mem_drop hc), Nat.lt_of_le_of_lt (Nat.le_of_dvd (Dd_pos _) (Dd_drop cs m)) k.dd⟩
theorem Cs.take {B : Nat} {cs : List Rat} (k : Cs B cs) (m : Nat) : Cs B (cs.take m) := ⟨fun c hc => k.one c (List.mem_of_mem_take hc), Nat.lt_of_le_of_lt (Nat.le_of_dvd (Dd_pos _) (by
  conv => rhs; rw [← List.take_append_drop m cs, Dd_app]
  exact Nat.dvd_mul_right _ _)) k.dd⟩
theorem Cs.nfz {B : Nat} {cs : List Rat} (k : Cs B cs) : Sz B (nf cs) := (nf_iq cs).sz1 (Dd_pos _) k.dd (nf_in k.one).1 (nf_in k.one).2
theorem Cs.lsz {B : Nat} {cs : List Rat} (k : Cs B cs) {q : Rat} (hq : q ∈ ls cs) : Sz B q := (ls_iq q hq).sz1 (Dd_pos _) k.dd (ls_in k.one q hq).1 (ls_in k.one q hq).2
theorem nf_loop {B : Nat} (hB : B ≤ 2000) {h : Hs} {N : Env → Hs → Prop} {T : D → Hs → Prop} {d0 d1 : D} : ∀ (rs : List Rat) (x : Rat) (E : Nat) (d3 : Option D), (∀ r ∈ rs, In1 r) → In1 x → Iq E x → 0 < E → E * Dd rs < 2 ^ B → (∀ d3, N [some d0, some d1, some (fr (x * nf rs)), d3] h) →
    WpS (loopF (.nm 3) (sSet 2 (eCall 2 m_product (aC (eV 2) (aC (eCall 2 m_minus (aC (eC (.tup [.int 1, .int 1])) (aC (eV 3) aN))) aN)))) [] (rs.map fr) [some d0, some d1, some (fr x), d3] h) N T
  | [], x, E, d3, _, _, _, _, _, k => by
    unfold loopF
    have e : x * nf [] = x := Rat.mul_one x
    rw [e] at k
    exact k d3
  | r :: rs, x, E, d3, hr, x1, xi, E0, hE, k => by
    rw [List.map_cons]
    unfold loopF
    rw [if_pos okG_nil]
    have r1 := hr r List.mem_cons_self
    have p0 := Dd_pos rs
    have dr := den_pos r
    have hE' : E * r.den * Dd rs < 2 ^ B := by rw [Nat.mul_assoc]; exact hE
    have hEl : E * r.den < 2 ^ B := Nat.lt_of_le_of_lt (Nat.le_mul_of_pos_right _ p0) hE'
    have sx : Sz B x := xi.sz1 E0 (Nat.lt_of_le_of_lt (Nat.le_mul_of_pos_right _ dr) hEl) x1.1 x1.2
    have dl : r.den < 2 ^ B := Nat.lt_of_le_of_lt (Nat.le_mul_of_pos_left _ E0) hEl
    have sr : Sz B r := (Iq.self r).sz1 dr dl r1.1 r1.2
    have s1 : Sz B (1 - r) := (Iq.rest r).sz1 dr dl r1.rest.1 r1.rest.2
    have m := minus_eq sz1 sr (by omega) h
    rw [fr1] at m
    have e : sSet 2 (eCall 2 m_product (aC (eV 2) (aC (eCall 2 m_minus (aC (eC (.tup [.int 1, .int 1])) (aC (eV 3) aN))) aN))) [some d0, some d1, some (fr x), some (fr r)] h = .nx [some d0, some d1, some (fr (x * (1 - r))), some (fr r)] h := by
      simp only [eV0, eVs, bind_ok', then_ok, q_e2, q_e1, q_eC, q_aC, q_aN, q_sPar2, q_sPar3, q_sSet, q_sRet, q_eBf, q_nBf, q_eCall, q_tst, q_tru, q_ifV, q_sIf, q_eTup, q_sPass, q_sExp, q_eLm, q_nLst, q_frz, q_thaw, q_iSeq, q_iR2, q_iR3, q_iEnumD, q_iZip, q_andX, q_andT, q_orT, q_notT, q_eCh, q_sPat, q_eSl, q_nSl, q_pS, q_pN, q_sRetN, q_tYes, q_eDct0, okL0, okL1, okL2, okL3, okL4, okL5, okL6, ent, List.map_cons, List.map_nil, List.length_cons, List.length_nil, List.set_cons_zero, List.set_cons_succ, List.replicate, List.cons_append, List.nil_append, Nat.reduceAdd, Nat.reduceSub, Nat.sub_self, Nat.sub_zero, zero_add', ↓reduceIte, Bool.false_eq_true, item0, item1, addD_ii, subD_ii, negD_i, absD_i, ltD_ii, leD_ii, gtD_ii, geD_ii, truD_bl, decide_true, decide_false, m, product_eq sx s1 (by omega)]
    show WpS (match sSet 2 (eCall 2 m_product (aC (eV 2) (aC (eCall 2 m_minus (aC (eC (.tup [.int 1, .int 1])) (aC (eV 3) aN))) aN))) [some d0, some d1, some (fr x), some (fr r)] h with
      | .nx ρ2 h2 => loopF _ _ _ _ ρ2 h2
      | .ct ρ2 h2 => loopF _ _ _ _ ρ2 h2
      | .bk ρ2 h2 => .nx ρ2 h2
      | r => r) N T
    rw [e]
    refine nf_loop hB rs (x * (1 - r)) (E * r.den) _ (fun q hq => hr q (List.mem_cons_of_mem _ hq)) (x1.mul r1.rest) (xi.mul (Iq.rest r)) (Nat.mul_pos E0 dr) hE' fun d3 => ?_
    have e2 : x * (1 - r) * nf rs = x * nf (r :: rs) := Rat.mul_assoc _ _ _
    rw [e2]
    exact k d3
theorem none_from_eq {cs : List Rat} {B i : Nat} {h : Hs} (t : TrAt h i cs) (k : Cs B cs) (hB : B ≤ 2000) (m : Nat) : m_none_from [.obj i, .int m] h = .ok (fr (nf (cs.drop m))) h := by
  refine eq_of_wp ?_
  unfold m_none_from c_none_from
  have sl : ∀ ρ : Env, eSl (eFld "Trials" "chances" (eV 0)) (pS (eV 1)) pN (some (.obj i) :: some (.int m) :: ρ) h = .ok (.tup ((cs.drop m).map fr)) h := fun ρ => by
    have f : eFld "Trials" "chances" (eV 0) (some (.obj i) :: some (.int m) :: ρ) h = .ok (.tup (cs.map fr)) h := fld_ch t eV0
    simp only [eV0, eVs, bind_ok', then_ok, q_e2, q_e1, q_eC, q_aC, q_aN, q_sPar2, q_sPar3, q_sSet, q_sRet, q_eBf, q_nBf, q_eCall, q_tst, q_tru, q_ifV, q_sIf, q_eTup, q_sPass, q_sExp, q_eLm, q_nLst, q_frz, q_thaw, q_iSeq, q_iR2, q_iR3, q_iEnumD, q_iZip, q_andX, q_andT, q_orT, q_notT, q_eCh, q_sPat, q_eSl, q_nSl, q_pS, q_pN, q_sRetN, q_tYes, q_eDct0, okL0, okL1, okL2, okL3, okL4, okL5, okL6, ent, List.map_cons, List.map_nil, List.length_cons, List.length_nil, List.set_cons_zero, List.set_cons_succ, List.replicate, List.cons_append, List.nil_append, Nat.reduceAdd, Nat.reduceSub, Nat.sub_self, Nat.sub_zero, zero_add', ↓reduceIte, Bool.false_eq_true, item0, item1, addD_ii, subD_ii, negD_i, absD_i, ltD_ii, leD_ii, gtD_ii, geD_ii, truD_bl, decide_true, decide_false, f, slD_tup_from, List.map_drop]
  have e1 : ent 4 [D.obj i, .int m] = [some (.obj i), some (.int m), none, none] := rfl
  rw [wp_def, e1, wps_seq, q_sSet, wps_then, q_eC, wp_ok, wps_nx, List.set_cons_succ, List.set_cons_succ, List.set_cons_zero, wps_seq, wps_for, seq_tup (sl _), wp_ok]
  have kd := k.drop m
  refine nf_loop hB (cs.drop m) 1 1 none kd.one .one .one Nat.one_pos (by rw [Nat.one_mul]; exact kd.dd) fun d3 => ?_
  simp only [eV0, eVs, bind_ok', then_ok, q_e2, q_e1, q_eC, q_aC, q_aN, q_sPar2, q_sPar3, q_sSet, q_sRet, q_eBf, q_nBf, q_eCall, q_tst, q_tru, q_ifV, q_sIf, q_eTup, q_sPass, q_sExp, q_eLm, q_nLst, q_frz, q_thaw, q_iSeq, q_iR2, q_iR3, q_iEnumD, q_iZip, q_andX, q_andT, q_orT, q_notT, q_eCh, q_sPat, q_eSl, q_nSl, q_pS, q_pN, q_sRetN, q_tYes, q_eDct0, okL0, okL1, okL2, okL3, okL4, okL5, okL6, ent, List.map_cons, List.map_nil, List.length_cons, List.length_nil, List.set_cons_zero, List.set_cons_succ, List.replicate, List.cons_append, List.nil_append, Nat.reduceAdd, Nat.reduceSub, Nat.sub_self, Nat.sub_zero, zero_add', ↓reduceIte, Bool.false_eq_true, item0, item1, addD_ii, subD_ii, negD_i, absD_i, ltD_ii, leD_ii, gtD_ii, geD_ii, truD_bl, decide_true, decide_false, wp_ok, wp_bad, wp_bind, wp_nox, wp_def, wps_then, wps_seq, wps_nx, wps_ret, wp_ite, wps_ite, Rat.one_mul]
  exact ⟨trivial, trivial⟩
/-- a comprehension over pairs, each made by f at its place -/
theorem zip_comp {ce : Env → M D} {p : Pat} {ρ : Env} {h : Hs} {g : Rat → D} {f : Nat → Rat → D} : ∀ (cs : List Rat) (n : Nat),
    (∀ j c, cs[j]? = some c → ∃ ρ1, patD p (.tup [.int ((n + j : Nat) : Int), g c]) ρ = some ρ1 ∧ ce ρ1 h = .ok (f (n + j) c) h) → lcF p tYes' ce [] ρ (enumD n (cs.map g)) h = .ok ((cs.zipIdx n).map fun x => f x.2 x.1) h
  | [], n, _ => by
    show lcF p tYes' ce [] ρ [] h = _
    unfold lcF
    rw [if_pos okG_nil]
    rfl
  | c :: cs, n, k => by
    rw [List.map_cons]
    unfold enumD lcF
    obtain ⟨ρ1, e, s⟩ := k 0 c rfl
    rw [Nat.add_zero] at e s
    rw [if_pos okG_nil, e]
    show ((ce ρ1 h).nox.bind fun d h2 => (lcF p tYes' ce [] ρ (enumD (n + 1) (cs.map g)) h2).bind fun ds h3 => .ok (d :: ds) h3) = _
    rw [s]
    show ((lcF p tYes' ce [] ρ (enumD (n + 1) (cs.map g)) h).bind fun ds h3 => .ok (f n c :: ds) h3) = _
    rw [zip_comp cs (n + 1) fun j c' hj => by
      have z := k (j + 1) c' (by simpa using hj)
      rw [show n + (j + 1) = n + 1 + j by omega] at z
      exact z]
    rfl
theorem ls_zip (F : List Rat) : ∀ (cs : List Rat) (n : Nat), F.drop n = cs → (cs.zipIdx n).map (fun x => fr (x.1 * nf (F.drop (x.2 + 1)))) = (ls cs).map fr
  | [], _, _ => rfl
  | c :: cs, n, e => by
    have e2 : F.drop (n + 1) = cs := by
      rw [← List.drop_drop, e]
      rfl
    unfold ls
    rw [List.map_cons, ← ls_zip F cs (n + 1) e2, List.zipIdx_cons, List.map_cons, e2]
theorem last_shares_eq {cs : List Rat} {B i : Nat} {h : Hs} (t : TrAt h i cs) (k : Cs B cs) (hB : B ≤ 2000) (hl : cs.length ≤ 1000) : m_last_shares [.obj i] h = .ok (.lst ((ls cs).map fr)) h := by
  refine mdef_ret (h' := h) ?_
  unfold c_last_shares
  have f : ∀ ρ : Env, eFld "Trials" "chances" (eV 0) (some (.obj i) :: ρ) h = .ok (.tup (cs.map fr)) h := fun ρ => fld_ch t eV0
  have en : ∀ ρ : Env, iEnumD (aC (eFld "Trials" "chances" (eV 0)) aN) (some (.obj i) :: ρ) h = .ok ⟨enumD 0 (cs.map fr), []⟩ h := fun ρ => by
    simp only [eV0, eVs, bind_ok', then_ok, q_e2, q_e1, q_eC, q_aC, q_aN, q_sPar2, q_sPar3, q_sSet, q_sRet, q_eBf, q_nBf, q_eCall, q_tst, q_tru, q_ifV, q_sIf, q_eTup, q_sPass, q_sExp, q_eLm, q_nLst, q_frz, q_thaw, q_iSeq, q_iR2, q_iR3, q_iEnumD, q_iZip, q_andX, q_andT, q_orT, q_notT, q_eCh, q_sPat, q_eSl, q_nSl, q_pS, q_pN, q_sRetN, q_tYes, q_eDct0, okL0, okL1, okL2, okL3, okL4, okL5, okL6, ent, List.map_cons, List.map_nil, List.length_cons, List.length_nil, List.set_cons_zero, List.set_cons_succ, List.replicate, List.cons_append, List.nil_append, Nat.reduceAdd, Nat.reduceSub, Nat.sub_self, Nat.sub_zero, zero_add', ↓reduceIte, Bool.false_eq_true, item0, item1, addD_ii, subD_ii, negD_i, absD_i, ltD_ii, leD_ii, gtD_ii, geD_ii, truD_bl, decide_true, decide_false, f, itOf_tup, okG_nil]
  have c : nLc (iEnumD (aC (eFld "Trials" "chances" (eV 0)) aN)) (.tp [.nm 1, .nm 2]) [1, 2] tYes' (eCall 2 m_product (aC (eV 2) (aC (eCall 2 m_none_from (aC (eV 0) (aC (e2 addD (eV 1) (eC (.int 1))) aN))) aN))) [some (.obj i), none, none] h = .ok ((ls cs).map fr) h := by
    rw [nLc_eq, en, bind_ok']
    show (if okLen (enumD 0 (cs.map fr)).length = true then _ else _) = _
    rw [if_pos (okLen_of (by rw [enumD_len, List.length_map]; omega)), ← ls_zip cs cs 0 rfl]
    refine zip_comp (f := fun j c => fr (c * nf (cs.drop (j + 1)))) cs 0 fun j c hj => ⟨_, rfl, ?_⟩
    have kc := k.sz (List.mem_of_getElem? hj)
    have n1 := none_from_eq t k hB (0 + j + 1)
    have e1 : (((0 + j + 1 : Nat)) : Int) = ((0 + j : Nat) : Int) + 1 := by omega
    rw [e1, Nat.zero_add] at n1
    rw [Nat.zero_add]
    simp only [wipeD, eV0, eVs, bind_ok', then_ok, q_e2, q_e1, q_eC, q_aC, q_aN, q_sPar2, q_sPar3, q_sSet, q_sRet, q_eBf, q_nBf, q_eCall, q_tst, q_tru, q_ifV, q_sIf, q_eTup, q_sPass, q_sExp, q_eLm, q_nLst, q_frz, q_thaw, q_iSeq, q_iR2, q_iR3, q_iEnumD, q_iZip, q_andX, q_andT, q_orT, q_notT, q_eCh, q_sPat, q_eSl, q_nSl, q_pS, q_pN, q_sRetN, q_tYes, q_eDct0, okL0, okL1, okL2, okL3, okL4, okL5, okL6, ent, List.map_cons, List.map_nil, List.length_cons, List.length_nil, List.set_cons_zero, List.set_cons_succ, List.replicate, List.cons_append, List.nil_append, Nat.reduceAdd, Nat.reduceSub, Nat.sub_self, Nat.sub_zero, zero_add', ↓reduceIte, Bool.false_eq_true, item0, item1, addD_ii, subD_ii, negD_i, absD_i, ltD_ii, leD_ii, gtD_ii, geD_ii, truD_bl, decide_true, decide_false, n1, product_eq kc (k.drop (j + 1)).nfz (by omega)]
  simp only [eV0, eVs, bind_ok', then_ok, q_e2, q_e1, q_eC, q_aC, q_aN, q_sPar2, q_sPar3, q_sSet, q_sRet, q_eBf, q_nBf, q_eCall, q_tst, q_tru, q_ifV, q_sIf, q_eTup, q_sPass, q_sExp, q_eLm, q_nLst, q_frz, q_thaw, q_iSeq, q_iR2, q_iR3, q_iEnumD, q_iZip, q_andX, q_andT, q_orT, q_notT, q_eCh, q_sPat, q_eSl, q_nSl, q_pS, q_pN, q_sRetN, q_tYes, q_eDct0, okL0, okL1, okL2, okL3, okL4, okL5, okL6, ent, List.map_cons, List.map_nil, List.length_cons, List.length_nil, List.set_cons_zero, List.set_cons_succ, List.replicate, List.cons_append, List.nil_append, Nat.reduceAdd, Nat.reduceSub, Nat.sub_self, Nat.sub_zero, zero_add', ↓reduceIte, Bool.false_eq_true, item0, item1, addD_ii, subD_ii, negD_i, absD_i, ltD_ii, leD_ii, gtD_ii, geD_ii, truD_bl, decide_true, decide_false, c]
end Pl

/-! Plain laws, 13: lots: what they win. -/
namespace Pl
open Dl Sh
local instance : Dl.Tb := ⟨fun _ => []⟩

/-- numbers that rise, from k on, below n -/
def Inc (n : Nat) : Nat → List Nat → Prop
  | _, [] => True
  | k, m :: l => k ≤ m ∧ m < n ∧ Inc n (m + 1) l
theorem Inc.from {n : Nat} : ∀ {l : List Nat} {k j : Nat}, Inc n k l → j ≤ k → Inc n j l
  | [], _, _, _, _ => trivial
  | m :: l, k, j, h, hj => ⟨Nat.le_trans hj h.1, h.2⟩
theorem Inc.all {n : Nat} : ∀ {l : List Nat} {k : Nat}, Inc n k l → ∀ m ∈ l, k ≤ m ∧ m < n
  | [], _, _, m, hm => by simp at hm
  | x :: l, k, h, m, hm => by
    rcases List.mem_cons.mp hm with e | e
    · rw [e]; exact ⟨h.1, h.2.1⟩
    · have z := h.2.2.all m e
      exact ⟨by have := h.1; omega, z.2⟩
theorem Inc.len {n : Nat} : ∀ {l : List Nat} {k : Nat}, Inc n k l → k ≤ n → l.length + k ≤ n
  | [], k, _, h => by simpa using h
  | x :: l, k, h, _ => by
    have z := h.2.2.len (by have := h.2.1; omega)
    have := h.1
    rw [List.length_cons]
    omega
def lotD (l : List Nat) : D := .tup (l.map fun m => .int (m : Nat))
/-- what a lot wins -/
def wn (cs : List Rat) : List Nat → Rat
  | [] => 0
  | m :: l => cs.getD m 0 * nf (cs.drop (m + 1)) + (1 - cs.getD m 0) * wn cs l
theorem wn_in {cs : List Rat} (hc : ∀ c ∈ cs, In1 c) : ∀ {l : List Nat} {k : Nat}, Inc cs.length k l → In1 (wn cs l)
  | [], _, _ => ⟨Rat.le_refl, show (0 : Rat) ≤ 1 by decide +kernel⟩
  | m :: l, k, h => by
    have i := wn_in hc h.2.2
    have c1 : In1 (cs.getD m 0) := by
      rw [List.getD_eq_getElem?_getD, List.getElem?_eq_getElem h.2.1]
      exact hc _ (List.getElem_mem h.2.1)
    have n1 := nf_in (cs := cs.drop (m + 1)) fun c hq => hc c (List.mem_of_mem_drop hq)
    have a1 := c1.mul n1
    have a2 := c1.rest.mul i
    have b1 : cs.getD m 0 * nf (cs.drop (m + 1)) ≤ cs.getD m 0 := by
      have z := Rat.mul_le_mul_of_nonneg_left n1.2 c1.1
      rwa [Rat.mul_one] at z
    have b2 : (1 - cs.getD m 0) * wn cs l ≤ 1 - cs.getD m 0 := by
      have z := Rat.mul_le_mul_of_nonneg_left i.2 c1.rest.1
      rwa [Rat.mul_one] at z
    refine ⟨?_, ?_⟩
    · show 0 ≤ cs.getD m 0 * nf (cs.drop (m + 1)) + (1 - cs.getD m 0) * wn cs l
      have := a1.1
      have := a2.1
      grind
    · show cs.getD m 0 * nf (cs.drop (m + 1)) + (1 - cs.getD m 0) * wn cs l ≤ 1
      grind
theorem Dd_at {cs : List Rat} {m : Nat} {c : Rat} (e : cs[m]? = some c) : Dd (cs.drop m) = c.den * Dd (cs.drop (m + 1)) := by
  have hm := (List.getElem?_eq_some_iff.mp e).1
  rw [List.drop_eq_getElem_cons hm]
  have e2 := (List.getElem?_eq_some_iff.mp e).2
  rw [e2]
  rfl
theorem Dd_drop2 {cs : List Rat} {k m : Nat} (h : k ≤ m) : Dd (cs.drop m) ∣ Dd (cs.drop k) := by
  have e : cs.drop m = (cs.drop k).drop (m - k) := by rw [List.drop_drop]; congr 1; omega
  rw [e]
  exact Dd_drop _ _
theorem wn_iq {cs : List Rat} : ∀ {l : List Nat} {k : Nat}, Inc cs.length k l → Iq (Dd (cs.drop k)) (wn cs l)
  | [], k, _ => Iq.zero.up (Nat.one_dvd _) (Dd_pos _)
  | m :: l, k, h => by
    have i := wn_iq h.2.2
    have ce : cs[m]? = some (cs.getD m 0) := by rw [List.getD_eq_getElem?_getD, List.getElem?_eq_getElem h.2.1]; rfl
    have dm := Dd_at ce
    have a1 : Iq (Dd (cs.drop m)) (cs.getD m 0 * nf (cs.drop (m + 1))) := by rw [dm]; exact (Iq.self _).mul (nf_iq _)
    have a2 : Iq (Dd (cs.drop m)) ((1 - cs.getD m 0) * wn cs l) := by rw [dm]; exact (Iq.rest _).mul i
    exact (a1.add a2).up (Dd_drop2 h.1) (Dd_pos _)
theorem wn_sz {cs : List Rat} {B k : Nat} (c : Cs B cs) {l : List Nat} (h : Inc cs.length k l) : Sz B (wn cs l) := ((wn_iq h).up (Dd_drop cs k) (Dd_pos _)).sz1 (Dd_pos _) c.dd (wn_in c.one h).1 (wn_in c.one h).2
theorem won_loop {cs : List Rat} {B i : Nat} (c : Cs B cs) (hB : B ≤ 2000) {h : Hs} (t : TrAt h i cs) {N : Env → Hs → Prop} {T : D → Hs → Prop} {d1 : D} : ∀ (l : List Nat) (k : Nat) (x y : Rat) (E : Nat) (d5 : Option D), Inc cs.length k l → Iq E y → 0 < E → E * Dd (cs.drop k) ∣ Dd cs → Iq (Dd cs) x → 0 ≤ x → In1 y → x + y ≤ 1 → (∀ y5 d5, N [some (.obj i), some d1, some (fr (x + y * wn cs l)), some (.lst ((ls cs).map fr)), y5, d5] h) →
    WpS (loopF (.nm 5) (sSeq (sSet 2 (eCall 2 m_plus (aC (eV 2) (aC (eCall 2 m_product (aC (eV 4) (aC (e2 itemD (eV 3) (eV 5)) aN))) aN)))) (sSet 4 (eCall 2 m_product (aC (eV 4) (aC (eCall 2 m_minus (aC (eC (.tup [.int 1, .int 1])) (aC (e2 itemD (eFld "Trials" "chances" (eV 0)) (eV 5)) aN))) aN))))) [] (l.map fun m => .int (m : Nat)) [some (.obj i), some d1, some (fr x), some (.lst ((ls cs).map fr)), some (fr y), d5] h) N T
  | [], k, x, y, E, d5, _, _, _, _, _, _, _, _, kk => by
    unfold loopF
    have e : x + y * wn cs [] = x := by
      show x + y * 0 = x
      grind
    rw [e] at kk
    exact kk _ d5
  | m :: l, k, x, y, E, d5, inc, yi, E0, hE, xi, x0, y1, xy, kk => by
    rw [List.map_cons]
    unfold loopF
    rw [if_pos okG_nil]
    have hm := inc.2.1
    have ce : cs[m]? = some (cs.getD m 0) := by rw [List.getD_eq_getElem?_getD, List.getElem?_eq_getElem hm]; rfl
    have hw : wn cs (m :: l) = cs.getD m 0 * nf (cs.drop (m + 1)) + (1 - cs.getD m 0) * wn cs l := rfl
    rw [hw] at kk
    have cm := List.mem_of_getElem? ce
    generalize cs.getD m 0 = q at ce kk cm
    have q1 := c.one q cm
    have lsm := ls_at ce
    have lm := List.mem_of_getElem? lsm
    have n1 := nf_in (cs := cs.drop (m + 1)) fun c' hq => c.one c' (List.mem_of_mem_drop hq)
    have dm := Dd_at ce
    have E1 : E * Dd (cs.drop m) ∣ Dd cs := Nat.dvd_trans (Nat.mul_dvd_mul_left _ (Dd_drop2 inc.1)) hE
    have El : E ∣ Dd cs := Nat.dvd_trans (Nat.dvd_mul_right _ _) hE
    have sy : Sz B y := (yi.up El (Dd_pos _)).sz1 (Dd_pos _) c.dd y1.1 y1.2
    have xl : x ≤ 1 := by have := y1.1; grind
    have sx : Sz B x := xi.sz1 (Dd_pos _) c.dd x0 xl
    have a1 := q1.mul n1
    have pi : Iq (Dd cs) (y * (q * nf (cs.drop (m + 1)))) := (yi.mul (by rw [dm]; exact (Iq.self q).mul (nf_iq _))).up E1 (Dd_pos _)
    have p1 := y1.mul a1
    have sp : Sz B (y * (q * nf (cs.drop (m + 1)))) := pi.sz1 (Dd_pos _) c.dd p1.1 p1.2
    have sq := c.sz cm
    have s1 : Sz B (1 - q) := (Iq.rest q).sz1 (den_pos q) (c.den cm) q1.rest.1 q1.rest.2
    have mi := minus_eq sz1 sq (by omega) h
    rw [fr1] at mi
    have it3 : itemD (.lst ((ls cs).map fr)) (.int (m : Nat)) h = .ok (fr (q * nf (cs.drop (m + 1)))) h := item_lst (by rw [List.getElem?_map, lsm]; rfl)
    have itc : itemD (.tup (cs.map fr)) (.int (m : Nat)) h = .ok (fr q) h := item_at (by rw [List.getElem?_map, ce]; rfl)
    have f : ∀ ρ : Env, eFld "Trials" "chances" (eV 0) (some (.obj i) :: ρ) h = .ok (.tup (cs.map fr)) h := fun ρ => fld_ch t eV0
    have e : sSeq (sSet 2 (eCall 2 m_plus (aC (eV 2) (aC (eCall 2 m_product (aC (eV 4) (aC (e2 itemD (eV 3) (eV 5)) aN))) aN)))) (sSet 4 (eCall 2 m_product (aC (eV 4) (aC (eCall 2 m_minus (aC (eC (.tup [.int 1, .int 1])) (aC (e2 itemD (eFld "Trials" "chances" (eV 0)) (eV 5)) aN))) aN)))) [some (.obj i), some d1, some (fr x), some (.lst ((ls cs).map fr)), some (fr y), some (.int (m : Nat))] h =
        .nx [some (.obj i), some d1, some (fr (x + y * (q * nf (cs.drop (m + 1))))), some (.lst ((ls cs).map fr)), some (fr (y * (1 - q))), some (.int (m : Nat))] h := by
      rw [seq_nx (ρ1 := [some (.obj i), some d1, some (fr (x + y * (q * nf (cs.drop (m + 1))))), some (.lst ((ls cs).map fr)), some (fr y), some (.int (m : Nat))]) (h1 := h)]
      · simp only [eV0, eVs, bind_ok', then_ok, q_e2, q_e1, q_eC, q_aC, q_aN, q_sPar2, q_sPar3, q_sSet, q_sRet, q_eBf, q_nBf, q_eCall, q_tst, q_tru, q_ifV, q_sIf, q_eTup, q_sPass, q_sExp, q_eLm, q_nLst, q_frz, q_thaw, q_iSeq, q_iR2, q_iR3, q_iEnumD, q_iZip, q_andX, q_andT, q_orT, q_notT, q_eCh, q_sPat, q_eSl, q_nSl, q_pS, q_pN, q_sRetN, q_tYes, q_eDct0, okL0, okL1, okL2, okL3, okL4, okL5, okL6, ent, List.map_cons, List.map_nil, List.length_cons, List.length_nil, List.set_cons_zero, List.set_cons_succ, List.replicate, List.cons_append, List.nil_append, Nat.reduceAdd, Nat.reduceSub, Nat.sub_self, Nat.sub_zero, zero_add', ↓reduceIte, Bool.false_eq_true, item0, item1, addD_ii, subD_ii, negD_i, absD_i, ltD_ii, leD_ii, gtD_ii, geD_ii, truD_bl, decide_true, decide_false, f, itc, mi, product_eq sy s1 (by omega)]
      · simp only [eV0, eVs, bind_ok', then_ok, q_e2, q_e1, q_eC, q_aC, q_aN, q_sPar2, q_sPar3, q_sSet, q_sRet, q_eBf, q_nBf, q_eCall, q_tst, q_tru, q_ifV, q_sIf, q_eTup, q_sPass, q_sExp, q_eLm, q_nLst, q_frz, q_thaw, q_iSeq, q_iR2, q_iR3, q_iEnumD, q_iZip, q_andX, q_andT, q_orT, q_notT, q_eCh, q_sPat, q_eSl, q_nSl, q_pS, q_pN, q_sRetN, q_tYes, q_eDct0, okL0, okL1, okL2, okL3, okL4, okL5, okL6, ent, List.map_cons, List.map_nil, List.length_cons, List.length_nil, List.set_cons_zero, List.set_cons_succ, List.replicate, List.cons_append, List.nil_append, Nat.reduceAdd, Nat.reduceSub, Nat.sub_self, Nat.sub_zero, zero_add', ↓reduceIte, Bool.false_eq_true, item0, item1, addD_ii, subD_ii, negD_i, absD_i, ltD_ii, leD_ii, gtD_ii, geD_ii, truD_bl, decide_true, decide_false, it3, product_eq sy (c.lsz lm) (by omega), plus_eq sx sp (by omega)]
    show WpS (match sSeq (sSet 2 (eCall 2 m_plus (aC (eV 2) (aC (eCall 2 m_product (aC (eV 4) (aC (e2 itemD (eV 3) (eV 5)) aN))) aN)))) (sSet 4 (eCall 2 m_product (aC (eV 4) (aC (eCall 2 m_minus (aC (eC (.tup [.int 1, .int 1])) (aC (e2 itemD (eFld "Trials" "chances" (eV 0)) (eV 5)) aN))) aN)))) [some (.obj i), some d1, some (fr x), some (.lst ((ls cs).map fr)), some (fr y), some (.int (m : Nat))] h with
      | .nx ρ2 h2 => loopF _ _ _ _ ρ2 h2
      | .ct ρ2 h2 => loopF _ _ _ _ ρ2 h2
      | .bk ρ2 h2 => .nx ρ2 h2
      | r => r) N T
    rw [e]
    refine won_loop c hB t l (m + 1) (x + y * (q * nf (cs.drop (m + 1)))) (y * (1 - q)) (E * q.den) _ inc.2.2 (yi.mul (Iq.rest q)) (Nat.mul_pos E0 (den_pos q)) ?_ (xi.add pi) ?_ (y1.mul q1.rest) ?_ ?_
    · rw [Nat.mul_assoc, ← dm]; exact E1
    · have := p1.1; grind
    · have z : y * (q * nf (cs.drop (m + 1))) ≤ y * q := by
        have z1 := Rat.mul_le_mul_of_nonneg_left n1.2 q1.1
        rw [Rat.mul_one] at z1
        exact Rat.mul_le_mul_of_nonneg_left z1 y1.1
      have e3 : y * (1 - q) = y - y * q := by grind
      rw [e3]
      grind
    · intro y5 d5
      have e4 : x + y * (q * nf (cs.drop (m + 1))) + y * (1 - q) * wn cs l = x + y * (q * nf (cs.drop (m + 1)) + (1 - q) * wn cs l) := by grind
      rw [e4]
      exact kk y5 d5
theorem won_eq {cs : List Rat} {B i : Nat} (c : Cs B cs) (hB : B ≤ 2000) (hl : cs.length ≤ 1000) {h : Hs} (t : TrAt h i cs) {l : List Nat} (inc : Inc cs.length 0 l) : m_won [.obj i, lotD l] h = .ok (fr (wn cs l)) h := by
  refine eq_of_wp ?_
  unfold m_won c_won
  have e1 : ent 6 [D.obj i, lotD l] = [some (.obj i), some (lotD l), none, none, none, none] := rfl
  rw [wp_def, e1, wps_seq]
  simp only [q_sPar2, q_aC, q_aN, q_eC, q_eCall, eV0, bind_ok', List.length_cons, List.length_nil, Nat.reduceAdd, decide_true, ↓reduceIte, last_shares_eq t c hB hl, then_ok, wps_nx, List.set_cons_zero, List.set_cons_succ]
  rw [wps_seq, q_sSet, q_eC, then_ok, wps_nx, wps_seq, wps_for]
  simp only [List.set_cons_zero, List.set_cons_succ]
  rw [seq_tup (ce := eV 1) (xs := l.map fun m => .int (m : Nat)) rfl, wp_ok]
  rw [← fr0, ← fr1]
  refine won_loop c hB t l 0 0 1 1 none inc .one Nat.one_pos (by rw [Nat.one_mul, List.drop_zero]; exact Nat.dvd_refl _) (Iq.zero.up (Nat.one_dvd _) (Dd_pos _)) Rat.le_refl .one (by decide +kernel) fun y5 d5 => ?_
  have e : (0 : Rat) + 1 * wn cs l = wn cs l := by grind
  rw [e]
  simp only [eV0, eVs, bind_ok', then_ok, q_e2, q_e1, q_eC, q_aC, q_aN, q_sPar2, q_sPar3, q_sSet, q_sRet, q_eBf, q_nBf, q_eCall, q_tst, q_tru, q_ifV, q_sIf, q_eTup, q_sPass, q_sExp, q_eLm, q_nLst, q_frz, q_thaw, q_iSeq, q_iR2, q_iR3, q_iEnumD, q_iZip, q_andX, q_andT, q_orT, q_notT, q_eCh, q_sPat, q_eSl, q_nSl, q_pS, q_pN, q_sRetN, q_tYes, q_eDct0, okL0, okL1, okL2, okL3, okL4, okL5, okL6, ent, List.map_cons, List.map_nil, List.length_cons, List.length_nil, List.set_cons_zero, List.set_cons_succ, List.replicate, List.cons_append, List.nil_append, Nat.reduceAdd, Nat.reduceSub, Nat.sub_self, Nat.sub_zero, zero_add', ↓reduceIte, Bool.false_eq_true, item0, item1, addD_ii, subD_ii, negD_i, absD_i, ltD_ii, leD_ii, gtD_ii, geD_ii, truD_bl, decide_true, decide_false, wp_ok, wp_bad, wp_bind, wp_nox, wp_def, wps_then, wps_seq, wps_nx, wps_ret, wp_ite, wps_ite]
  exact ⟨trivial, trivial⟩
/-! ### lots that are lots -/
theorem inc_zip {n : Nat} : ∀ {l : List Nat} {k : Nat}, Inc n k l → ∀ x ∈ zipD (l.map fun m => .int (m : Nat)) ((l.map fun m => D.int (m : Nat)).drop 1), ∃ a b : Nat, x = .tup [.int a, .int b] ∧ a < b
  | [], _, _, x, hx => by simp [zipD] at hx
  | [_], _, _, x, hx => by simp [zipD] at hx
  | a :: b :: l, k, h, x, hx => by
    have e : zipD ((a :: b :: l).map fun m => .int (m : Nat)) (((a :: b :: l).map fun m => D.int (m : Nat)).drop 1) = .tup [.int a, .int b] :: zipD ((b :: l).map fun m => .int (m : Nat)) (((b :: l).map fun m => D.int (m : Nat)).drop 1) := rfl
    rw [e] at hx
    rcases List.mem_cons.mp hx with z | z
    · exact ⟨a, b, z, h.2.2.1⟩
    · exact inc_zip h.2.2 x z
theorem is_lot_eq {n : Nat} {l : List Nat} {h : Hs} (inc : Inc n 0 l) (hn : n ≤ 1000) : m_is_lot [lotD l, .int (n : Nat)] h = .ok (.bl true) h := by
  have ll := inc.len (Nat.zero_le _)
  refine eq_of_wp ?_
  unfold m_is_lot c_is_lot
  have c1 := comp_eq (ci := iSeq (eV 0)) (p := .nm 2) (own := [2]) (ce := eCall 3 m_is_within (aC (eV 2) (aC (eC (.int 0)) (aC (e2 subD (eV 1) (eC (.int 1))) aN)))) (ρ := [some (lotD l), some (.int n), none, none]) (h := h) (xs := l.map fun m => .int (m : Nat)) (f := fun _ => .bl true)
    (seq_tup eV0) (by rw [List.length_map]; omega) fun x hx => ⟨[some (lotD l), some (.int n), some x, none], rfl, by
      obtain ⟨m, hm, rfl⟩ := List.mem_map.mp hx
      have z := (inc.all m hm).2
      have w := iswithin_eq (i := m) (lo := 0) (hi := (n : Int) - 1) (h := h) (by omega) (by omega)
      simp only [eV0, eVs, bind_ok', then_ok, q_e2, q_e1, q_eC, q_aC, q_aN, q_sPar2, q_sPar3, q_sSet, q_sRet, q_eBf, q_nBf, q_eCall, q_tst, q_tru, q_ifV, q_sIf, q_eTup, q_sPass, q_sExp, q_eLm, q_nLst, q_frz, q_thaw, q_iSeq, q_iR2, q_iR3, q_iEnumD, q_iZip, q_andX, q_andT, q_orT, q_notT, q_eCh, q_sPat, q_eSl, q_nSl, q_pS, q_pN, q_sRetN, q_tYes, q_eDct0, okL0, okL1, okL2, okL3, okL4, okL5, okL6, ent, List.map_cons, List.map_nil, List.length_cons, List.length_nil, List.set_cons_zero, List.set_cons_succ, List.replicate, List.cons_append, List.nil_append, Nat.reduceAdd, Nat.reduceSub, Nat.sub_self, Nat.sub_zero, zero_add', ↓reduceIte, Bool.false_eq_true, item0, item1, addD_ii, subD_ii, negD_i, absD_i, ltD_ii, leD_ii, gtD_ii, geD_ii, truD_bl, decide_true, decide_false, w]⟩
  have zi : iZip (aC (eV 0) (aC (eSl (eV 0) (pS (eC (.int 1))) pN) aN)) [some (lotD l), some (.int n), none, none] h = .ok ⟨zipD (l.map fun m => .int (m : Nat)) ((l.map fun m => D.int (m : Nat)).drop 1), []⟩ h := by
    have sl : sliceD (lotD l) (some 1) none h = .ok (.tup ((l.map fun m => D.int (m : Nat)).drop 1)) h := slD_tup_from (m := 1)
    simp only [eV0, eVs, bind_ok', then_ok, q_e2, q_e1, q_eC, q_aC, q_aN, q_sPar2, q_sPar3, q_sSet, q_sRet, q_eBf, q_nBf, q_eCall, q_tst, q_tru, q_ifV, q_sIf, q_eTup, q_sPass, q_sExp, q_eLm, q_nLst, q_frz, q_thaw, q_iSeq, q_iR2, q_iR3, q_iEnumD, q_iZip, q_andX, q_andT, q_orT, q_notT, q_eCh, q_sPat, q_eSl, q_nSl, q_pS, q_pN, q_sRetN, q_tYes, q_eDct0, okL0, okL1, okL2, okL3, okL4, okL5, okL6, ent, List.map_cons, List.map_nil, List.length_cons, List.length_nil, List.set_cons_zero, List.set_cons_succ, List.replicate, List.cons_append, List.nil_append, Nat.reduceAdd, Nat.reduceSub, Nat.sub_self, Nat.sub_zero, zero_add', ↓reduceIte, Bool.false_eq_true, item0, item1, addD_ii, subD_ii, negD_i, absD_i, ltD_ii, leD_ii, gtD_ii, geD_ii, truD_bl, decide_true, decide_false, sl]
    rfl
  have c2 := comp_eq (ci := iZip (aC (eV 0) (aC (eSl (eV 0) (pS (eC (.int 1))) pN) aN))) (p := .tp [.nm 2, .nm 3]) (own := [2, 3]) (ce := e2 ltD (eV 2) (eV 3)) (ρ := [some (lotD l), some (.int n), none, none]) (h := h) (f := fun _ => .bl true)
    zi (by rw [zipD_len, List.length_map]; omega) fun x hx => by
      obtain ⟨a, b, rfl, lt⟩ := inc_zip inc x hx
      refine ⟨_, rfl, ?_⟩
      simp only [wipeD, eV0, eVs, bind_ok', then_ok, q_e2, q_e1, q_eC, q_aC, q_aN, q_sPar2, q_sPar3, q_sSet, q_sRet, q_eBf, q_nBf, q_eCall, q_tst, q_tru, q_ifV, q_sIf, q_eTup, q_sPass, q_sExp, q_eLm, q_nLst, q_frz, q_thaw, q_iSeq, q_iR2, q_iR3, q_iEnumD, q_iZip, q_andX, q_andT, q_orT, q_notT, q_eCh, q_sPat, q_eSl, q_nSl, q_pS, q_pN, q_sRetN, q_tYes, q_eDct0, okL0, okL1, okL2, okL3, okL4, okL5, okL6, ent, List.map_cons, List.map_nil, List.length_cons, List.length_nil, List.set_cons_zero, List.set_cons_succ, List.replicate, List.cons_append, List.nil_append, Nat.reduceAdd, Nat.reduceSub, Nat.sub_self, Nat.sub_zero, zero_add', ↓reduceIte, Bool.false_eq_true, item0, item1, addD_ii, subD_ii, negD_i, absD_i, ltD_ii, leD_ii, gtD_ii, geD_ii, truD_bl, decide_true, decide_false, decide_eq_true (show (a : Int) < b by omega)]
  have a1 : ∀ xs : List D, allD [.lst (xs.map fun _ => D.bl true)] h = .ok (.bl true) h := fun xs => by
    rw [allD_map (fun _ => true) xs h]
    simp
  have it : isiD [] [lotD l, .ty "tuple"] h = .ok (.bl true) h := isi_tup
  have e1 : ent 4 [lotD l, D.int (n : Nat)] = [some (lotD l), some (.int n), none, none] := rfl
  rw [wp_def, e1]
  simp only [eV0, eVs, bind_ok', then_ok, q_e2, q_e1, q_eC, q_aC, q_aN, q_sPar2, q_sPar3, q_sSet, q_sRet, q_eBf, q_nBf, q_eCall, q_tst, q_tru, q_ifV, q_sIf, q_eTup, q_sPass, q_sExp, q_eLm, q_nLst, q_frz, q_thaw, q_iSeq, q_iR2, q_iR3, q_iEnumD, q_iZip, q_andX, q_andT, q_orT, q_notT, q_eCh, q_sPat, q_eSl, q_nSl, q_pS, q_pN, q_sRetN, q_tYes, q_eDct0, okL0, okL1, okL2, okL3, okL4, okL5, okL6, ent, List.map_cons, List.map_nil, List.length_cons, List.length_nil, List.set_cons_zero, List.set_cons_succ, List.replicate, List.cons_append, List.nil_append, Nat.reduceAdd, Nat.reduceSub, Nat.sub_self, Nat.sub_zero, zero_add', ↓reduceIte, Bool.false_eq_true, item0, item1, addD_ii, subD_ii, negD_i, absD_i, ltD_ii, leD_ii, gtD_ii, geD_ii, truD_bl, decide_true, decide_false, wp_ok, wp_bad, wp_bind, wp_nox, wp_def, wps_then, wps_seq, wps_nx, wps_ret, wp_ite, wps_ite, c1, c2, a1, it, Bool.not_true, sPass]
  exact ⟨trivial, trivial⟩
theorem win_eq {cs : List Rat} {B i : Nat} (c : Cs B cs) (hB : B ≤ 2000) (hl : cs.length ≤ 1000) {h : Hs} (t : TrAt h i cs) {l : List Nat} (inc : Inc cs.length 0 l) : m_win [.obj i, lotD l] h = .ok (fr (wn cs l)) h := by
  refine eq_of_wp ?_
  unfold m_win c_win
  have f : ∀ ρ : Env, eFld "Trials" "chances" (eV 0) (some (.obj i) :: ρ) h = .ok (.tup (cs.map fr)) h := fun ρ => fld_ch t eV0
  have il := is_lot_eq (h := h) inc hl
  simp only [eV0, eVs, bind_ok', then_ok, q_e2, q_e1, q_eC, q_aC, q_aN, q_sPar2, q_sPar3, q_sSet, q_sRet, q_eBf, q_nBf, q_eCall, q_tst, q_tru, q_ifV, q_sIf, q_eTup, q_sPass, q_sExp, q_eLm, q_nLst, q_frz, q_thaw, q_iSeq, q_iR2, q_iR3, q_iEnumD, q_iZip, q_andX, q_andT, q_orT, q_notT, q_eCh, q_sPat, q_eSl, q_nSl, q_pS, q_pN, q_sRetN, q_tYes, q_eDct0, okL0, okL1, okL2, okL3, okL4, okL5, okL6, ent, List.map_cons, List.map_nil, List.length_cons, List.length_nil, List.set_cons_zero, List.set_cons_succ, List.replicate, List.cons_append, List.nil_append, Nat.reduceAdd, Nat.reduceSub, Nat.sub_self, Nat.sub_zero, zero_add', ↓reduceIte, Bool.false_eq_true, item0, item1, addD_ii, subD_ii, negD_i, absD_i, ltD_ii, leD_ii, gtD_ii, geD_ii, truD_bl, decide_true, decide_false, wp_ok, wp_bad, wp_bind, wp_nox, wp_def, wps_then, wps_seq, wps_nx, wps_ret, wp_ite, wps_ite, f, lenD_tup, List.length_map, il, Bool.not_true, sPass, won_eq c hB hl t inc]
  exact ⟨trivial, trivial⟩
end Pl

/-! Plain laws, 14: the best lots. -/
namespace Pl
open Dl Sh
local instance : Dl.Tb := ⟨fun _ => []⟩

/-! ### comprehensions over what is made of things -/
section
variable {α : Type} {p : Pat} {ce : Env → M D} {ρ : Env} {h : Hs} {g f : α → D}
theorem lcM : ∀ {xs : List α}, (∀ x ∈ xs, ∃ ρ1, patD p (g x) ρ = some ρ1 ∧ ce ρ1 h = .ok (f x) h) → lcF p tYes' ce [] ρ (xs.map g) h = .ok (xs.map f) h
  | [], _ => by
    show lcF p tYes' ce [] ρ [] h = _
    unfold lcF
    rw [if_pos okG_nil]
    rfl
  | x :: xs, k => by
    obtain ⟨ρ1, e, c⟩ := k x List.mem_cons_self
    rw [List.map_cons]
    unfold lcF
    rw [if_pos okG_nil, e]
    show ((ce ρ1 h).nox.bind fun d h2 => (lcF p tYes' ce [] ρ (xs.map g) h2).bind fun ds h3 => .ok (d :: ds) h3) = _
    rw [c]
    show ((lcF p tYes' ce [] ρ (xs.map g) h).bind fun ds h3 => .ok (f x :: ds) h3) = _
    rw [lcM fun y hy => k y (List.mem_cons_of_mem _ hy)]
    rfl
theorem lcT {ct : Env → M Bool} {t : α → Bool} : ∀ {xs : List α}, (∀ x ∈ xs, ∃ ρ1, patD p (g x) ρ = some ρ1 ∧ ct ρ1 h = .ok (t x) h ∧ (t x = true → ce ρ1 h = .ok (f x) h)) → lcF p ct ce [] ρ (xs.map g) h = .ok ((xs.filter t).map f) h
  | [], _ => by
    show lcF p ct ce [] ρ [] h = _
    unfold lcF
    rw [if_pos okG_nil]
    rfl
  | x :: xs, k => by
    obtain ⟨ρ1, e, c1, c2⟩ := k x List.mem_cons_self
    rw [List.map_cons]
    unfold lcF
    rw [if_pos okG_nil, e]
    show ((ct ρ1 h).nox.bind fun b h1 => if b = true then (ce ρ1 h1).nox.bind fun d h2 => (lcF p ct ce [] ρ (xs.map g) h2).bind fun ds h3 => .ok (d :: ds) h3 else lcF p ct ce [] ρ (xs.map g) h1) = _
    rw [c1]
    show (if t x = true then (ce ρ1 h).nox.bind fun d h2 => (lcF p ct ce [] ρ (xs.map g) h2).bind fun ds h3 => .ok (d :: ds) h3 else lcF p ct ce [] ρ (xs.map g) h) = _
    have ih : lcF p ct ce [] ρ (xs.map g) h = .ok ((xs.filter t).map f) h := lcT fun y hy => k y (List.mem_cons_of_mem _ hy)
    by_cases z : t x = true
    · rw [if_pos z, c2 z, List.filter_cons_of_pos z]
      show ((lcF p ct ce [] ρ (xs.map g) h).bind fun ds h3 => .ok (f x :: ds) h3) = _
      rw [ih]
      rfl
    · rw [if_neg z, List.filter_cons_of_neg z]
      exact ih
theorem compM {ci : Env → M ItD} {own : List Nat} {ρ : Env} {xs : List α} (e : ci ρ h = .ok ⟨xs.map g, []⟩ h) (l : xs.length ≤ 16777216) (k : ∀ x ∈ xs, ∃ ρ1, patD p (g x) (wipeD ρ own) = some ρ1 ∧ ce ρ1 h = .ok (f x) h) : nLc ci p own tYes' ce ρ h = .ok (xs.map f) h := by
  rw [nLc_eq, e]
  show (if okLen (xs.map g).length = true then _ else _) = _
  rw [if_pos (okLen_of (by rw [List.length_map]; exact l))]
  exact lcM k
theorem compT {ci : Env → M ItD} {ct : Env → M Bool} {t : α → Bool} {own : List Nat} {ρ : Env} {xs : List α} (e : ci ρ h = .ok ⟨xs.map g, []⟩ h) (l : xs.length ≤ 16777216) (k : ∀ x ∈ xs, ∃ ρ1, patD p (g x) (wipeD ρ own) = some ρ1 ∧ ct ρ1 h = .ok (t x) h ∧ (t x = true → ce ρ1 h = .ok (f x) h)) : nLc ci p own ct ce ρ h = .ok ((xs.filter t).map f) h := by
  rw [nLc_eq, e]
  show (if okLen (xs.map g).length = true then _ else _) = _
  rw [if_pos (okLen_of (by rw [List.length_map]; exact l))]
  exact lcT k
end
/-! ### all lots -/
def lots : Nat → List (List Nat)
  | 0 => [[]]
  | n + 1 => lots n ++ (lots n).map (· ++ [n])
theorem Inc.wide {n m : Nat} (h : n ≤ m) : ∀ {l : List Nat} {k : Nat}, Inc n k l → Inc m k l
  | [], _, _ => trivial
  | x :: l, k, i => ⟨i.1, Nat.lt_of_lt_of_le i.2.1 h, i.2.2.wide h⟩
theorem Inc.snoc {n : Nat} : ∀ {l : List Nat} {k : Nat}, Inc n k l → k ≤ n → Inc (n + 1) k (l ++ [n])
  | [], _, _, h => ⟨h, Nat.lt_succ_self _, trivial⟩
  | x :: l, k, i, h => ⟨i.1, Nat.lt_succ_of_lt i.2.1, i.2.2.snoc i.2.1⟩
theorem lots_inc : ∀ {n : Nat} {l : List Nat}, l ∈ lots n → Inc n 0 l
  | 0, l, h => by rw [List.mem_singleton.mp h]; trivial
  | n + 1, l, h => by
    rcases List.mem_append.mp h with h | h
    · exact (lots_inc h).wide (Nat.le_succ _)
    · obtain ⟨x, hx, rfl⟩ := List.mem_map.mp h
      exact (lots_inc hx).snoc (Nat.zero_le _)
theorem lots_len : ∀ n : Nat, (lots n).length = 2 ^ n
  | 0 => rfl
  | n + 1 => by
    unfold lots
    rw [List.length_append, List.length_map, lots_len n, Nat.pow_succ]
    omega
/-! ### the greatest -/
def mxq (x y : Rat) : Rat := if x < y then y else x
def tp (cs : List Rat) : Rat := (lots cs.length).foldl (fun x l => mxq x (wn cs l)) 0
/-- the lots that have the greatest chance, in order -/
def enL (l : List Nat) : PySem.PyData := pyF (lotD l)
/-! ### sorted -/
theorem fz_lot (l : List Nat) : Fz 1 (lotD l) := .tup fun x hx => by
  obtain ⟨m, _, rfl⟩ := List.mem_map.mp hx
  exact .int _
theorem al_lots : ∀ (a b : List Nat), PySem.W.alikeAll (pyFs (a.map fun m => .int (m : Nat))) (pyFs (b.map fun m => .int (m : Nat))) = true
  | [], _ => by simp [pyFs, PySem.W.alikeAll]
  | _ :: _, [] => by simp [pyFs, PySem.W.alikeAll]
  | x :: a, y :: b => by
    simp only [List.map_cons, pyFs, pyF, PySem.W.alikeAll, PySem.W.alike, al_lots a b, Bool.and_self]
theorem keyD_lots {h : Hs} : ∀ xs : List (List Nat), keyD h (xs.map lotD) = some (xs.map fun l => (lotD l, enL l))
  | [] => rfl
  | x :: xs => by
    have e := toPy_fz (h := h) ((fz_lot x).mono (show 1 ≤ 60 by decide))
    have ih := keyD_lots (h := h) xs
    unfold keyD at ih ⊢
    rw [List.map_cons, List.map_cons]
    unfold optAll
    rw [ih, e]
    rfl
theorem ok_lots (xs : List (List Nat)) : okSort (xs.map fun l => (lotD l, enL l)) = true := by
  have en : ∀ l : List Nat, enL l = .tuple (pyFs (l.map fun m => .int (m : Nat))) := fun l => by unfold enL lotD; simp only [pyF]
  have e2 : (xs.map fun l => (lotD l, enL l)).map (·.2) = xs.map enL := by rw [List.map_map]; rfl
  unfold okSort
  rw [e2]
  refine Bool.and_eq_true_iff.mpr ⟨?_, Bool.and_eq_true_iff.mpr ⟨?_, ?_⟩⟩
  · refine List.all_eq_true.mpr fun d hd => List.all_eq_true.mpr fun e he => ?_
    obtain ⟨a, _, rfl⟩ := List.mem_map.mp hd
    obtain ⟨b, _, rfl⟩ := List.mem_map.mp he
    rw [en, en]
    simp only [PySem.W.alike]
    exact al_lots a b
  · by_cases z : ([] : List Nat) ∈ xs
    · refine Bool.or_eq_true_iff.mpr (.inr (Bool.and_eq_true_iff.mpr ⟨List.all_eq_true.mpr fun d hd => ?_, List.any_eq_true.mpr ⟨enL [], List.mem_map.mpr ⟨[], z, rfl⟩, ?_⟩⟩))
      · obtain ⟨a, _, rfl⟩ := List.mem_map.mp hd
        rw [en]
      · rw [en]
        simp only [List.map_nil, pyFs]
    · refine Bool.or_eq_true_iff.mpr (.inl (Bool.or_eq_true_iff.mpr (.inl (List.all_eq_true.mpr fun d hd => ?_))))
      obtain ⟨a, ha, rfl⟩ := List.mem_map.mp hd
      rw [en]
      cases a with
      | nil => exact absurd ha z
      | cons x a => simp only [List.map_cons, pyFs]
  · refine List.all_eq_true.mpr fun b hb => ?_
    obtain ⟨a, _, rfl⟩ := List.mem_map.mp hb
    exact decide_eq_true (Nat.le_trans (lay_fz (fz_lot a)).2 (by decide))
theorem sort_lots (xs : List (List Nat)) (h : Hs) : sortN [.lst (xs.map lotD)] h = .ok ((xs.mergeSort (PySem.W.dataLe false enL)).map lotD) h := by
  show (match (some (xs.map lotD)).bind (keyD h) with
    | some bs => if okSort bs then Dl.R.ok ((bs.mergeSort (PySem.W.dataLe false (fun b : D × PySem.PyData => b.2))).map (fun b : D × PySem.PyData => b.1)) h else .bad
    | none => .bad) = _
  rw [Option.bind_some, keyD_lots]
  show (if okSort (xs.map fun l => (lotD l, enL l)) = true then _ else _) = _
  rw [if_pos (ok_lots xs)]
  congr 1
  rw [← List.map_mergeSort (r := PySem.W.dataLe false enL) (f := fun l => (lotD l, enL l)) (fun a _ b _ => rfl), List.map_map]
  rfl
end Pl

/-! Plain laws, 15: best_lots, best. -/
namespace Pl
open Dl Sh
local instance : Dl.Tb := ⟨fun _ => []⟩

theorem lots_small {n : Nat} (h : n ≤ 12) : (lots n).length ≤ 4096 := by
  rw [lots_len]
  exact Nat.pow_le_pow_right (by decide) h (n := 2)
end Pl

/-! Plain laws, 16: the first hand: its draws, shares, rows; what is due of last good ones. -/
namespace Pl
open Dl Sh
local instance : Dl.Tb := ⟨fun _ => []⟩

/-- a share as drawn: of 0 to 1, its bottom below 2 ^ 67 -/
def Shr (q : Rat) : Prop := In1 q ∧ q.den < 2 ^ 67
/-- a row as drawn -/
def Row (qs : List Rat) : Prop := 1 ≤ qs.length ∧ qs.length ≤ 12 ∧ ∀ q ∈ qs, Shr q
theorem Row.cs {qs : List Rat} (r : Row qs) : Cs 1000 qs := by
  refine ⟨fun q hq => (r.2.2 q hq).1, ?_⟩
  have f : ∀ {l : List Rat}, (∀ q ∈ l, Shr q) → Dd l ≤ 2 ^ (67 * l.length) := by
    intro l
    induction l with
    | nil => intro _; exact Nat.le_refl _
    | cons q l ih =>
      intro h
      have h1 := (h q List.mem_cons_self).2
      have h2 := ih fun x hx => h x (List.mem_cons_of_mem _ hx)
      rw [List.length_cons, Nat.mul_succ, Nat.add_comm, Nat.pow_add]
      exact Nat.mul_le_mul (Nat.le_of_lt h1) h2
  exact Nat.lt_of_le_of_lt (f r.2.2) (Nat.pow_lt_pow_right (by decide) (by have := r.2.1; omega))
/-! ### what is due -/
end Pl

/-! Plain laws, deals 1: fractions of a bottom, sums. -/
namespace Pl
open Dl Sh
local instance : Dl.Tb := ⟨fun _ => []⟩

theorem rat_add_le {a b c d : Rat} (h : a ≤ b) (k : c ≤ d) : a + c ≤ b + d := by grind
theorem nat_rat (a b : Nat) : (((a + b : Nat) : Int) : Rat) = ((a : Int) : Rat) + ((b : Int) : Rat) := by rw [Int.natCast_add, Rat.intCast_add]
theorem nat_mul_rat (a b : Nat) : (((a * b : Nat) : Int) : Rat) = ((a : Int) : Rat) * ((b : Int) : Rat) := by rw [Int.natCast_mul, Rat.intCast_mul]
theorem nat_rat_le {a b : Nat} (h : a ≤ b) : ((a : Int) : Rat) ≤ ((b : Int) : Rat) := Rat.intCast_le_intCast.mpr (by omega)
theorem nat_rat_nn (a : Nat) : (0 : Rat) ≤ ((a : Int) : Rat) := by
  have := Rat.intCast_le_intCast (a := 0) (b := (a : Int)) |>.mpr (by omega)
  simpa using this
/-- q has the bottom E, and is of 0 to M -/
structure Bq (E M : Nat) (q : Rat) : Prop where
  iq : Iq E q
  lo : 0 ≤ q
  hi : q ≤ ((M : Int) : Rat)
section
variable {E F M N : Nat} {p q : Rat}
theorem Bq.sz {b : Nat} (h : Bq E M q) (h0 : 0 < E) (hb : (M + 1) * E < 2 ^ b) : Sz b q := h.iq.sz h0 hb (Nat.succ_pos _) h.lo (Rat.le_trans h.hi (nat_rat_le (Nat.le_succ _)))
theorem Iq.neg (x : Iq E q) : Iq E (-q) := by
  obtain ⟨m, rfl⟩ := x
  exact ⟨-m, by rw [Rat.neg_divInt]⟩
theorem Iq.sub (x : Iq E p) (y : Iq E q) : Iq E (p - q) := by
  rw [Rat.sub_eq_add_neg]
  exact x.add y.neg
theorem Bq.mul (h : Bq E M p) (k : Bq F N q) : Bq (E * F) (M * N) (p * q) := ⟨h.iq.mul k.iq, Rat.mul_nonneg h.lo k.lo, by
  rw [nat_mul_rat]
  exact Rat.le_trans (Rat.mul_le_mul_of_nonneg_right h.hi k.lo) (Rat.mul_le_mul_of_nonneg_left k.hi (nat_rat_nn M))⟩
theorem Bq.add (h : Bq E M p) (k : Bq E N q) : Bq E (M + N) (p + q) := ⟨h.iq.add k.iq, Rat.add_nonneg h.lo k.lo, by
  rw [nat_rat]
  exact rat_add_le h.hi k.hi⟩
theorem Bq.up (h : Bq E M q) (d : E ∣ F) (h0 : 0 < F) (l : M ≤ N) : Bq F N q := ⟨h.iq.up d h0, h.lo, Rat.le_trans h.hi (nat_rat_le l)⟩
theorem Bq.sub (h : Bq E M p) (k : Bq E N q) (l : q ≤ p) : Bq E M (p - q) := ⟨h.iq.sub k.iq, by grind, by
  have h1 := h.hi
  have h2 := k.lo
  grind⟩
theorem Bq.one' (h0 : 0 < E) : Bq E 1 1 := ⟨Iq.one.up (Nat.one_dvd _) h0, by decide +kernel, by decide +kernel⟩
theorem Bq.zero' (h0 : 0 < E) (M : Nat) : Bq E M 0 := ⟨Iq.zero.up (Nat.one_dvd _) h0, Rat.le_refl, nat_rat_nn M⟩
theorem Bq.rest (h0 : 0 < E) (h : Bq E 1 q) : Bq E 1 (1 - q) := (Bq.one' h0).sub h h.hi
theorem Bq.int {v : Int} (h0 : 0 ≤ v) (h1 : v ≤ (M : Int)) : Bq 1 M (v : Rat) := ⟨⟨v, (Rat.num_divInt_den (v : Rat)).symm⟩, by
  have := Rat.intCast_le_intCast (a := 0) (b := v) |>.mpr h0
  simpa using this, Rat.intCast_le_intCast.mpr h1⟩
theorem Bq.in1 (h : Bq E 1 q) : In1 q := ⟨h.lo, h.hi⟩
theorem Bq.of1 (x : Iq E q) (h : In1 q) : Bq E 1 q := ⟨x, h.1, h.2⟩
end
/-! ### sums -/
def sm : List Rat → Rat
  | [] => 0
  | x :: xs => x + sm xs
theorem sm_app : ∀ xs ys : List Rat, sm (xs ++ ys) = sm xs + sm ys
  | [], ys => by show sm ys = 0 + sm ys; grind
  | x :: xs, ys => by
    show x + sm (xs ++ ys) = x + sm xs + sm ys
    rw [sm_app]
    grind
theorem sm_bq {E M : Nat} (h0 : 0 < E) : ∀ {xs : List Rat}, (∀ x ∈ xs, Bq E M x) → Bq E (xs.length * M) (sm xs)
  | [], _ => Bq.zero' h0 _
  | x :: xs, h => by
    have z := (h x List.mem_cons_self).add (sm_bq h0 fun y hy => h y (List.mem_cons_of_mem _ hy))
    have e : (x :: xs).length * M = M + xs.length * M := by rw [List.length_cons, Nat.succ_mul, Nat.add_comm]
    rw [e]
    exact z
section
variable {α : Type}
theorem sm_map_le {f g : α → Rat} : ∀ {xs : List α}, (∀ x ∈ xs, f x ≤ g x) → sm (xs.map f) ≤ sm (xs.map g)
  | [], _ => Rat.le_refl
  | x :: xs, h => rat_add_le (h x List.mem_cons_self) (sm_map_le fun y hy => h y (List.mem_cons_of_mem _ hy))
end
/-! ### the law's own fractions -/
section
variable {p q : Rat} {a b : Nat} (hp : Sz a p) (hq : Sz b q) (hab : a + b ≤ 8000)
include hp hq hab
end
end Pl

/-! Plain laws, deals 2: loops in general; offers; means, sums of shares. -/
namespace Pl
open Dl Sh
local instance : Dl.Tb := ⟨fun _ => []⟩

/-! ### loops -/
/-! ### offers -/
abbrev Offer := List (Int × Rat)
def pairD (p : Int × Rat) : D := .tup [.int p.1, fr p.2]
def offD (o : Offer) : D := .tup (o.map pairD)
def dealD (os : List Offer) : D := .tup (os.map offD)
def Do (o : Offer) : Nat := Dd (o.map (·.2))
theorem Dd_mem {c : Rat} : ∀ {cs : List Rat}, c ∈ cs → c.den ∣ Dd cs
  | [], h => by simp at h
  | x :: xs, h => by
    rcases List.mem_cons.mp h with e | e
    · rw [e]; exact Nat.dvd_mul_right _ _
    · exact Nat.dvd_trans (Dd_mem e) (Nat.dvd_mul_left _ _)
/-- an offer as it may be handed in, of a size -/
structure Ofr (o : Offer) : Prop where
  l1 : 1 ≤ o.length
  l5 : o.length ≤ 5
  val : ∀ p ∈ o, 0 ≤ p.1 ∧ p.1 ≤ 1000
  sh : ∀ p ∈ o, 0 < p.2 ∧ p.2 ≤ 1
  up : (o.map (·.1)).Pairwise (· < ·)
  one : sm (o.map (·.2)) = 1
  dn : Do o < 2 ^ 60
structure Dl8 (os : List Offer) : Prop where
  l1 : 1 ≤ os.length
  l8 : os.length ≤ 8
  ofr : ∀ o ∈ os, Ofr o
/-- pairs of a bottom -/
structure Prs (E : Nat) (g : Offer) : Prop where
  e0 : 0 < E
  len : g.length ≤ 5
  val : ∀ p ∈ g, 0 ≤ p.1 ∧ p.1 ≤ 1000
  sh : ∀ p ∈ g, Bq E 1 p.2
theorem Ofr.prs {o : Offer} (h : Ofr o) : Prs (Do o) o := ⟨Dd_pos _, h.l5, h.val, fun p hp => Bq.of1 ((Iq.self p.2).up (Dd_mem (List.mem_map.mpr ⟨p, hp, rfl⟩)) (Dd_pos _)) ⟨Rat.le_of_lt (h.sh p hp).1, (h.sh p hp).2⟩⟩
theorem Prs.filter {E : Nat} {g : Offer} (k : Prs E g) (t : Int × Rat → Bool) : Prs E (g.filter t) := ⟨k.e0, Nat.le_trans (List.length_filter_le _ _) k.len, fun p hp => k.val p (List.mem_filter.mp hp).1, fun p hp => k.sh p (List.mem_filter.mp hp).1⟩
def ss (g : Offer) : Rat := sm (g.map (·.2))
section
variable {E : Nat} {g : Offer} (k : Prs E g) {h : Hs}
include k
theorem Prs.ss : Bq E 5 (ss g) := by
  have z := sm_bq (E := E) (M := 1) k.e0 (xs := g.map (·.2)) fun x hx => by
    obtain ⟨p, hp, rfl⟩ := List.mem_map.mp hx
    exact k.sh p hp
  exact z.up (Nat.dvd_refl _) k.e0 (by rw [List.length_map]; have := k.len; omega)
end
/-- a bound that is enough -/
theorem Bq.s {E M : Nat} {q : Rat} (h : Bq E M q) (h0 : 0 < E) (hE : E < 2 ^ 1500) (hM : M < 2 ^ 60) : Sz 2000 q := h.sz h0 (by
  have e : (2 : Nat) ^ 1560 = 2 ^ 60 * 2 ^ 1500 := by rw [← Nat.pow_add]
  have l : (M + 1) * E ≤ 2 ^ 60 * E := Nat.mul_le_mul_right _ hM
  have l2 : 2 ^ 60 * E < 2 ^ 60 * 2 ^ 1500 := Nat.mul_lt_mul_of_pos_left hE (Nat.pow_pos (by decide))
  have l3 : (2 : Nat) ^ 1560 ≤ 2 ^ 2000 := Nat.pow_le_pow_right (by decide) (by decide)
  omega)
/-! ### an offer is one -/
/-! ### a Deal object -/
def DealAt (h : Hs) (i : Nat) (os : List Offer) : Prop := ∃ fs, h[i]? = some (.ins "Deal" fs) ∧ fs.lookup ("offers" : PySem.Str) = some (dealD os)
theorem DealAt.app {h l : Hs} {i : Nat} {os : List Offer} (t : DealAt h i os) : DealAt (h ++ l) i os := by
  obtain ⟨fs, h1, h2⟩ := t
  exact ⟨fs, getl h1, h2⟩
theorem DealAt.gb {b : Nat} {h h' : Hs} {i : Nat} {os : List Offer} (t : DealAt h i os) (g : Gb b h h') (hi : b ≤ i) : DealAt h' i os := by
  obtain ⟨fs, h1, h2⟩ := t
  exact ⟨fs, g.at hi h1, h2⟩
end Pl

/-! Plain laws, deals 3: worths, one floor. -/
namespace Pl
open Dl Sh
local instance : Dl.Tb := ⟨fun _ => []⟩

/-! ### means -/
def ex (o : Offer) (f : Int → Rat) : Rat := sm (o.map fun p => p.2 * f p.1)
section
variable {o : Offer} (k : Ofr o) {f g : Int → Rat}
include k
theorem ex_mono (h : ∀ p ∈ o, f p.1 ≤ g p.1) : ex o f ≤ ex o g := sm_map_le fun p hp => Rat.mul_le_mul_of_nonneg_left (h p hp) (Rat.le_of_lt (k.sh p hp).1)
end
/-! ### the worths -/
def wf (o : Offer) (x : Rat) : Rat := ex o fun v => mxq (v : Rat) x
def w : List Offer → Rat
  | [] => 0
  | o :: os => wf o (w os)
def ws : List Offer → List Rat
  | [] => [0]
  | o :: os => w (o :: os) :: ws os
end Pl

/-! Plain laws, deals 4: one floor; what no offer exceeds; all values; the mean of the greatest; the best floor. -/
namespace Pl
open Dl Sh
local instance : Dl.Tb := ⟨fun _ => []⟩

/-! ### one floor -/
/-! ### no offer has more than a value -/
def leq (v : Int) (p : Int × Rat) : Bool := decide (p.1 ≤ v)
def nm : List Offer → Int → Rat
  | [], _ => 1
  | o :: os, v => ss (o.filter (leq v)) * nm os v
/-! ### all values -/
def kv (ks : List Int) : List (L2.Key × D) := ks.map fun k => (.inl k, .bl true)
def allv (os : List Offer) : List Int := (os.map fun o => o.map (·.1)).flatten
def vals (os : List Offer) : List Int := usort (allv os)
end Pl

/-! Plain laws, deals 5: the mean of the greatest; the best floor; the law's own ways. -/
namespace Pl
open Dl Sh
local instance : Dl.Tb := ⟨fun _ => []⟩

/-- of a bottom, and of a size to both sides -/
structure Bz (E M : Nat) (q : Rat) : Prop where
  iq : Iq E q
  lo : -((M : Int) : Rat) ≤ q
  hi : q ≤ ((M : Int) : Rat)
section
variable {E M N : Nat} {p q : Rat}
theorem Sz.neg {b : Nat} (h : Sz b (-q)) : Sz b q := by
  obtain ⟨h1, h2⟩ := h
  rw [Rat.neg_num, Int.natAbs_neg] at h1
  rw [Rat.neg_den] at h2
  exact ⟨h1, h2⟩
theorem Bz.s (h : Bz E M q) (h0 : 0 < E) (hE : E < 2 ^ 1500) (hM : M < 2 ^ 60) : Sz 2000 q := by
  rcases Rat.le_total (a := 0) (b := q) with z | z
  · exact (Bq.mk h.iq z h.hi).s h0 hE hM
  · refine Sz.neg ((Bq.mk (M := M) h.iq.neg (by grind) ?_).s h0 hE hM)
    have := h.lo
    grind
theorem Bq.z (h : Bq E M q) : Bz E M q := ⟨h.iq, by
  have := h.lo
  have := nat_rat_nn M
  grind, h.hi⟩
theorem Bz.add (h : Bz E M p) (k : Bz E N q) : Bz E (M + N) (p + q) := ⟨h.iq.add k.iq, by
  have := h.lo
  have := k.lo
  rw [nat_rat]
  grind, by
  have := h.hi
  have := k.hi
  rw [nat_rat]
  grind⟩
theorem Bz.sub (h : Bz E M p) (k : Bz E N q) : Bz E (M + N) (p - q) := ⟨h.iq.sub k.iq, by
  have := h.lo
  have := k.hi
  rw [nat_rat]
  grind, by
  have := h.hi
  have := k.lo
  rw [nat_rat]
  grind⟩
theorem Bz.up (h : Bz E M q) (l : M ≤ N) : Bz E N q := ⟨h.iq, by
  have := h.lo
  have := nat_rat_le l
  grind, Rat.le_trans h.hi (nat_rat_le l)⟩
end
/-! ### the mean of the greatest -/
/-! ### the best floor -/
end Pl

/-! Plain laws, deals 6: the second hand: offers, deals that are drawn; equal things. -/
namespace Pl
open Dl Sh
local instance : Dl.Tb := ⟨fun _ => []⟩

/-! ### an offer that is drawn -/
/-! ### equal things -/
/-- ints, tuples and lists of such, short -/
inductive Lw : Nat → D → Prop
  | int {n : Nat} (i : Int) : Lw n (.int i)
  | tup {n : Nat} {xs : List D} : xs.length ≤ 1000 → (∀ x ∈ xs, Lw n x) → Lw (n + 1) (.tup xs)
  | lst {n : Nat} {xs : List D} : xs.length ≤ 1000 → (∀ x ∈ xs, Lw n x) → Lw (n + 1) (.lst xs)
end Pl

/-! Plain laws, deals 7: loops as wished; the law's own way by a floor; what is more. -/
namespace Pl
open Dl Sh
local instance : Dl.Tb := ⟨fun _ => []⟩

theorem wps_of {r : SR} {ρ : Env} {h : Hs} {N : Env → Hs → Prop} {T : D → Hs → Prop} (e : r = .nx ρ h) (n : N ρ h) : WpS r N T := by rw [e]; exact n
/-! ### by a floor, the law's own way -/
/-! ### no floor has more than the worth -/
end Pl

/-! Plain laws, hand c 1: the third hand, its fractions, its offers. -/
namespace Pl
open Dl Sh
local instance : Dl.Tb := ⟨fun _ => []⟩

/-! ### fractions -/
end Pl

/-! Plain laws, hand c 2: offers, deals that are drawn. -/
namespace Pl
open Dl Sh
local instance : Dl.Tb := ⟨fun _ => []⟩

abbrev Wts := List (Int × Int)
def kw (ps : Wts) : List (L2.Key × D) := ps.map fun p => (.inl p.1, .int p.2)
def putW (ps : Wts) (v x : Int) : Wts := if v ∈ ps.map (·.1) then ps.map (fun p => if p.1 = v then (p.1, x) else p) else ps ++ [(v, x)]
theorem putW_keys {ps : Wts} {v x : Int} : (putW ps v x).map (·.1) = if v ∈ ps.map (·.1) then ps.map (·.1) else ps.map (·.1) ++ [v] := by
  unfold putW
  by_cases m : v ∈ ps.map (·.1)
  · rw [if_pos m, if_pos m, List.map_map]
    refine List.map_congr_left fun p _ => ?_
    show (if p.1 = v then (p.1, x) else p).1 = p.1
    split <;> rfl
  · rw [if_neg m, if_neg m, List.map_append]
    rfl
structure WtOk (ps : Wts) : Prop where
  nd : (ps.map (·.1)).Nodup
  key : ∀ p ∈ ps, 0 ≤ p.1 ∧ p.1 ≤ 1000
  wt : ∀ p ∈ ps, 1 ≤ p.2 ∧ p.2 ≤ 4
theorem WtOk.put {ps : Wts} {v x : Int} (k : WtOk ps) (hv : 0 ≤ v ∧ v ≤ 1000) (hx : 1 ≤ x ∧ x ≤ 4) : WtOk (putW ps v x) ∧ (putW ps v x).length ≤ ps.length + 1 ∧ 1 ≤ (putW ps v x).length := by
  refine ⟨⟨?_, fun p hp => ?_, fun p hp => ?_⟩, ?_, ?_⟩
  · rw [putW_keys]
    split
    · exact k.nd
    · rename_i n
      rw [List.nodup_append]
      refine ⟨k.nd, by simp, fun a ha b hb e => ?_⟩
      rw [List.mem_singleton.mp hb] at e
      exact n (e ▸ ha)
  · unfold putW at hp
    split at hp
    · obtain ⟨q, hq, rfl⟩ := List.mem_map.mp hp
      have := k.key q hq
      split
      · exact this
      · exact this
    · rcases List.mem_append.mp hp with e | e
      · exact k.key p e
      · rw [List.mem_singleton.mp e]; exact hv
  · unfold putW at hp
    split at hp
    · obtain ⟨q, hq, rfl⟩ := List.mem_map.mp hp
      have := k.wt q hq
      split
      · exact hx
      · exact this
    · rcases List.mem_append.mp hp with e | e
      · exact k.wt p e
      · rw [List.mem_singleton.mp e]; exact hx
  · unfold putW
    split
    · rw [List.length_map]; omega
    · rw [List.length_append, List.length_singleton]; omega
  · unfold putW
    split
    · rename_i m
      rw [List.length_map]
      obtain ⟨p, hp, _⟩ := List.mem_map.mp m
      exact List.length_pos_of_mem hp
    · rw [List.length_append, List.length_singleton]; omega
end Pl

/-! Plain laws, deals 8: the mean of the greatest, over all that can come; the second fact. -/
namespace Pl
open Dl Sh
local instance : Dl.Tb := ⟨fun _ => []⟩

/-- the mean of the greatest of m and all values -/
def em : Int → List Offer → Rat
  | m, [] => (m : Rat)
  | m, o :: os => ex o fun v => em (max m v) os
/-! ### it is the mean by values -/
/-! ### the second fact -/
def pos (x : Rat) : Rat := if 0 ≤ x then x else 0
/-- the share that none is at the floor, what is above it on the mean -/
def qf : List Offer → Rat → Rat
  | [], _ => 1
  | o :: os, f => (ex o fun v => if (v : Rat) < f then 1 else 0) * qf os f
/-! ### the best of all values as floors -/
end Pl

/-! Plain laws, deals 9: all rows of values. -/
namespace Pl
open Dl Sh
local instance : Dl.Tb := ⟨fun _ => []⟩

/-- a list by value, or one that may change at a place -/
def ListAt (h : Hs) (x : D) (xs : List D) : Prop := x = .lst xs ∨ ∃ n, x = .obj n ∧ h[n]? = some (.lst xs)
/-! ### the rows -/
def rowsS (rows : Offer) (o : Offer) : Offer := (rows.map fun r => o.map fun p => (max r.1 p.1, r.2 * p.2)).flatten
def rw' (rows : Offer) (os : List Offer) : Rat := sm (rows.map fun r => r.2 * em r.1 os)
/-- rows of a bottom -/
structure Rws (F : Nat) (rows : Offer) : Prop where
  val : ∀ r ∈ rows, 0 ≤ r.1 ∧ r.1 ≤ 1000
  sh : ∀ r ∈ rows, Bq F 1 r.2
theorem Rws.step {F : Nat} {rows : Offer} {o : Offer} (k : Rws F rows) (ko : Ofr o) : Rws (F * Do o) (rowsS rows o) := by
  have mem : ∀ q ∈ rowsS rows o, ∃ r ∈ rows, ∃ p ∈ o, q = (max r.1 p.1, r.2 * p.2) := fun q hq => by
    obtain ⟨l, hl, hm⟩ := List.mem_flatten.mp hq
    obtain ⟨r, hr, rfl⟩ := List.mem_map.mp hl
    obtain ⟨p, hp, rfl⟩ := List.mem_map.mp hm
    exact ⟨r, hr, p, hp, rfl⟩
  refine ⟨fun q hq => ?_, fun q hq => ?_⟩
  · obtain ⟨r, hr, p, hp, rfl⟩ := mem q hq
    have a := k.val r hr
    have b := ko.val p hp
    show 0 ≤ max r.1 p.1 ∧ max r.1 p.1 ≤ 1000
    omega
  · obtain ⟨r, hr, p, hp, rfl⟩ := mem q hq
    exact (k.sh r hr).mul (ko.prs.sh p hp)
end Pl

/-! Plain laws, deals 10: the law's own hopes; what falls by nothing; an offer more. -/
namespace Pl
open Dl Sh
local instance : Dl.Tb := ⟨fun _ => []⟩

theorem DealAt.g0 {h h' : Hs} {i : Nat} {os : List Offer} (t : DealAt h i os) (g : Gb 0 h h') : DealAt h' i os := t.gb g (Nat.zero_le _)
theorem anyD_bls {α : Type} (t : α → Bool) (xs : List α) (h : Hs) : anyD [.lst (xs.map fun x => D.bl (t x))] h = .ok (.bl (xs.any t)) h := by
  show (match (some (xs.map fun x => D.bl (t x))).bind allBl with
    | some bs => Dl.R.ok (D.bl (bs.any id)) h
    | none => .bad) = _
  rw [Option.bind_some, allBl_map]
  show Dl.R.ok (D.bl ((xs.map t).any id)) h = _
  rw [List.any_map]
  rfl
/-! ### hopes -/
/-! ### what falls by nothing -/
/-- offers of 0 for sure -/
def zero : Offer := [(0, 1)]
/-- a value greater -/
theorem ex_greater {i : Offer} {v v' : Int} {s : Rat} (s0 : 0 ≤ s) (l : v ≤ v') {f : Int → Rat} (m : ∀ a b : Int, a ≤ b → f a ≤ f b) : ex (i ++ [(v, s)]) f ≤ ex (i ++ [(v', s)]) f := by
  unfold ex
  rw [List.map_append, List.map_append, sm_app, sm_app]
  have z := Rat.mul_le_mul_of_nonneg_left (m v v' l) s0
  show sm (i.map fun p => p.2 * f p.1) + (s * f v + 0) ≤ sm (i.map fun p => p.2 * f p.1) + (s * f v' + 0)
  grind
end Pl

/-! Plain laws, boxes 1: boxes made, drawn. -/
namespace Pl
open Dl Sh
local instance : Dl.Tb := ⟨fun _ => []⟩

abbrev Box := Int × Offer
def boxD (b : Box) : D := .tup [.int b.1, offD b.2]
def boxesD (bs : List Box) : D := .tup (bs.map boxD)
structure Bx (b : Box) : Prop where
  c : 0 ≤ b.1 ∧ b.1 ≤ 1000
  o : Ofr b.2
structure Bx6 (bs : List Box) : Prop where
  l1 : 1 ≤ bs.length
  l6 : bs.length ≤ 6
  bx : ∀ b ∈ bs, Bx b
def BoxAt (h : Hs) (i : Nat) (bs : List Box) : Prop := ∃ fs, h[i]? = some (.ins "Boxes" fs) ∧ fs.lookup ("boxes" : PySem.Str) = some (boxesD bs)
theorem BoxAt.app {h l : Hs} {i : Nat} {bs : List Box} (t : BoxAt h i bs) : BoxAt (h ++ l) i bs := by
  obtain ⟨fs, h1, h2⟩ := t
  exact ⟨fs, getl h1, h2⟩
theorem BoxAt.gb {b : Nat} {h h' : Hs} {i : Nat} {bs : List Box} (t : BoxAt h i bs) (g : Gb b h h') (hi : b ≤ i) : BoxAt h' i bs := by
  obtain ⟨fs, h1, h2⟩ := t
  exact ⟨fs, g.at hi h1, h2⟩
/-! ### drawn -/
end Pl

/-! Plain laws, boxes 2: fractions of either sign; sums, tops; the greatest mean of the rest. -/
namespace Pl
open Dl Sh
local instance : Dl.Tb := ⟨fun _ => []⟩

/-- of a bottom, of a size, of either sign -/
structure Sq (E M : Nat) (q : Rat) : Prop where
  iq : Iq E q
  lo : -((M : Int) : Rat) ≤ q
  hi : q ≤ ((M : Int) : Rat)
section
variable {E F M N b : Nat} {p q : Rat}
theorem Sq.sz (h : Sq E M q) (h0 : 0 < E) (hb : (M + 1) * E < 2 ^ b) : Sz b q := by
  by_cases z : 0 ≤ q
  · exact Bq.sz ⟨h.iq, z, h.hi⟩ h0 hb
  · have z' : 0 ≤ -q := by grind
    have y := Bq.sz (E := E) (M := M) (q := -q) ⟨h.iq.neg, z', by have := h.lo; grind⟩ h0 hb
    exact y.neg
theorem Bq.sg (h : Bq E M q) : Sq E M q := ⟨h.iq, by have := nat_rat_nn M; have := h.lo; grind, h.hi⟩
theorem Sq.add (h : Sq E M p) (k : Sq E N q) : Sq E (M + N) (p + q) := ⟨h.iq.add k.iq, by rw [nat_rat]; have := h.lo; have := k.lo; grind, by rw [nat_rat]; have := h.hi; have := k.hi; grind⟩
theorem Sq.neg (h : Sq E M q) : Sq E M (-q) := ⟨h.iq.neg, by have := h.hi; grind, by have := h.lo; grind⟩
theorem Sq.up (h : Sq E M q) (d : E ∣ F) (h0 : 0 < F) (l : M ≤ N) : Sq F N q := ⟨h.iq.up d h0, by have := h.lo; have := nat_rat_le l; grind, Rat.le_trans h.hi (nat_rat_le l)⟩
theorem Sq.int {v : Int} (h : v.natAbs ≤ M) : Sq 1 M (v : Rat) := ⟨⟨v, (Rat.num_divInt_den (v : Rat)).symm⟩, by
  have z : (((-(M : Int) : Int)) : Rat) ≤ (v : Rat) := Rat.intCast_le_intCast.mpr (by omega)
  rwa [Rat.intCast_neg] at z, Rat.intCast_le_intCast.mpr (by omega)⟩
end
/-! ### the greatest mean of the rest -/
def bxAt (bs : List Box) (i : Nat) : Box := bs.getD i (0, [])
def insN (i : Nat) : List Nat → List Nat
  | [] => [i]
  | j :: l => if i < j then i :: j :: l else j :: insN i l
def tot (b : Box) (f : Int → Rat) : Rat := ex b.2 f - (b.1 : Rat)
def G (bs : List Box) : Nat → List Nat → Int → Rat
  | 0, _, x => (x : Rat)
  | k + 1, l, x => (List.range bs.length).foldl (fun t i => if i ∈ l then t else mxq t (tot (bxAt bs i) fun v => G bs k (insN i l) (max x v))) (x : Rat)
section
variable {bs : List Box} (kb : ∀ b ∈ bs, Bx b)
include kb
end
end Pl

/-! Plain laws, boxes 3: sorted(opened + (number,)); a box is opened; what is kept. -/
namespace Pl
open Dl Sh
local instance : Dl.Tb := ⟨fun _ => []⟩

/-! ### sorted -/
/-! ### what is kept: a dict by (opened, found) -/
def keyN (l : List Nat) (x : Int) : PySem.NestedKey := .tup [.tup (l.map fun m => .num (m : Nat)), .num x]
theorem num_inj : ∀ {l l' : List Nat}, (l.map fun m => PySem.NestedKey.num (m : Nat)) = l'.map (fun m => PySem.NestedKey.num (m : Nat)) → l = l'
  | [], [], _ => rfl
  | [], _ :: _, e => by cases e
  | _ :: _, [], e => by cases e
  | a :: l, b :: l', e => by
    rw [List.map_cons, List.map_cons] at e
    injection e with e1 e2
    injection e1 with e3
    rw [num_inj e2, Int.ofNat.inj e3]
theorem keyN_inj {l l' : List Nat} {x x' : Int} (e : keyN l x = keyN l' x') : l = l' ∧ x = x' := by
  unfold keyN at e
  injection e with e
  injection e with e1 e2
  injection e1 with e1
  injection e2 with e2 _
  injection e2 with e2
  exact ⟨num_inj e1, e2⟩
theorem nk_nums {n : Nat} : ∀ l : List Nat, optAll (nkOf n) (l.map fun m => D.int (m : Nat)) = some (l.map fun m => .num (m : Nat))
  | [] => rfl
  | m :: l => by
    rw [List.map_cons]
    unfold optAll
    rw [nk_nums l]
    have e : nkOf n (.int (m : Nat)) = some (.num (m : Nat)) := by cases n <;> rfl
    rw [e]
    rfl
theorem nkT_key (l : List Nat) (x : Int) : nkT (.tup [lotD l, .int x]) = some (keyN l x) := by
  show (optAll (nkOf 3) [lotD l, .int x]).map PySem.NestedKey.tup = _
  have e1 : nkOf 3 (lotD l) = some (.tup (l.map fun m => .num (m : Nat))) := by
    show (optAll (nkOf 2) (l.map fun m => D.int (m : Nat))).map PySem.NestedKey.tup = _
    rw [nk_nums]
    rfl
  have e2 : nkOf 3 (.int x) = some (.num x) := rfl
  unfold optAll
  rw [e1]
  unfold optAll
  rw [e2]
  rfl
theorem look_put (kvs : List (PySem.NestedKey × D)) (k k' : PySem.NestedKey) (d : D) : look (putN kvs k d) k' = if k' = k then some d else look kvs k' := by
  have rep : ∀ kvs : List (PySem.NestedKey × D), look (kvs.map fun kv => if kv.1 = k then (kv.1, d) else kv) k' = if k' = k ∧ (look kvs k).isSome = true then some d else look kvs k' := fun kvs => by
    induction kvs with
    | nil => simp [look]
    | cons p ps ih =>
      rw [List.map_cons]
      by_cases e : p.1 = k
      · rw [if_pos e]
        by_cases e2 : p.1 = k'
        · have e3 : k' = k := e2.symm.trans e
          have a1 : look ((p.1, d) :: ps.map fun kv => if kv.1 = k then (kv.1, d) else kv) k' = some d := by simp [look, List.find?_cons, e2]
          have a2 : (look (p :: ps) k).isSome = true := by simp [look, List.find?_cons, e]
          rw [a1, if_pos ⟨e3, a2⟩]
        · have a1 : look ((p.1, d) :: ps.map fun kv => if kv.1 = k then (kv.1, d) else kv) k' = look (ps.map fun kv => if kv.1 = k then (kv.1, d) else kv) k' := by simp [look, List.find?_cons, e2]
          have ne : k' ≠ k := fun z => e2 (e.trans z.symm)
          have a2 : look (p :: ps) k' = look ps k' := by simp [look, List.find?_cons, e2]
          rw [a1, ih, a2, if_neg (fun z => ne z.1), if_neg (fun z => ne z.1)]
      · rw [if_neg e]
        by_cases e2 : p.1 = k'
        · have ne : k' ≠ k := fun z => e (e2.trans z)
          have a1 : ∀ l, look (p :: l) k' = some p.2 := fun l => by simp [look, List.find?_cons, e2]
          rw [a1, a1, if_neg (fun z => ne z.1)]
        · have a1 : ∀ l, look (p :: l) k' = look l k' := fun l => by simp [look, List.find?_cons, e2]
          have a2 : look (p :: ps) k = look ps k := by simp [look, List.find?_cons, e]
          rw [a1, a1, a2, ih]
  unfold putN
  by_cases s : (look kvs k).isSome = true
  · rw [if_pos s, rep]
    by_cases e : k' = k
    · rw [if_pos ⟨e, s⟩, if_pos e]
    · rw [if_neg (fun z => e z.1), if_neg e]
  · rw [if_neg s]
    have app : ∀ kvs : List (PySem.NestedKey × D), look kvs k = none → look (kvs ++ [(k, d)]) k' = if k' = k then some d else look kvs k' := fun kvs => by
      induction kvs with
      | nil =>
        intro _
        by_cases e : k = k'
        · simp [look, List.find?_cons, e]
        · have e' : ¬ k' = k := fun z => e z.symm
          simp [look, List.find?_cons, e, e']
      | cons p ps ih =>
        intro hn
        have ne : ¬ p.1 = k := fun e => by simp [look, List.find?_cons, e] at hn
        have hn' : look ps k = none := by
          have a : look (p :: ps) k = look ps k := by simp [look, List.find?_cons, ne]
          rwa [a] at hn
        rw [List.cons_append]
        by_cases e2 : p.1 = k'
        · have ne' : k' ≠ k := fun z => ne (e2.trans z)
          have a1 : ∀ l, look (p :: l) k' = some p.2 := fun l => by simp [look, List.find?_cons, e2]
          rw [a1, a1, if_neg ne']
        · have a1 : ∀ l, look (p :: l) k' = look l k' := fun l => by simp [look, List.find?_cons, e2]
          rw [a1, a1, ih hn']
    refine app kvs ?_
    cases z : look kvs k with
    | none => rfl
    | some x => rw [z] at s; exact absurd rfl s
/-- a dict of right entries -/
structure Kept (f : List Nat → Int → Rat) (h : Hs) (n c : Nat) : Prop where
  at_ : ∃ kvs, nAt h (.obj n) = some kvs ∧ kvs.length ≤ c ∧ ∀ l x d, look kvs (keyN l x) = some d → d = fr (f l x)
theorem nAt_len {h : Hs} {n : Nat} {kvs : List (PySem.NestedKey × D)} (e : nAt h (.obj n) = some kvs) : n < h.length := by
  have e : (match h[n]? with
    | some (.dN kvs) => some kvs
    | some (.dI []) => some []
    | _ => none) = some kvs := e
  rcases Nat.lt_or_ge n h.length with z | z
  · exact z
  · rw [List.getElem?_eq_none z] at e
    cases e
theorem nAt_set {h : Hs} {n : Nat} {kvs : List (PySem.NestedKey × D)} (l : n < h.length) : nAt (h.set n (.dN kvs)) (.obj n) = some kvs := by
  show (match (h.set n (.dN kvs))[n]? with
    | some (.dN kvs) => some kvs
    | some (.dI []) => some []
    | _ => none) = some kvs
  rw [List.getElem?_set_self l]
theorem nAt_eq {h h' : Hs} {n : Nat} (e : h'[n]? = h[n]?) : nAt h' (.obj n) = nAt h (.obj n) := by
  show (match h'[n]? with
    | some (.dN kvs) => some kvs
    | some (.dI []) => some []
    | _ => none) = (match h[n]? with
    | some (.dN kvs) => some kvs
    | some (.dI []) => some []
    | _ => none)
  rw [e]
section
variable {f : List Nat → Int → Rat} {h h' : Hs} {n c : Nat} {l : List Nat} {x : Int}
theorem Kept.eq (k : Kept f h n c) (e : h'[n]? = h[n]?) : Kept f h' n c := by
  obtain ⟨kvs, k1, k2, k3⟩ := k.at_
  exact ⟨kvs, by rw [nAt_eq e]; exact k1, k2, k3⟩
theorem Kept.mono {c' : Nat} (k : Kept f h n c) (l : c ≤ c') : Kept f h n c' := by
  obtain ⟨kvs, k1, k2, k3⟩ := k.at_
  exact ⟨kvs, k1, by omega, k3⟩
theorem Kept.new (e : h[n]? = some (.dI [])) : Kept f h n 0 := by
  refine ⟨[], ?_, Nat.le_refl _, fun l x d e => by simp [look] at e⟩
  show (match h[n]? with
    | some (.dN kvs) => some kvs
    | some (.dI []) => some []
    | _ => none) = some []
  rw [e]
/-- it is stored -/
theorem Kept.put (k : Kept f h n c) (l : List Nat) (x : Int) (hc : c < 16000000) : ∃ kvs, nAt h (.obj n) = some kvs ∧ kvs.length < 16777216 ∧ Kept f (h.set n (.dN (putN kvs (keyN l x) (fr (f l x))))) n (c + 1) ∧
    itemN (.obj n) (.tup [lotD l, .int x]) (h.set n (.dN (putN kvs (keyN l x) (fr (f l x))))) = .ok (fr (f l x)) (h.set n (.dN (putN kvs (keyN l x) (fr (f l x))))) := by
  obtain ⟨kvs, k1, k2, k3⟩ := k.at_
  have ln := nAt_len k1
  refine ⟨kvs, k1, by omega, ⟨_, nAt_set ln, ?_, fun l' x' d e => ?_⟩, ?_⟩
  · have := putN_len kvs (keyN l x) (fr (f l x))
    omega
  · rw [look_put] at e
    split at e
    · rename_i z
      obtain ⟨rfl, rfl⟩ := keyN_inj z
      exact (Option.some.inj e).symm
    · exact k3 l' x' d e
  · show (match nkT (.tup [lotD l, .int x]), nAt (h.set n (.dN (putN kvs (keyN l x) (fr (f l x))))) (.obj n) with
      | some k, some kvs => (match look kvs k with
        | some d => Dl.R.ok d (h.set n (.dN (putN _ (keyN l x) (fr (f l x)))))
        | none => .bad)
      | _, _ => .bad) = _
    rw [nkT_key, nAt_set ln]
    show (match look (putN kvs (keyN l x) (fr (f l x))) (keyN l x) with
        | some d => Dl.R.ok d _
        | none => .bad) = _
    rw [look_put, if_pos rfl]
end
/-- all but the cell n stays -/
structure Oc (n : Nat) (h h' : Hs) : Prop where
  len : h'.length = h.length
  keep : ∀ j, j ≠ n → h'[j]? = h[j]?
theorem Oc.refl {n : Nat} {h : Hs} : Oc n h h := ⟨rfl, fun _ _ => rfl⟩
theorem Oc.trans {n : Nat} {a b c : Hs} (x : Oc n a b) (y : Oc n b c) : Oc n a c := ⟨y.len.trans x.len, fun j hj => (y.keep j hj).trans (x.keep j hj)⟩
theorem Oc.set {n : Nat} {h : Hs} {o : DO} : Oc n h (h.set n o) := ⟨List.length_set, fun j hj => List.getElem?_set_ne (Ne.symm hj)⟩
end Pl

/-! Plain laws, boxes 4: the Opener, the law's own gain. -/
namespace Pl
open Dl Sh
local instance : Dl.Tb := ⟨fun _ => []⟩

def g (bs : List Box) (l : List Nat) (x : Int) : Rat := G bs (bs.length - l.length) l x
structure Bx4 (bs : List Box) : Prop where
  l1 : 1 ≤ bs.length
  l4 : bs.length ≤ 4
  bx : ∀ b ∈ bs, Bx b
structure OpSt (bs : List Box) (h : Hs) (i c : Nat) : Prop where
  obj : ∃ fs, h[i]? = some (.ins "Opener" fs) ∧ fs.lookup ("rows" : PySem.Str) = some (boxesD bs) ∧ fs.lookup ("known" : PySem.Str) = some (.obj (i + 1)) ∧ fs.lookup ("most" : PySem.Str) = none ∧ fs.lookup ("opening" : PySem.Str) = none
  kept : Kept (g bs) h (i + 1) c
section
variable {bs : List Box} {h : Hs} {i c : Nat}
theorem OpSt.mono {c' : Nat} (k : OpSt bs h i c) (l : c ≤ c') : OpSt bs h i c' := ⟨k.obj, k.kept.mono l⟩
theorem OpSt.rows (t : OpSt bs h i c) {ca : Env → M D} {ρ : Env} {h0 : Hs} (e : ca ρ h0 = .ok (.obj i) h) : eFld "Opener" "rows" ca ρ h0 = .ok (boxesD bs) h := by
  obtain ⟨fs, h1, h2, _⟩ := t.obj
  rw [q_eFld, e, bind_ok', fields_at h1, Option.bind_some, h2]
theorem OpSt.known (t : OpSt bs h i c) {ca : Env → M D} {ρ : Env} {h0 : Hs} (e : ca ρ h0 = .ok (.obj i) h) : eFld "Opener" "known" ca ρ h0 = .ok (.obj (i + 1)) h := by
  obtain ⟨fs, h1, _, h2, _⟩ := t.obj
  rw [q_eFld, e, bind_ok', fields_at h1, Option.bind_some, h2]
theorem OpSt.most (t : OpSt bs h i c) {n : Nat} {mf : List D → M D} {ca : Env → M D} {cs : Env → M (List D)} {ρ : Env} (e : ca ρ h = .ok (.obj i) h) : eMeth "Opener" "most" n mf ca cs ρ h = (cs ρ h).bind fun xs h2 => if decide (xs.length + 1 = n) then mf (.obj i :: xs) h2 else .bad := by
  obtain ⟨fs, h1, _, _, h2, _⟩ := t.obj
  rw [q_eMeth, e, bind_ok', fields_at h1, Option.map_some, h2]
theorem OpSt.opening (t : OpSt bs h i c) {n : Nat} {mf : List D → M D} {ca : Env → M D} {cs : Env → M (List D)} {ρ : Env} (e : ca ρ h = .ok (.obj i) h) : eMeth "Opener" "opening" n mf ca cs ρ h = (cs ρ h).bind fun xs h2 => if decide (xs.length + 1 = n) then mf (.obj i :: xs) h2 else .bad := by
  obtain ⟨fs, h1, _, _, _, h2⟩ := t.obj
  rw [q_eMeth, e, bind_ok', fields_at h1, Option.map_some, h2]
theorem OpSt.oc {h' : Hs} {c' : Nat} (t : OpSt bs h i c) (o : Oc (i + 1) h h') (k : Kept (g bs) h' (i + 1) c') : OpSt bs h' i c' := by
  obtain ⟨fs, h1, r⟩ := t.obj
  exact ⟨⟨fs, by rw [o.keep i (by omega)]; exact h1, r⟩, k⟩
end
end Pl

/-! Plain laws, boxes 5: most, gain. -/
namespace Pl
open Dl Sh
local instance : Dl.Tb := ⟨fun _ => []⟩

end Pl

/-! Plain laws, boxes 6: gain; the law's own gain. -/
namespace Pl
open Dl Sh
local instance : Dl.Tb := ⟨fun _ => []⟩

/-! ### gain -/
/-! ### the law's own -/
/-- all but the cell n stays, more may come -/
structure Gk (n : Nat) (h h' : Hs) : Prop where
  len : h.length ≤ h'.length
  keep : ∀ j, j ≠ n → j < h.length → h'[j]? = h[j]?
theorem Gk.refl {n : Nat} {h : Hs} : Gk n h h := ⟨Nat.le_refl _, fun _ _ _ => rfl⟩
theorem Gk.trans {n : Nat} {a b c : Hs} (x : Gk n a b) (y : Gk n b c) : Gk n a c := ⟨Nat.le_trans x.len y.len, fun j hj hl => (y.keep j hj (Nat.lt_of_lt_of_le hl x.len)).trans (x.keep j hj hl)⟩
theorem Gk.set {n : Nat} {h : Hs} {o : DO} : Gk n h (h.set n o) := ⟨by rw [List.length_set]; exact Nat.le_refl _, fun j hj _ => List.getElem?_set_ne (Ne.symm hj)⟩
theorem Gk.app {n : Nat} {h l : Hs} : Gk n h (h ++ l) := ⟨by rw [List.length_append]; omega, fun j _ h2 => List.getElem?_append_left h2⟩
theorem Gk.set' {n : Nat} {h h' : Hs} {i : Nat} {o : DO} (g : Gk n h h') (hi : h.length ≤ i) : Gk n h (h'.set i o) := ⟨by rw [List.length_set]; exact g.len, fun j h1 h2 => by rw [List.getElem?_set_ne (by omega)]; exact g.keep j h1 h2⟩
theorem Gk.at {n : Nat} {h h' : Hs} (g : Gk n h h') {j : Nat} {o : DO} (hj : j ≠ n) (e : h[j]? = some o) : h'[j]? = some o := (g.keep j hj (List.getElem?_eq_some_iff.mp e).1).trans e
end Pl

/-! Plain laws, boxes 7: alike; a mean; gain is no less. -/
namespace Pl
open Dl Sh
local instance : Dl.Tb := ⟨fun _ => []⟩

theorem BoxAt.g0 {h h' : Hs} {i : Nat} {bs : List Box} (t : BoxAt h i bs) (g : Gb 0 h h') : BoxAt h' i bs := t.gb g (Nat.zero_le _)
theorem tot_mono {b : Box} (k : Ofr b.2) {f f' : Int → Rat} (h : ∀ p ∈ b.2, f p.1 ≤ f' p.1) : tot b f ≤ tot b f' := by
  unfold tot
  have := ex_mono k h
  grind
end Pl

/-! Plain laws, boxes 8: the index. -/
namespace Pl
open Dl Sh
local instance : Dl.Tb := ⟨fun _ => []⟩

def prAt (o : Offer) (i : Nat) : Int × Rat := o.getD i (0, 0)
def ixN (o : Offer) : Nat → Rat → Rat → Rat
  | 0, _, _ => 0
  | m + 1, f, s => if m = 0 ∨ ¬ ((f + ((prAt o m).1 : Rat) * (prAt o m).2) / (s + (prAt o m).2) < ((prAt o (m - 1)).1 : Rat)) then (f + ((prAt o m).1 : Rat) * (prAt o m).2) / (s + (prAt o m).2) else ixN o m (f + ((prAt o m).1 : Rat) * (prAt o m).2) (s + (prAt o m).2)
def ix (b : Box) : Rat := if b.1 = 0 then ((prAt b.2 (b.2.length - 1)).1 : Rat) else ixN b.2 b.2.length (-(b.1 : Rat)) 0
theorem item_lastT {xs : List D} {d : D} {h : Hs} (e : xs[xs.length - 1]? = some d) (l : 1 ≤ xs.length) : itemD (.tup xs) (.int (-1)) h = .ok d h := by
  have z : L2.atI xs (-1) = some d := by
    unfold L2.atI L2.ixN
    rw [if_neg (by decide), if_pos (by omega), Option.bind_some]
    have e2 : ((-1 : Int) + (xs.length : Nat)).toNat = xs.length - 1 := by omega
    rw [e2]
    exact e
  show (match L2.atI xs (-1) with
      | some d => Dl.R.ok d h
      | none => .bad) = _
  rw [z]
theorem sc (c : Int) : (((0 - c : Int)) : Rat) = -((c : Int) : Rat) := by rw [Int.zero_sub, Rat.intCast_neg]
end Pl

/-! Plain laws, boxes 9: the third fact. -/
namespace Pl
open Dl Sh
local instance : Dl.Tb := ⟨fun _ => []⟩

/-! ### the index: what is above it has the cost as its mean -/
def ab (o : Offer) (x : Rat) : Rat := ex o fun v => if x < (v : Rat) then (v : Rat) - x else 0
/-! ### the mean of the greatest of what is found and each box's lesser of value and index -/
end Pl

/-! Plain laws, boxes 10: the greatest mean is that of the third fact. -/
namespace Pl
open Dl Sh
local instance : Dl.Tb := ⟨fun _ => []⟩

def rest (bs : List Box) (l : List Nat) : List Box := ((List.range bs.length).filter fun m => decide (m ∉ l)).map (bxAt bs)
end Pl

/-! Plain laws, boxes 11: above, capped; what gain is of one box, of boxes together. -/
namespace Pl
open Dl Sh
local instance : Dl.Tb := ⟨fun _ => []⟩

/-! ### what they are -/
end Pl

/-! drawn offers with values to 29 -/
namespace Pl
open Dl Sh
local instance : Dl.Tb := ⟨fun _ => []⟩

structure OfrS (o : Offer) : Prop where
  ofr : Ofr o
  s : ∀ p ∈ o, p.1 ≤ 29
end Pl

/-! a box more, a cost less, a value more; what is left -/
namespace Pl
open Dl Sh
local instance : Dl.Tb := ⟨fun _ => []⟩

structure Bet (b b' : Box) : Prop where
  t : ∀ f f' : Int → Rat, (∀ a c : Int, a ≤ c → f a ≤ f c) → (∀ v, f v ≤ f' v) → tot b f ≤ tot b' f'
theorem Bet.same {b : Box} (k : Bx b) : Bet b b := ⟨fun f f' _ h => tot_mono k.o fun p _ => h p.1⟩
theorem Bet.cost {b : Box} (k : Bx b) : Bet b (b.1 - 1, b.2) := ⟨fun f f' _ h => by
  have z := tot_mono k.o (f := f) (f' := f') fun p _ => h p.1
  have e : tot (b.1 - 1, b.2) f' = tot b f' + 1 := by
    unfold tot
    show ex b.2 f' - ((b.1 - 1 : Int) : Rat) = ex b.2 f' - (b.1 : Rat) + 1
    rw [Rat.intCast_sub, show ((1 : Int) : Rat) = 1 from rfl]
    grind
  rw [e]
  grind⟩
theorem Bet.more {c : Int} {i : Offer} {v v' : Int} {s : Rat} (k : Ofr (i ++ [(v', s)])) (s0 : 0 ≤ s) (l : v ≤ v') : Bet (c, i ++ [(v, s)]) (c, i ++ [(v', s)]) := ⟨fun f f' m h => by
  have z := ex_greater (i := i) s0 l (f := f) m
  have z2 := tot_mono (b := (c, i ++ [(v', s)])) k (f := f) (f' := f') fun p _ => h p.1
  unfold tot at z2 ⊢
  have z3 : ex (i ++ [(v', s)]) f - (c : Rat) ≤ ex (i ++ [(v', s)]) f' - (c : Rat) := z2
  show ex (i ++ [(v, s)]) f - (c : Rat) ≤ ex (i ++ [(v', s)]) f' - (c : Rat)
  grind⟩
/-! ### what is left -/
end Pl

/-! the order of the indices, the next box -/
namespace Pl
open Dl Sh
local instance : Dl.Tb := ⟨fun _ => []⟩

def ah (bs : List Box) (p f : Nat) : Bool := decide (ix (bxAt bs f) < ix (bxAt bs p)) || (decide (ix (bxAt bs p) = ix (bxAt bs f)) && decide ((p : Int) < f))
def pick (bs : List Box) (f p : Nat) : Nat := if ah bs p f = true then p else f
/-- numbers by falling index -/
structure Ord (bs : List Box) (os : List Nat) : Prop where
  perm : os.Perm (List.range bs.length)
  fall : os.Pairwise fun a b => ix (bxAt bs b) ≤ ix (bxAt bs a)
def ordF (bs : List Box) : Nat → List Nat → List Nat
  | 0, _ => []
  | k + 1, rs => rs.foldl (pick bs) (rs.headD 0) :: ordF bs k (rs.filter fun a => !decide (a = rs.foldl (pick bs) (rs.headD 0)))
def ordr (bs : List Box) : List Nat := ordF bs bs.length (List.range bs.length)
/-- the first one in the order that is not open, if its index is above what was found -/
def nxt (bs : List Box) (l : List Nat) (x : Int) : List Nat → Option Nat
  | [] => none
  | m :: os => if m ∈ l then nxt bs l x os else if (x : Rat) < ix (bxAt bs m) then some m else none
def nx (bs : List Box) (l : List Nat) (x : Int) : Option Nat := nxt bs l x (ordr bs)
end Pl

/-! the next box and what is left -/
namespace Pl
open Dl Sh
local instance : Dl.Tb := ⟨fun _ => []⟩

end Pl

set_option maxHeartbeats 1000000
/-! what makes no boxes (k17) -/
namespace Pl
open Dl Sh
local instance : Dl.Tb := ⟨fun _ => []⟩

/-! ### right ones, by the def that raises -/
/-! ### tests that say no -/
theorem istup_no {x : D} {lo hi : Int} {h : Hs} (e : isiD [] [x, .ty "tuple"] h = .ok (.bl false) h) : m_is_tuple [x, .int lo, .int hi] h = .ok (.bl false) h := by
  refine mdef_ret (h' := h) ?_
  unfold c_is_tuple
  simp only [eV0, eVs, bind_ok', then_ok, q_e2, q_e1, q_eC, q_aC, q_aN, q_sPar2, q_sPar3, q_sSet, q_sRet, q_eBf, q_nBf, q_eCall, q_tst, q_tru, q_ifV, q_sIf, q_eTup, q_sPass, q_sExp, q_eLm, q_nLst, q_frz, q_thaw, q_iSeq, q_iR2, q_iR3, q_iEnumD, q_iZip, q_andX, q_andT, q_orT, q_notT, q_eCh, q_sPat, q_eSl, q_nSl, q_pS, q_pN, q_sRetN, q_tYes, q_eDct0, okL0, okL1, okL2, okL3, okL4, okL5, okL6, ent, List.map_cons, List.map_nil, List.length_cons, List.length_nil, List.set_cons_zero, List.set_cons_succ, List.replicate, List.cons_append, List.nil_append, Nat.reduceAdd, Nat.reduceSub, Nat.sub_self, Nat.sub_zero, zero_add', ↓reduceIte, Bool.false_eq_true, item0, item1, addD_ii, subD_ii, negD_i, absD_i, ltD_ii, leD_ii, gtD_ii, geD_ii, truD_bl, decide_true, decide_false, e]
theorem istup_len {xs : List D} {lo hi : Int} {h : Hs} (e : ¬ (lo ≤ xs.length ∧ (xs.length : Int) ≤ hi)) : m_is_tuple [.tup xs, .int lo, .int hi] h = .ok (.bl false) h := by
  refine mdef_ret (h' := h) ?_
  unfold c_is_tuple
  by_cases z : lo ≤ xs.length
  · simp only [eV0, eVs, bind_ok', then_ok, q_e2, q_e1, q_eC, q_aC, q_aN, q_sPar2, q_sPar3, q_sSet, q_sRet, q_eBf, q_nBf, q_eCall, q_tst, q_tru, q_ifV, q_sIf, q_eTup, q_sPass, q_sExp, q_eLm, q_nLst, q_frz, q_thaw, q_iSeq, q_iR2, q_iR3, q_iEnumD, q_iZip, q_andX, q_andT, q_orT, q_notT, q_eCh, q_sPat, q_eSl, q_nSl, q_pS, q_pN, q_sRetN, q_tYes, q_eDct0, okL0, okL1, okL2, okL3, okL4, okL5, okL6, ent, List.map_cons, List.map_nil, List.length_cons, List.length_nil, List.set_cons_zero, List.set_cons_succ, List.replicate, List.cons_append, List.nil_append, Nat.reduceAdd, Nat.reduceSub, Nat.sub_self, Nat.sub_zero, zero_add', ↓reduceIte, Bool.false_eq_true, item0, item1, addD_ii, subD_ii, negD_i, absD_i, ltD_ii, leD_ii, gtD_ii, geD_ii, truD_bl, decide_true, decide_false, isi_tup, lenD_tup, decide_eq_true z, decide_eq_false (fun y => e ⟨z, y⟩)]
  · simp only [eV0, eVs, bind_ok', then_ok, q_e2, q_e1, q_eC, q_aC, q_aN, q_sPar2, q_sPar3, q_sSet, q_sRet, q_eBf, q_nBf, q_eCall, q_tst, q_tru, q_ifV, q_sIf, q_eTup, q_sPass, q_sExp, q_eLm, q_nLst, q_frz, q_thaw, q_iSeq, q_iR2, q_iR3, q_iEnumD, q_iZip, q_andX, q_andT, q_orT, q_notT, q_eCh, q_sPat, q_eSl, q_nSl, q_pS, q_pN, q_sRetN, q_tYes, q_eDct0, okL0, okL1, okL2, okL3, okL4, okL5, okL6, ent, List.map_cons, List.map_nil, List.length_cons, List.length_nil, List.set_cons_zero, List.set_cons_succ, List.replicate, List.cons_append, List.nil_append, Nat.reduceAdd, Nat.reduceSub, Nat.sub_self, Nat.sub_zero, zero_add', ↓reduceIte, Bool.false_eq_true, item0, item1, addD_ii, subD_ii, negD_i, absD_i, ltD_ii, leD_ii, gtD_ii, geD_ii, truD_bl, decide_true, decide_false, isi_tup, lenD_tup, decide_eq_false z]
/-! ### pairs out of order -/
end Pl

set_option maxHeartbeats 400000
/-! the odd things, refused (k17) -/
namespace Pl
open Dl Sh
local instance : Dl.Tb := ⟨fun _ => []⟩

theorem eMake_exc {C D0 : PySem.Str} {n : Nat} {mf : List D → M D} {cs : Env → M (List D)} {ρ : Env} {h h1 h2 : Hs} {xs : List D} {fs : List (PySem.Str × D)} (e : cs ρ h = .ok xs h1) (l : xs.length + 1 = n) (b : mf (.obj h1.length :: xs) (h1 ++ [.ins C []]) = .exc D0 fs h2) : eMake C n mf cs ρ h = .exc D0 fs h2 := by
  rw [q_eMake, e, bind_ok', decide_eq_true l, if_pos rfl, b]
  rfl
end Pl

set_option maxHeartbeats 1000000
/-! the odd things drawn (k17) -/
namespace Pl
open Dl Sh
local instance : Dl.Tb := ⟨fun _ => []⟩

end Pl

set_option maxHeartbeats 1000000
/-! the odd things drawn, all refused (k17) -/
namespace Pl
open Dl Sh
local instance : Dl.Tb := ⟨fun _ => []⟩

end Pl

set_option maxHeartbeats 1000000
/-! of alike ones the least number first (k17) -/
namespace Pl
open Dl Sh
local instance : Dl.Tb := ⟨fun _ => []⟩

def bt (bs : List Box) (a b : Nat) : Prop := ix (bxAt bs b) < ix (bxAt bs a) ∨ (ix (bxAt bs a) = ix (bxAt bs b) ∧ a ≤ b)
/-! ### the law's own mean above -/
end Pl

set_option maxHeartbeats 1000000
/-! the law's own mean of what is above (k17) -/
namespace Pl
open Dl Sh
local instance : Dl.Tb := ⟨fun _ => []⟩

end Pl

set_option maxHeartbeats 1000000
/-! sorted numbers, equal boxes (k17) -/
namespace Pl
open Dl Sh
local instance : Dl.Tb := ⟨fun _ => []⟩

/-! ### equal boxes -/
end Pl

set_option maxHeartbeats 1000000
/-! k11: items of offers that may be none -/
namespace Pl
open Dl Sh
local instance : Dl.Tb := ⟨fun _ => []⟩

theorem low_fr {a b : Int} (b0 : 0 < b) (g : Int.gcd a b = 1) : fr (Rat.divInt a b) = .tup [.int a, .int b] := by
  have k3 : (Rat.divInt a b).num = a := by rw [Rat.num_divInt, Int.sign_eq_one_of_pos b0, Int.one_mul, Int.gcd_comm, g]; simp
  have k4 : ((Rat.divInt a b).den : Int) = b := by
    rw [Rat.den_divInt, if_neg (by omega), Int.gcd_comm, g]
    omega
  unfold fr
  rw [k3, k4]
theorem fr_low {a b : Int} {q : Rat} (e : fr q = .tup [.int a, .int b]) : Int.gcd a b = 1 := by
  unfold fr at e
  simp only [D.tup.injEq, List.cons.injEq, D.int.injEq, and_true] at e
  rw [← e.1, ← e.2]
  exact q.reduced
theorem gcd1_dec {a b : Int} : decide (((Int.gcd a b : Nat) : Int) = 1) = decide (Int.gcd a b = 1) := decide_eq_decide.mpr (by omega)
theorem item2a {x y : D} {h : Hs} : itemD (.tup [x, y]) (.int 0) h = .ok x h := rfl
theorem item2b {x y : D} {h : Hs} : itemD (.tup [x, y]) (.int 1) h = .ok y h := rfl
theorem is_fracI {a b : Int} (b0 : 1 ≤ b) {h : Hs} : m_is_fraction [.tup [.int a, .int b]] h = .ok (.bl (decide (Int.gcd a b = 1))) h := by
  refine mdef_ret (h' := h) ?_
  unfold c_is_fraction
  have c := comp_eq (ci := iSeq (eV 0)) (p := .nm 1) (own := [1]) (ce := eCall 1 m_is_integer (aC (eV 1) aN)) (ρ := [some (.tup [.int a, .int b]), none]) (h := h) (xs := [.int a, .int b]) (f := fun _ => .bl true)
    (seq_tup eV0) (by simp) fun x hx => ⟨[some (.tup [.int a, .int b]), some x], rfl, by
      obtain ⟨i, rfl⟩ : ∃ i, x = .int i := by
        rcases List.mem_cons.mp hx with e | hx
        · exact ⟨_, e⟩
        · exact ⟨_, List.mem_singleton.mp hx⟩
      simp only [eV0, eVs, bind_ok', then_ok, q_e2, q_e1, q_eC, q_aC, q_aN, q_sPar2, q_sPar3, q_sSet, q_sRet, q_eBf, q_nBf, q_eCall, q_tst, q_tru, q_ifV, q_sIf, q_eTup, q_sPass, q_sExp, q_eLm, q_nLst, q_frz, q_thaw, q_iSeq, q_iR2, q_iR3, q_iEnumD, q_iZip, q_andX, q_andT, q_orT, q_notT, q_eCh, q_sPat, q_eSl, q_nSl, q_pS, q_pN, q_sRetN, q_tYes, q_eDct0, okL0, okL1, okL2, okL3, okL4, okL5, okL6, ent, List.map_cons, List.map_nil, List.length_cons, List.length_nil, List.set_cons_zero, List.set_cons_succ, List.replicate, List.cons_append, List.nil_append, Nat.reduceAdd, Nat.reduceSub, Nat.sub_self, Nat.sub_zero, zero_add', ↓reduceIte, Bool.false_eq_true, item0, item1, addD_ii, subD_ii, negD_i, absD_i, ltD_ii, leD_ii, gtD_ii, geD_ii, truD_bl, decide_true, decide_false, isint_eq]⟩
  have al : allD [.lst [.bl true, .bl true]] h = .ok (.bl true) h := nr rfl
  have d0 : ¬ (b < 1) := by omega
  have t2 : m_is_tuple [.tup [.int a, .int b], .int 2, .int 2] h = .ok (.bl true) h := istup_eq (by simp) (by simp)
  simp only [eV0, eVs, bind_ok', then_ok, q_e2, q_e1, q_eC, q_aC, q_aN, q_sPar2, q_sPar3, q_sSet, q_sRet, q_eBf, q_nBf, q_eCall, q_tst, q_tru, q_ifV, q_sIf, q_eTup, q_sPass, q_sExp, q_eLm, q_nLst, q_frz, q_thaw, q_iSeq, q_iR2, q_iR3, q_iEnumD, q_iZip, q_andX, q_andT, q_orT, q_notT, q_eCh, q_sPat, q_eSl, q_nSl, q_pS, q_pN, q_sRetN, q_tYes, q_eDct0, okL0, okL1, okL2, okL3, okL4, okL5, okL6, ent, List.map_cons, List.map_nil, List.length_cons, List.length_nil, List.set_cons_zero, List.set_cons_succ, List.replicate, List.cons_append, List.nil_append, Nat.reduceAdd, Nat.reduceSub, Nat.sub_self, Nat.sub_zero, zero_add', ↓reduceIte, Bool.false_eq_true, item0, item1, addD_ii, subD_ii, negD_i, absD_i, ltD_ii, leD_ii, gtD_ii, geD_ii, truD_bl, decide_true, decide_false, t2, c, al, item2a, item2b, decide_eq_false d0, Bool.not_true, wps_ite, sPass, common_eq, eqD_ii, List.all_cons, List.all_nil, Bool.and_true, sSeq, gcd1_dec]
/-! ### the law's own look -/
theorem fz_ii (a b : Int) : Fz 1 (D.tup [.int a, .int b]) := .tup fun y hy => by
  rcases List.mem_cons.mp hy with e | hy
  · rw [e]; exact .int _
  · rw [List.mem_singleton.mp hy]; exact .int _
theorem low_is {a b : Int} (b0 : 1 ≤ b) {h : Hs} : eqD (fr (Rat.divInt a b)) (.tup [.int a, .int b]) h = .ok (.bl (decide (Int.gcd a b = 1))) h := by
  rw [eqD_fz ((fz_fr _).mono (by decide)) ((fz_ii a b).mono (by decide))]
  congr 2
  exact decide_eq_decide.mpr ⟨fr_low, low_fr (by omega)⟩
end Pl

set_option maxHeartbeats 1000000
/-! candidates: the greatest chances with picks, as fractions -/
namespace Pl
open Dl Sh
local instance : Dl.Tb := ⟨fun _ => []⟩

/-- the chances with one pick more, by the distance from the end; p: those with a pick less -/
def hopRow (n : Nat) (p : Nat → Rat) : Nat → Rat
  | 0 => 0
  | m + 1 => Rat.divInt 1 ((n - m : Nat) : Int) * mxq (hopRow n p m) (Rat.divInt ((n - m : Nat) : Int) (n : Int) + p m) + Rat.divInt ((n - m - 1 : Nat) : Int) ((n - m : Nat) : Int) * hopRow n p m
def hopR (n : Nat) : Nat → Nat → Rat
  | 0 => fun _ => 0
  | k + 1 => hopRow n (hopR n k)
def ew (n : Nat) : Nat → Nat
  | 0 => n
  | m + 1 => (n - m) * ew n m
end Pl

set_option maxHeartbeats 1000000
/-! candidates: hopes -/
namespace Pl
open Dl Sh
local instance : Dl.Tb := ⟨fun _ => []⟩

def Crow (n k : Nat) : List D := (List.range (n + 1)).map fun i => fr (hopR n k (n - i))
def RowsAt (h : Hs) (r n k : Nat) : Prop := ∃ xs, h[r]? = some (.lst xs) ∧ xs.length = k + 1 ∧ ∀ m, m ≤ k → ∃ x, xs[m]? = some x ∧ ListAt h x (Crow n m) ∧ ∀ o, x = .obj o → r < o
theorem RowsAt.app {h t : Hs} {r n k : Nat} (a : RowsAt h r n k) : RowsAt (h ++ t) r n k := by
  obtain ⟨xs, e, l, c⟩ := a
  refine ⟨xs, getl e, l, fun m hm => ?_⟩
  obtain ⟨x, ex, la, b⟩ := c m hm
  refine ⟨x, ex, ?_, b⟩
  rcases la with e | ⟨o, e1, e2⟩
  · exact .inl e
  · exact .inr ⟨o, e1, getl e2⟩
end Pl

/-! Plain laws, trials 1: the first fact. -/
namespace Pl
open Dl Sh
local instance : Dl.Tb := ⟨fun _ => []⟩

abbrev Ins (cs : List Rat) : Prop := ∀ c ∈ cs, In1 c
theorem Ins.tl {c : Rat} {cs : List Rat} (h : Ins (c :: cs)) : Ins cs := fun x hx => h x (List.mem_cons_of_mem _ hx)
theorem Ins.hd {c : Rat} {cs : List Rat} (h : Ins (c :: cs)) : In1 c := h c List.mem_cons_self
theorem Ins.drop {cs : List Rat} (h : Ins cs) (m : Nat) : Ins (cs.drop m) := fun x hx => h x (List.mem_of_mem_drop hx)
/-! ### going on is what is best -/
/-- the number from which on to take -/
def fn (cs : List Rat) : Nat := (Ff cs).getD 0
/-! ### all lots -/
/-- the lot from which on to take -/
def fl (cs : List Rat) : List Nat := List.range' (fn cs) (cs.length - fn cs)
end Pl

set_option maxHeartbeats 1000000
/-! candidates: what is told of right numbers -/
namespace Pl
open Dl Sh
local instance : Dl.Tb := ⟨fun _ => []⟩

end Pl

set_option maxHeartbeats 1000000
/-! odd things: data of None, flags, ints, texts, tuples, lists; how they are shown -/
namespace Pl
open Dl Sh
local instance : Dl.Tb := ⟨fun _ => []⟩

mutual
def szD : D → Nat
  | .int _ => 1921
  | .str x => (PySem.PyData.shown (.str x)).length
  | .tup xs => szs xs + 3
  | .lst xs => szs xs + 3
  | _ => 5
def szs : List D → Nat
  | [] => 0
  | x :: xs => szD x + 2 + szs xs
end
mutual
def okD : D → Nat → Bool
  | .non, _ => true
  | .bl _, _ => true
  | .int i, _ => decide (i.natAbs < 2 ^ 1900)
  | .str x, _ => PySem.PyData.strOk (PySem.PyData.shown (.str x))
  | .tup xs, n + 1 => oks xs n
  | .lst xs, n + 1 => oks xs n
  | _, _ => false
def oks : List D → Nat → Bool
  | [], _ => true
  | x :: xs, n => okD x n && oks xs n
end
structure LitOk (d : D) (n : Nat) : Prop where
  py : ∀ h : Hs, toPy h n d = some (pyF d)
  sh : (pyF d).showable = true
  nd : (pyF d).hasDict = false
  dp : (pyF d).depth ≤ n
  ln : (PySem.PyData.shown (pyF d)).length ≤ szD d
  st : PySem.PyData.strOk (PySem.PyData.shown (pyF d)) = true
structure LitsOk (xs : List D) (n : Nat) : Prop where
  py : ∀ h : Hs, optAll (toPy h n) xs = some (pyFs xs)
  sh : PySem.PyData.showableAll (pyFs xs) = true
  nd : PySem.PyData.hasDictAll (pyFs xs) = false
  dp : PySem.PyData.depthAll (pyFs xs) ≤ n
  ln : PySem.piled (PySem.PyData.shownAll (pyFs xs)) ≤ szs xs
  st : ∀ t ∈ PySem.PyData.shownAll (pyFs xs), PySem.PyData.strOk t = true
theorem toPy_non {h : Hs} {n : Nat} : toPy h n .non = some .none := by cases n <;> rfl
theorem toPy_bl {h : Hs} {n : Nat} {b : Bool} : toPy h n (.bl b) = some (.bool b) := by cases n <;> rfl
theorem toPy_int {h : Hs} {n : Nat} {i : Int} : toPy h n (.int i) = some (.int i) := by cases n <;> rfl
theorem toPy_str {h : Hs} {n : Nat} {x : PySem.Str} : toPy h n (.str x) = some (.str x) := by cases n <;> rfl
mutual
theorem lit_ok : ∀ (d : D) (n : Nat), okD d n = true → LitOk d n
  | .non, n, _ => by
    have e : pyF .non = .none := by simp only [pyF]
    refine ⟨fun h => by rw [e, toPy_non], ?_, ?_, ?_, ?_, ?_⟩
    all_goals rw [e]
    · simp only [PySem.PyData.showable]
    · simp only [PySem.PyData.hasDict]
    · simp only [PySem.PyData.depth]; exact Nat.zero_le _
    · exact Nat.le_trans (by decide +kernel) (show 5 ≤ 5 from Nat.le_refl _)
    · simp only [PySem.PyData.shown]; exact strOk_of _
  | .bl b, n, _ => by
    have e : pyF (.bl b) = .bool b := by simp only [pyF]
    refine ⟨fun h => by rw [e, toPy_bl], ?_, ?_, ?_, ?_, ?_⟩
    all_goals rw [e]
    · simp only [PySem.PyData.showable]
    · simp only [PySem.PyData.hasDict]
    · simp only [PySem.PyData.depth]; exact Nat.zero_le _
    · cases b <;> exact Nat.le_trans (by decide +kernel) (show 5 ≤ 5 from Nat.le_refl _)
    · cases b <;> decide +kernel
  | .int i, n, h0 => by
    have e : pyF (.int i) = .int i := by simp only [pyF]
    obtain ⟨h1, h2⟩ := int_shown (of_decide_eq_true (show decide (i.natAbs < 2 ^ 1900) = true from h0))
    refine ⟨fun h => by rw [e, toPy_int], ?_, ?_, ?_, ?_, ?_⟩
    all_goals rw [e]
    · exact h2
    · simp only [PySem.PyData.hasDict]
    · simp only [PySem.PyData.depth]; exact Nat.zero_le _
    · exact h1
    · simp only [PySem.PyData.shown]; exact strOk_of _
  | .str x, n, h0 => by
    have e : pyF (.str x) = .str x := by simp only [pyF]
    refine ⟨fun h => by rw [e, toPy_str], ?_, ?_, ?_, ?_, ?_⟩
    all_goals rw [e]
    · simp only [PySem.PyData.showable]
    · simp only [PySem.PyData.hasDict]
    · simp only [PySem.PyData.depth]; exact Nat.zero_le _
    · exact Nat.le_refl _
    · exact h0
  | .tup xs, n + 1, h0 => by
    have L := lits_ok xs n h0
    have e : pyF (.tup xs) = .tuple (pyFs xs) := by simp only [pyF]
    refine ⟨fun h => ?_, ?_, ?_, ?_, ?_, ?_⟩
    · show (optAll (toPy h n) xs).map PySem.PyData.tuple = _
      rw [L.py h, e]
      rfl
    all_goals rw [e]
    · simp only [PySem.PyData.showable]; exact L.sh
    · simp only [PySem.PyData.hasDict]; exact L.nd
    · simp only [PySem.PyData.depth]
      have := L.dp
      omega
    · simp only [PySem.PyData.shown]
      exact Nat.le_trans (tupleText_le _) (Nat.add_le_add_right L.ln 3)
    · simp only [PySem.PyData.shown]
      unfold PySem.tupleText
      rw [strOk_app, strOk_app, strOk_of, strOk_join _ (strOk_of _) _ L.st, strOk_of]
      rfl
  | .lst xs, n + 1, h0 => by
    have L := lits_ok xs n h0
    have e : pyF (.lst xs) = .list (pyFs xs) := by simp only [pyF]
    refine ⟨fun h => ?_, ?_, ?_, ?_, ?_, ?_⟩
    · show (optAll (toPy h n) xs).map PySem.PyData.list = _
      rw [L.py h, e]
      rfl
    all_goals rw [e]
    · simp only [PySem.PyData.showable]; exact L.sh
    · simp only [PySem.PyData.hasDict]; exact L.nd
    · simp only [PySem.PyData.depth]
      have := L.dp
      omega
    · simp only [PySem.PyData.shown]
      exact Nat.le_trans (listText_le _) (Nat.add_le_add_right L.ln 3)
    · simp only [PySem.PyData.shown]
      unfold PySem.listText
      rw [strOk_app, strOk_text _ 0 _ (strOk_of _) L.st, strOk_of]
      rfl
  | .tup _, 0, h0 => by simp [okD] at h0
  | .lst _, 0, h0 => by simp [okD] at h0
  | .ty _, n, h0 => by cases n <;> simp [okD] at h0
  | .glo _, n, h0 => by cases n <;> simp [okD] at h0
  | .obj _, n, h0 => by cases n <;> simp [okD] at h0
  | .scr _, n, h0 => by cases n <;> simp [okD] at h0
  | .exn _, n, h0 => by cases n <;> simp [okD] at h0
theorem lits_ok : ∀ (xs : List D) (n : Nat), oks xs n = true → LitsOk xs n
  | [], n, _ => ⟨fun h => rfl, by simp only [pyFs, PySem.PyData.showableAll], by simp only [pyFs, PySem.PyData.hasDictAll], by simp only [pyFs, PySem.PyData.depthAll]; exact Nat.zero_le _, by simp only [pyFs, PySem.PyData.shownAll]; exact Nat.zero_le _, by simp [pyFs, PySem.PyData.shownAll]⟩
  | x :: xs, n, h0 => by
    have h0' : (okD x n && oks xs n) = true := h0
    rw [Bool.and_eq_true] at h0'
    have A := lit_ok x n h0'.1
    have L := lits_ok xs n h0'.2
    have e : pyFs (x :: xs) = pyF x :: pyFs xs := by simp only [pyFs]
    refine ⟨fun h => ?_, ?_, ?_, ?_, ?_, ?_⟩
    · unfold optAll
      rw [A.py h, L.py h, e]
    all_goals rw [e]
    · simp only [PySem.PyData.showableAll, A.sh, L.sh, Bool.and_self]
    · simp only [PySem.PyData.hasDictAll, A.nd, L.nd, Bool.or_self]
    · simp only [PySem.PyData.depthAll]
      have := A.dp
      have := L.dp
      omega
    · simp only [PySem.PyData.shownAll, PySem.piled_cons]
      have h1 := A.ln
      have h2 := L.ln
      show _ ≤ szD x + 2 + szs xs
      omega
    · simp only [PySem.PyData.shownAll]
      intro t ht
      rcases List.mem_cons.mp ht with z | z
      · rw [z]; exact A.st
      · exact L.st t z
end
theorem reprD_lit {x : D} {h : Hs} (o : okD x 62 = true) (s : szD x ≤ 16777216) : reprD [x] h = .ok (.str (PySem.PyData.shown (pyF x))) h ∧ PySem.PyData.strOk (PySem.PyData.shown (pyF x)) = true := by
  have A := lit_ok x 62 o
  refine ⟨?_, A.st⟩
  show (match toPy h 62 x with
    | some d => if okShow d = true then Dl.R.ok (D.str d.shown) h else .bad
    | none => .bad) = _
  rw [A.py h]
  refine if_pos ?_
  unfold okShow
  rw [A.sh, A.nd, decide_eq_true A.dp, decide_eq_true (Nat.le_trans A.ln s)]
  rfl
mutual
theorem okD_mono : ∀ (d : D) {n m : Nat}, n ≤ m → okD d n = true → okD d m = true
  | .non, n, m, _, _ => by cases m <;> rfl
  | .bl _, n, m, _, _ => by cases m <;> rfl
  | .int i, n, m, _, h => by cases n <;> cases m <;> exact h
  | .str x, n, m, _, h => by cases n <;> cases m <;> exact h
  | .tup xs, n + 1, m, l, h => by
    obtain ⟨m, rfl⟩ : ∃ k, m = k + 1 := ⟨m - 1, by omega⟩
    exact oks_mono xs (Nat.le_of_succ_le_succ l) h
  | .lst xs, n + 1, m, l, h => by
    obtain ⟨m, rfl⟩ : ∃ k, m = k + 1 := ⟨m - 1, by omega⟩
    exact oks_mono xs (Nat.le_of_succ_le_succ l) h
  | .tup _, 0, _, _, h0 => by simp [okD] at h0
  | .lst _, 0, _, _, h0 => by simp [okD] at h0
  | .ty _, n, _, _, h0 => by cases n <;> simp [okD] at h0
  | .glo _, n, _, _, h0 => by cases n <;> simp [okD] at h0
  | .obj _, n, _, _, h0 => by cases n <;> simp [okD] at h0
  | .scr _, n, _, _, h0 => by cases n <;> simp [okD] at h0
  | .exn _, n, _, _, h0 => by cases n <;> simp [okD] at h0
theorem oks_mono : ∀ (xs : List D) {n m : Nat}, n ≤ m → oks xs n = true → oks xs m = true
  | [], _, _, _, _ => rfl
  | x :: xs, n, m, l, h => by
    have h' : (okD x n && oks xs n) = true := h
    rw [Bool.and_eq_true] at h'
    show (okD x m && oks xs m) = true
    rw [okD_mono x l h'.1, oks_mono xs l h'.2]
    rfl
end
end Pl

set_option maxHeartbeats 1000000
/-! deep things; what is no number, no offer -/
namespace Pl
open Dl Sh
local instance : Dl.Tb := ⟨fun _ => []⟩

inductive DeepV : Nat → D → Prop
  | non : DeepV 0 .non
  | tup {n : Nat} {x : D} : DeepV n x → DeepV (n + 1) (.tup [x, .str "a"])
  | lst {n : Nat} {x : D} : DeepV n x → DeepV (n + 1) (.lst [x])
/-- a thing that was made deep -/
def Deep (d : D) : Prop := ∃ n, 1 ≤ n ∧ n ≤ 30 ∧ DeepV n d
/-! ### no whole number -/
/-! ### no tuple of a length -/
/-! ### no offer -/
end Pl

set_option maxHeartbeats 1000000
/-! odd things: sizes; a word; a def picked -/
namespace Pl
open Dl Sh
local instance : Dl.Tb := ⟨fun _ => []⟩

structure LitB (n w : Nat) (d : D) : Prop where
  ok : okD d n = true
  sz : szD d ≤ w
theorem LitB.mono {n m w v : Nat} {d : D} (k : LitB n w d) (a : n ≤ m) (b : w ≤ v) : LitB m v d := ⟨okD_mono d a k.ok, Nat.le_trans k.sz b⟩
theorem lits_all {n w : Nat} : ∀ {xs : List D}, (∀ x ∈ xs, LitB n w x) → oks xs n = true ∧ szs xs ≤ (w + 2) * xs.length
  | [], _ => ⟨rfl, Nat.zero_le _⟩
  | x :: xs, h => by
    obtain ⟨h1, h2⟩ := lits_all fun y hy => h y (List.mem_cons_of_mem _ hy)
    have a := h x List.mem_cons_self
    refine ⟨?_, ?_⟩
    · show (okD x n && oks xs n) = true
      rw [a.ok, h1]
      rfl
    · show szD x + 2 + szs xs ≤ _
      have := a.sz
      rw [List.length_cons, Nat.mul_succ]
      omega
theorem LitB.tup {n w : Nat} {xs : List D} (h : ∀ x ∈ xs, LitB n w x) : LitB (n + 1) ((w + 2) * xs.length + 3) (.tup xs) := ⟨(lits_all h).1, Nat.add_le_add_right (lits_all h).2 3⟩
theorem LitB.lst {n w : Nat} {xs : List D} (h : ∀ x ∈ xs, LitB n w x) : LitB (n + 1) ((w + 2) * xs.length + 3) (.lst xs) := ⟨(lits_all h).1, Nat.add_le_add_right (lits_all h).2 3⟩
theorem litB_int {n : Nat} {i : Int} (h : i.natAbs < 2 ^ 1900) : LitB n 2000 (.int i) := ⟨by cases n <;> exact decide_eq_true h, show 1921 ≤ 2000 by decide⟩
/-! ### a word -/
end Pl

set_option maxHeartbeats 1000000
/-! law k10 -/
namespace Pl
open Dl Sh
local instance : Dl.Tb := ⟨fun _ => []⟩

/-! ### deep things -/
def baseL : List D := [.non, .str "a", .int 0, .str "x"]
inductive Deep2V : Nat → D → Prop
  | base {x : D} : x ∈ baseL → Deep2V 0 x
  | tup {n : Nat} {x : D} : Deep2V n x → Deep2V (n + 1) (.tup [x])
  | lst {n : Nat} {x : D} : Deep2V n x → Deep2V (n + 1) (.lst [x])
/-! ### words -/
/-! ### refusals -/
end Pl

set_option maxHeartbeats 1000000
/-! k06: what are no chances -/
namespace Pl
open Dl Sh
local instance : Dl.Tb := ⟨fun _ => []⟩

def shC (a b : Int) : Bool := decide (0 ≤ a) && (decide (a ≤ b) && (decide (0 < b) && decide (Int.gcd a b = 1)))
def shF : D → Bool
  | .tup [.int a, .int b] => shC a b
  | _ => false
theorem is_frac0 {a b : Int} (b0 : b < 1) {h : Hs} : m_is_fraction [.tup [.int a, .int b]] h = .ok (.bl false) h := by
  refine mdef_ret (h' := h) ?_
  unfold c_is_fraction
  have c := comp_eq (ci := iSeq (eV 0)) (p := .nm 1) (own := [1]) (ce := eCall 1 m_is_integer (aC (eV 1) aN)) (ρ := [some (.tup [.int a, .int b]), none]) (h := h) (xs := [.int a, .int b]) (f := fun _ => .bl true)
    (seq_tup eV0) (by simp) fun x hx => ⟨[some (.tup [.int a, .int b]), some x], rfl, by
      obtain ⟨i, rfl⟩ : ∃ i, x = .int i := by
        rcases List.mem_cons.mp hx with e | hx
        · exact ⟨_, e⟩
        · exact ⟨_, List.mem_singleton.mp hx⟩
      simp only [eV0, eVs, bind_ok', then_ok, q_e2, q_e1, q_eC, q_aC, q_aN, q_sPar2, q_sPar3, q_sSet, q_sRet, q_eBf, q_nBf, q_eCall, q_tst, q_tru, q_ifV, q_sIf, q_eTup, q_sPass, q_sExp, q_eLm, q_nLst, q_frz, q_thaw, q_iSeq, q_iR2, q_iR3, q_iEnumD, q_iZip, q_andX, q_andT, q_orT, q_notT, q_eCh, q_sPat, q_eSl, q_nSl, q_pS, q_pN, q_sRetN, q_tYes, q_eDct0, okL0, okL1, okL2, okL3, okL4, okL5, okL6, ent, List.map_cons, List.map_nil, List.length_cons, List.length_nil, List.set_cons_zero, List.set_cons_succ, List.replicate, List.cons_append, List.nil_append, Nat.reduceAdd, Nat.reduceSub, Nat.sub_self, Nat.sub_zero, zero_add', ↓reduceIte, Bool.false_eq_true, item0, item1, addD_ii, subD_ii, negD_i, absD_i, ltD_ii, leD_ii, gtD_ii, geD_ii, truD_bl, decide_true, decide_false, isint_eq]⟩
  have al : allD [.lst [.bl true, .bl true]] h = .ok (.bl true) h := nr rfl
  have t2 : m_is_tuple [.tup [.int a, .int b], .int 2, .int 2] h = .ok (.bl true) h := istup_eq (by simp) (by simp)
  simp only [eV0, eVs, bind_ok', then_ok, q_e2, q_e1, q_eC, q_aC, q_aN, q_sPar2, q_sPar3, q_sSet, q_sRet, q_eBf, q_nBf, q_eCall, q_tst, q_tru, q_ifV, q_sIf, q_eTup, q_sPass, q_sExp, q_eLm, q_nLst, q_frz, q_thaw, q_iSeq, q_iR2, q_iR3, q_iEnumD, q_iZip, q_andX, q_andT, q_orT, q_notT, q_eCh, q_sPat, q_eSl, q_nSl, q_pS, q_pN, q_sRetN, q_tYes, q_eDct0, okL0, okL1, okL2, okL3, okL4, okL5, okL6, ent, List.map_cons, List.map_nil, List.length_cons, List.length_nil, List.set_cons_zero, List.set_cons_succ, List.replicate, List.cons_append, List.nil_append, Nat.reduceAdd, Nat.reduceSub, Nat.sub_self, Nat.sub_zero, zero_add', ↓reduceIte, Bool.false_eq_true, item0, item1, addD_ii, subD_ii, negD_i, absD_i, ltD_ii, leD_ii, gtD_ii, geD_ii, truD_bl, decide_true, decide_false, t2, c, al, item2a, item2b, decide_eq_true b0, Bool.not_true, sSeq]
theorem is_share_ii {a b : Int} {h : Hs} : m_is_share [.tup [.int a, .int b]] h = .ok (.bl (shC a b)) h := by
  refine mdef_ret (h' := h) ?_
  unfold c_is_share shC
  by_cases b0 : 1 ≤ b
  · have b1 : 0 < b := by omega
    by_cases g : Int.gcd a b = 1
    · by_cases a0 : 0 ≤ a
      · simp only [eV0, eVs, bind_ok', then_ok, q_e2, q_e1, q_eC, q_aC, q_aN, q_sPar2, q_sPar3, q_sSet, q_sRet, q_eBf, q_nBf, q_eCall, q_tst, q_tru, q_ifV, q_sIf, q_eTup, q_sPass, q_sExp, q_eLm, q_nLst, q_frz, q_thaw, q_iSeq, q_iR2, q_iR3, q_iEnumD, q_iZip, q_andX, q_andT, q_orT, q_notT, q_eCh, q_sPat, q_eSl, q_nSl, q_pS, q_pN, q_sRetN, q_tYes, q_eDct0, okL0, okL1, okL2, okL3, okL4, okL5, okL6, ent, List.map_cons, List.map_nil, List.length_cons, List.length_nil, List.set_cons_zero, List.set_cons_succ, List.replicate, List.cons_append, List.nil_append, Nat.reduceAdd, Nat.reduceSub, Nat.sub_self, Nat.sub_zero, zero_add', ↓reduceIte, Bool.false_eq_true, item0, item1, addD_ii, subD_ii, negD_i, absD_i, ltD_ii, leD_ii, gtD_ii, geD_ii, truD_bl, decide_true, decide_false, is_fracI b0, item2a, item2b, decide_eq_true g, decide_eq_true a0, decide_eq_true b1, Bool.and_true, Bool.true_and]
      · simp only [eV0, eVs, bind_ok', then_ok, q_e2, q_e1, q_eC, q_aC, q_aN, q_sPar2, q_sPar3, q_sSet, q_sRet, q_eBf, q_nBf, q_eCall, q_tst, q_tru, q_ifV, q_sIf, q_eTup, q_sPass, q_sExp, q_eLm, q_nLst, q_frz, q_thaw, q_iSeq, q_iR2, q_iR3, q_iEnumD, q_iZip, q_andX, q_andT, q_orT, q_notT, q_eCh, q_sPat, q_eSl, q_nSl, q_pS, q_pN, q_sRetN, q_tYes, q_eDct0, okL0, okL1, okL2, okL3, okL4, okL5, okL6, ent, List.map_cons, List.map_nil, List.length_cons, List.length_nil, List.set_cons_zero, List.set_cons_succ, List.replicate, List.cons_append, List.nil_append, Nat.reduceAdd, Nat.reduceSub, Nat.sub_self, Nat.sub_zero, zero_add', ↓reduceIte, Bool.false_eq_true, item0, item1, addD_ii, subD_ii, negD_i, absD_i, ltD_ii, leD_ii, gtD_ii, geD_ii, truD_bl, decide_true, decide_false, is_fracI b0, item2a, item2b, decide_eq_true g, decide_eq_false a0, Bool.false_and]
    · simp only [eV0, eVs, bind_ok', then_ok, q_e2, q_e1, q_eC, q_aC, q_aN, q_sPar2, q_sPar3, q_sSet, q_sRet, q_eBf, q_nBf, q_eCall, q_tst, q_tru, q_ifV, q_sIf, q_eTup, q_sPass, q_sExp, q_eLm, q_nLst, q_frz, q_thaw, q_iSeq, q_iR2, q_iR3, q_iEnumD, q_iZip, q_andX, q_andT, q_orT, q_notT, q_eCh, q_sPat, q_eSl, q_nSl, q_pS, q_pN, q_sRetN, q_tYes, q_eDct0, okL0, okL1, okL2, okL3, okL4, okL5, okL6, ent, List.map_cons, List.map_nil, List.length_cons, List.length_nil, List.set_cons_zero, List.set_cons_succ, List.replicate, List.cons_append, List.nil_append, Nat.reduceAdd, Nat.reduceSub, Nat.sub_self, Nat.sub_zero, zero_add', ↓reduceIte, Bool.false_eq_true, item0, item1, addD_ii, subD_ii, negD_i, absD_i, ltD_ii, leD_ii, gtD_ii, geD_ii, truD_bl, decide_true, decide_false, is_fracI b0, decide_eq_false g, Bool.and_false]
  · have b1 : ¬ 0 < b := by omega
    simp only [eV0, eVs, bind_ok', then_ok, q_e2, q_e1, q_eC, q_aC, q_aN, q_sPar2, q_sPar3, q_sSet, q_sRet, q_eBf, q_nBf, q_eCall, q_tst, q_tru, q_ifV, q_sIf, q_eTup, q_sPass, q_sExp, q_eLm, q_nLst, q_frz, q_thaw, q_iSeq, q_iR2, q_iR3, q_iEnumD, q_iZip, q_andX, q_andT, q_orT, q_notT, q_eCh, q_sPat, q_eSl, q_nSl, q_pS, q_pN, q_sRetN, q_tYes, q_eDct0, okL0, okL1, okL2, okL3, okL4, okL5, okL6, ent, List.map_cons, List.map_nil, List.length_cons, List.length_nil, List.set_cons_zero, List.set_cons_succ, List.replicate, List.cons_append, List.nil_append, Nat.reduceAdd, Nat.reduceSub, Nat.sub_self, Nat.sub_zero, zero_add', ↓reduceIte, Bool.false_eq_true, item0, item1, addD_ii, subD_ii, negD_i, absD_i, ltD_ii, leD_ii, gtD_ii, geD_ii, truD_bl, decide_true, decide_false, is_frac0 (show b < 1 by omega), decide_eq_false b1, Bool.and_false, Bool.false_and]
/-- whether it is a share is told alike by both, later, too -/
def KS (h : Hs) (x : D) : Prop := ∀ g, Gb 1 h g → m_is_share [x] g = .ok (.bl (shF x)) g ∧ m__law_is_share_v2 [x] g = .ok (.bl (shF x)) g
theorem KS.mono {h h' : Hs} {x : D} (k : KS h x) (g : Gb 1 h h') : KS h' x := fun f gf => k f (g.trans gf)
theorem no_frac {x : D} {h : Hs} (e : m_is_tuple [x, .int 2, .int 2] h = .ok (.bl false) h) : m_is_share [x] h = .ok (.bl false) h := by
  have f : m_is_fraction [x] h = .ok (.bl false) h := by
    refine mdef_ret (h' := h) ?_
    unfold c_is_fraction
    simp only [eV0, eVs, bind_ok', then_ok, q_e2, q_e1, q_eC, q_aC, q_aN, q_sPar2, q_sPar3, q_sSet, q_sRet, q_eBf, q_nBf, q_eCall, q_tst, q_tru, q_ifV, q_sIf, q_eTup, q_sPass, q_sExp, q_eLm, q_nLst, q_frz, q_thaw, q_iSeq, q_iR2, q_iR3, q_iEnumD, q_iZip, q_andX, q_andT, q_orT, q_notT, q_eCh, q_sPat, q_eSl, q_nSl, q_pS, q_pN, q_sRetN, q_tYes, q_eDct0, okL0, okL1, okL2, okL3, okL4, okL5, okL6, ent, List.map_cons, List.map_nil, List.length_cons, List.length_nil, List.set_cons_zero, List.set_cons_succ, List.replicate, List.cons_append, List.nil_append, Nat.reduceAdd, Nat.reduceSub, Nat.sub_self, Nat.sub_zero, zero_add', ↓reduceIte, Bool.false_eq_true, item0, item1, addD_ii, subD_ii, negD_i, absD_i, ltD_ii, leD_ii, gtD_ii, geD_ii, truD_bl, decide_true, decide_false, e, Bool.not_false, sSeq]
  refine mdef_ret (h' := h) ?_
  unfold c_is_share
  simp only [eV0, eVs, bind_ok', then_ok, q_e2, q_e1, q_eC, q_aC, q_aN, q_sPar2, q_sPar3, q_sSet, q_sRet, q_eBf, q_nBf, q_eCall, q_tst, q_tru, q_ifV, q_sIf, q_eTup, q_sPass, q_sExp, q_eLm, q_nLst, q_frz, q_thaw, q_iSeq, q_iR2, q_iR3, q_iEnumD, q_iZip, q_andX, q_andT, q_orT, q_notT, q_eCh, q_sPat, q_eSl, q_nSl, q_pS, q_pN, q_sRetN, q_tYes, q_eDct0, okL0, okL1, okL2, okL3, okL4, okL5, okL6, ent, List.map_cons, List.map_nil, List.length_cons, List.length_nil, List.set_cons_zero, List.set_cons_succ, List.replicate, List.cons_append, List.nil_append, Nat.reduceAdd, Nat.reduceSub, Nat.sub_self, Nat.sub_zero, zero_add', ↓reduceIte, Bool.false_eq_true, item0, item1, addD_ii, subD_ii, negD_i, absD_i, ltD_ii, leD_ii, gtD_ii, geD_ii, truD_bl, decide_true, decide_false, f]
theorem ks_nt {h : Hs} {x : D} (e : ∀ g, Gb 1 h g → isiD [] [x, .ty "tuple"] g = .ok (.bl false) g) (z : shF x = false) : KS h x := fun g gg => by
  have i := e g gg
  rw [z]
  refine ⟨no_frac (istup_no i), ?_⟩
  refine mdef_ret (h' := g) ?_
  unfold c__law_is_share_v2
  have en : ent 2 [x] = [some x, none] := rfl
  rw [en]
  simp only [eV0, eVs, bind_ok', then_ok, q_e2, q_e1, q_eC, q_aC, q_aN, q_sPar2, q_sPar3, q_sSet, q_sRet, q_eBf, q_nBf, q_eCall, q_tst, q_tru, q_ifV, q_sIf, q_eTup, q_sPass, q_sExp, q_eLm, q_nLst, q_frz, q_thaw, q_iSeq, q_iR2, q_iR3, q_iEnumD, q_iZip, q_andX, q_andT, q_orT, q_notT, q_eCh, q_sPat, q_eSl, q_nSl, q_pS, q_pN, q_sRetN, q_tYes, q_eDct0, okL0, okL1, okL2, okL3, okL4, okL5, okL6, ent, List.map_cons, List.map_nil, List.length_cons, List.length_nil, List.set_cons_zero, List.set_cons_succ, List.replicate, List.cons_append, List.nil_append, Nat.reduceAdd, Nat.reduceSub, Nat.sub_self, Nat.sub_zero, zero_add', ↓reduceIte, Bool.false_eq_true, item0, item1, addD_ii, subD_ii, negD_i, absD_i, ltD_ii, leD_ii, gtD_ii, geD_ii, truD_bl, decide_true, decide_false, i, Bool.not_false, sSeq]
theorem ks_lst {h : Hs} {xs : List D} : KS h (.lst xs) := ks_nt (fun _ _ => rfl) rfl
theorem ks_non {h : Hs} : KS h .non := ks_nt (fun _ _ => rfl) rfl
theorem ks_str {h : Hs} {s : PySem.Str} : KS h (.str s) := ks_nt (fun _ _ => rfl) rfl
theorem isi_ob {g : Hs} {k : Nat} {kvs : List (L2.Key × D)} (e : g[k]? = some (.dI kvs)) : isiD [] [.obj k, .ty "tuple"] g = .ok (.bl false) g ∧ isiD [] [.obj k, .ty "int"] g = .ok (.bl false) g := by
  have t : tagOf g (.obj k) = some (.b "dict") := by
    unfold tagOf
    dsimp only
    rw [e]
  constructor <;>
  · unfold isiD
    dsimp only
    rw [t]
    rfl
theorem ks_ob {h : Hs} {k : Nat} {kvs : List (L2.Key × D)} (k1 : 1 ≤ k) (e : h[k]? = some (.dI kvs)) : KS h (.obj k) := ks_nt (fun _ gg => (isi_ob (gg.at k1 e)).1) rfl
theorem ks_len {h : Hs} {xs : List D} (l : xs.length ≠ 2) : KS h (.tup xs) := fun g _ => by
  have z : shF (.tup xs) = false := by
    rcases xs with _ | ⟨a, _ | ⟨b, _ | ⟨c, r⟩⟩⟩
    · rfl
    · cases a <;> rfl
    · exact absurd rfl l
    · cases a <;> cases b <;> rfl
  rw [z]
  refine ⟨no_frac (istup_len (by omega)), ?_⟩
  have n : neD (.int (xs.length : Nat)) (.int 2) g = .ok (.bl true) g := by
    rw [neD_ii, decide_eq_false (by omega)]
    rfl
  refine mdef_ret (h' := g) ?_
  unfold c__law_is_share_v2
  have en : ent 2 [D.tup xs] = [some (.tup xs), none] := rfl
  rw [en]
  simp only [eV0, eVs, bind_ok', then_ok, q_e2, q_e1, q_eC, q_aC, q_aN, q_sPar2, q_sPar3, q_sSet, q_sRet, q_eBf, q_nBf, q_eCall, q_tst, q_tru, q_ifV, q_sIf, q_eTup, q_sPass, q_sExp, q_eLm, q_nLst, q_frz, q_thaw, q_iSeq, q_iR2, q_iR3, q_iEnumD, q_iZip, q_andX, q_andT, q_orT, q_notT, q_eCh, q_sPat, q_eSl, q_nSl, q_pS, q_pN, q_sRetN, q_tYes, q_eDct0, okL0, okL1, okL2, okL3, okL4, okL5, okL6, ent, List.map_cons, List.map_nil, List.length_cons, List.length_nil, List.set_cons_zero, List.set_cons_succ, List.replicate, List.cons_append, List.nil_append, Nat.reduceAdd, Nat.reduceSub, Nat.sub_self, Nat.sub_zero, zero_add', ↓reduceIte, Bool.false_eq_true, item0, item1, addD_ii, subD_ii, negD_i, absD_i, ltD_ii, leD_ii, gtD_ii, geD_ii, truD_bl, decide_true, decide_false, isi_tup, lenD_tup, n, Bool.not_true, sSeq]
/-! ### chances -/
def chB (xs : List D) : Bool := decide (1 ≤ xs.length) && (decide (xs.length ≤ 12) && xs.all shF)
section
variable {h : Hs} {xs : List D}
abbrev newX (h : Hs) (x : D) : Hs := h ++ [.ins "Trials" [("chances", x), ("looked", .obj (h.length + 1))], .dI []]
end
/-- an instance of Trials that keeps x -/
def TrX (h : Hs) (i : Nat) (x : D) : Prop := ∃ fs, h[i]? = some (.ins "Trials" fs) ∧ fs.lookup ("chances" : PySem.Str) = some x
theorem trX_new {h : Hs} {x : D} : TrX (newX h x) h.length x := ⟨_, get_last, rfl⟩
theorem TrX.mono {h h' : Hs} {i : Nat} {x : D} (t : TrX h i x) (g : Gb 1 h h') (i1 : 1 ≤ i) : TrX h' i x := by
  obtain ⟨fs, e, l⟩ := t
  exact ⟨fs, g.at i1 e, l⟩
theorem fldX {h : Hs} {i : Nat} {x : D} (t : TrX h i x) {ca : Env → M D} {ρ : Env} (e : ca ρ h = .ok (.obj i) h) : eFld "Trials" "chances" ca ρ h = .ok x h := by
  obtain ⟨fs, h1, h2⟩ := t
  rw [q_eFld, e, bind_ok', fields_at h1, Option.bind_some, h2]
end Pl

set_option maxHeartbeats 1000000
/-! k06: deep things, lots, numbers -/
namespace Pl
open Dl Sh
local instance : Dl.Tb := ⟨fun _ => []⟩

/-! ### deep things -/
abbrev IsOb (h : Hs) (x : D) : Prop := ∃ (k : Nat) (kvs : List (L2.Key × D)), 1 ≤ k ∧ h[k]? = some (.dI kvs) ∧ x = .obj k
theorem IsOb.mono {h h' : Hs} {x : D} (o : IsOb h x) (g : Gb 1 h h') : IsOb h' x := by
  obtain ⟨k, kvs, k1, e, rfl⟩ := o
  exact ⟨k, kvs, k1, g.at k1 e, rfl⟩
inductive Dq (h : Hs) : D → Prop
  | non : Dq h .non
  | str (s : PySem.Str) : Dq h (.str s)
  | tup (y : D) : Dq h (.tup [y])
  | lst (xs : List D) : Dq h (.lst xs)
  | ob {x : D} : IsOb h x → Dq h x
theorem Dq.mono {h h' : Hs} {x : D} (d : Dq h x) (g : Gb 1 h h') : Dq h' x := by
  cases d with
  | non => exact .non
  | str s => exact .str s
  | tup y => exact .tup y
  | lst xs => exact .lst xs
  | ob o => exact .ob (o.mono g)
def Dp (h : Hs) (x : D) : Prop := (∃ y, Dq h y ∧ x = .tup [y]) ∨ (∃ xs, x = .lst xs) ∨ IsOb h x
theorem Dp.mono {h h' : Hs} {x : D} (d : Dp h x) (g : Gb 1 h h') : Dp h' x := by
  rcases d with ⟨y, d, e⟩ | ⟨xs, e⟩ | o
  · exact .inl ⟨y, d.mono g, e⟩
  · exact .inr (.inl ⟨xs, e⟩)
  · exact .inr (.inr (o.mono g))
theorem Dp.q {h : Hs} {x : D} (d : Dp h x) : Dq h x := by
  rcases d with ⟨y, d, rfl⟩ | ⟨xs, rfl⟩ | o
  · exact .tup y
  · exact .lst xs
  · exact .ob o
/-! ### no tuples -/
def NT (h : Hs) (x : D) : Prop := ∀ g, Gb 1 h g → isiD [] [x, .ty "tuple"] g = .ok (.bl false) g
theorem nt_lst {h : Hs} {xs : List D} : NT h (.lst xs) := fun _ _ => rfl
theorem nt_ob {h : Hs} {x : D} (o : IsOb h x) : NT h x := fun g gg => by
  obtain ⟨k, kvs, k1, e, rfl⟩ := o
  exact (isi_ob (gg.at k1 e)).1
theorem ks_isob {h : Hs} {x : D} (o : IsOb h x) : KS h x := by
  obtain ⟨k, kvs, k1, e, rfl⟩ := o
  exact ks_ob k1 e
theorem Dq.ks {h : Hs} {x : D} (d : Dq h x) : KS h x := by
  cases d with
  | non => exact ks_non
  | str s => exact ks_str
  | tup y => exact ks_len (by simp)
  | lst xs => exact ks_lst
  | ob o => exact ks_isob o
/-! ### numbers within -/
def wiF (n : Nat) : D → Bool
  | .int i => decide (0 ≤ i) && decide (i ≤ (n : Int) - 1)
  | _ => false
def KW (h : Hs) (n : Nat) (x : D) : Prop := ∀ g, Gb 1 h g → m_is_within [x, .int 0, .int ((n : Int) - 1)] g = .ok (.bl (wiF n x)) g
section
variable {h : Hs} {n : Nat}
theorem kw_no {x : D} (e : ∀ g, Gb 1 h g → m_is_integer [x] g = .ok (.bl false) g) (z : wiF n x = false) : KW h n x := fun g gg => by
  rw [z]
  refine mdef_ret (h' := g) ?_
  unfold c_is_within
  simp only [eV0, eVs, bind_ok', then_ok, q_e2, q_e1, q_eC, q_aC, q_aN, q_sPar2, q_sPar3, q_sSet, q_sRet, q_eBf, q_nBf, q_eCall, q_tst, q_tru, q_ifV, q_sIf, q_eTup, q_sPass, q_sExp, q_eLm, q_nLst, q_frz, q_thaw, q_iSeq, q_iR2, q_iR3, q_iEnumD, q_iZip, q_andX, q_andT, q_orT, q_notT, q_eCh, q_sPat, q_eSl, q_nSl, q_pS, q_pN, q_sRetN, q_tYes, q_eDct0, okL0, okL1, okL2, okL3, okL4, okL5, okL6, ent, List.map_cons, List.map_nil, List.length_cons, List.length_nil, List.set_cons_zero, List.set_cons_succ, List.replicate, List.cons_append, List.nil_append, Nat.reduceAdd, Nat.reduceSub, Nat.sub_self, Nat.sub_zero, zero_add', ↓reduceIte, Bool.false_eq_true, item0, item1, addD_ii, subD_ii, negD_i, absD_i, ltD_ii, leD_ii, gtD_ii, geD_ii, truD_bl, decide_true, decide_false, e g gg]
theorem kw_non : KW h n .non := kw_no (fun _ _ => rfl) rfl
theorem kw_str {s : PySem.Str} : KW h n (.str s) := kw_no (fun _ _ => rfl) rfl
theorem kw_tup {xs : List D} : KW h n (.tup xs) := kw_no (fun _ _ => rfl) rfl
theorem kw_lst {xs : List D} : KW h n (.lst xs) := kw_no (fun _ _ => rfl) rfl
theorem kw_ob {x : D} (o : IsOb h x) : KW h n x := by
  obtain ⟨k, kvs, k1, e, rfl⟩ := o
  refine kw_no (fun g gg => ?_) rfl
  have i := (isi_ob (gg.at k1 e)).2
  refine mdef_ret (h' := g) ?_
  unfold c_is_integer
  simp only [eV0, eVs, bind_ok', then_ok, q_e2, q_e1, q_eC, q_aC, q_aN, q_sPar2, q_sPar3, q_sSet, q_sRet, q_eBf, q_nBf, q_eCall, q_tst, q_tru, q_ifV, q_sIf, q_eTup, q_sPass, q_sExp, q_eLm, q_nLst, q_frz, q_thaw, q_iSeq, q_iR2, q_iR3, q_iEnumD, q_iZip, q_andX, q_andT, q_orT, q_notT, q_eCh, q_sPat, q_eSl, q_nSl, q_pS, q_pN, q_sRetN, q_tYes, q_eDct0, okL0, okL1, okL2, okL3, okL4, okL5, okL6, ent, List.map_cons, List.map_nil, List.length_cons, List.length_nil, List.set_cons_zero, List.set_cons_succ, List.replicate, List.cons_append, List.nil_append, Nat.reduceAdd, Nat.reduceSub, Nat.sub_self, Nat.sub_zero, zero_add', ↓reduceIte, Bool.false_eq_true, item0, item1, addD_ii, subD_ii, negD_i, absD_i, ltD_ii, leD_ii, gtD_ii, geD_ii, truD_bl, decide_true, decide_false, i]
theorem wi_ob {x : D} (o : IsOb h x) : wiF n x = false := by
  obtain ⟨k, kvs, k1, e, rfl⟩ := o
  rfl
theorem Dq.kw {x : D} (d : Dq h x) : KW h n x ∧ wiF n x = false := by
  cases d with
  | non => exact ⟨kw_non, rfl⟩
  | str s => exact ⟨kw_str, rfl⟩
  | tup y => exact ⟨kw_tup, rfl⟩
  | lst xs => exact ⟨kw_lst, rfl⟩
  | ob o => exact ⟨kw_ob o, wi_ob o⟩
/-- no number below n, now and later -/
def NoW (h : Hs) (n : Nat) (x : D) : Prop := ∀ g, Gb 1 h g → m_is_within [x, .int 0, .int ((n : Int) - 1)] g = .ok (.bl false) g
theorem KW.no {x : D} (k : KW h n x) (z : wiF n x = false) : NoW h n x := fun g gg => by
  rw [k g gg, z]
theorem NoW.mono {h' : Hs} {x : D} (k : NoW h n x) (g : Gb 1 h h') : NoW h' n x := fun f gf => k f (g.trans gf)
/-! ### lots -/
def NoL (h : Hs) (n : Nat) (y : D) : Prop := ∀ g, Gb 1 h g → m_is_lot [y, .int (n : Nat)] g = .ok (.bl false) g
theorem NoL.mono {h' : Hs} {x : D} (k : NoL h n x) (g : Gb 1 h h') : NoL h' n x := fun f gf => k f (g.trans gf)
end
end Pl

set_option maxHeartbeats 1000000
/-! k06: bent rows; win, odds that raise -/
namespace Pl
open Dl Sh
local instance : Dl.Tb := ⟨fun _ => []⟩

/-! ### rows -/
theorem shF_fr {q : Rat} (s : Shr q) : shF (fr q) = true := by
  have a : m_is_share [fr q] [] = .ok (.bl true) [] := isshare_eq s.1.1 s.1.2
  have b : m_is_share [fr q] [] = .ok (.bl (shC q.num q.den)) [] := is_share_ii
  rw [a] at b
  injection b with b1
  injection b1 with b2
  exact b2.symm
theorem row_all {qs : List Rat} (r : ∀ q ∈ qs, Shr q) : (qs.map fr).all shF = true := by
  rw [List.all_eq_true]
  intro x hx
  obtain ⟨q, hq, rfl⟩ := List.mem_map.mp hx
  exact shF_fr (r q hq)
theorem row_ch {qs : List Rat} (r : Row qs) : chB (qs.map fr) = true := by
  unfold chB
  rw [List.length_map, decide_eq_true r.1, decide_eq_true r.2.1, row_all r.2.2]
  rfl
theorem shF_fz {x : D} (e : shF x = true) : Fz 1 x := by
  unfold shF at e
  split at e
  · exact fz_ii _ _
  · cases e
theorem ch_fz {xs : List D} (e : chB xs = true) : Fz 8 (.tup xs) := by
  unfold chB at e
  rw [Bool.and_eq_true, Bool.and_eq_true] at e
  have al := List.all_eq_true.mp e.2.2
  exact (Fz.tup (n := 1) fun x hx => shF_fz (al x hx)).mono (by decide)
/-! ### what is bent -/
def Bt (h : Hs) (x : D) : Prop := (∃ xs, x = .tup xs ∧ (∀ y ∈ xs, KS h y) ∧ xs.length ≤ 1000) ∨ NT h x
theorem Bt.mono {h h' : Hs} {x : D} (b : Bt h x) (g : Gb 1 h h') : Bt h' x := by
  rcases b with ⟨xs, e, k, l⟩ | n
  · exact .inl ⟨xs, e, fun y hy => (k y hy).mono g, l⟩
  · exact .inr fun f gf => n f (g.trans gf)
theorem Dp.bt {h : Hs} {x : D} (d : Dp h x) : Bt h x := by
  rcases d with ⟨y, d, rfl⟩ | ⟨xs, rfl⟩ | o
  · exact .inl ⟨_, rfl, fun z hz => by rw [List.mem_singleton.mp hz]; exact d.ks, by simp⟩
  · exact .inr nt_lst
  · exact .inr (nt_ob o)
theorem slT_to {xs : List D} {m : Nat} {h : Hs} : sliceD (.tup xs) none (some (m : Int)) h = .ok (.tup (xs.take m)) h := by
  show Dl.R.ok (D.tup (cutL xs none (some (m : Int)))) h = _
  rw [cutL_to]
/-! ### win, odds -/
theorem fldT {h : Hs} {i : Nat} {cs : List Rat} (t : TrAt h i cs) : TrX h i (.tup (cs.map fr)) := by
  obtain ⟨fs, e, l, _⟩ := t
  exact ⟨fs, e, l⟩
theorem TrAt.up {h h' : Hs} {i : Nat} {cs : List Rat} (t : TrAt h i cs) (g : Gb 1 h h') (i1 : 1 ≤ i) : TrAt h' i cs := by
  obtain ⟨fs, e, r⟩ := t
  exact ⟨fs, g.at i1 e, r⟩
section
variable {cs : List Rat} {i : Nat} {h : Hs} (t : TrAt h i cs)
include t
end
end Pl

/-! The plain law of k02 (under way). -/
namespace Pl
open Dl Sh
local instance : Dl.Tb := ⟨fun _ => []⟩

/-! ### the filtered of the sorted are the sorted of the filtered -/
section
variable {α : Type} {le : α → α → Bool} {t : α → Bool}
end
/-! ### the law's own defs -/
theorem fr_rest (q : Rat) : fr (1 - q) = .tup [.int ((q.den : Int) - q.num), .int q.den] := by
  have dp := den_pos q
  have g : Int.gcd (q.den : Int) ((q.den : Int) - q.num) = 1 := by
    have z := q.reduced
    have e : Int.gcd (q.den : Int) ((q.den : Int) - q.num) = Int.gcd (q.den : Int) q.num := by
      have y := Int.gcd_sub_left_right_of_dvd q.num (Int.dvd_refl (q.den : Int))
      exact y
    rw [e, Int.gcd_comm]
    exact z
  unfold fr
  rw [one_sub, Rat.num_divInt, Rat.den_divInt, if_neg (by omega), g, Int.sign_eq_one_of_pos (by omega)]
  simp
theorem lrest2_eq (q : Rat) (h : Hs) : m__law_rest_v2 [fr q] h = .ok (fr (1 - q)) h := by
  refine mdef_ret (h' := h) ?_
  unfold c__law_rest_v2
  simp only [eV0, eVs, bind_ok', then_ok, q_e2, q_e1, q_eC, q_aC, q_aN, q_sPar2, q_sPar3, q_sSet, q_sRet, q_eBf, q_nBf, q_eCall, q_tst, q_tru, q_ifV, q_sIf, q_eTup, q_sPass, q_sExp, q_eLm, q_nLst, q_frz, q_thaw, q_iSeq, q_iR2, q_iR3, q_iEnumD, q_iZip, q_andX, q_andT, q_orT, q_notT, q_eCh, q_sPat, q_eSl, q_nSl, q_pS, q_pN, q_sRetN, q_tYes, q_eDct0, okL0, okL1, okL2, okL3, okL4, okL5, okL6, ent, List.map_cons, List.map_nil, List.length_cons, List.length_nil, List.set_cons_zero, List.set_cons_succ, List.replicate, List.cons_append, List.nil_append, Nat.reduceAdd, Nat.reduceSub, Nat.sub_self, Nat.sub_zero, zero_add', ↓reduceIte, Bool.false_eq_true, item0, item1, addD_ii, subD_ii, negD_i, absD_i, ltD_ii, leD_ii, gtD_ii, geD_ii, truD_bl, decide_true, decide_false, fr_num, fr_den]
  rw [fr_rest]
theorem lprod02 {p q : Rat} {a b : Nat} (hp : Sz a p) (hq : Sz b q) (hab : a + b ≤ 8000) (h : Hs) : m__law_product [fr p, fr q] h = .ok (fr (p * q)) h := lmul_eq hp hq hab h
theorem llots_eq {n : Nat} (hn : n ≤ 12) (h : Hs) : m__law_lots [.int (n : Nat)] h = .ok (.lst (((lots n).mergeSort (PySem.W.dataLe false enL)).map lotD)) h := by
  refine eq_of_wp ?_
  unfold m__law_lots c__law_lots
  have e1 : ent 4 [D.int (n : Nat)] = [some (.int n), none, none, none] := rfl
  have ep : sSet 1 (frz (nLst (aC (eTup aN) aN))) [some (.int n), none, none, none] h = .nx [some (.int n), some (.lst ((lots 0).map lotD)), none, none] h := by
    simp only [eV0, eVs, bind_ok', then_ok, q_e2, q_e1, q_eC, q_aC, q_aN, q_sPar2, q_sPar3, q_sSet, q_sRet, q_eBf, q_nBf, q_eCall, q_tst, q_tru, q_ifV, q_sIf, q_eTup, q_sPass, q_sExp, q_eLm, q_nLst, q_frz, q_thaw, q_iSeq, q_iR2, q_iR3, q_iEnumD, q_iZip, q_andX, q_andT, q_orT, q_notT, q_eCh, q_sPat, q_eSl, q_nSl, q_pS, q_pN, q_sRetN, q_tYes, q_eDct0, okL0, okL1, okL2, okL3, okL4, okL5, okL6, ent, List.map_cons, List.map_nil, List.length_cons, List.length_nil, List.set_cons_zero, List.set_cons_succ, List.replicate, List.cons_append, List.nil_append, Nat.reduceAdd, Nat.reduceSub, Nat.sub_self, Nat.sub_zero, zero_add', ↓reduceIte, Bool.false_eq_true, item0, item1, addD_ii, subD_ii, negD_i, absD_i, ltD_ii, leD_ii, gtD_ii, geD_ii, truD_bl, decide_true, decide_false]
    rfl
  rw [wp_def, e1, wps_seq, ep, wps_nx, wps_seq, wps_for, iR1_eq (n := n) (h' := h) (by simp only [eV0, eVs, bind_ok', then_ok, q_e2, q_e1, q_eC, q_aC, q_aN, q_sPar2, q_sPar3, q_sSet, q_sRet, q_eBf, q_nBf, q_eCall, q_tst, q_tru, q_ifV, q_sIf, q_eTup, q_sPass, q_sExp, q_eLm, q_nLst, q_frz, q_thaw, q_iSeq, q_iR2, q_iR3, q_iEnumD, q_iZip, q_andX, q_andT, q_orT, q_notT, q_eCh, q_sPat, q_eSl, q_nSl, q_pS, q_pN, q_sRetN, q_tYes, q_eDct0, okL0, okL1, okL2, okL3, okL4, okL5, okL6, ent, List.map_cons, List.map_nil, List.length_cons, List.length_nil, List.set_cons_zero, List.set_cons_succ, List.replicate, List.cons_append, List.nil_append, Nat.reduceAdd, Nat.reduceSub, Nat.sub_self, Nat.sub_zero, zero_add', ↓reduceIte, Bool.false_eq_true, item0, item1, addD_ii, subD_ii, negD_i, absD_i, ltD_ii, leD_ii, gtD_ii, geD_ii, truD_bl, decide_true, decide_false]) (by omega), wp_ok]
  refine wps_loop (fun j ρ h' => h' = h ∧ ∃ a2, ρ = [some (.int n), some (.lst ((lots j).map lotD)), a2, none]) _ 0 _ _ ?_ ?_ ⟨rfl, none, rfl⟩
  · rintro j x ρ h' hx ⟨rfl, a2, rfl⟩
    rw [Nat.zero_add] at *
    have hj := (List.getElem?_eq_some_iff.mp hx).1
    rw [rng_len] at hj
    rw [rng_at _ _ _ _ hj] at hx
    cases hx
    refine ⟨rfl, _, rfl, ?_⟩
    have e0 : (0 : Int) + (j : Int) * 1 = (j : Int) := by omega
    rw [e0]
    have lj := lots_small (n := j) (by omega)
    have cc := compM (α := List Nat) (ci := iSeq (eV 1)) (p := .nm 3) (own := [3]) (ce := e2 addD (eV 3) (eTup (aC (eV 2) aN))) (ρ := [some (.int n), some (.lst ((lots j).map lotD)), some (.int (j : Nat)), none]) (h := h') (xs := lots j) (g := lotD) (f := fun l => lotD (l ++ [j]))
      (seq_lst (by simp only [eV0, eVs, bind_ok', then_ok, q_e2, q_e1, q_eC, q_aC, q_aN, q_sPar2, q_sPar3, q_sSet, q_sRet, q_eBf, q_nBf, q_eCall, q_tst, q_tru, q_ifV, q_sIf, q_eTup, q_sPass, q_sExp, q_eLm, q_nLst, q_frz, q_thaw, q_iSeq, q_iR2, q_iR3, q_iEnumD, q_iZip, q_andX, q_andT, q_orT, q_notT, q_eCh, q_sPat, q_eSl, q_nSl, q_pS, q_pN, q_sRetN, q_tYes, q_eDct0, okL0, okL1, okL2, okL3, okL4, okL5, okL6, ent, List.map_cons, List.map_nil, List.length_cons, List.length_nil, List.set_cons_zero, List.set_cons_succ, List.replicate, List.cons_append, List.nil_append, Nat.reduceAdd, Nat.reduceSub, Nat.sub_self, Nat.sub_zero, zero_add', ↓reduceIte, Bool.false_eq_true, item0, item1, addD_ii, subD_ii, negD_i, absD_i, ltD_ii, leD_ii, gtD_ii, geD_ii, truD_bl, decide_true, decide_false])) (by omega) fun l hl' => ⟨_, rfl, by
        have ll := (lots_inc hl').len (Nat.zero_le _)
        have ad : addD (lotD l) (.tup [.int (j : Nat)]) h' = .ok (lotD (l ++ [j])) h' := by
          have z := addD_tt (h := h') (xs := l.map fun m => .int (m : Nat)) (ys := [.int (j : Nat)]) (by rw [List.length_map]; simp; omega)
          have e : lotD (l ++ [j]) = .tup ((l.map fun m => .int (m : Nat)) ++ [.int (j : Nat)]) := by unfold lotD; rw [List.map_append]; rfl
          rw [e]
          exact z
        simp only [wipeD, eV0, eVs, bind_ok', then_ok, q_e2, q_e1, q_eC, q_aC, q_aN, q_sPar2, q_sPar3, q_sSet, q_sRet, q_eBf, q_nBf, q_eCall, q_tst, q_tru, q_ifV, q_sIf, q_eTup, q_sPass, q_sExp, q_eLm, q_nLst, q_frz, q_thaw, q_iSeq, q_iR2, q_iR3, q_iEnumD, q_iZip, q_andX, q_andT, q_orT, q_notT, q_eCh, q_sPat, q_eSl, q_nSl, q_pS, q_pN, q_sRetN, q_tYes, q_eDct0, okL0, okL1, okL2, okL3, okL4, okL5, okL6, ent, List.map_cons, List.map_nil, List.length_cons, List.length_nil, List.set_cons_zero, List.set_cons_succ, List.replicate, List.cons_append, List.nil_append, Nat.reduceAdd, Nat.reduceSub, Nat.sub_self, Nat.sub_zero, zero_add', ↓reduceIte, Bool.false_eq_true, item0, item1, addD_ii, subD_ii, negD_i, absD_i, ltD_ii, leD_ii, gtD_ii, geD_ii, truD_bl, decide_true, decide_false, ad]⟩
    have ad2 : addD (.lst ((lots j).map lotD)) (.lst ((lots j).map fun l => lotD (l ++ [j]))) h' = .ok (.lst ((lots (j + 1)).map lotD)) h' := by
      rw [addD_ll (by rw [List.length_map, List.length_map]; omega)]
      have el : lots (j + 1) = lots j ++ (lots j).map (· ++ [j]) := rfl
      rw [el, List.map_append, List.map_map]
      rfl
    simp only [List.set_cons_zero, List.set_cons_succ, q_sSet, q_e2, q_frz, eV0, eVs, bind_ok', cc, ad2, wps_then, wp_ok, wps_nx]
    exact ⟨trivial, _, rfl⟩
  · rintro ρ h' ⟨rfl, a2, rfl⟩
    rw [Nat.zero_add, rng_len]
    refine ⟨rfl, ?_⟩
    simp only [eV0, eVs, bind_ok', then_ok, q_e2, q_e1, q_eC, q_aC, q_aN, q_sPar2, q_sPar3, q_sSet, q_sRet, q_eBf, q_nBf, q_eCall, q_tst, q_tru, q_ifV, q_sIf, q_eTup, q_sPass, q_sExp, q_eLm, q_nLst, q_frz, q_thaw, q_iSeq, q_iR2, q_iR3, q_iEnumD, q_iZip, q_andX, q_andT, q_orT, q_notT, q_eCh, q_sPat, q_eSl, q_nSl, q_pS, q_pN, q_sRetN, q_tYes, q_eDct0, okL0, okL1, okL2, okL3, okL4, okL5, okL6, ent, List.map_cons, List.map_nil, List.length_cons, List.length_nil, List.set_cons_zero, List.set_cons_succ, List.replicate, List.cons_append, List.nil_append, Nat.reduceAdd, Nat.reduceSub, Nat.sub_self, Nat.sub_zero, zero_add', ↓reduceIte, Bool.false_eq_true, item0, item1, addD_ii, subD_ii, negD_i, absD_i, ltD_ii, leD_ii, gtD_ii, geD_ii, truD_bl, decide_true, decide_false, wp_ok, wp_bad, wp_bind, wp_nox, wp_def, wps_then, wps_seq, wps_nx, wps_ret, wp_ite, wps_ite, sort_lots]
    exact ⟨trivial, trivial⟩
theorem alone_loop {B : Nat} (hB : B ≤ 2000) {h : Hs} {N : Env → Hs → Prop} {T : D → Hs → Prop} {d0 d1 d2 d3 d4 : D} : ∀ (rs : List Rat) (x : Rat) (E : Nat) (d6 : Option D), (∀ r ∈ rs, In1 r) → In1 x → Iq E x → 0 < E → E * Dd rs < 2 ^ B → (∀ d6, N [some d0, some d1, some d2, some d3, some d4, some (fr (x * nf rs)), d6] h) →
    WpS (loopF (.nm 6) (sSet 5 (eCall 2 m__law_product (aC (eV 5) (aC (eCall 1 m__law_rest_v2 (aC (eV 6) aN)) aN)))) [] (rs.map fr) [some d0, some d1, some d2, some d3, some d4, some (fr x), d6] h) N T
  | [], x, E, d6, _, _, _, _, _, k => by
    unfold loopF
    have e : x * nf [] = x := Rat.mul_one x
    rw [e] at k
    exact k d6
  | r :: rs, x, E, d6, hr, x1, xi, E0, hE, k => by
    rw [List.map_cons]
    unfold loopF
    rw [if_pos okG_nil]
    have r1 := hr r List.mem_cons_self
    have p0 := Dd_pos rs
    have dr := den_pos r
    have hE' : E * r.den * Dd rs < 2 ^ B := by rw [Nat.mul_assoc]; exact hE
    have hEl : E * r.den < 2 ^ B := Nat.lt_of_le_of_lt (Nat.le_mul_of_pos_right _ p0) hE'
    have sx : Sz B x := xi.sz1 E0 (Nat.lt_of_le_of_lt (Nat.le_mul_of_pos_right _ dr) hEl) x1.1 x1.2
    have dl : r.den < 2 ^ B := Nat.lt_of_le_of_lt (Nat.le_mul_of_pos_left _ E0) hEl
    have s1 : Sz B (1 - r) := (Iq.rest r).sz1 dr dl r1.rest.1 r1.rest.2
    have e : sSet 5 (eCall 2 m__law_product (aC (eV 5) (aC (eCall 1 m__law_rest_v2 (aC (eV 6) aN)) aN))) [some d0, some d1, some d2, some d3, some d4, some (fr x), some (fr r)] h = .nx [some d0, some d1, some d2, some d3, some d4, some (fr (x * (1 - r))), some (fr r)] h := by
      simp only [eV0, eVs, bind_ok', then_ok, q_e2, q_e1, q_eC, q_aC, q_aN, q_sPar2, q_sPar3, q_sSet, q_sRet, q_eBf, q_nBf, q_eCall, q_tst, q_tru, q_ifV, q_sIf, q_eTup, q_sPass, q_sExp, q_eLm, q_nLst, q_frz, q_thaw, q_iSeq, q_iR2, q_iR3, q_iEnumD, q_iZip, q_andX, q_andT, q_orT, q_notT, q_eCh, q_sPat, q_eSl, q_nSl, q_pS, q_pN, q_sRetN, q_tYes, q_eDct0, okL0, okL1, okL2, okL3, okL4, okL5, okL6, ent, List.map_cons, List.map_nil, List.length_cons, List.length_nil, List.set_cons_zero, List.set_cons_succ, List.replicate, List.cons_append, List.nil_append, Nat.reduceAdd, Nat.reduceSub, Nat.sub_self, Nat.sub_zero, zero_add', ↓reduceIte, Bool.false_eq_true, item0, item1, addD_ii, subD_ii, negD_i, absD_i, ltD_ii, leD_ii, gtD_ii, geD_ii, truD_bl, decide_true, decide_false, lrest2_eq, lprod02 sx s1 (by omega)]
    show WpS (match sSet 5 (eCall 2 m__law_product (aC (eV 5) (aC (eCall 1 m__law_rest_v2 (aC (eV 6) aN)) aN))) [some d0, some d1, some d2, some d3, some d4, some (fr x), some (fr r)] h with
      | .nx ρ2 h2 => loopF _ _ _ _ ρ2 h2
      | .ct ρ2 h2 => loopF _ _ _ _ ρ2 h2
      | .bk ρ2 h2 => .nx ρ2 h2
      | r => r) N T
    rw [e]
    refine alone_loop hB rs (x * (1 - r)) (E * r.den) _ (fun q hq => hr q (List.mem_cons_of_mem _ hq)) (x1.mul r1.rest) (xi.mul (Iq.rest r)) (Nat.mul_pos E0 dr) hE' fun d6 => ?_
    have e2 : x * (1 - r) * nf rs = x * nf (r :: rs) := Rat.mul_assoc _ _ _
    rw [e2]
    exact k d6
theorem lwin_loop {cs : List Rat} {B : Nat} (c : Cs B cs) (hB : B ≤ 2000) {h : Hs} {N : Env → Hs → Prop} {T : D → Hs → Prop} {d1 : D} : ∀ (l : List Nat) (k : Nat) (x y : Rat) (E : Nat) (d4 d5 d6 : Option D), Inc cs.length k l → Iq E y → 0 < E → E * Dd (cs.drop k) ∣ Dd cs → Iq (Dd cs) x → 0 ≤ x → In1 y → x + y ≤ 1 → (∀ y3 d4 d5 d6, N [some (.tup (cs.map fr)), some d1, some (fr (x + y * wn cs l)), y3, d4, d5, d6] h) →
    WpS (loopF (.nm 4) (sSeq (sSet 5 (e2 itemD (eV 0) (eV 4))) (sSeq (sFor (iSeq (eSl (eV 0) (pS (e2 addD (eV 4) (eC (.int 1)))) pN)) (.nm 6) (sSet 5 (eCall 2 m__law_product (aC (eV 5) (aC (eCall 1 m__law_rest_v2 (aC (eV 6) aN)) aN))))) (sSeq (sSet 2 (eCall 2 m__law_plus (aC (eV 2) (aC (eCall 2 m__law_product (aC (eV 3) (aC (eV 5) aN))) aN)))) (sSet 3 (eCall 2 m__law_product (aC (eV 3) (aC (eCall 1 m__law_rest_v2 (aC (e2 itemD (eV 0) (eV 4)) aN)) aN))))))) [] (l.map fun m => .int (m : Nat)) [some (.tup (cs.map fr)), some d1, some (fr x), some (fr y), d4, d5, d6] h) N T
  | [], k, x, y, E, d4, d5, d6, _, _, _, _, _, _, _, _, kk => by
    unfold loopF
    have e : x + y * wn cs [] = x := by
      show x + y * 0 = x
      grind
    rw [e] at kk
    exact kk _ d4 d5 d6
  | m :: l, k, x, y, E, d4, d5, d6, inc, yi, E0, hE, xi, x0, y1, xy, kk => by
    rw [List.map_cons]
    unfold loopF
    rw [if_pos okG_nil]
    have hm := inc.2.1
    have ce : cs[m]? = some (cs.getD m 0) := by rw [List.getD_eq_getElem?_getD, List.getElem?_eq_getElem hm]; rfl
    have hw : wn cs (m :: l) = cs.getD m 0 * nf (cs.drop (m + 1)) + (1 - cs.getD m 0) * wn cs l := rfl
    rw [hw] at kk
    have cm := List.mem_of_getElem? ce
    generalize cs.getD m 0 = q at ce kk cm
    have q1 := c.one q cm
    have n1 := nf_in (cs := cs.drop (m + 1)) fun c' hq => c.one c' (List.mem_of_mem_drop hq)
    have dm := Dd_at ce
    have E1 : E * Dd (cs.drop m) ∣ Dd cs := Nat.dvd_trans (Nat.mul_dvd_mul_left _ (Dd_drop2 inc.1)) hE
    have El : E ∣ Dd cs := Nat.dvd_trans (Nat.dvd_mul_right _ _) hE
    have sy : Sz B y := (yi.up El (Dd_pos _)).sz1 (Dd_pos _) c.dd y1.1 y1.2
    have xl : x ≤ 1 := by have := y1.1; grind
    have sx : Sz B x := xi.sz1 (Dd_pos _) c.dd x0 xl
    have a1 := q1.mul n1
    have ai : Iq (Dd cs) (q * nf (cs.drop (m + 1))) := (show Iq (Dd (cs.drop m)) _ by rw [dm]; exact (Iq.self q).mul (nf_iq _)).up (Dd_drop cs m) (Dd_pos _)
    have sa : Sz B (q * nf (cs.drop (m + 1))) := ai.sz1 (Dd_pos _) c.dd a1.1 a1.2
    have pi : Iq (Dd cs) (y * (q * nf (cs.drop (m + 1)))) := (yi.mul (by rw [dm]; exact (Iq.self q).mul (nf_iq _))).up E1 (Dd_pos _)
    have p1 := y1.mul a1
    have sp : Sz B (y * (q * nf (cs.drop (m + 1)))) := pi.sz1 (Dd_pos _) c.dd p1.1 p1.2
    have s1 : Sz B (1 - q) := (Iq.rest q).sz1 (den_pos q) (c.den cm) q1.rest.1 q1.rest.2
    have itc : itemD (.tup (cs.map fr)) (.int (m : Nat)) h = .ok (fr q) h := item_at (by rw [List.getElem?_map, ce]; rfl)
    show WpS (match (sSeq _ _) [some (.tup (cs.map fr)), some d1, some (fr x), some (fr y), some (.int (m : Nat)), d5, d6] h with
      | .nx ρ2 h2 => loopF _ _ _ _ ρ2 h2
      | .ct ρ2 h2 => loopF _ _ _ _ ρ2 h2
      | .bk ρ2 h2 => .nx ρ2 h2
      | r => r) N T
    have body : WpS ((sSeq (sSet 5 (e2 itemD (eV 0) (eV 4))) (sSeq (sFor (iSeq (eSl (eV 0) (pS (e2 addD (eV 4) (eC (.int 1)))) pN)) (.nm 6) (sSet 5 (eCall 2 m__law_product (aC (eV 5) (aC (eCall 1 m__law_rest_v2 (aC (eV 6) aN)) aN))))) (sSeq (sSet 2 (eCall 2 m__law_plus (aC (eV 2) (aC (eCall 2 m__law_product (aC (eV 3) (aC (eV 5) aN))) aN)))) (sSet 3 (eCall 2 m__law_product (aC (eV 3) (aC (eCall 1 m__law_rest_v2 (aC (e2 itemD (eV 0) (eV 4)) aN)) aN))))))) [some (.tup (cs.map fr)), some d1, some (fr x), some (fr y), some (.int (m : Nat)), d5, d6] h)
        (fun ρ h' => h' = h ∧ ∃ d6, ρ = [some (.tup (cs.map fr)), some d1, some (fr (x + y * (q * nf (cs.drop (m + 1))))), some (fr (y * (1 - q))), some (.int (m : Nat)), some (fr (q * nf (cs.drop (m + 1)))), d6]) (fun _ _ => False) := by
      rw [wps_seq]
      simp only [q_sSet, q_e2, eV0, eVs, bind_ok', itc, then_ok, wps_nx, List.set_cons_zero, List.set_cons_succ]
      have sl : ∀ ρ : Env, eSl (eV 0) (pS (e2 addD (eV 4) (eC (.int 1)))) pN [some (.tup (cs.map fr)), some d1, some (fr x), some (fr y), some (.int (m : Nat)), some (fr q), d6] h = .ok (.tup ((cs.drop (m + 1)).map fr)) h := fun ρ => by
        have em : (m : Int) + 1 = ((m + 1 : Nat) : Int) := by omega
        simp only [eV0, eVs, bind_ok', then_ok, q_e2, q_e1, q_eC, q_aC, q_aN, q_sPar2, q_sPar3, q_sSet, q_sRet, q_eBf, q_nBf, q_eCall, q_tst, q_tru, q_ifV, q_sIf, q_eTup, q_sPass, q_sExp, q_eLm, q_nLst, q_frz, q_thaw, q_iSeq, q_iR2, q_iR3, q_iEnumD, q_iZip, q_andX, q_andT, q_orT, q_notT, q_eCh, q_sPat, q_eSl, q_nSl, q_pS, q_pN, q_sRetN, q_tYes, q_eDct0, okL0, okL1, okL2, okL3, okL4, okL5, okL6, ent, List.map_cons, List.map_nil, List.length_cons, List.length_nil, List.set_cons_zero, List.set_cons_succ, List.replicate, List.cons_append, List.nil_append, Nat.reduceAdd, Nat.reduceSub, Nat.sub_self, Nat.sub_zero, zero_add', ↓reduceIte, Bool.false_eq_true, item0, item1, addD_ii, subD_ii, negD_i, absD_i, ltD_ii, leD_ii, gtD_ii, geD_ii, truD_bl, decide_true, decide_false, em, slD_tup_from, List.map_drop]
      rw [wps_seq, wps_for, seq_tup (sl []), wp_ok]
      have dle : q.den * Dd (cs.drop (m + 1)) < 2 ^ B := by rw [← dm]; exact (c.drop m).dd
      refine alone_loop hB (cs.drop (m + 1)) q q.den _ (c.drop (m + 1)).one q1 (Iq.self q) (den_pos q) dle fun d6 => ?_
      simp only [eV0, eVs, bind_ok', then_ok, q_e2, q_e1, q_eC, q_aC, q_aN, q_sPar2, q_sPar3, q_sSet, q_sRet, q_eBf, q_nBf, q_eCall, q_tst, q_tru, q_ifV, q_sIf, q_eTup, q_sPass, q_sExp, q_eLm, q_nLst, q_frz, q_thaw, q_iSeq, q_iR2, q_iR3, q_iEnumD, q_iZip, q_andX, q_andT, q_orT, q_notT, q_eCh, q_sPat, q_eSl, q_nSl, q_pS, q_pN, q_sRetN, q_tYes, q_eDct0, okL0, okL1, okL2, okL3, okL4, okL5, okL6, ent, List.map_cons, List.map_nil, List.length_cons, List.length_nil, List.set_cons_zero, List.set_cons_succ, List.replicate, List.cons_append, List.nil_append, Nat.reduceAdd, Nat.reduceSub, Nat.sub_self, Nat.sub_zero, zero_add', ↓reduceIte, Bool.false_eq_true, item0, item1, addD_ii, subD_ii, negD_i, absD_i, ltD_ii, leD_ii, gtD_ii, geD_ii, truD_bl, decide_true, decide_false, wp_ok, wp_bad, wp_bind, wp_nox, wp_def, wps_then, wps_seq, wps_nx, wps_ret, wp_ite, wps_ite, lprod02 sy sa (by omega), lplus_eq sx sp (by omega), itc, lrest2_eq, lprod02 sy s1 (by omega)]
      exact ⟨trivial, _, rfl⟩
    generalize hb : (sSeq _ _) [some (.tup (cs.map fr)), some d1, some (fr x), some (fr y), some (.int (m : Nat)), d5, d6] h = r at body ⊢
    cases r with
    | nx ρ2 h2 =>
      obtain ⟨rfl, d6', rfl⟩ := body
      refine lwin_loop c hB l (m + 1) (x + y * (q * nf (cs.drop (m + 1)))) (y * (1 - q)) (E * q.den) _ _ _ inc.2.2 (yi.mul (Iq.rest q)) (Nat.mul_pos E0 (den_pos q)) ?_ (xi.add pi) ?_ (y1.mul q1.rest) ?_ ?_
      · rw [Nat.mul_assoc, ← dm]; exact E1
      · have := p1.1; grind
      · have z : y * (q * nf (cs.drop (m + 1))) ≤ y * q := by
          have z1 := Rat.mul_le_mul_of_nonneg_left n1.2 q1.1
          rw [Rat.mul_one] at z1
          exact Rat.mul_le_mul_of_nonneg_left z1 y1.1
        have e3 : y * (1 - q) = y - y * q := by grind
        rw [e3]
        grind
      · intro y3 d4 d5 d6
        have e4 : x + y * (q * nf (cs.drop (m + 1))) + y * (1 - q) * wn cs l = x + y * (q * nf (cs.drop (m + 1)) + (1 - q) * wn cs l) := by grind
        rw [e4]
        exact kk y3 d4 d5 d6
    | ret d h2 => exact body.elim
    | bk ρ2 h2 => exact body.elim
    | ct ρ2 h2 => exact body.elim
    | exc ρ2 C fs h2 => exact body.elim
    | bad => exact body.elim
theorem lwin_eq {cs : List Rat} {B : Nat} (c : Cs B cs) (hB : B ≤ 2000) {h : Hs} {l : List Nat} (inc : Inc cs.length 0 l) : m__law_win [.tup (cs.map fr), lotD l] h = .ok (fr (wn cs l)) h := by
  refine eq_of_wp ?_
  unfold m__law_win c__law_win
  have e1 : ent 7 [D.tup (cs.map fr), lotD l] = [some (.tup (cs.map fr)), some (lotD l), none, none, none, none, none] := rfl
  have ep : sPat (.tp [.nm 2, .nm 3]) (eTup (aC (eTup (aC (eC (.int 0)) (aC (eC (.int 1)) aN))) (aC (eTup (aC (eC (.int 1)) (aC (eC (.int 1)) aN))) aN))) [some (.tup (cs.map fr)), some (lotD l), none, none, none, none, none] h = .nx [some (.tup (cs.map fr)), some (lotD l), some (fr 0), some (fr 1), none, none, none] h := by
    simp only [eV0, eVs, bind_ok', then_ok, q_e2, q_e1, q_eC, q_aC, q_aN, q_sPar2, q_sPar3, q_sSet, q_sRet, q_eBf, q_nBf, q_eCall, q_tst, q_tru, q_ifV, q_sIf, q_eTup, q_sPass, q_sExp, q_eLm, q_nLst, q_frz, q_thaw, q_iSeq, q_iR2, q_iR3, q_iEnumD, q_iZip, q_andX, q_andT, q_orT, q_notT, q_eCh, q_sPat, q_eSl, q_nSl, q_pS, q_pN, q_sRetN, q_tYes, q_eDct0, okL0, okL1, okL2, okL3, okL4, okL5, okL6, ent, List.map_cons, List.map_nil, List.length_cons, List.length_nil, List.set_cons_zero, List.set_cons_succ, List.replicate, List.cons_append, List.nil_append, Nat.reduceAdd, Nat.reduceSub, Nat.sub_self, Nat.sub_zero, zero_add', ↓reduceIte, Bool.false_eq_true, item0, item1, addD_ii, subD_ii, negD_i, absD_i, ltD_ii, leD_ii, gtD_ii, geD_ii, truD_bl, decide_true, decide_false]
    rfl
  rw [wp_def, e1, wps_seq, ep, wps_nx, wps_seq, wps_for, seq_tup (ce := eV 1) (xs := l.map fun m => .int (m : Nat)) rfl, wp_ok]
  refine lwin_loop c hB l 0 0 1 1 none none none inc .one Nat.one_pos (by rw [Nat.one_mul, List.drop_zero]; exact Nat.dvd_refl _) (Iq.zero.up (Nat.one_dvd _) (Dd_pos _)) Rat.le_refl .one (by decide +kernel) fun y3 d4 d5 d6 => ?_
  have e : (0 : Rat) + 1 * wn cs l = wn cs l := by grind
  rw [e]
  simp only [eV0, eVs, bind_ok', then_ok, q_e2, q_e1, q_eC, q_aC, q_aN, q_sPar2, q_sPar3, q_sSet, q_sRet, q_eBf, q_nBf, q_eCall, q_tst, q_tru, q_ifV, q_sIf, q_eTup, q_sPass, q_sExp, q_eLm, q_nLst, q_frz, q_thaw, q_iSeq, q_iR2, q_iR3, q_iEnumD, q_iZip, q_andX, q_andT, q_orT, q_notT, q_eCh, q_sPat, q_eSl, q_nSl, q_pS, q_pN, q_sRetN, q_tYes, q_eDct0, okL0, okL1, okL2, okL3, okL4, okL5, okL6, ent, List.map_cons, List.map_nil, List.length_cons, List.length_nil, List.set_cons_zero, List.set_cons_succ, List.replicate, List.cons_append, List.nil_append, Nat.reduceAdd, Nat.reduceSub, Nat.sub_self, Nat.sub_zero, zero_add', ↓reduceIte, Bool.false_eq_true, item0, item1, addD_ii, subD_ii, negD_i, absD_i, ltD_ii, leD_ii, gtD_ii, geD_ii, truD_bl, decide_true, decide_false, wp_ok, wp_bad, wp_bind, wp_nox, wp_def, wps_then, wps_seq, wps_nx, wps_ret, wp_ite, wps_ite]
  exact ⟨trivial, trivial⟩
theorem dr_cs {qs : List Rat} (r : Drawn qs) : Cs 1000 qs := by
  refine ⟨fun q hq => ⟨(r.2.2 q hq).1, (r.2.2 q hq).2.1⟩, ?_⟩
  exact Nat.lt_of_le_of_lt (Dd_le (a := 40) fun q hq => (r.2.2 q hq).2.2) (Nat.pow_lt_pow_right (by decide) (by have := r.2.1; omega))
theorem Tp.of {h h' : Hs} {N : Nat} (t : Tp h N) (e0 : h'[0]? = h[0]?) (e1 : h'[1]? = h[1]?) : Tp h' N := by
  obtain ⟨s, n, cs, g1, g0, r⟩ := t.ex
  exact ⟨s, n, cs, e1.trans g1, e0.trans g0, r⟩
end Pl

set_option maxHeartbeats 1000000
/-! k01: all ways that trials can go, and what a lot wins -/
namespace Pl
open Dl Sh
local instance : Dl.Tb := ⟨fun _ => []⟩

/-! ### sums over lots -/
def smL (f : List Nat → Rat) : List (List Nat) → Rat
  | [] => 0
  | S :: L => f S + smL f L
theorem smL_app (f : List Nat → Rat) : ∀ (L M : List (List Nat)), smL f (L ++ M) = smL f L + smL f M
  | [], M => by show smL f M = 0 + smL f M; grind
  | S :: L, M => by
    show f S + smL f (L ++ M) = f S + smL f L + smL f M
    rw [smL_app f L M]
    grind
theorem smL_map (f : List Nat → Rat) (g : List Nat → List Nat) : ∀ L, smL f (L.map g) = smL (fun S => f (g S)) L
  | [] => rfl
  | S :: L => by
    exact congrArg (f (g S) + ·) (smL_map f g L)
theorem smL_congr {f g : List Nat → Rat} : ∀ {L : List (List Nat)}, (∀ S ∈ L, f S = g S) → smL f L = smL g L
  | [], _ => rfl
  | S :: L, h => by
    show f S + smL f L = g S + smL g L
    rw [h S List.mem_cons_self, smL_congr fun x hx => h x (List.mem_cons_of_mem _ hx)]
theorem smL_mul (f : List Nat → Rat) (c : Rat) : ∀ L, smL (fun S => f S * c) L = smL f L * c
  | [] => by show (0 : Rat) = 0 * c; grind
  | S :: L => by
    show f S * c + smL _ L = (f S + smL f L) * c
    rw [smL_mul f c L]
    grind
theorem smL_zero : ∀ L, smL (fun _ => 0) L = 0
  | [] => rfl
  | S :: L => by
    show (0 : Rat) + smL _ L = 0
    rw [smL_zero L]
    grind
theorem smL_perm {f : List Nat → Rat} {L M : List (List Nat)} (p : L.Perm M) : smL f L = smL f M := by
  induction p with
  | nil => rfl
  | cons x _ ih => show f x + _ = f x + _; rw [ih]
  | swap x y l => show f y + (f x + smL f l) = f x + (f y + smL f l); grind
  | trans _ _ a b => exact a.trans b
/-! ### the share of a way -/
def pway : List Rat → Nat → List Nat → Rat
  | [], _, _ => 1
  | c :: cs, k, S => (if k ∈ S then c else 1 - c) * pway cs (k + 1) S
theorem pway_snoc (c : Rat) (S : List Nat) : ∀ (cs : List Rat) (k : Nat), pway (cs ++ [c]) k S = pway cs k S * (if k + cs.length ∈ S then c else 1 - c)
  | [], k => by
    show (if k ∈ S then c else 1 - c) * 1 = 1 * (if k + 0 ∈ S then c else 1 - c)
    rw [Nat.add_zero]
    grind
  | a :: cs, k => by
    show (if k ∈ S then a else 1 - a) * pway (cs ++ [c]) (k + 1) S = (if k ∈ S then a else 1 - a) * pway cs (k + 1) S * _
    rw [pway_snoc c S cs (k + 1), List.length_cons, show k + 1 + cs.length = k + (cs.length + 1) by omega]
    grind
theorem pway_more (n : Nat) (S : List Nat) : ∀ (cs : List Rat) (k : Nat), k + cs.length ≤ n → pway cs k (S ++ [n]) = pway cs k S
  | [], _, _ => rfl
  | a :: cs, k, h => by
    rw [List.length_cons] at h
    have z : (k ∈ S ++ [n]) ↔ (k ∈ S) := by
      rw [List.mem_append, List.mem_singleton]
      constructor
      · rintro (y | y)
        · exact y
        · omega
      · exact .inl
    show (if k ∈ S ++ [n] then a else 1 - a) * pway cs (k + 1) (S ++ [n]) = (if k ∈ S then a else 1 - a) * pway cs (k + 1) S
    rw [pway_more n S cs (k + 1) (by omega)]
    by_cases y : k ∈ S
    · rw [if_pos y, if_pos (z.mpr y)]
    · rw [if_neg y, if_neg fun q => y (z.mp q)]
/-- whether the lot's first good one is the last good one -/
def metL (lot S : List Nat) : List Nat := lot.filter fun m => decide (m ∈ S)
def ind (lot S : List Nat) : Bool := match metL lot S with
  | [] => false
  | m :: _ => decide (S.getLast? = some m)
def ways (cs : List Rat) (lot : List Nat) : Rat := smL (fun S => if ind lot S = true then pway cs 0 S else 0) (lots cs.length)
def free (cs : List Rat) (lot : List Nat) : Rat := smL (fun S => if metL lot S = [] then pway cs 0 S else 0) (lots cs.length)
def rp (cs : List Rat) : List Nat → Rat
  | [] => 1
  | m :: l => (1 - cs.getD m 0) * rp cs l
/-! ### one trial more behind -/
theorem inc_snoc {n : Nat} : ∀ {lot : List Nat} {k : Nat}, Inc (n + 1) k lot → Inc n k lot ∨ ∃ l, lot = l ++ [n] ∧ Inc n k l
  | [], _, _ => .inl trivial
  | m :: lot, k, h => by
    by_cases e : m = n
    · have z : lot = [] := by
        cases lot with
        | nil => rfl
        | cons x r =>
          have a := h.2.2.1
          have b := h.2.2.2.1
          omega
      exact .inr ⟨[], by rw [z, e]; rfl, trivial⟩
    · have lt : m < n := by have := h.2.1; omega
      rcases inc_snoc h.2.2 with i | ⟨l, rfl, i⟩
      · exact .inl ⟨h.1, lt, i⟩
      · exact .inr ⟨m :: l, rfl, h.1, lt, i⟩
theorem getD_l {cs : List Rat} {c : Rat} {m : Nat} (h : m < cs.length) : (cs ++ [c]).getD m 0 = cs.getD m 0 := by
  rw [List.getD_eq_getElem?_getD, List.getD_eq_getElem?_getD, List.getElem?_append_left h]
theorem getD_r {cs : List Rat} {c : Rat} : (cs ++ [c]).getD cs.length 0 = c := by
  rw [List.getD_eq_getElem?_getD, List.getElem?_append_right (Nat.le_refl _), Nat.sub_self]
  rfl
theorem rp_l {cs : List Rat} {c : Rat} : ∀ {lot : List Nat} {k : Nat}, Inc cs.length k lot → rp (cs ++ [c]) lot = rp cs lot
  | [], _, _ => rfl
  | m :: l, k, h => by
    show (1 - (cs ++ [c]).getD m 0) * rp (cs ++ [c]) l = (1 - cs.getD m 0) * rp cs l
    rw [getD_l h.2.1, rp_l h.2.2]
theorem rp_app (cs : List Rat) : ∀ (l m : List Nat), rp cs (l ++ m) = rp cs l * rp cs m
  | [], m => by show rp cs m = 1 * rp cs m; grind
  | x :: l, m => by
    show (1 - cs.getD x 0) * rp cs (l ++ m) = (1 - cs.getD x 0) * rp cs l * rp cs m
    rw [rp_app cs l m]
    grind
theorem nf_app (c : Rat) : ∀ cs : List Rat, nf (cs ++ [c]) = nf cs * (1 - c)
  | [] => by show (1 - c) * 1 = 1 * (1 - c); grind
  | a :: cs => by
    show (1 - a) * nf (cs ++ [c]) = (1 - a) * nf cs * (1 - c)
    rw [nf_app c cs]
    grind
theorem wn_l {cs : List Rat} {c : Rat} : ∀ {lot : List Nat} {k : Nat}, Inc cs.length k lot → wn (cs ++ [c]) lot = wn cs lot * (1 - c)
  | [], _, _ => by show (0 : Rat) = 0 * (1 - c); grind
  | m :: l, k, h => by
    show (cs ++ [c]).getD m 0 * nf ((cs ++ [c]).drop (m + 1)) + (1 - (cs ++ [c]).getD m 0) * wn (cs ++ [c]) l = (cs.getD m 0 * nf (cs.drop (m + 1)) + (1 - cs.getD m 0) * wn cs l) * (1 - c)
    rw [getD_l h.2.1, wn_l h.2.2, List.drop_append_of_le_length (by have := h.2.1; omega), nf_app]
    grind
theorem wn_r {cs : List Rat} {c : Rat} : ∀ {lot : List Nat} {k : Nat}, Inc cs.length k lot → wn (cs ++ [c]) (lot ++ [cs.length]) = wn cs lot * (1 - c) + rp cs lot * c
  | [], _, _ => by
    show (cs ++ [c]).getD cs.length 0 * nf ((cs ++ [c]).drop (cs.length + 1)) + (1 - (cs ++ [c]).getD cs.length 0) * 0 = 0 * (1 - c) + 1 * c
    rw [getD_r, List.drop_eq_nil_of_le (by simp)]
    show c * 1 + (1 - c) * 0 = _
    grind
  | m :: l, k, h => by
    show (cs ++ [c]).getD m 0 * nf ((cs ++ [c]).drop (m + 1)) + (1 - (cs ++ [c]).getD m 0) * wn (cs ++ [c]) (l ++ [cs.length]) = (cs.getD m 0 * nf (cs.drop (m + 1)) + (1 - cs.getD m 0) * wn cs l) * (1 - c) + (1 - cs.getD m 0) * rp cs l * c
    rw [getD_l h.2.1, wn_r h.2.2, List.drop_append_of_le_length (by have := h.2.1; omega), nf_app]
    grind
/-! ### who is met -/
section
variable {n : Nat} {S l : List Nat}
theorem met_old (hl : ∀ m ∈ l, m < n) : metL l (S ++ [n]) = metL l S := by
  unfold metL
  refine List.filter_congr fun m hm => ?_
  refine decide_eq_decide.mpr ?_
  rw [List.mem_append, List.mem_singleton]
  have := hl m hm
  constructor
  · rintro (y | y)
    · exact y
    · omega
  · exact .inl
theorem met_out (hS : ∀ m ∈ S, m < n) : metL (l ++ [n]) S = metL l S := by
  unfold metL
  have z : ¬ n ∈ S := fun q => Nat.lt_irrefl _ (hS n q)
  rw [List.filter_append]
  simp [z]
theorem met_in (hl : ∀ m ∈ l, m < n) : metL (l ++ [n]) (S ++ [n]) = metL l S ++ [n] := by
  have a := met_old (S := S) hl
  unfold metL at a ⊢
  rw [List.filter_append, a]
  simp
theorem met_lt (hl : ∀ m ∈ l, m < n) : ∀ m ∈ metL l S, m < n := fun m hm => hl m (List.mem_filter.mp hm).1
theorem ind_out (hS : ∀ m ∈ S, m < n) : ind (l ++ [n]) S = ind l S := by
  unfold ind
  rw [met_out hS]
theorem ind_old (hl : ∀ m ∈ l, m < n) : ind l (S ++ [n]) = false := by
  unfold ind
  rw [met_old hl]
  have k := met_lt (S := S) hl
  cases e : metL l S with
  | nil => rfl
  | cons m r =>
    have := k m (by rw [e]; exact List.mem_cons_self)
    show decide ((S ++ [n]).getLast? = some m) = false
    refine decide_eq_false ?_
    rw [List.getLast?_append]
    simp
    omega
theorem ind_in (hl : ∀ m ∈ l, m < n) : ind (l ++ [n]) (S ++ [n]) = decide (metL l S = []) := by
  unfold ind
  rw [met_in hl]
  have k := met_lt (S := S) hl
  cases e : metL l S with
  | nil =>
    show decide ((S ++ [n]).getLast? = some n) = decide ([] = [])
    rw [List.getLast?_append]
    simp
  | cons m r =>
    have := k m (by rw [e]; exact List.mem_cons_self)
    show decide ((S ++ [n]).getLast? = some m) = decide (m :: r = [])
    rw [List.getLast?_append]
    simp
    omega
end
theorem lots_lt {n : Nat} {S : List Nat} (h : S ∈ lots n) : ∀ m ∈ S, m < n := fun m hm => ((lots_inc h).all m hm).2
theorem inc_lt {n k : Nat} {l : List Nat} (h : Inc n k l) : ∀ m ∈ l, m < n := fun m hm => (h.all m hm).2
section
variable {cs : List Rat} {c : Rat}
theorem pway_no {S : List Nat} (h : S ∈ lots cs.length) : pway (cs ++ [c]) 0 S = pway cs 0 S * (1 - c) := by
  rw [pway_snoc, if_neg (by
    rw [Nat.zero_add]
    exact fun q => Nat.lt_irrefl _ (lots_lt h _ q))]
theorem pway_yes {S : List Nat} : pway (cs ++ [c]) 0 (S ++ [cs.length]) = pway cs 0 S * c := by
  rw [pway_snoc, if_pos (by
    rw [Nat.zero_add]
    simp), pway_more _ _ _ _ (by omega)]
theorem smL_lots (f : List Nat → Rat) (n : Nat) : smL f (lots (n + 1)) = smL f (lots n) + smL (fun S => f (S ++ [n])) (lots n) := by
  show smL f (lots n ++ (lots n).map (· ++ [n])) = _
  rw [smL_app, smL_map]
theorem len1 : (cs ++ [c]).length = cs.length + 1 := by simp
theorem smL_if (p : List Nat → Prop) [DecidablePred p] (f : List Nat → Rat) (c : Rat) (L : List (List Nat)) : smL (fun S => if p S then f S * c else 0) L = smL (fun S => if p S then f S else 0) L * c := by
  rw [← smL_mul]
  refine smL_congr fun S _ => ?_
  by_cases z : p S
  · rw [if_pos z, if_pos z]
  · rw [if_neg z, if_neg z]
    grind
theorem free_l {lot : List Nat} (h : Inc cs.length 0 lot) : free (cs ++ [c]) lot = free cs lot := by
  have hl := inc_lt h
  unfold free
  rw [len1, smL_lots, smL_congr (g := fun S => if metL lot S = [] then pway cs 0 S * (1 - c) else 0) fun S hS => by rw [pway_no hS], smL_congr (f := fun S => if metL lot (S ++ [cs.length]) = [] then pway (cs ++ [c]) 0 (S ++ [cs.length]) else 0) (g := fun S => if metL lot S = [] then pway cs 0 S * c else 0) fun S hS => by rw [pway_yes, met_old hl], smL_if, smL_if]
  grind
theorem free_r {lot : List Nat} (h : Inc cs.length 0 lot) : free (cs ++ [c]) (lot ++ [cs.length]) = free cs lot * (1 - c) := by
  have hl := inc_lt h
  unfold free
  rw [len1, smL_lots, smL_congr (g := fun S => if metL lot S = [] then pway cs 0 S * (1 - c) else 0) fun S hS => by rw [pway_no hS, met_out (lots_lt hS)], smL_congr (f := fun S => if metL (lot ++ [cs.length]) (S ++ [cs.length]) = [] then pway (cs ++ [c]) 0 (S ++ [cs.length]) else 0) (g := fun _ => 0) fun S hS => by
    rw [met_in hl, if_neg (by simp)], smL_zero, smL_if]
  grind
theorem ways_l {lot : List Nat} (h : Inc cs.length 0 lot) : ways (cs ++ [c]) lot = ways cs lot * (1 - c) := by
  have hl := inc_lt h
  unfold ways
  rw [len1, smL_lots, smL_congr (g := fun S => if ind lot S = true then pway cs 0 S * (1 - c) else 0) fun S hS => by rw [pway_no hS], smL_congr (f := fun S => if ind lot (S ++ [cs.length]) = true then pway (cs ++ [c]) 0 (S ++ [cs.length]) else 0) (g := fun _ => 0) fun S hS => by
    rw [ind_old hl, if_neg Bool.false_ne_true], smL_zero, smL_if]
  grind
theorem ways_r {lot : List Nat} (h : Inc cs.length 0 lot) : ways (cs ++ [c]) (lot ++ [cs.length]) = ways cs lot * (1 - c) + free cs lot * c := by
  have hl := inc_lt h
  unfold ways free
  rw [len1, smL_lots, smL_congr (g := fun S => if ind lot S = true then pway cs 0 S * (1 - c) else 0) fun S hS => by rw [pway_no hS, ind_out (lots_lt hS)], smL_congr (f := fun S => if ind (lot ++ [cs.length]) (S ++ [cs.length]) = true then pway (cs ++ [c]) 0 (S ++ [cs.length]) else 0) (g := fun S => if metL lot S = [] then pway cs 0 S * c else 0) fun S hS => by
    rw [pway_yes, ind_in hl]
    by_cases z : metL lot S = []
    · rw [if_pos z, if_pos (decide_eq_true z)]
    · rw [if_neg z, if_neg (by rw [decide_eq_false z]; exact Bool.false_ne_true)], smL_if, smL_if]
end
theorem both_rev : ∀ (rs : List Rat) (lot : List Nat), Inc rs.length 0 lot → free rs.reverse lot = rp rs.reverse lot ∧ ways rs.reverse lot = wn rs.reverse lot
  | [], lot, h => by
    cases lot with
    | nil => exact ⟨by decide +kernel, by decide +kernel⟩
    | cons m l => exact absurd h.2.1 (Nat.not_lt_zero _)
  | c :: rs, lot, h => by
    rw [List.reverse_cons]
    have lr : rs.reverse.length = rs.length := List.length_reverse
    rcases inc_snoc h with i | ⟨l, rfl, i⟩
    · obtain ⟨a, b⟩ := both_rev rs lot i
      rw [← lr] at i
      exact ⟨by rw [free_l i, rp_l i, a], by rw [ways_l i, wn_l i, b]⟩
    · obtain ⟨a, b⟩ := both_rev rs l i
      rw [← lr] at i ⊢
      refine ⟨?_, by rw [ways_r i, wn_r i, a, b]⟩
      rw [free_r i, rp_app, rp_l i, a]
      show _ = _ * ((1 - (rs.reverse ++ [c]).getD rs.reverse.length 0) * 1)
      rw [getD_r]
      grind
/-- all ways that the trials can go come to what the lot wins -/
theorem ways_wn {cs : List Rat} {lot : List Nat} (h : Inc cs.length 0 lot) : ways cs lot = wn cs lot := by
  have z := (both_rev cs.reverse lot (by rwa [List.length_reverse])).2
  rwa [List.reverse_reverse] at z
end Pl

set_option maxHeartbeats 1000000
/-! k01: what are no chances, no trials -/
namespace Pl
open Dl Sh
local instance : Dl.Tb := ⟨fun _ => []⟩

theorem p64_eq {g : Hs} : powD (.int 10) (.int 64) g = .ok (.int 10000000000000000000000000000000000000000000000000000000000000000) g := nr rfl
abbrev big64 : Int := 10000000000000000000000000000000000000000000000000000000000000000
theorem lin_ii {a lo hi : Int} {h : Hs} : m__law_is_in [.int a, .int lo, .int hi] h = .ok (.bl (decide (lo ≤ a ∧ a ≤ hi))) h := by
  refine mdef_ret (h' := h) ?_
  unfold c__law_is_in
  have i1 : isiD [] [.int a, .ty "int"] h = .ok (.bl true) h := rfl
  have i2 : isiD [] [.int a, .ty "bool"] h = .ok (.bl false) h := rfl
  by_cases z : lo ≤ a
  · by_cases y : a ≤ hi
    · simp only [eV0, eVs, bind_ok', then_ok, q_e2, q_e1, q_eC, q_aC, q_aN, q_sPar2, q_sPar3, q_sSet, q_sRet, q_eBf, q_nBf, q_eCall, q_tst, q_tru, q_ifV, q_sIf, q_eTup, q_sPass, q_sExp, q_eLm, q_nLst, q_frz, q_thaw, q_iSeq, q_iR2, q_iR3, q_iEnumD, q_iZip, q_andX, q_andT, q_orT, q_notT, q_eCh, q_sPat, q_eSl, q_nSl, q_pS, q_pN, q_sRetN, q_tYes, q_eDct0, okL0, okL1, okL2, okL3, okL4, okL5, okL6, ent, List.map_cons, List.map_nil, List.length_cons, List.length_nil, List.set_cons_zero, List.set_cons_succ, List.replicate, List.cons_append, List.nil_append, Nat.reduceAdd, Nat.reduceSub, Nat.sub_self, Nat.sub_zero, zero_add', ↓reduceIte, Bool.false_eq_true, item0, item1, addD_ii, subD_ii, negD_i, absD_i, ltD_ii, leD_ii, gtD_ii, geD_ii, truD_bl, decide_true, decide_false, i1, i2, notX, truD_bl, Bool.not_false, decide_eq_true z, decide_eq_true y, decide_eq_true (show lo ≤ a ∧ a ≤ hi from ⟨z, y⟩)]
    · simp only [eV0, eVs, bind_ok', then_ok, q_e2, q_e1, q_eC, q_aC, q_aN, q_sPar2, q_sPar3, q_sSet, q_sRet, q_eBf, q_nBf, q_eCall, q_tst, q_tru, q_ifV, q_sIf, q_eTup, q_sPass, q_sExp, q_eLm, q_nLst, q_frz, q_thaw, q_iSeq, q_iR2, q_iR3, q_iEnumD, q_iZip, q_andX, q_andT, q_orT, q_notT, q_eCh, q_sPat, q_eSl, q_nSl, q_pS, q_pN, q_sRetN, q_tYes, q_eDct0, okL0, okL1, okL2, okL3, okL4, okL5, okL6, ent, List.map_cons, List.map_nil, List.length_cons, List.length_nil, List.set_cons_zero, List.set_cons_succ, List.replicate, List.cons_append, List.nil_append, Nat.reduceAdd, Nat.reduceSub, Nat.sub_self, Nat.sub_zero, zero_add', ↓reduceIte, Bool.false_eq_true, item0, item1, addD_ii, subD_ii, negD_i, absD_i, ltD_ii, leD_ii, gtD_ii, geD_ii, truD_bl, decide_true, decide_false, i1, i2, notX, truD_bl, Bool.not_false, decide_eq_true z, decide_eq_false y, decide_eq_false (show ¬ (lo ≤ a ∧ a ≤ hi) from fun q => y q.2)]
  · simp only [eV0, eVs, bind_ok', then_ok, q_e2, q_e1, q_eC, q_aC, q_aN, q_sPar2, q_sPar3, q_sSet, q_sRet, q_eBf, q_nBf, q_eCall, q_tst, q_tru, q_ifV, q_sIf, q_eTup, q_sPass, q_sExp, q_eLm, q_nLst, q_frz, q_thaw, q_iSeq, q_iR2, q_iR3, q_iEnumD, q_iZip, q_andX, q_andT, q_orT, q_notT, q_eCh, q_sPat, q_eSl, q_nSl, q_pS, q_pN, q_sRetN, q_tYes, q_eDct0, okL0, okL1, okL2, okL3, okL4, okL5, okL6, ent, List.map_cons, List.map_nil, List.length_cons, List.length_nil, List.set_cons_zero, List.set_cons_succ, List.replicate, List.cons_append, List.nil_append, Nat.reduceAdd, Nat.reduceSub, Nat.sub_self, Nat.sub_zero, zero_add', ↓reduceIte, Bool.false_eq_true, item0, item1, addD_ii, subD_ii, negD_i, absD_i, ltD_ii, leD_ii, gtD_ii, geD_ii, truD_bl, decide_true, decide_false, i1, i2, notX, truD_bl, Bool.not_false, decide_eq_false z, decide_eq_false (show ¬ (lo ≤ a ∧ a ≤ hi) from fun q => z q.1)]
theorem law3_ii {a b : Int} (a1 : a ≤ big64) (b1 : b ≤ big64) {h : Hs} : m__law_is_share_v3 [.tup [.int a, .int b]] h = .ok (.bl (shC a b)) h := by
  have c := comp_eq (ci := iSeq (eV 0)) (p := .nm 1) (own := [1]) (ce := eCall 3 m__law_is_in (aC (eV 1) (aC (eC (.int 0)) (aC (e2 powD (eC (.int 10)) (eC (.int 64))) aN)))) (ρ := [some (.tup [.int a, .int b]), none]) (h := h) (xs := [.int a, .int b]) (f := fun x => match x with
    | .int i => .bl (decide (0 ≤ i ∧ i ≤ big64))
    | _ => .non)
    (seq_tup eV0) (by simp) fun x hx => ⟨[some (.tup [.int a, .int b]), some x], rfl, by
      obtain ⟨i, rfl⟩ : ∃ i, x = .int i := by
        rcases List.mem_cons.mp hx with e | hx
        · exact ⟨_, e⟩
        · exact ⟨_, List.mem_singleton.mp hx⟩
      simp only [eV0, eVs, bind_ok', then_ok, q_e2, q_e1, q_eC, q_aC, q_aN, q_sPar2, q_sPar3, q_sSet, q_sRet, q_eBf, q_nBf, q_eCall, q_tst, q_tru, q_ifV, q_sIf, q_eTup, q_sPass, q_sExp, q_eLm, q_nLst, q_frz, q_thaw, q_iSeq, q_iR2, q_iR3, q_iEnumD, q_iZip, q_andX, q_andT, q_orT, q_notT, q_eCh, q_sPat, q_eSl, q_nSl, q_pS, q_pN, q_sRetN, q_tYes, q_eDct0, okL0, okL1, okL2, okL3, okL4, okL5, okL6, ent, List.map_cons, List.map_nil, List.length_cons, List.length_nil, List.set_cons_zero, List.set_cons_succ, List.replicate, List.cons_append, List.nil_append, Nat.reduceAdd, Nat.reduceSub, Nat.sub_self, Nat.sub_zero, zero_add', ↓reduceIte, Bool.false_eq_true, item0, item1, addD_ii, subD_ii, negD_i, absD_i, ltD_ii, leD_ii, gtD_ii, geD_ii, truD_bl, decide_true, decide_false, p64_eq, lin_ii]⟩
  have al := allD_map (fun b : Bool => b) [decide (0 ≤ a ∧ a ≤ big64), decide (0 ≤ b ∧ b ≤ big64)] h
  simp only [List.map_cons, List.map_nil, List.all_cons, List.all_nil, Bool.and_true] at c al
  have ln : lenD [.tup [.int a, .int b]] h = .ok (.int 2) h := rfl
  have n2 : neD (.int 2) (.int 2) h = .ok (.bl false) h := rfl
  have bb : b.natAbs < 2 ^ 9000 ∨ b < 0 := by
    by_cases z : b < 0
    · exact .inr z
    · refine .inl (Nat.lt_of_lt_of_le (show b.natAbs < 2 ^ 213 from ?_) (Nat.pow_le_pow_right (by decide) (by decide)))
      have e : (2 : Nat) ^ 213 = 13164036458569648337239753460458804039861886925068638906788872192 := by decide
      have b1' : b ≤ 10000000000000000000000000000000000000000000000000000000000000000 := b1
      omega
  refine mdef_ret (h' := h) ?_
  unfold c__law_is_share_v3 shC
  by_cases a0 : 0 ≤ a
  · by_cases b0' : 0 ≤ b
    · rw [decide_eq_true (show 0 ≤ a ∧ a ≤ big64 from ⟨a0, a1⟩), decide_eq_true (show 0 ≤ b ∧ b ≤ big64 from ⟨b0', b1⟩)] at al
      rw [decide_eq_true (show 0 ≤ a ∧ a ≤ big64 from ⟨a0, a1⟩), decide_eq_true (show 0 ≤ b ∧ b ≤ big64 from ⟨b0', b1⟩)] at c
      have al' : allD [.lst [.bl true, .bl true]] h = .ok (.bl true) h := al
      by_cases g : a ≤ b
      · by_cases b0 : 0 < b
        · have b2 : b.natAbs < 2 ^ 9000 := by
            rcases bb with y | y
            · exact y
            · omega
          have lo := low_eq a b h b0 b2
          simp only [eV0, eVs, bind_ok', then_ok, q_e2, q_e1, q_eC, q_aC, q_aN, q_sPar2, q_sPar3, q_sSet, q_sRet, q_eBf, q_nBf, q_eCall, q_tst, q_tru, q_ifV, q_sIf, q_eTup, q_sPass, q_sExp, q_eLm, q_nLst, q_frz, q_thaw, q_iSeq, q_iR2, q_iR3, q_iEnumD, q_iZip, q_andX, q_andT, q_orT, q_notT, q_eCh, q_sPat, q_eSl, q_nSl, q_pS, q_pN, q_sRetN, q_tYes, q_eDct0, okL0, okL1, okL2, okL3, okL4, okL5, okL6, ent, List.map_cons, List.map_nil, List.length_cons, List.length_nil, List.set_cons_zero, List.set_cons_succ, List.replicate, List.cons_append, List.nil_append, Nat.reduceAdd, Nat.reduceSub, Nat.sub_self, Nat.sub_zero, zero_add', ↓reduceIte, Bool.false_eq_true, item0, item1, addD_ii, subD_ii, negD_i, absD_i, ltD_ii, leD_ii, gtD_ii, geD_ii, truD_bl, decide_true, decide_false, isi_tup, ln, n2, c, al', item2a, item2b, decide_eq_true a0, decide_eq_true g, decide_eq_true b0, Bool.not_true, sPass, lo, low_is (show 1 ≤ b by omega), Bool.and_true, Bool.true_and, sSeq]
        · simp only [eV0, eVs, bind_ok', then_ok, q_e2, q_e1, q_eC, q_aC, q_aN, q_sPar2, q_sPar3, q_sSet, q_sRet, q_eBf, q_nBf, q_eCall, q_tst, q_tru, q_ifV, q_sIf, q_eTup, q_sPass, q_sExp, q_eLm, q_nLst, q_frz, q_thaw, q_iSeq, q_iR2, q_iR3, q_iEnumD, q_iZip, q_andX, q_andT, q_orT, q_notT, q_eCh, q_sPat, q_eSl, q_nSl, q_pS, q_pN, q_sRetN, q_tYes, q_eDct0, okL0, okL1, okL2, okL3, okL4, okL5, okL6, ent, List.map_cons, List.map_nil, List.length_cons, List.length_nil, List.set_cons_zero, List.set_cons_succ, List.replicate, List.cons_append, List.nil_append, Nat.reduceAdd, Nat.reduceSub, Nat.sub_self, Nat.sub_zero, zero_add', ↓reduceIte, Bool.false_eq_true, item0, item1, addD_ii, subD_ii, negD_i, absD_i, ltD_ii, leD_ii, gtD_ii, geD_ii, truD_bl, decide_true, decide_false, isi_tup, ln, n2, c, al', item2a, item2b, decide_eq_true a0, decide_eq_true g, decide_eq_false b0, Bool.not_true, sPass, Bool.and_true, Bool.true_and, Bool.false_and, sSeq]
      · simp only [eV0, eVs, bind_ok', then_ok, q_e2, q_e1, q_eC, q_aC, q_aN, q_sPar2, q_sPar3, q_sSet, q_sRet, q_eBf, q_nBf, q_eCall, q_tst, q_tru, q_ifV, q_sIf, q_eTup, q_sPass, q_sExp, q_eLm, q_nLst, q_frz, q_thaw, q_iSeq, q_iR2, q_iR3, q_iEnumD, q_iZip, q_andX, q_andT, q_orT, q_notT, q_eCh, q_sPat, q_eSl, q_nSl, q_pS, q_pN, q_sRetN, q_tYes, q_eDct0, okL0, okL1, okL2, okL3, okL4, okL5, okL6, ent, List.map_cons, List.map_nil, List.length_cons, List.length_nil, List.set_cons_zero, List.set_cons_succ, List.replicate, List.cons_append, List.nil_append, Nat.reduceAdd, Nat.reduceSub, Nat.sub_self, Nat.sub_zero, zero_add', ↓reduceIte, Bool.false_eq_true, item0, item1, addD_ii, subD_ii, negD_i, absD_i, ltD_ii, leD_ii, gtD_ii, geD_ii, truD_bl, decide_true, decide_false, isi_tup, ln, n2, c, al', item2a, item2b, decide_eq_true a0, decide_eq_false g, Bool.not_true, sPass, Bool.and_true, Bool.true_and, Bool.false_and, sSeq]
    · rw [decide_eq_false (show ¬ (0 ≤ b ∧ b ≤ big64) from fun q => b0' q.1), Bool.and_false] at al
      rw [decide_eq_false (show ¬ (0 ≤ b ∧ b ≤ big64) from fun q => b0' q.1)] at c
      have al' : allD [.lst [.bl (decide (0 ≤ a ∧ a ≤ big64)), .bl false]] h = .ok (.bl false) h := al
      have z : (decide (0 ≤ a) && (decide (a ≤ b) && (decide (0 < b) && decide (Int.gcd a b = 1)))) = false := by
        rw [decide_eq_false (show ¬ 0 < b by omega), Bool.false_and, Bool.and_false, Bool.and_false]
      simp only [eV0, eVs, bind_ok', then_ok, q_e2, q_e1, q_eC, q_aC, q_aN, q_sPar2, q_sPar3, q_sSet, q_sRet, q_eBf, q_nBf, q_eCall, q_tst, q_tru, q_ifV, q_sIf, q_eTup, q_sPass, q_sExp, q_eLm, q_nLst, q_frz, q_thaw, q_iSeq, q_iR2, q_iR3, q_iEnumD, q_iZip, q_andX, q_andT, q_orT, q_notT, q_eCh, q_sPat, q_eSl, q_nSl, q_pS, q_pN, q_sRetN, q_tYes, q_eDct0, okL0, okL1, okL2, okL3, okL4, okL5, okL6, ent, List.map_cons, List.map_nil, List.length_cons, List.length_nil, List.set_cons_zero, List.set_cons_succ, List.replicate, List.cons_append, List.nil_append, Nat.reduceAdd, Nat.reduceSub, Nat.sub_self, Nat.sub_zero, zero_add', ↓reduceIte, Bool.false_eq_true, item0, item1, addD_ii, subD_ii, negD_i, absD_i, ltD_ii, leD_ii, gtD_ii, geD_ii, truD_bl, decide_true, decide_false, isi_tup, ln, n2, c, al', Bool.not_true, Bool.not_false, z, sSeq]
  · rw [decide_eq_false (show ¬ (0 ≤ a ∧ a ≤ big64) from fun q => a0 q.1), Bool.false_and] at al
    rw [decide_eq_false (show ¬ (0 ≤ a ∧ a ≤ big64) from fun q => a0 q.1)] at c
    have al' : allD [.lst [.bl false, .bl (decide (0 ≤ b ∧ b ≤ big64))]] h = .ok (.bl false) h := al
    have z : (decide (0 ≤ a) && (decide (a ≤ b) && (decide (0 < b) && decide (Int.gcd a b = 1)))) = false := by
      rw [decide_eq_false a0, Bool.false_and]
    simp only [eV0, eVs, bind_ok', then_ok, q_e2, q_e1, q_eC, q_aC, q_aN, q_sPar2, q_sPar3, q_sSet, q_sRet, q_eBf, q_nBf, q_eCall, q_tst, q_tru, q_ifV, q_sIf, q_eTup, q_sPass, q_sExp, q_eLm, q_nLst, q_frz, q_thaw, q_iSeq, q_iR2, q_iR3, q_iEnumD, q_iZip, q_andX, q_andT, q_orT, q_notT, q_eCh, q_sPat, q_eSl, q_nSl, q_pS, q_pN, q_sRetN, q_tYes, q_eDct0, okL0, okL1, okL2, okL3, okL4, okL5, okL6, ent, List.map_cons, List.map_nil, List.length_cons, List.length_nil, List.set_cons_zero, List.set_cons_succ, List.replicate, List.cons_append, List.nil_append, Nat.reduceAdd, Nat.reduceSub, Nat.sub_self, Nat.sub_zero, zero_add', ↓reduceIte, Bool.false_eq_true, item0, item1, addD_ii, subD_ii, negD_i, absD_i, ltD_ii, leD_ii, gtD_ii, geD_ii, truD_bl, decide_true, decide_false, isi_tup, ln, n2, c, al', Bool.not_true, Bool.not_false, z, sSeq]
/-- whether it is a share is told alike by both, later, too -/
def K3 (h : Hs) (x : D) : Prop := ∀ g, Gb 2 h g → m_is_share [x] g = .ok (.bl (shF x)) g ∧ m__law_is_share_v3 [x] g = .ok (.bl (shF x)) g
theorem K3.mono {h h' : Hs} {x : D} (k : K3 h x) (g : Gb 2 h h') : K3 h' x := fun f gf => k f (g.trans gf)
theorem k3_ii {h : Hs} {a b : Int} (a1 : a ≤ big64) (b1 : b ≤ big64) : K3 h (.tup [.int a, .int b]) := fun _ _ => ⟨is_share_ii, law3_ii a1 b1⟩
theorem k3_nt {h : Hs} {x : D} (e : ∀ g, Gb 2 h g → isiD [] [x, .ty "tuple"] g = .ok (.bl false) g) (z : shF x = false) : K3 h x := fun g gg => by
  have i := e g gg
  rw [z]
  refine ⟨no_frac (istup_no i), ?_⟩
  refine mdef_ret (h' := g) ?_
  unfold c__law_is_share_v3
  have en : ent 2 [x] = [some x, none] := rfl
  rw [en]
  simp only [eV0, eVs, bind_ok', then_ok, q_e2, q_e1, q_eC, q_aC, q_aN, q_sPar2, q_sPar3, q_sSet, q_sRet, q_eBf, q_nBf, q_eCall, q_tst, q_tru, q_ifV, q_sIf, q_eTup, q_sPass, q_sExp, q_eLm, q_nLst, q_frz, q_thaw, q_iSeq, q_iR2, q_iR3, q_iEnumD, q_iZip, q_andX, q_andT, q_orT, q_notT, q_eCh, q_sPat, q_eSl, q_nSl, q_pS, q_pN, q_sRetN, q_tYes, q_eDct0, okL0, okL1, okL2, okL3, okL4, okL5, okL6, ent, List.map_cons, List.map_nil, List.length_cons, List.length_nil, List.set_cons_zero, List.set_cons_succ, List.replicate, List.cons_append, List.nil_append, Nat.reduceAdd, Nat.reduceSub, Nat.sub_self, Nat.sub_zero, zero_add', ↓reduceIte, Bool.false_eq_true, item0, item1, addD_ii, subD_ii, negD_i, absD_i, ltD_ii, leD_ii, gtD_ii, geD_ii, truD_bl, decide_true, decide_false, i, Bool.not_false, sSeq]
theorem k3_lst {h : Hs} {xs : List D} : K3 h (.lst xs) := k3_nt (fun _ _ => rfl) rfl
theorem k3_non {h : Hs} : K3 h .non := k3_nt (fun _ _ => rfl) rfl
theorem k3_int {h : Hs} {i : Int} : K3 h (.int i) := k3_nt (fun _ _ => rfl) rfl
theorem k3_str {h : Hs} {s : PySem.Str} : K3 h (.str s) := k3_nt (fun _ _ => rfl) rfl
theorem k3_ob {h : Hs} {k : Nat} {kvs : List (L2.Key × D)} (k1 : 2 ≤ k) (e : h[k]? = some (.dI kvs)) : K3 h (.obj k) := k3_nt (fun _ gg => (isi_ob (gg.at k1 e)).1) rfl
theorem k3_len {h : Hs} {xs : List D} (l : xs.length ≠ 2) : K3 h (.tup xs) := fun g _ => by
  have z : shF (.tup xs) = false := by
    rcases xs with _ | ⟨a, _ | ⟨b, _ | ⟨c, r⟩⟩⟩
    · rfl
    · cases a <;> rfl
    · exact absurd rfl l
    · cases a <;> cases b <;> rfl
  rw [z]
  refine ⟨no_frac (istup_len (by omega)), ?_⟩
  have n : neD (.int (xs.length : Nat)) (.int 2) g = .ok (.bl true) g := by
    rw [neD_ii, decide_eq_false (by omega)]
    rfl
  refine mdef_ret (h' := g) ?_
  unfold c__law_is_share_v3
  have en : ent 2 [D.tup xs] = [some (.tup xs), none] := rfl
  rw [en]
  simp only [eV0, eVs, bind_ok', then_ok, q_e2, q_e1, q_eC, q_aC, q_aN, q_sPar2, q_sPar3, q_sSet, q_sRet, q_eBf, q_nBf, q_eCall, q_tst, q_tru, q_ifV, q_sIf, q_eTup, q_sPass, q_sExp, q_eLm, q_nLst, q_frz, q_thaw, q_iSeq, q_iR2, q_iR3, q_iEnumD, q_iZip, q_andX, q_andT, q_orT, q_notT, q_eCh, q_sPat, q_eSl, q_nSl, q_pS, q_pN, q_sRetN, q_tYes, q_eDct0, okL0, okL1, okL2, okL3, okL4, okL5, okL6, ent, List.map_cons, List.map_nil, List.length_cons, List.length_nil, List.set_cons_zero, List.set_cons_succ, List.replicate, List.cons_append, List.nil_append, Nat.reduceAdd, Nat.reduceSub, Nat.sub_self, Nat.sub_zero, zero_add', ↓reduceIte, Bool.false_eq_true, item0, item1, addD_ii, subD_ii, negD_i, absD_i, ltD_ii, leD_ii, gtD_ii, geD_ii, truD_bl, decide_true, decide_false, isi_tup, lenD_tup, n, Bool.not_true, sSeq]
theorem k3_bi {h : Hs} : K3 h (.tup [.bl true, .int 1]) := fun g _ => ⟨rfl, by kernel_rfl⟩
theorem k3_ib {h : Hs} : K3 h (.tup [.int 1, .bl true]) := fun g _ => ⟨rfl, by kernel_rfl⟩
/-! ### no tuples, instances of Trials among them -/
abbrev insX : List (Tg × Tg × Bool) := [(.o "Trials", .b "tuple", false)]
def N3 (h : Hs) (x : D) : Prop := ∀ g, Gb 2 h g → isiD insX [x, .ty "tuple"] g = .ok (.bl false) g
theorem isX_tup {xs : List D} {h : Hs} : isiD insX [.tup xs, .ty "tuple"] h = .ok (.bl true) h := nr rfl
theorem n3_lst {h : Hs} {xs : List D} : N3 h (.lst xs) := fun _ _ => rfl
theorem n3_non {h : Hs} : N3 h .non := fun _ _ => rfl
theorem n3_int {h : Hs} {i : Int} : N3 h (.int i) := fun _ _ => rfl
theorem n3_ob {h : Hs} {k : Nat} {kvs : List (L2.Key × D)} (k1 : 2 ≤ k) (e : h[k]? = some (.dI kvs)) : N3 h (.obj k) := fun g gg => by
  have t : tagOf g (.obj k) = some (.b "dict") := by
    unfold tagOf
    dsimp only
    rw [gg.at k1 e]
  unfold isiD
  dsimp only
  rw [t]
  rfl
theorem n3_tr {h : Hs} {k : Nat} {fs : List (PySem.Str × D)} (k1 : 2 ≤ k) (e : h[k]? = some (.ins "Trials" fs)) : N3 h (.obj k) := fun g gg => by
  have t : tagOf g (.obj k) = some (.o "Trials") := by
    unfold tagOf
    dsimp only
    rw [gg.at k1 e]
  unfold isiD
  dsimp only
  rw [t]
  rfl
theorem itX_no {x : D} {lo hi : Int} {h : Hs} (e : isiD insX [x, .ty "tuple"] h = .ok (.bl false) h) : m_is_tuple_ins [x, .int lo, .int hi] h = .ok (.bl false) h := by
  refine mdef_ret (h' := h) ?_
  unfold c_is_tuple_ins
  have en : ent 3 [x, .int lo, .int hi] = [some x, some (.int lo), some (.int hi)] := rfl
  rw [en]
  simp only [eV0, eVs, bind_ok', then_ok, q_e2, q_e1, q_eC, q_aC, q_aN, q_sPar2, q_sPar3, q_sSet, q_sRet, q_eBf, q_nBf, q_eCall, q_tst, q_tru, q_ifV, q_sIf, q_eTup, q_sPass, q_sExp, q_eLm, q_nLst, q_frz, q_thaw, q_iSeq, q_iR2, q_iR3, q_iEnumD, q_iZip, q_andX, q_andT, q_orT, q_notT, q_eCh, q_sPat, q_eSl, q_nSl, q_pS, q_pN, q_sRetN, q_tYes, q_eDct0, okL0, okL1, okL2, okL3, okL4, okL5, okL6, ent, List.map_cons, List.map_nil, List.length_cons, List.length_nil, List.set_cons_zero, List.set_cons_succ, List.replicate, List.cons_append, List.nil_append, Nat.reduceAdd, Nat.reduceSub, Nat.sub_self, Nat.sub_zero, zero_add', ↓reduceIte, Bool.false_eq_true, item0, item1, addD_ii, subD_ii, negD_i, absD_i, ltD_ii, leD_ii, gtD_ii, geD_ii, truD_bl, decide_true, decide_false, e]
theorem itX_tup {xs : List D} {lo hi : Int} {h : Hs} : m_is_tuple_ins [.tup xs, .int lo, .int hi] h = m_is_tuple [.tup xs, .int lo, .int hi] h := by
  unfold m_is_tuple_ins m_is_tuple mDef
  have e : c_is_tuple_ins (ent 3 [D.tup xs, .int lo, .int hi]) h = c_is_tuple (ent 3 [D.tup xs, .int lo, .int hi]) h := by
    unfold c_is_tuple_ins c_is_tuple
    have en : ent 3 [D.tup xs, .int lo, .int hi] = [some (.tup xs), some (.int lo), some (.int hi)] := rfl
    have a : isiD insX [.tup xs, .ty "tuple"] h = .ok (.bl true) h := isX_tup
    rw [en]
    simp only [eV0, eVs, bind_ok', then_ok, q_e2, q_e1, q_eC, q_aC, q_aN, q_sPar2, q_sPar3, q_sSet, q_sRet, q_eBf, q_nBf, q_eCall, q_tst, q_tru, q_ifV, q_sIf, q_eTup, q_sPass, q_sExp, q_eLm, q_nLst, q_frz, q_thaw, q_iSeq, q_iR2, q_iR3, q_iEnumD, q_iZip, q_andX, q_andT, q_orT, q_notT, q_eCh, q_sPat, q_eSl, q_nSl, q_pS, q_pN, q_sRetN, q_tYes, q_eDct0, okL0, okL1, okL2, okL3, okL4, okL5, okL6, ent, List.map_cons, List.map_nil, List.length_cons, List.length_nil, List.set_cons_zero, List.set_cons_succ, List.replicate, List.cons_append, List.nil_append, Nat.reduceAdd, Nat.reduceSub, Nat.sub_self, Nat.sub_zero, zero_add', ↓reduceIte, Bool.false_eq_true, item0, item1, addD_ii, subD_ii, negD_i, absD_i, ltD_ii, leD_ii, gtD_ii, geD_ii, truD_bl, decide_true, decide_false, isi_tup, a]
  rw [e]
/-! ### chances -/
section
variable {h : Hs} {xs : List D}
theorem are3_tup (k : ∀ x ∈ xs, K3 h x) (l : xs.length ≤ 1000) {g : Hs} (gg : Gb 2 h g) : m__law_are_chances_v2 [.tup xs] g = .ok (.bl (chB xs)) g := by
  have c := comp_eq (ci := iSeq (eV 0)) (p := .nm 1) (own := [1]) (ce := eCall 1 m__law_is_share_v3 (aC (eV 1) aN)) (ρ := [some (.tup xs), none]) (h := g) (xs := xs) (f := fun x => .bl (shF x))
    (seq_tup eV0) (by omega) fun x hx => ⟨_, rfl, by simp only [wipeD, eV0, eVs, bind_ok', then_ok, q_e2, q_e1, q_eC, q_aC, q_aN, q_sPar2, q_sPar3, q_sSet, q_sRet, q_eBf, q_nBf, q_eCall, q_tst, q_tru, q_ifV, q_sIf, q_eTup, q_sPass, q_sExp, q_eLm, q_nLst, q_frz, q_thaw, q_iSeq, q_iR2, q_iR3, q_iEnumD, q_iZip, q_andX, q_andT, q_orT, q_notT, q_eCh, q_sPat, q_eSl, q_nSl, q_pS, q_pN, q_sRetN, q_tYes, q_eDct0, okL0, okL1, okL2, okL3, okL4, okL5, okL6, ent, List.map_cons, List.map_nil, List.length_cons, List.length_nil, List.set_cons_zero, List.set_cons_succ, List.replicate, List.cons_append, List.nil_append, Nat.reduceAdd, Nat.reduceSub, Nat.sub_self, Nat.sub_zero, zero_add', ↓reduceIte, Bool.false_eq_true, item0, item1, addD_ii, subD_ii, negD_i, absD_i, ltD_ii, leD_ii, gtD_ii, geD_ii, truD_bl, decide_true, decide_false, (k x hx g gg).2]⟩
  have a := allD_map shF xs g
  have it : isiD insX [.tup xs, .ty "tuple"] g = .ok (.bl true) g := isX_tup
  refine mdef_ret (h' := g) ?_
  unfold c__law_are_chances_v2 chB
  have en : ent 2 [D.tup xs] = [some (.tup xs), none] := rfl
  rw [en]
  by_cases l1 : 1 ≤ xs.length
  · by_cases l12 : xs.length ≤ 12
    · simp only [eV0, eVs, bind_ok', then_ok, q_e2, q_e1, q_eC, q_aC, q_aN, q_sPar2, q_sPar3, q_sSet, q_sRet, q_eBf, q_nBf, q_eCall, q_tst, q_tru, q_ifV, q_sIf, q_eTup, q_sPass, q_sExp, q_eLm, q_nLst, q_frz, q_thaw, q_iSeq, q_iR2, q_iR3, q_iEnumD, q_iZip, q_andX, q_andT, q_orT, q_notT, q_eCh, q_sPat, q_eSl, q_nSl, q_pS, q_pN, q_sRetN, q_tYes, q_eDct0, okL0, okL1, okL2, okL3, okL4, okL5, okL6, ent, List.map_cons, List.map_nil, List.length_cons, List.length_nil, List.set_cons_zero, List.set_cons_succ, List.replicate, List.cons_append, List.nil_append, Nat.reduceAdd, Nat.reduceSub, Nat.sub_self, Nat.sub_zero, zero_add', ↓reduceIte, Bool.false_eq_true, item0, item1, addD_ii, subD_ii, negD_i, absD_i, ltD_ii, leD_ii, gtD_ii, geD_ii, truD_bl, decide_true, decide_false, it, lenD_tup, decide_eq_true (show (1 : Int) ≤ (xs.length : Nat) by omega), decide_eq_true (show ((xs.length : Nat) : Int) ≤ 12 by omega), decide_eq_true l1, decide_eq_true l12, c, a, Bool.not_true, Bool.true_and, sPass, sSeq]
    · simp only [eV0, eVs, bind_ok', then_ok, q_e2, q_e1, q_eC, q_aC, q_aN, q_sPar2, q_sPar3, q_sSet, q_sRet, q_eBf, q_nBf, q_eCall, q_tst, q_tru, q_ifV, q_sIf, q_eTup, q_sPass, q_sExp, q_eLm, q_nLst, q_frz, q_thaw, q_iSeq, q_iR2, q_iR3, q_iEnumD, q_iZip, q_andX, q_andT, q_orT, q_notT, q_eCh, q_sPat, q_eSl, q_nSl, q_pS, q_pN, q_sRetN, q_tYes, q_eDct0, okL0, okL1, okL2, okL3, okL4, okL5, okL6, ent, List.map_cons, List.map_nil, List.length_cons, List.length_nil, List.set_cons_zero, List.set_cons_succ, List.replicate, List.cons_append, List.nil_append, Nat.reduceAdd, Nat.reduceSub, Nat.sub_self, Nat.sub_zero, zero_add', ↓reduceIte, Bool.false_eq_true, item0, item1, addD_ii, subD_ii, negD_i, absD_i, ltD_ii, leD_ii, gtD_ii, geD_ii, truD_bl, decide_true, decide_false, it, lenD_tup, decide_eq_true (show (1 : Int) ≤ (xs.length : Nat) by omega), decide_eq_false (show ¬ ((xs.length : Nat) : Int) ≤ 12 by omega), decide_eq_true l1, decide_eq_false l12, Bool.not_true, Bool.not_false, Bool.true_and, Bool.false_and, sPass, sSeq]
  · simp only [eV0, eVs, bind_ok', then_ok, q_e2, q_e1, q_eC, q_aC, q_aN, q_sPar2, q_sPar3, q_sSet, q_sRet, q_eBf, q_nBf, q_eCall, q_tst, q_tru, q_ifV, q_sIf, q_eTup, q_sPass, q_sExp, q_eLm, q_nLst, q_frz, q_thaw, q_iSeq, q_iR2, q_iR3, q_iEnumD, q_iZip, q_andX, q_andT, q_orT, q_notT, q_eCh, q_sPat, q_eSl, q_nSl, q_pS, q_pN, q_sRetN, q_tYes, q_eDct0, okL0, okL1, okL2, okL3, okL4, okL5, okL6, ent, List.map_cons, List.map_nil, List.length_cons, List.length_nil, List.set_cons_zero, List.set_cons_succ, List.replicate, List.cons_append, List.nil_append, Nat.reduceAdd, Nat.reduceSub, Nat.sub_self, Nat.sub_zero, zero_add', ↓reduceIte, Bool.false_eq_true, item0, item1, addD_ii, subD_ii, negD_i, absD_i, ltD_ii, leD_ii, gtD_ii, geD_ii, truD_bl, decide_true, decide_false, it, lenD_tup, decide_eq_false (show ¬ (1 : Int) ≤ (xs.length : Nat) by omega), decide_eq_false l1, Bool.not_true, Bool.not_false, Bool.false_and, sPass, sSeq]
theorem are3_no {x : D} {g : Hs} (i : isiD insX [x, .ty "tuple"] g = .ok (.bl false) g) : m__law_are_chances_v2 [x] g = .ok (.bl false) g := by
  refine mdef_ret (h' := g) ?_
  unfold c__law_are_chances_v2
  have en : ent 2 [x] = [some x, none] := rfl
  rw [en]
  simp only [eV0, eVs, bind_ok', then_ok, q_e2, q_e1, q_eC, q_aC, q_aN, q_sPar2, q_sPar3, q_sSet, q_sRet, q_eBf, q_nBf, q_eCall, q_tst, q_tru, q_ifV, q_sIf, q_eTup, q_sPass, q_sExp, q_eLm, q_nLst, q_frz, q_thaw, q_iSeq, q_iR2, q_iR3, q_iEnumD, q_iZip, q_andX, q_andT, q_orT, q_notT, q_eCh, q_sPat, q_eSl, q_nSl, q_pS, q_pN, q_sRetN, q_tYes, q_eDct0, okL0, okL1, okL2, okL3, okL4, okL5, okL6, ent, List.map_cons, List.map_nil, List.length_cons, List.length_nil, List.set_cons_zero, List.set_cons_succ, List.replicate, List.cons_append, List.nil_append, Nat.reduceAdd, Nat.reduceSub, Nat.sub_self, Nat.sub_zero, zero_add', ↓reduceIte, Bool.false_eq_true, item0, item1, addD_ii, subD_ii, negD_i, absD_i, ltD_ii, leD_ii, gtD_ii, geD_ii, truD_bl, decide_true, decide_false, i, Bool.not_false, sSeq]
theorem init3_of {x : D} {n : Nat} {g : Hs} (e : sIf (orT (notT (tru (eCall 3 m_is_tuple_ins (aC (eV 1) (aC (eC (.int 1)) (aC (eC (.int 12)) aN)))))) (notT (tru (eBf allD (aC (frz (nLc (iSeq (eV 1)) (.nm 2) [2] (tYes') (eCall 1 m_is_share (aC (eV 2) aN)))) aN))))) (sRaise "BadTrials") (sPass) [some (.obj n), some x, none] g = .exc [some (.obj n), some x, none] "BadTrials" [] g) : m_Trials___init___v3 [.obj n, x] g = .exc "BadTrials" [] g := by
  have e1 : ent 3 [D.obj n, x] = [some (.obj n), some x, none] := rfl
  unfold m_Trials___init___v3 mDef
  rw [e1]
  unfold c_Trials___init___v3 sSeq
  rw [e]
  rfl
theorem init3_no {x : D} {n : Nat} {g : Hs} (i : isiD insX [x, .ty "tuple"] g = .ok (.bl false) g) : m_Trials___init___v3 [.obj n, x] g = .exc "BadTrials" [] g := init3_of (by
  have t := itX_no (lo := 1) (hi := 12) i
  simp only [eV0, eVs, bind_ok', then_ok, q_e2, q_e1, q_eC, q_aC, q_aN, q_sPar2, q_sPar3, q_sSet, q_sRet, q_eBf, q_nBf, q_eCall, q_tst, q_tru, q_ifV, q_sIf, q_eTup, q_sPass, q_sExp, q_eLm, q_nLst, q_frz, q_thaw, q_iSeq, q_iR2, q_iR3, q_iEnumD, q_iZip, q_andX, q_andT, q_orT, q_notT, q_eCh, q_sPat, q_eSl, q_nSl, q_pS, q_pN, q_sRetN, q_tYes, q_eDct0, okL0, okL1, okL2, okL3, okL4, okL5, okL6, ent, List.map_cons, List.map_nil, List.length_cons, List.length_nil, List.set_cons_zero, List.set_cons_succ, List.replicate, List.cons_append, List.nil_append, Nat.reduceAdd, Nat.reduceSub, Nat.sub_self, Nat.sub_zero, zero_add', ↓reduceIte, Bool.false_eq_true, item0, item1, addD_ii, subD_ii, negD_i, absD_i, ltD_ii, leD_ii, gtD_ii, geD_ii, truD_bl, decide_true, decide_false, t, Bool.not_false]
  rfl)
theorem init3_exc (k : ∀ x ∈ xs, K3 h x) (l : xs.length ≤ 1000) (no : chB xs = false) {n : Nat} {g : Hs} (gg : Gb 2 h g) : m_Trials___init___v3 [.obj n, .tup xs] g = .exc "BadTrials" [] g := init3_of (by
  by_cases w : 1 ≤ xs.length ∧ xs.length ≤ 12
  · have ti := (itX_tup (lo := 1) (hi := 12)).trans (istup_eq (xs := xs) (lo := 1) (hi := 12) (h := g) (by omega) (by omega))
    have c := comp_eq (ci := iSeq (eV 1)) (p := .nm 2) (own := [2]) (ce := eCall 1 m_is_share (aC (eV 2) aN)) (ρ := [some (.obj n), some (.tup xs), none]) (h := g) (xs := xs) (f := fun x => .bl (shF x)) (seq_tup rfl) (by omega) fun x hx => ⟨_, rfl, by simp only [wipeD, eV0, eVs, bind_ok', then_ok, q_e2, q_e1, q_eC, q_aC, q_aN, q_sPar2, q_sPar3, q_sSet, q_sRet, q_eBf, q_nBf, q_eCall, q_tst, q_tru, q_ifV, q_sIf, q_eTup, q_sPass, q_sExp, q_eLm, q_nLst, q_frz, q_thaw, q_iSeq, q_iR2, q_iR3, q_iEnumD, q_iZip, q_andX, q_andT, q_orT, q_notT, q_eCh, q_sPat, q_eSl, q_nSl, q_pS, q_pN, q_sRetN, q_tYes, q_eDct0, okL0, okL1, okL2, okL3, okL4, okL5, okL6, ent, List.map_cons, List.map_nil, List.length_cons, List.length_nil, List.set_cons_zero, List.set_cons_succ, List.replicate, List.cons_append, List.nil_append, Nat.reduceAdd, Nat.reduceSub, Nat.sub_self, Nat.sub_zero, zero_add', ↓reduceIte, Bool.false_eq_true, item0, item1, addD_ii, subD_ii, negD_i, absD_i, ltD_ii, leD_ii, gtD_ii, geD_ii, truD_bl, decide_true, decide_false, (k x hx g gg).1]⟩
    have a := allD_map shF xs g
    have no' : xs.all shF = false := by
      unfold chB at no
      rw [decide_eq_true w.1, decide_eq_true w.2] at no
      exact no
    rw [no'] at a
    simp only [eV0, eVs, bind_ok', then_ok, q_e2, q_e1, q_eC, q_aC, q_aN, q_sPar2, q_sPar3, q_sSet, q_sRet, q_eBf, q_nBf, q_eCall, q_tst, q_tru, q_ifV, q_sIf, q_eTup, q_sPass, q_sExp, q_eLm, q_nLst, q_frz, q_thaw, q_iSeq, q_iR2, q_iR3, q_iEnumD, q_iZip, q_andX, q_andT, q_orT, q_notT, q_eCh, q_sPat, q_eSl, q_nSl, q_pS, q_pN, q_sRetN, q_tYes, q_eDct0, okL0, okL1, okL2, okL3, okL4, okL5, okL6, ent, List.map_cons, List.map_nil, List.length_cons, List.length_nil, List.set_cons_zero, List.set_cons_succ, List.replicate, List.cons_append, List.nil_append, Nat.reduceAdd, Nat.reduceSub, Nat.sub_self, Nat.sub_zero, zero_add', ↓reduceIte, Bool.false_eq_true, item0, item1, addD_ii, subD_ii, negD_i, absD_i, ltD_ii, leD_ii, gtD_ii, geD_ii, truD_bl, decide_true, decide_false, ti, c, a, Bool.not_true, Bool.not_false]
    rfl
  · have ti := (itX_tup (lo := 1) (hi := 12)).trans (istup_len (xs := xs) (lo := 1) (hi := 12) (h := g) (by omega))
    simp only [eV0, eVs, bind_ok', then_ok, q_e2, q_e1, q_eC, q_aC, q_aN, q_sPar2, q_sPar3, q_sSet, q_sRet, q_eBf, q_nBf, q_eCall, q_tst, q_tru, q_ifV, q_sIf, q_eTup, q_sPass, q_sExp, q_eLm, q_nLst, q_frz, q_thaw, q_iSeq, q_iR2, q_iR3, q_iEnumD, q_iZip, q_andX, q_andT, q_orT, q_notT, q_eCh, q_sPat, q_eSl, q_nSl, q_pS, q_pN, q_sRetN, q_tYes, q_eDct0, okL0, okL1, okL2, okL3, okL4, okL5, okL6, ent, List.map_cons, List.map_nil, List.length_cons, List.length_nil, List.set_cons_zero, List.set_cons_succ, List.replicate, List.cons_append, List.nil_append, Nat.reduceAdd, Nat.reduceSub, Nat.sub_self, Nat.sub_zero, zero_add', ↓reduceIte, Bool.false_eq_true, item0, item1, addD_ii, subD_ii, negD_i, absD_i, ltD_ii, leD_ii, gtD_ii, geD_ii, truD_bl, decide_true, decide_false, ti, Bool.not_false]
    rfl)
theorem init3_ok (k : ∀ x ∈ xs, K3 h x) (yes : chB xs = true) {g0 : Hs} (gg : Gb 2 h g0) : m_Trials___init___v3 [.obj g0.length, .tup xs] (g0 ++ [.ins "Trials" []]) = .ok .non (newX g0 (.tup xs)) := by
  unfold chB at yes
  rw [Bool.and_eq_true, Bool.and_eq_true, decide_eq_true_iff, decide_eq_true_iff] at yes
  obtain ⟨l1, l12, al⟩ := yes
  generalize hg : (g0 ++ [DO.ins "Trials" []]) = g
  have gg' : Gb 2 h g := by rw [← hg]; exact gg.trans .app
  have c := comp_eq (ci := iSeq (eV 1)) (p := .nm 2) (own := [2]) (ce := eCall 1 m_is_share (aC (eV 2) aN)) (ρ := [some (.obj g0.length), some (.tup xs), none]) (h := g) (xs := xs) (f := fun x => .bl (shF x)) (seq_tup rfl) (by omega) fun x hx => ⟨_, rfl, by simp only [wipeD, eV0, eVs, bind_ok', then_ok, q_e2, q_e1, q_eC, q_aC, q_aN, q_sPar2, q_sPar3, q_sSet, q_sRet, q_eBf, q_nBf, q_eCall, q_tst, q_tru, q_ifV, q_sIf, q_eTup, q_sPass, q_sExp, q_eLm, q_nLst, q_frz, q_thaw, q_iSeq, q_iR2, q_iR3, q_iEnumD, q_iZip, q_andX, q_andT, q_orT, q_notT, q_eCh, q_sPat, q_eSl, q_nSl, q_pS, q_pN, q_sRetN, q_tYes, q_eDct0, okL0, okL1, okL2, okL3, okL4, okL5, okL6, ent, List.map_cons, List.map_nil, List.length_cons, List.length_nil, List.set_cons_zero, List.set_cons_succ, List.replicate, List.cons_append, List.nil_append, Nat.reduceAdd, Nat.reduceSub, Nat.sub_self, Nat.sub_zero, zero_add', ↓reduceIte, Bool.false_eq_true, item0, item1, addD_ii, subD_ii, negD_i, absD_i, ltD_ii, leD_ii, gtD_ii, geD_ii, truD_bl, decide_true, decide_false, (k x hx g gg').1]⟩
  have a := allD_map shF xs g
  rw [al] at a
  have t := (itX_tup (lo := 1) (hi := 12)).trans (istup_eq (xs := xs) (lo := 1) (hi := 12) (h := g) (by omega) (by omega))
  refine eq_of_wp ?_
  unfold m_Trials___init___v3 c_Trials___init___v3
  have e1 : ent 3 [D.obj g0.length, .tup xs] = [some (.obj g0.length), some (.tup xs), none] := rfl
  rw [wp_def, e1]
  simp only [eV0, eVs, bind_ok', then_ok, q_e2, q_e1, q_eC, q_aC, q_aN, q_sPar2, q_sPar3, q_sSet, q_sRet, q_eBf, q_nBf, q_eCall, q_tst, q_tru, q_ifV, q_sIf, q_eTup, q_sPass, q_sExp, q_eLm, q_nLst, q_frz, q_thaw, q_iSeq, q_iR2, q_iR3, q_iEnumD, q_iZip, q_andX, q_andT, q_orT, q_notT, q_eCh, q_sPat, q_eSl, q_nSl, q_pS, q_pN, q_sRetN, q_tYes, q_eDct0, okL0, okL1, okL2, okL3, okL4, okL5, okL6, ent, List.map_cons, List.map_nil, List.length_cons, List.length_nil, List.set_cons_zero, List.set_cons_succ, List.replicate, List.cons_append, List.nil_append, Nat.reduceAdd, Nat.reduceSub, Nat.sub_self, Nat.sub_zero, zero_add', ↓reduceIte, Bool.false_eq_true, item0, item1, addD_ii, subD_ii, negD_i, absD_i, ltD_ii, leD_ii, gtD_ii, geD_ii, truD_bl, decide_true, decide_false, wp_ok, wp_bad, wp_bind, wp_nox, wp_def, wps_then, wps_seq, wps_nx, wps_ret, wp_ite, wps_ite, t, c, a, Bool.not_true, sPass]
  refine wps_fld (v := .tup xs) (n := g0.length) (fs := []) (h1 := g) (by simp only [eV0, eVs, bind_ok', then_ok, q_e2, q_e1, q_eC, q_aC, q_aN, q_sPar2, q_sPar3, q_sSet, q_sRet, q_eBf, q_nBf, q_eCall, q_tst, q_tru, q_ifV, q_sIf, q_eTup, q_sPass, q_sExp, q_eLm, q_nLst, q_frz, q_thaw, q_iSeq, q_iR2, q_iR3, q_iEnumD, q_iZip, q_andX, q_andT, q_orT, q_notT, q_eCh, q_sPat, q_eSl, q_nSl, q_pS, q_pN, q_sRetN, q_tYes, q_eDct0, okL0, okL1, okL2, okL3, okL4, okL5, okL6, ent, List.map_cons, List.map_nil, List.length_cons, List.length_nil, List.set_cons_zero, List.set_cons_succ, List.replicate, List.cons_append, List.nil_append, Nat.reduceAdd, Nat.reduceSub, Nat.sub_self, Nat.sub_zero, zero_add', ↓reduceIte, Bool.false_eq_true, item0, item1, addD_ii, subD_ii, negD_i, absD_i, ltD_ii, leD_ii, gtD_ii, geD_ii, truD_bl, decide_true, decide_false]) (by simp only [eV0, eVs, bind_ok', then_ok, q_e2, q_e1, q_eC, q_aC, q_aN, q_sPar2, q_sPar3, q_sSet, q_sRet, q_eBf, q_nBf, q_eCall, q_tst, q_tru, q_ifV, q_sIf, q_eTup, q_sPass, q_sExp, q_eLm, q_nLst, q_frz, q_thaw, q_iSeq, q_iR2, q_iR3, q_iEnumD, q_iZip, q_andX, q_andT, q_orT, q_notT, q_eCh, q_sPat, q_eSl, q_nSl, q_pS, q_pN, q_sRetN, q_tYes, q_eDct0, okL0, okL1, okL2, okL3, okL4, okL5, okL6, ent, List.map_cons, List.map_nil, List.length_cons, List.length_nil, List.set_cons_zero, List.set_cons_succ, List.replicate, List.cons_append, List.nil_append, Nat.reduceAdd, Nat.reduceSub, Nat.sub_self, Nat.sub_zero, zero_add', ↓reduceIte, Bool.false_eq_true, item0, item1, addD_ii, subD_ii, negD_i, absD_i, ltD_ii, leD_ii, gtD_ii, geD_ii, truD_bl, decide_true, decide_false]) (by rw [← hg]; exact get_last) (by decide) ?_
  rw [← hg, set_last]
  refine wps_fld (v := .obj (g0.length + 1)) (n := g0.length) (fs := [("chances", .tup xs)]) (h1 := (g0 ++ [.ins "Trials" (putFD "chances" (.tup xs) [])]) ++ [.dI []]) (by simp only [eV0, eVs, bind_ok', then_ok, q_e2, q_e1, q_eC, q_aC, q_aN, q_sPar2, q_sPar3, q_sSet, q_sRet, q_eBf, q_nBf, q_eCall, q_tst, q_tru, q_ifV, q_sIf, q_eTup, q_sPass, q_sExp, q_eLm, q_nLst, q_frz, q_thaw, q_iSeq, q_iR2, q_iR3, q_iEnumD, q_iZip, q_andX, q_andT, q_orT, q_notT, q_eCh, q_sPat, q_eSl, q_nSl, q_pS, q_pN, q_sRetN, q_tYes, q_eDct0, okL0, okL1, okL2, okL3, okL4, okL5, okL6, ent, List.map_cons, List.map_nil, List.length_cons, List.length_nil, List.set_cons_zero, List.set_cons_succ, List.replicate, List.cons_append, List.nil_append, Nat.reduceAdd, Nat.reduceSub, Nat.sub_self, Nat.sub_zero, zero_add', ↓reduceIte, Bool.false_eq_true, item0, item1, addD_ii, subD_ii, negD_i, absD_i, ltD_ii, leD_ii, gtD_ii, geD_ii, truD_bl, decide_true, decide_false, List.length_append]) (by simp only [eV0, eVs, bind_ok', then_ok, q_e2, q_e1, q_eC, q_aC, q_aN, q_sPar2, q_sPar3, q_sSet, q_sRet, q_eBf, q_nBf, q_eCall, q_tst, q_tru, q_ifV, q_sIf, q_eTup, q_sPass, q_sExp, q_eLm, q_nLst, q_frz, q_thaw, q_iSeq, q_iR2, q_iR3, q_iEnumD, q_iZip, q_andX, q_andT, q_orT, q_notT, q_eCh, q_sPat, q_eSl, q_nSl, q_pS, q_pN, q_sRetN, q_tYes, q_eDct0, okL0, okL1, okL2, okL3, okL4, okL5, okL6, ent, List.map_cons, List.map_nil, List.length_cons, List.length_nil, List.set_cons_zero, List.set_cons_succ, List.replicate, List.cons_append, List.nil_append, Nat.reduceAdd, Nat.reduceSub, Nat.sub_self, Nat.sub_zero, zero_add', ↓reduceIte, Bool.false_eq_true, item0, item1, addD_ii, subD_ii, negD_i, absD_i, ltD_ii, leD_ii, gtD_ii, geD_ii, truD_bl, decide_true, decide_false]) (by rw [List.append_assoc]; exact get_last) (by simp) ?_
  refine ⟨trivial, ?_⟩
  rw [List.append_assoc, List.set_append_right _ _ (Nat.le_refl _)]
  simp
  rfl
theorem make3 {ca : Env → M (List D)} {ρ : Env} (k : ∀ x ∈ xs, K3 h x) (yes : chB xs = true) {g : Hs} (gg : Gb 2 h g) (e : ca ρ g = .ok [.tup xs] g) : eMake "Trials" 2 m_Trials___init___v3 ca ρ g = .ok (.obj g.length) (newX g (.tup xs)) := by
  rw [q_eMake, e, bind_ok']
  show (if decide (1 + 1 = 2) = true then _ else _) = _
  rw [if_pos (show decide (1 + 1 = 2) = true from rfl), init3_ok k yes gg, bind_ok']
end
/-! ### refused -/
theorem ref3_yes {x : D} {h : Hs} (ini : ∀ n g, Gb 2 h g → m_Trials___init___v3 [.obj n, x] g = .exc "BadTrials" [] g) : m__law_is_refused [x] h = .ok (.bl true) (h ++ [.ins "Trials" []]) := by
  have bb := ini h.length (h ++ [DO.ins "Trials" []] : List DO) .app
  generalize hm : m_Trials___init___v3 = mf at bb
  have mk := eMake_exc (C := "Trials") (n := 2) (mf := mf) (cs := aC (eV 0) aN) (ρ := [some x, some (.bl false), none]) (h := h) (xs := [x]) (h1 := h) (by simp only [q_aC, q_aN, eV0, bind_ok']) rfl bb
  have em : sExp (eMake "Trials" 2 mf (aC (eV 0) aN)) [some x, some (.bl false), none] h = .exc [some x, some (.bl false), none] "BadTrials" [] (h ++ [DO.ins "Trials" []]) := by
    rw [q_sExp, mk]
    rfl
  have tr : sTryN 3 2 [("BadTrials", .set 1 (.bl true))] (sExp (eMake "Trials" 2 mf (aC (eV 0) aN))) [some x, some (.bl false), none] h = .nx [some x, some (.bl true), none] (h ++ [DO.ins "Trials" []]) := by
    unfold sTryN
    rw [em]
    rfl
  have e1 : ent 3 [x] = [some x, none, none] := rfl
  have s1 : sSet 1 (eC (.bl false)) [some x, none, none] h = .nx [some x, some (.bl false), none] h := rfl
  unfold m__law_is_refused c__law_is_refused mDef
  rw [e1, hm, seq_nx s1, seq_nx tr]
  rfl
theorem ref3_no {x : D} {h h' : Hs} {o : D} (mk : ∀ (ca : Env → M (List D)) (ρ : Env), ca ρ h = .ok [x] h → eMake "Trials" 2 m_Trials___init___v3 ca ρ h = .ok o h') : m__law_is_refused [x] h = .ok (.bl false) h' := by
  have mk1 := mk (aC (eV 0) aN) [some x, some (.bl false), none] (by simp only [q_aC, q_aN, eV0, bind_ok'])
  generalize hm : m_Trials___init___v3 = mf at mk1
  have em : sExp (eMake "Trials" 2 mf (aC (eV 0) aN)) [some x, some (.bl false), none] h = .nx [some x, some (.bl false), none] h' := by
    rw [q_sExp, mk1]
    rfl
  have tr : sTryN 3 2 [("BadTrials", .set 1 (.bl true))] (sExp (eMake "Trials" 2 mf (aC (eV 0) aN))) [some x, some (.bl false), none] h = .nx [some x, some (.bl false), none] h' := by
    unfold sTryN
    rw [em]
  have e1 : ent 3 [x] = [some x, none, none] := rfl
  have s1 : sSet 1 (eC (.bl false)) [some x, none, none] h = .nx [some x, some (.bl false), none] h := rfl
  unfold m__law_is_refused c__law_is_refused mDef
  rw [e1, hm, seq_nx s1, seq_nx tr]
  rfl
end Pl

set_option maxHeartbeats 1000000
/-! k01: deep things, bent rows -/
namespace Pl
open Dl Sh
local instance : Dl.Tb := ⟨fun _ => []⟩

inductive E3 (h : Hs) : D → Prop
  | non : E3 h .non
  | str (s : PySem.Str) : E3 h (.str s)
  | tup (y : D) : E3 h (.tup [y])
  | lst (xs : List D) : E3 h (.lst xs)
  | ob {k : Nat} {kvs : List (L2.Key × D)} : 2 ≤ k → h[k]? = some (.dI kvs) → E3 h (.obj k)
theorem E3.mono {h h' : Hs} {x : D} (d : E3 h x) (g : Gb 2 h h') : E3 h' x := by
  cases d with
  | non => exact .non
  | str s => exact .str s
  | tup y => exact .tup y
  | lst xs => exact .lst xs
  | ob k1 e => exact .ob k1 (g.at k1 e)
theorem E3.k3 {h : Hs} {x : D} (d : E3 h x) : K3 h x := by
  cases d with
  | non => exact k3_non
  | str s => exact k3_str
  | tup y => exact k3_len (by simp)
  | lst xs => exact k3_lst
  | ob k1 e => exact k3_ob k1 e
def B3 (h : Hs) (x : D) : Prop := (∃ xs, x = .tup xs ∧ (∀ y ∈ xs, K3 h y) ∧ xs.length ≤ 1000) ∨ N3 h x
theorem B3.mono {h h' : Hs} {x : D} (b : B3 h x) (g : Gb 2 h h') : B3 h' x := by
  rcases b with ⟨xs, e, k, l⟩ | n
  · exact .inl ⟨xs, e, fun y hy => (k y hy).mono g, l⟩
  · exact .inr fun f gf => n f (g.trans gf)
theorem deep4_spec {h : Hs} {N : Nat} {Q : D → Hs → Prop} (t : Tp h N) (hN : N + 64 ≤ 1000000) (k : ∀ d h', B3 h' d → Tp h' (N + 64) → Gb 2 h h' → Q d h') : Wp (m__law_deep_v4 [.obj 1] h) Q := by
  unfold m__law_deep_v4 c__law_deep_v4
  have en : ent 3 [D.obj 1] = [some (.obj 1), none, none] := rfl
  rw [wp_def, en]
  simp only [eV0, eVs, bind_ok', then_ok, q_e2, q_e1, q_eC, q_aC, q_aN, q_sPar2, q_sPar3, q_sSet, q_sRet, q_eBf, q_nBf, q_eCall, q_tst, q_tru, q_ifV, q_sIf, q_eTup, q_sPass, q_sExp, q_eLm, q_nLst, q_frz, q_thaw, q_iSeq, q_iR2, q_iR3, q_iEnumD, q_iZip, q_andX, q_andT, q_orT, q_notT, q_eCh, q_sPat, q_eSl, q_nSl, q_pS, q_pN, q_sRetN, q_tYes, q_eDct0, okL0, okL1, okL2, okL3, okL4, okL5, okL6, ent, List.map_cons, List.map_nil, List.length_cons, List.length_nil, List.set_cons_zero, List.set_cons_succ, List.replicate, List.cons_append, List.nil_append, Nat.reduceAdd, Nat.reduceSub, Nat.sub_self, Nat.sub_zero, zero_add', ↓reduceIte, Bool.false_eq_true, item0, item1, addD_ii, subD_ii, negD_i, absD_i, ltD_ii, leD_ii, gtD_ii, geD_ii, truD_bl, decide_true, decide_false, wp_ok, wp_bad, wp_bind, wp_nox, wp_def, wps_then, wps_seq, wps_nx, wps_ret, wp_ite, wps_ite]
  refine tape_dr.any (tape_dr.app t) (by simp) (by simp) (by omega) fun b h0 hb t0 g0 => ?_
  have two := tape_dr.len t
  have gg0 : Gb 2 h h0 := Gb.app.trans g0
  have q0 : E3 h0 b := by
    simp only [List.mem_cons, List.not_mem_nil, or_false] at hb
    rcases hb with e | e | e
    all_goals rw [e]
    · exact .non
    · exact .str _
    · exact .ob two (g0.at two get_last)
  rw [wps_for, q_iR1]
  simp only [eV0, eVs, bind_ok', then_ok, q_e2, q_e1, q_eC, q_aC, q_aN, q_sPar2, q_sPar3, q_sSet, q_sRet, q_eBf, q_nBf, q_eCall, q_tst, q_tru, q_ifV, q_sIf, q_eTup, q_sPass, q_sExp, q_eLm, q_nLst, q_frz, q_thaw, q_iSeq, q_iR2, q_iR3, q_iEnumD, q_iZip, q_andX, q_andT, q_orT, q_notT, q_eCh, q_sPat, q_eSl, q_nSl, q_pS, q_pN, q_sRetN, q_tYes, q_eDct0, okL0, okL1, okL2, okL3, okL4, okL5, okL6, ent, List.map_cons, List.map_nil, List.length_cons, List.length_nil, List.set_cons_zero, List.set_cons_succ, List.replicate, List.cons_append, List.nil_append, Nat.reduceAdd, Nat.reduceSub, Nat.sub_self, Nat.sub_zero, zero_add', ↓reduceIte, Bool.false_eq_true, item0, item1, addD_ii, subD_ii, negD_i, absD_i, ltD_ii, leD_ii, gtD_ii, geD_ii, truD_bl, decide_true, decide_false, wp_ok, wp_bad, wp_bind, wp_nox, wp_def, wps_then, wps_seq, wps_nx, wps_ret, wp_ite, wps_ite]
  refine tape_dr.draw t0 (sides := 30) (by decide) (by decide) (by omega) fun d h1 d0 d1 t1 g1 => ?_
  simp only [eV0, eVs, bind_ok', then_ok, q_e2, q_e1, q_eC, q_aC, q_aN, q_sPar2, q_sPar3, q_sSet, q_sRet, q_eBf, q_nBf, q_eCall, q_tst, q_tru, q_ifV, q_sIf, q_eTup, q_sPass, q_sExp, q_eLm, q_nLst, q_frz, q_thaw, q_iSeq, q_iR2, q_iR3, q_iEnumD, q_iZip, q_andX, q_andT, q_orT, q_notT, q_eCh, q_sPat, q_eSl, q_nSl, q_pS, q_pN, q_sRetN, q_tYes, q_eDct0, okL0, okL1, okL2, okL3, okL4, okL5, okL6, ent, List.map_cons, List.map_nil, List.length_cons, List.length_nil, List.set_cons_zero, List.set_cons_succ, List.replicate, List.cons_append, List.nil_append, Nat.reduceAdd, Nat.reduceSub, Nat.sub_self, Nat.sub_zero, zero_add', ↓reduceIte, Bool.false_eq_true, item0, item1, addD_ii, subD_ii, negD_i, absD_i, ltD_ii, leD_ii, gtD_ii, geD_ii, truD_bl, decide_true, decide_false, wp_ok, wp_bad, wp_bind, wp_nox, wp_def, wps_then, wps_seq, wps_nx, wps_ret, wp_ite, wps_ite]
  rw [if_pos (okI_of (by omega) (by omega))]
  refine wps_loop (fun j ρ h' => Tp h' (N + 2 + j) ∧ Gb 2 h h' ∧ ∃ x z, ρ = [some (.obj 1), some x, z] ∧ E3 h' x ∧ (1 ≤ j → B3 h' x)) _ 0 _ _ ?_ ?_ ⟨t1, gg0.trans g1, _, _, rfl, q0.mono g1, fun z => absurd z (by decide)⟩
  · rintro j x ρ h2 hx ⟨t2, g2, y, z, rfl, dq, _⟩
    rw [Nat.zero_add] at t2 ⊢
    have hj := (List.getElem?_eq_some_iff.mp hx).1
    rw [rng_len] at hj
    refine ⟨rfl, [some (.obj 1), some y, some x], rfl, ?_⟩
    simp only [eV0, eVs, bind_ok', then_ok, q_e2, q_e1, q_eC, q_aC, q_aN, q_sPar2, q_sPar3, q_sSet, q_sRet, q_eBf, q_nBf, q_eCall, q_tst, q_tru, q_ifV, q_sIf, q_eTup, q_sPass, q_sExp, q_eLm, q_nLst, q_frz, q_thaw, q_iSeq, q_iR2, q_iR3, q_iEnumD, q_iZip, q_andX, q_andT, q_orT, q_notT, q_eCh, q_sPat, q_eSl, q_nSl, q_pS, q_pN, q_sRetN, q_tYes, q_eDct0, okL0, okL1, okL2, okL3, okL4, okL5, okL6, ent, List.map_cons, List.map_nil, List.length_cons, List.length_nil, List.set_cons_zero, List.set_cons_succ, List.replicate, List.cons_append, List.nil_append, Nat.reduceAdd, Nat.reduceSub, Nat.sub_self, Nat.sub_zero, zero_add', ↓reduceIte, Bool.false_eq_true, item0, item1, addD_ii, subD_ii, negD_i, absD_i, ltD_ii, leD_ii, gtD_ii, geD_ii, truD_bl, decide_true, decide_false, wp_ok, wp_bad, wp_bind, wp_nox, wp_def, wps_then, wps_seq, wps_nx, wps_ret, wp_ite, wps_ite]
    refine tape_dr.draw t2 (sides := 2) (by decide) (by decide) (by omega) fun d h3 d0 d1 t3 g3 => ?_
    simp only [eV0, eVs, bind_ok', then_ok, q_e2, q_e1, q_eC, q_aC, q_aN, q_sPar2, q_sPar3, q_sSet, q_sRet, q_eBf, q_nBf, q_eCall, q_tst, q_tru, q_ifV, q_sIf, q_eTup, q_sPass, q_sExp, q_eLm, q_nLst, q_frz, q_thaw, q_iSeq, q_iR2, q_iR3, q_iEnumD, q_iZip, q_andX, q_andT, q_orT, q_notT, q_eCh, q_sPat, q_eSl, q_nSl, q_pS, q_pN, q_sRetN, q_tYes, q_eDct0, okL0, okL1, okL2, okL3, okL4, okL5, okL6, ent, List.map_cons, List.map_nil, List.length_cons, List.length_nil, List.set_cons_zero, List.set_cons_succ, List.replicate, List.cons_append, List.nil_append, Nat.reduceAdd, Nat.reduceSub, Nat.sub_self, Nat.sub_zero, zero_add', ↓reduceIte, Bool.false_eq_true, item0, item1, addD_ii, subD_ii, negD_i, absD_i, ltD_ii, leD_ii, gtD_ii, geD_ii, truD_bl, decide_true, decide_false, wp_ok, wp_bad, wp_bind, wp_nox, wp_def, wps_then, wps_seq, wps_nx, wps_ret, wp_ite, wps_ite, eqD_ii]
    by_cases z : d = 0
    · simp only [eV0, eVs, bind_ok', then_ok, q_e2, q_e1, q_eC, q_aC, q_aN, q_sPar2, q_sPar3, q_sSet, q_sRet, q_eBf, q_nBf, q_eCall, q_tst, q_tru, q_ifV, q_sIf, q_eTup, q_sPass, q_sExp, q_eLm, q_nLst, q_frz, q_thaw, q_iSeq, q_iR2, q_iR3, q_iEnumD, q_iZip, q_andX, q_andT, q_orT, q_notT, q_eCh, q_sPat, q_eSl, q_nSl, q_pS, q_pN, q_sRetN, q_tYes, q_eDct0, okL0, okL1, okL2, okL3, okL4, okL5, okL6, ent, List.map_cons, List.map_nil, List.length_cons, List.length_nil, List.set_cons_zero, List.set_cons_succ, List.replicate, List.cons_append, List.nil_append, Nat.reduceAdd, Nat.reduceSub, Nat.sub_self, Nat.sub_zero, zero_add', ↓reduceIte, Bool.false_eq_true, item0, item1, addD_ii, subD_ii, negD_i, absD_i, ltD_ii, leD_ii, gtD_ii, geD_ii, truD_bl, decide_true, decide_false, wp_ok, wp_bad, wp_bind, wp_nox, wp_def, wps_then, wps_seq, wps_nx, wps_ret, wp_ite, wps_ite, decide_eq_true z]
      exact ⟨t3, g2.trans g3, _, _, rfl, .lst _, fun _ => .inr n3_lst⟩
    · simp only [eV0, eVs, bind_ok', then_ok, q_e2, q_e1, q_eC, q_aC, q_aN, q_sPar2, q_sPar3, q_sSet, q_sRet, q_eBf, q_nBf, q_eCall, q_tst, q_tru, q_ifV, q_sIf, q_eTup, q_sPass, q_sExp, q_eLm, q_nLst, q_frz, q_thaw, q_iSeq, q_iR2, q_iR3, q_iEnumD, q_iZip, q_andX, q_andT, q_orT, q_notT, q_eCh, q_sPat, q_eSl, q_nSl, q_pS, q_pN, q_sRetN, q_tYes, q_eDct0, okL0, okL1, okL2, okL3, okL4, okL5, okL6, ent, List.map_cons, List.map_nil, List.length_cons, List.length_nil, List.set_cons_zero, List.set_cons_succ, List.replicate, List.cons_append, List.nil_append, Nat.reduceAdd, Nat.reduceSub, Nat.sub_self, Nat.sub_zero, zero_add', ↓reduceIte, Bool.false_eq_true, item0, item1, addD_ii, subD_ii, negD_i, absD_i, ltD_ii, leD_ii, gtD_ii, geD_ii, truD_bl, decide_true, decide_false, wp_ok, wp_bad, wp_bind, wp_nox, wp_def, wps_then, wps_seq, wps_nx, wps_ret, wp_ite, wps_ite, decide_eq_false z]
      exact ⟨t3, g2.trans g3, _, _, rfl, .tup _, fun _ => .inl ⟨_, rfl, fun z hz => by rw [List.mem_singleton.mp hz]; exact (dq.mono g3).k3, by simp⟩⟩
  · rintro ρ h2 ⟨t2, g2, y, z, rfl, dq, dp⟩
    rw [Nat.zero_add, rng_len] at dp t2
    refine ⟨rfl, ?_⟩
    simp only [eV0, eVs, bind_ok', then_ok, q_e2, q_e1, q_eC, q_aC, q_aN, q_sPar2, q_sPar3, q_sSet, q_sRet, q_eBf, q_nBf, q_eCall, q_tst, q_tru, q_ifV, q_sIf, q_eTup, q_sPass, q_sExp, q_eLm, q_nLst, q_frz, q_thaw, q_iSeq, q_iR2, q_iR3, q_iEnumD, q_iZip, q_andX, q_andT, q_orT, q_notT, q_eCh, q_sPat, q_eSl, q_nSl, q_pS, q_pN, q_sRetN, q_tYes, q_eDct0, okL0, okL1, okL2, okL3, okL4, okL5, okL6, ent, List.map_cons, List.map_nil, List.length_cons, List.length_nil, List.set_cons_zero, List.set_cons_succ, List.replicate, List.cons_append, List.nil_append, Nat.reduceAdd, Nat.reduceSub, Nat.sub_self, Nat.sub_zero, zero_add', ↓reduceIte, Bool.false_eq_true, item0, item1, addD_ii, subD_ii, negD_i, absD_i, ltD_ii, leD_ii, gtD_ii, geD_ii, truD_bl, decide_true, decide_false, wp_ok, wp_bad, wp_bind, wp_nox, wp_def, wps_then, wps_seq, wps_nx, wps_ret, wp_ite, wps_ite]
    exact k _ _ (dp (by omega)) (tape_dr.mono t2 (by omega)) g2
/-! ### rows -/
theorem sh1_num {q : Rat} (s : Sh1 q) : 0 ≤ q.num ∧ q.num ≤ q.den ∧ (q.den : Int) ≤ 2000000000000 := by
  have nn : (0 : Int) ≤ q.num := Rat.num_nonneg.mpr s.1
  have n1 : q.num ≤ q.den := by
    have z := (Rat.le_iff q 1).mp s.2.1
    simpa using z
  have d : q.den < 2 ^ 40 := s.2.2.2
  have e : (2 : Nat) ^ 40 = 1099511627776 := by decide
  exact ⟨nn, n1, by omega⟩
theorem k3_fr {h : Hs} {q : Rat} (s : Sh1 q) : K3 h (fr q) := by
  obtain ⟨a, b, c⟩ := sh1_num s
  exact k3_ii (show q.num ≤ big64 from Int.le_trans b (Int.le_trans c (by decide))) (show (q.den : Int) ≤ big64 from Int.le_trans c (by decide))
theorem sh1_shr {q : Rat} (s : Sh1 q) : Shr q := ⟨⟨s.1, s.2.1⟩, Nat.lt_of_lt_of_le s.2.2.2 (Nat.pow_le_pow_right (by decide) (by decide))⟩
theorem drawn_row {qs : List Rat} (r : Drawn qs) : Row qs := ⟨r.1, r.2.1, fun q hq => sh1_shr (r.2.2 q hq)⟩
theorem row_k3 {h : Hs} {qs : List Rat} (r : ∀ q ∈ qs, Sh1 q) : ∀ x ∈ qs.map fr, K3 h x := fun x hx => by
  obtain ⟨q, hq, rfl⟩ := List.mem_map.mp hx
  exact k3_fr (r q hq)
theorem lstN_fr {q : Rat} {h : Hs} : listN [fr q] h = .ok [.int q.num, .int q.den] h := rfl
theorem add_fr {q : Rat} {h : Hs} : addD (fr q) (.tup [.int 1]) h = .ok (.tup [.int q.num, .int q.den, .int 1]) h := addD_tt (xs := [.int q.num, .int q.den]) (ys := [.int 1]) (by simp)
theorem sl_fr {q : Rat} {h : Hs} : sliceD (fr q) none (some 1) h = .ok (.tup [.int q.num]) h := slT_to (xs := [.int q.num, .int q.den]) (m := 1)
theorem half12 {h : Hs} : mulD (.tup [.tup [.int 1, .int 2]]) (.int 12) h = .ok (.tup (List.replicate 12 (.tup [.int 1, .int 2]))) h := nr rfl
theorem half13 {h : Hs} : mulD (.tup [.tup [.int 1, .int 2]]) (.int 13) h = .ok (.tup (List.replicate 13 (.tup [.int 1, .int 2]))) h := nr rfl
theorem bent3_spec {qs : List Rat} (r : Drawn qs) {h : Hs} {N i : Nat} {Q : D → Hs → Prop} (t : Tp h N) (ti : TrAt h i qs) (i2 : 2 ≤ i) (hN : N + 80 ≤ 1000000) (k : ∀ x h', B3 h' x → Tp h' (N + 80) → Gb 2 h h' → Q x h') : Wp (m__law_bent_v3 [.obj 1, .tup (qs.map fr), .obj i] h) Q := by
  unfold m__law_bent_v3 c__law_bent_v3
  have en : ent 7 [D.obj 1, .tup (qs.map fr), .obj i] = [some (.obj 1), some (.tup (qs.map fr)), some (.obj i), none, none, none, none] := rfl
  obtain ⟨l1, l12, rs⟩ := r
  rw [wp_def, en]
  simp only [eV0, eVs, bind_ok', then_ok, q_e2, q_e1, q_eC, q_aC, q_aN, q_sPar2, q_sPar3, q_sSet, q_sRet, q_eBf, q_nBf, q_eCall, q_tst, q_tru, q_ifV, q_sIf, q_eTup, q_sPass, q_sExp, q_eLm, q_nLst, q_frz, q_thaw, q_iSeq, q_iR2, q_iR3, q_iEnumD, q_iZip, q_andX, q_andT, q_orT, q_notT, q_eCh, q_sPat, q_eSl, q_nSl, q_pS, q_pN, q_sRetN, q_tYes, q_eDct0, okL0, okL1, okL2, okL3, okL4, okL5, okL6, ent, List.map_cons, List.map_nil, List.length_cons, List.length_nil, List.set_cons_zero, List.set_cons_succ, List.replicate, List.cons_append, List.nil_append, Nat.reduceAdd, Nat.reduceSub, Nat.sub_self, Nat.sub_zero, zero_add', ↓reduceIte, Bool.false_eq_true, item0, item1, addD_ii, subD_ii, negD_i, absD_i, ltD_ii, leD_ii, gtD_ii, geD_ii, truD_bl, decide_true, decide_false, wp_ok, wp_bad, wp_bind, wp_nox, wp_def, wps_then, wps_seq, wps_nx, wps_ret, wp_ite, wps_ite, lenD_tup, List.length_map]
  refine tape_dr.draw t (sides := (qs.length : Nat)) (by omega) (by omega) (by omega) fun d h1 d0 d1 t1 g1 => ?_
  obtain ⟨j, rfl⟩ : ∃ j : Nat, d = j := ⟨d.toNat, by omega⟩
  have hj : j < qs.length := by omega
  obtain ⟨q, hq⟩ : ∃ q, qs[j]? = some q := ⟨_, List.getElem?_eq_getElem hj⟩
  have sq : Sh1 q := rs q (List.mem_of_getElem? hq)
  obtain ⟨nn, n1, db⟩ := sh1_num sq
  have it : ∀ g : Hs, itemD (.tup (qs.map fr)) (.int j) g = .ok (fr q) g := fun g => item_at (by rw [List.getElem?_map, hq]; rfl)
  have big : ∀ i : Int, i.natAbs ≤ 4000000000000 → i.natAbs < 2 ^ 1000 := fun i hi => Nat.lt_of_le_of_lt hi (Nat.lt_of_lt_of_le (show 4000000000000 < 2 ^ 68 by decide) (Nat.pow_le_pow_right (by decide) (by decide)))
  have m1 : okMul 2 q.num = true := okMul_small (big _ (by omega)) (big _ (by omega))
  have m2 : okMul 2 q.den = true := okMul_small (big _ (by omega)) (big _ (by omega))
  have s1 : ∀ g : Hs, sliceD (.tup (qs.map fr)) none (some (j : Int)) g = .ok (.tup ((qs.map fr).take j)) g := fun g => slT_to
  have ei : ∀ g : Hs, addD (.int (j : Nat)) (.int 1) g = .ok (.int ((j + 1 : Nat) : Int)) g := fun g => rfl
  have s2 : ∀ g : Hs, sliceD (.tup (qs.map fr)) (some ((j + 1 : Nat) : Int)) none g = .ok (.tup ((qs.map fr).drop (j + 1))) g := fun g => slD_tup_from
  have s3 : ∀ g : Hs, sliceD (.tup (qs.map fr)) (some (1 : Int)) none g = .ok (.tup ((qs.map fr).drop 1)) g := fun g => slD_tup_from (m := 1)
  have ll : ∀ (xs ys : List D) (g : Hs), xs.length + ys.length ≤ 1000 → addD (.lst xs) (.lst ys) g = .ok (.lst (xs ++ ys)) g := fun xs ys g l => addD_ll (by omega)
  have ok9 : okLen 9 = true := okLen_of (by decide)
  have ok10 : okLen 10 = true := okLen_of (by decide)
  have okq : okLen (qs.map fr).length = true := okLen_of (by rw [List.length_map]; omega)
  have ok2 : okLen ([D.int q.num, .int q.den] : List D).length = true := okLen_of (show 2 ≤ 16777216 by decide)
  simp only [eV0, eVs, bind_ok', then_ok, q_e2, q_e1, q_eC, q_aC, q_aN, q_sPar2, q_sPar3, q_sSet, q_sRet, q_eBf, q_nBf, q_eCall, q_tst, q_tru, q_ifV, q_sIf, q_eTup, q_sPass, q_sExp, q_eLm, q_nLst, q_frz, q_thaw, q_iSeq, q_iR2, q_iR3, q_iEnumD, q_iZip, q_andX, q_andT, q_orT, q_notT, q_eCh, q_sPat, q_eSl, q_nSl, q_pS, q_pN, q_sRetN, q_tYes, q_eDct0, okL0, okL1, okL2, okL3, okL4, okL5, okL6, ent, List.map_cons, List.map_nil, List.length_cons, List.length_nil, List.set_cons_zero, List.set_cons_succ, List.replicate, List.cons_append, List.nil_append, Nat.reduceAdd, Nat.reduceSub, Nat.sub_self, Nat.sub_zero, zero_add', ↓reduceIte, Bool.false_eq_true, item0, item1, addD_ii, subD_ii, negD_i, absD_i, ltD_ii, leD_ii, gtD_ii, geD_ii, truD_bl, decide_true, decide_false, wp_ok, wp_bad, wp_bind, wp_nox, wp_def, wps_then, wps_seq, wps_nx, wps_ret, wp_ite, wps_ite, it, fr_num, fr_den, mulD_ii m1, mulD_ii m2, ok9]
  simp only [eV0, eVs, bind_ok', then_ok, q_e2, q_e1, q_eC, q_aC, q_aN, q_sPar2, q_sPar3, q_sSet, q_sRet, q_eBf, q_nBf, q_eCall, q_tst, q_tru, q_ifV, q_sIf, q_eTup, q_sPass, q_sExp, q_eLm, q_nLst, q_frz, q_thaw, q_iSeq, q_iR2, q_iR3, q_iEnumD, q_iZip, q_andX, q_andT, q_orT, q_notT, q_eCh, q_sPat, q_eSl, q_nSl, q_pS, q_pN, q_sRetN, q_tYes, q_eDct0, okL0, okL1, okL2, okL3, okL4, okL5, okL6, ent, List.map_cons, List.map_nil, List.length_cons, List.length_nil, List.set_cons_zero, List.set_cons_succ, List.replicate, List.cons_append, List.nil_append, Nat.reduceAdd, Nat.reduceSub, Nat.sub_self, Nat.sub_zero, zero_add', ↓reduceIte, Bool.false_eq_true, item0, item1, addD_ii, subD_ii, negD_i, absD_i, ltD_ii, leD_ii, gtD_ii, geD_ii, truD_bl, decide_true, decide_false, wp_ok, wp_bad, wp_bind, wp_nox, wp_def, wps_then, wps_seq, wps_nx, wps_ret, wp_ite, wps_ite, fr_num, lstN_fr, ok2, add_fr, sl_fr, ok10]
  rw [ll _ _ _ (by simp)]
  simp only [eV0, eVs, bind_ok', then_ok, q_e2, q_e1, q_eC, q_aC, q_aN, q_sPar2, q_sPar3, q_sSet, q_sRet, q_eBf, q_nBf, q_eCall, q_tst, q_tru, q_ifV, q_sIf, q_eTup, q_sPass, q_sExp, q_eLm, q_nLst, q_frz, q_thaw, q_iSeq, q_iR2, q_iR3, q_iEnumD, q_iZip, q_andX, q_andT, q_orT, q_notT, q_eCh, q_sPat, q_eSl, q_nSl, q_pS, q_pN, q_sRetN, q_tYes, q_eDct0, okL0, okL1, okL2, okL3, okL4, okL5, okL6, ent, List.map_cons, List.map_nil, List.length_cons, List.length_nil, List.set_cons_zero, List.set_cons_succ, List.replicate, List.cons_append, List.nil_append, Nat.reduceAdd, Nat.reduceSub, Nat.sub_self, Nat.sub_zero, zero_add', ↓reduceIte, Bool.false_eq_true, item0, item1, addD_ii, subD_ii, negD_i, absD_i, ltD_ii, leD_ii, gtD_ii, geD_ii, truD_bl, decide_true, decide_false, wp_ok, wp_bad, wp_bind, wp_nox, wp_def, wps_then, wps_seq, wps_nx, wps_ret, wp_ite, wps_ite, s1, s2, ei]
  refine tape_dr.any t1 (by simp) (by simp) (by omega) fun o h2 ho t2 g2 => ?_
  have bg : ∀ z : Int, z ≤ 8000000000000 → z ≤ big64 := fun z hz => Int.le_trans hz (by decide)
  have ko : ∀ g, K3 g o := fun g => by
    simp only [List.cons_append, List.nil_append, List.mem_cons, List.not_mem_nil, or_false] at ho
    rcases ho with e | e | e | e | e | e | e | e | e | e | e | e | e | e | e | e | e | e | e
    all_goals rw [e]
    · exact k3_ii (bg _ (by omega)) (bg _ (by omega))
    · exact k3_ii (bg _ (by omega)) (bg _ (by omega))
    · exact k3_ii (bg _ (by omega)) (bg _ (by omega))
    · exact k3_ii (bg _ (by omega)) (bg _ (by omega))
    · exact k3_ii (bg _ (by omega)) (bg _ (by omega))
    · exact k3_ii (bg _ (by omega)) (bg _ (by omega))
    · exact k3_int
    · exact k3_non
    · exact k3_str
    · exact k3_lst
    · exact k3_len (by simp)
    · exact k3_len (by simp)
    · exact k3_bi
    · exact k3_ii (bg _ (by omega)) (bg _ (by omega))
    · exact k3_ii (bg _ (by omega)) (bg _ (by omega))
    · exact k3_ii (bg _ (by omega)) (bg _ (by omega))
    · exact k3_ii (bg _ (by omega)) (bg _ (by omega))
    · exact k3_ib
    · exact k3_len (by simp)
  have a1 : ∀ g : Hs, addD (.tup ((qs.map fr).take j)) (.tup [o]) g = .ok (.tup ((qs.map fr).take j ++ [o])) g := fun g => addD_tt (by simp; omega)
  have l3 : ((qs.map fr).take j ++ [o]).length + ((qs.map fr).drop (j + 1)).length ≤ 1000 := by rw [List.length_append, List.length_take, List.length_drop, List.length_map]; simp; omega
  have a2 : ∀ g : Hs, addD (.tup ((qs.map fr).take j ++ [o])) (.tup ((qs.map fr).drop (j + 1))) g = .ok (.tup ((qs.map fr).take j ++ [o] ++ (qs.map fr).drop (j + 1))) g := fun g => addD_tt (by omega)
  generalize hrow : (qs.map fr).take j ++ [o] ++ (qs.map fr).drop (j + 1) = row at a2
  have krow : ∀ g, ∀ y ∈ row, K3 g y := fun g y hy => by
    rw [← hrow] at hy
    rcases List.mem_append.mp hy with hy | hy
    · rcases List.mem_append.mp hy with hy | hy
      · exact row_k3 rs y (List.mem_of_mem_take hy)
      · rw [List.mem_singleton.mp hy]; exact ko g
    · exact row_k3 rs y (List.mem_of_mem_drop hy)
  have lrow : row.length ≤ 1000 := by
    rw [← hrow, List.length_append]
    exact l3
  have m6 : ∀ g : Hs, mulD (.lst [.tup row]) (.int 6) g = .ok (.lst (List.replicate 6 (.tup row))) g := fun g => mulD_l (k := 6) (by decide)
  have ln : ∀ g : Hs, listN [.tup (qs.map fr)] g = .ok (qs.map fr) g := fun g => rfl
  have rv : ∀ g : Hs, revD (.tup (qs.map fr)) g = .ok (.tup (qs.map fr).reverse) g := fun g => rfl
  have a3 : ∀ g : Hs, addD (.tup (qs.map fr)) (.tup [.tup [.int 1, .int 2]]) g = .ok (.tup (qs.map fr ++ [.tup [.int 1, .int 2]])) g := fun g => addD_tt (by rw [List.length_map]; simp; omega)
  have s2' : ∀ g : Hs, sliceD (.tup (qs.map fr)) (some ((j : Int) + 1)) none g = .ok (.tup ((qs.map fr).drop (j + 1))) g := s2
  simp only [eV0, eVs, bind_ok', then_ok, q_e2, q_e1, q_eC, q_aC, q_aN, q_sPar2, q_sPar3, q_sSet, q_sRet, q_eBf, q_nBf, q_eCall, q_tst, q_tru, q_ifV, q_sIf, q_eTup, q_sPass, q_sExp, q_eLm, q_nLst, q_frz, q_thaw, q_iSeq, q_iR2, q_iR3, q_iEnumD, q_iZip, q_andX, q_andT, q_orT, q_notT, q_eCh, q_sPat, q_eSl, q_nSl, q_pS, q_pN, q_sRetN, q_tYes, q_eDct0, okL0, okL1, okL2, okL3, okL4, okL5, okL6, ent, List.map_cons, List.map_nil, List.length_cons, List.length_nil, List.set_cons_zero, List.set_cons_succ, List.replicate, List.cons_append, List.nil_append, Nat.reduceAdd, Nat.reduceSub, Nat.sub_self, Nat.sub_zero, zero_add', ↓reduceIte, Bool.false_eq_true, item0, item1, addD_ii, subD_ii, negD_i, absD_i, ltD_ii, leD_ii, gtD_ii, geD_ii, truD_bl, decide_true, decide_false, wp_ok, wp_bad, wp_bind, wp_nox, wp_def, wps_then, wps_seq, wps_nx, wps_ret, wp_ite, wps_ite, a1, a2, m6, ln, rv, okq, s3, s2']
  rw [ll _ _ _ (by simp)]
  simp only [eV0, eVs, bind_ok', then_ok, q_e2, q_e1, q_eC, q_aC, q_aN, q_sPar2, q_sPar3, q_sSet, q_sRet, q_eBf, q_nBf, q_eCall, q_tst, q_tru, q_ifV, q_sIf, q_eTup, q_sPass, q_sExp, q_eLm, q_nLst, q_frz, q_thaw, q_iSeq, q_iR2, q_iR3, q_iEnumD, q_iZip, q_andX, q_andT, q_orT, q_notT, q_eCh, q_sPat, q_eSl, q_nSl, q_pS, q_pN, q_sRetN, q_tYes, q_eDct0, okL0, okL1, okL2, okL3, okL4, okL5, okL6, ent, List.map_cons, List.map_nil, List.length_cons, List.length_nil, List.set_cons_zero, List.set_cons_succ, List.replicate, List.cons_append, List.nil_append, Nat.reduceAdd, Nat.reduceSub, Nat.sub_self, Nat.sub_zero, zero_add', ↓reduceIte, Bool.false_eq_true, item0, item1, addD_ii, subD_ii, negD_i, absD_i, ltD_ii, leD_ii, gtD_ii, geD_ii, truD_bl, decide_true, decide_false, wp_ok, wp_bad, wp_bind, wp_nox, wp_def, wps_then, wps_seq, wps_nx, wps_ret, wp_ite, wps_ite, a3, half12, half13, ok9]
  refine deep4_spec (tape_dr.app t2) (by omega) fun dd h3 kd t3 g3 => ?_
  rw [ll _ _ _ (by simp)]
  simp only [eV0, eVs, bind_ok', then_ok, q_e2, q_e1, q_eC, q_aC, q_aN, q_sPar2, q_sPar3, q_sSet, q_sRet, q_eBf, q_nBf, q_eCall, q_tst, q_tru, q_ifV, q_sIf, q_eTup, q_sPass, q_sExp, q_eLm, q_nLst, q_frz, q_thaw, q_iSeq, q_iR2, q_iR3, q_iEnumD, q_iZip, q_andX, q_andT, q_orT, q_notT, q_eCh, q_sPat, q_eSl, q_nSl, q_pS, q_pN, q_sRetN, q_tYes, q_eDct0, okL0, okL1, okL2, okL3, okL4, okL5, okL6, ent, List.map_cons, List.map_nil, List.length_cons, List.length_nil, List.set_cons_zero, List.set_cons_succ, List.replicate, List.cons_append, List.nil_append, Nat.reduceAdd, Nat.reduceSub, Nat.sub_self, Nat.sub_zero, zero_add', ↓reduceIte, Bool.false_eq_true, item0, item1, addD_ii, subD_ii, negD_i, absD_i, ltD_ii, leD_ii, gtD_ii, geD_ii, truD_bl, decide_true, decide_false, wp_ok, wp_bad, wp_bind, wp_nox, wp_def, wps_then, wps_seq, wps_nx, wps_ret, wp_ite, wps_ite]
  refine tape_dr.any t3 (by simp) (by simp) (by omega) fun b h4 hb t4 g4 => ?_
  have two := tape_dr.len t2
  have g13 : Gb 2 h2 h3 := Gb.app.trans g3
  have gall := ((g1.trans g2).trans g13).trans g4
  refine k b h4 ?_ (tape_dr.mono t4 (by omega)) gall
  have kqs : ∀ g, ∀ y ∈ qs.map fr, K3 g y := fun g => row_k3 rs
  have kr : B3 h4 (.tup row) := .inl ⟨row, rfl, krow _, lrow⟩
  have kh : ∀ g, K3 g (.tup [.int 1, .int 2]) := fun g => k3_ii (bg _ (by decide)) (bg _ (by decide))
  simp only [List.replicate, List.cons_append, List.nil_append, List.mem_cons, List.not_mem_nil, or_false] at hb
  rcases hb with e | e | e | e | e | e | e | e | e | e | e | e | e | e | e | e | e | e | e
  all_goals rw [e]
  · exact kr
  · exact kr
  · exact kr
  · exact kr
  · exact kr
  · exact kr
  · exact .inr n3_lst
  · exact .inl ⟨_, rfl, fun y hy => kqs _ y (List.mem_of_mem_drop hy), by rw [List.length_drop, List.length_map]; omega⟩
  · exact .inl ⟨_, rfl, fun y hy => kqs _ y (List.mem_reverse.mp hy), by rw [List.length_reverse, List.length_map]; omega⟩
  · exact .inl ⟨[.int q.num, .int q.den], rfl, fun y hy => by
      simp only [List.mem_cons, List.not_mem_nil, or_false] at hy
      rcases hy with e | e <;> rw [e] <;> exact k3_int, by simp⟩
  · refine .inl ⟨_, rfl, fun y hy => ?_, by rw [List.length_append, List.length_map]; simp; omega⟩
    rcases List.mem_append.mp hy with hy | hy
    · exact kqs _ y hy
    · rw [List.mem_singleton.mp hy]; exact kh _
  · exact .inl ⟨List.replicate 12 (.tup [.int 1, .int 2]), rfl, fun y hy => by rw [(List.mem_replicate.mp hy).2]; exact kh _, by simp⟩
  · exact .inl ⟨List.replicate 13 (.tup [.int 1, .int 2]), rfl, fun y hy => by rw [(List.mem_replicate.mp hy).2]; exact kh _, by simp⟩
  · exact .inl ⟨[], rfl, (fun y hy => by cases hy), by simp⟩
  · exact .inr n3_non
  · exact .inr n3_int
  · exact .inr (n3_ob two (g4.at two (g3.at two get_last)))
  · obtain ⟨fs, e, _⟩ := ti
    exact .inr (n3_tr i2 (gall.at i2 e))
  · exact kd.mono g4
end Pl

set_option maxHeartbeats 1000000
/-! k01: all ways, walked -/
namespace Pl
open Dl Sh
local instance : Dl.Tb := ⟨fun _ => []⟩

theorem in_lot {l : List Nat} {m : Nat} {h : Hs} : inD (.int (m : Nat)) (lotD l) h = .ok (.bl (decide (m ∈ l))) h := by
  have z := (inD_fz (x := .int (m : Nat)) (ys := l.map fun m => D.int (m : Nat)) (h := h) (.int _) fun y hy => by
    obtain ⟨j, _, rfl⟩ := List.mem_map.mp hy
    exact .int _).1
  have e : (D.int (m : Nat) ∈ l.map fun m => D.int (m : Nat)) ↔ m ∈ l := by
    rw [List.mem_map]
    constructor
    · rintro ⟨j, hj, e⟩
      have e2 : (j : Int) = (m : Int) := by injection e
      have e3 : j = m := by omega
      rw [← e3]
      exact hj
    · exact fun hm => ⟨m, hm, rfl⟩
  have d : decide (D.int (m : Nat) ∈ l.map fun m => D.int (m : Nat)) = decide (m ∈ l) := decide_eq_decide.mpr e
  rw [d] at z
  exact z
abbrev wb1 : SM := sSet 5 (eCall 2 m__law_product (aC (eV 5) (aC (ifV (tst (e2 inD (eV 6) (eV 3))) (eV 7) (eCall 1 m__law_rest_v2 (aC (eV 7) aN))) aN)))
abbrev wb0 : SM := sSeq (sSet 4 (frz (nLc (iSeq (eV 1)) (.nm 6) [6] (tst (e2 inD (eV 6) (eV 3))) (eV 6)))) (sIf (andT (tst (e2 gtD (eBf lenD (aC (eV 4) aN)) (eC (.int 0)))) (tst (e2 eqD (e2 itemD (eV 4) (eC (.int 0))) (e2 itemD (eV 3) (e1 negD (eC (.int 1))))))) (sSeq (sSet 5 (eTup (aC (eC (.int 1)) (aC (eC (.int 1)) aN)))) (sSeq (sFor (iEnumD (aC (eV 0) aN)) (.tp [.nm 6, .nm 7]) wb1) (sSet 2 (eCall 2 m__law_plus (aC (eV 2) (aC (eV 5) aN)))))) (sPass))
theorem ways_code : c__law_ways = sSeq (sSet 2 (eTup (aC (eC (.int 0)) (aC (eC (.int 1)) aN)))) (sSeq (sFor (iSeq (eCall 1 m__law_lots (aC (eBf lenD (aC (eV 0) aN)) aN))) (.nm 3) wb0) (sRet (eV 2))) := rfl
theorem way_in {S : List Nat} : ∀ (cs : List Rat) (k : Nat), (∀ c ∈ cs, In1 c) → In1 (pway cs k S)
  | [], _, _ => .one
  | c :: cs, k, h => by
    show In1 ((if k ∈ S then c else 1 - c) * pway cs (k + 1) S)
    have a := way_in (S := S) cs (k + 1) fun x hx => h x (List.mem_cons_of_mem _ hx)
    have b := h c List.mem_cons_self
    by_cases z : k ∈ S
    · rw [if_pos z]; exact b.mul a
    · rw [if_neg z]; exact b.rest.mul a
theorem way_iq {S : List Nat} : ∀ (cs : List Rat) (k : Nat), Iq (Dd cs) (pway cs k S)
  | [], _ => .one
  | c :: cs, k => by
    show Iq (c.den * Dd cs) ((if k ∈ S then c else 1 - c) * pway cs (k + 1) S)
    have a := way_iq (S := S) cs (k + 1)
    by_cases z : k ∈ S
    · rw [if_pos z]; exact (Iq.self c).mul a
    · rw [if_neg z]; exact (Iq.rest c).mul a
theorem way_loop {B : Nat} (hB : B ≤ 2000) {h : Hs} {S : List Nat} {N : Env → Hs → Prop} {T : D → Hs → Prop} {a0 a1 a2 a4 : Option D} : ∀ (cs : List Rat) (k : Nat) (x : Rat) (E : Nat) (a6 a7 : Option D), (∀ c ∈ cs, In1 c) → In1 x → Iq E x → 0 < E → E * Dd cs < 2 ^ B → (∀ a6 a7, N [a0, a1, a2, some (lotD S), a4, some (fr (x * pway cs k S)), a6, a7] h) →
    WpS (loopF (.tp [.nm 6, .nm 7]) wb1 [] (enumD k (cs.map fr)) [a0, a1, a2, some (lotD S), a4, some (fr x), a6, a7] h) N T
  | [], k, x, E, a6, a7, _, _, _, _, _, kk => by
    unfold enumD loopF
    have e : x * pway [] k S = x := Rat.mul_one x
    rw [e] at kk
    exact kk a6 a7
  | c :: cs, k, x, E, a6, a7, hc, x1, xi, E0, hE, kk => by
    rw [List.map_cons]
    unfold enumD loopF
    rw [if_pos okG_nil]
    have c1 := hc c List.mem_cons_self
    have p0 := Dd_pos cs
    have dc := den_pos c
    have hE' : E * c.den * Dd cs < 2 ^ B := by rw [Nat.mul_assoc]; exact hE
    have hEl : E * c.den < 2 ^ B := Nat.lt_of_le_of_lt (Nat.le_mul_of_pos_right _ p0) hE'
    have sx : Sz B x := xi.sz1 E0 (Nat.lt_of_le_of_lt (Nat.le_mul_of_pos_right _ dc) hEl) x1.1 x1.2
    have dl : c.den < 2 ^ B := Nat.lt_of_le_of_lt (Nat.le_mul_of_pos_left _ E0) hEl
    have s1 : Sz B (1 - c) := (Iq.rest c).sz1 dc dl c1.rest.1 c1.rest.2
    have s2 : Sz B c := (Iq.self c).sz1 dc dl c1.1 c1.2
    have il := in_lot (l := S) (m := k) (h := h)
    have e : wb1 [a0, a1, a2, some (lotD S), a4, some (fr x), some (.int (k : Nat)), some (fr c)] h = .nx [a0, a1, a2, some (lotD S), a4, some (fr (x * (if k ∈ S then c else 1 - c))), some (.int (k : Nat)), some (fr c)] h := by
      unfold wb1
      by_cases z : k ∈ S
      · rw [decide_eq_true z] at il
        rw [if_pos z]
        simp only [eV0, eVs, bind_ok', then_ok, q_e2, q_e1, q_eC, q_aC, q_aN, q_sPar2, q_sPar3, q_sSet, q_sRet, q_eBf, q_nBf, q_eCall, q_tst, q_tru, q_ifV, q_sIf, q_eTup, q_sPass, q_sExp, q_eLm, q_nLst, q_frz, q_thaw, q_iSeq, q_iR2, q_iR3, q_iEnumD, q_iZip, q_andX, q_andT, q_orT, q_notT, q_eCh, q_sPat, q_eSl, q_nSl, q_pS, q_pN, q_sRetN, q_tYes, q_eDct0, okL0, okL1, okL2, okL3, okL4, okL5, okL6, ent, List.map_cons, List.map_nil, List.length_cons, List.length_nil, List.set_cons_zero, List.set_cons_succ, List.replicate, List.cons_append, List.nil_append, Nat.reduceAdd, Nat.reduceSub, Nat.sub_self, Nat.sub_zero, zero_add', ↓reduceIte, Bool.false_eq_true, item0, item1, addD_ii, subD_ii, negD_i, absD_i, ltD_ii, leD_ii, gtD_ii, geD_ii, truD_bl, decide_true, decide_false, il, lprod02 sx s2 (by omega)]
      · rw [decide_eq_false z] at il
        rw [if_neg z]
        simp only [eV0, eVs, bind_ok', then_ok, q_e2, q_e1, q_eC, q_aC, q_aN, q_sPar2, q_sPar3, q_sSet, q_sRet, q_eBf, q_nBf, q_eCall, q_tst, q_tru, q_ifV, q_sIf, q_eTup, q_sPass, q_sExp, q_eLm, q_nLst, q_frz, q_thaw, q_iSeq, q_iR2, q_iR3, q_iEnumD, q_iZip, q_andX, q_andT, q_orT, q_notT, q_eCh, q_sPat, q_eSl, q_nSl, q_pS, q_pN, q_sRetN, q_tYes, q_eDct0, okL0, okL1, okL2, okL3, okL4, okL5, okL6, ent, List.map_cons, List.map_nil, List.length_cons, List.length_nil, List.set_cons_zero, List.set_cons_succ, List.replicate, List.cons_append, List.nil_append, Nat.reduceAdd, Nat.reduceSub, Nat.sub_self, Nat.sub_zero, zero_add', ↓reduceIte, Bool.false_eq_true, item0, item1, addD_ii, subD_ii, negD_i, absD_i, ltD_ii, leD_ii, gtD_ii, geD_ii, truD_bl, decide_true, decide_false, il, lrest2_eq, lprod02 sx s1 (by omega)]
    have pd : patD (.tp [.nm 6, .nm 7]) (.tup [.int (k : Nat), fr c]) [a0, a1, a2, some (lotD S), a4, some (fr x), a6, a7] = some [a0, a1, a2, some (lotD S), a4, some (fr x), some (.int (k : Nat)), some (fr c)] := rfl
    rw [pd]
    show WpS (match wb1 [a0, a1, a2, some (lotD S), a4, some (fr x), some (.int (k : Nat)), some (fr c)] h with
      | .nx ρ2 h2 => loopF _ _ _ _ ρ2 h2
      | .ct ρ2 h2 => loopF _ _ _ _ ρ2 h2
      | .bk ρ2 h2 => .nx ρ2 h2
      | r => r) N T
    rw [e]
    have b1 : In1 (if k ∈ S then c else 1 - c) := by
      by_cases z : k ∈ S
      · rw [if_pos z]; exact c1
      · rw [if_neg z]; exact c1.rest
    have bi : Iq c.den (if k ∈ S then c else 1 - c) := by
      by_cases z : k ∈ S
      · rw [if_pos z]; exact Iq.self c
      · rw [if_neg z]; exact Iq.rest c
    refine way_loop hB cs (k + 1) (x * (if k ∈ S then c else 1 - c)) (E * c.den) _ _ (fun q hq => hc q (List.mem_cons_of_mem _ hq)) (x1.mul b1) (xi.mul bi) (Nat.mul_pos E0 dc) hE' fun a6 a7 => ?_
    have e2 : x * (if k ∈ S then c else 1 - c) * pway cs (k + 1) S = x * pway (c :: cs) k S := Rat.mul_assoc _ _ _
    rw [e2]
    exact kk a6 a7
def wayF (cs : List Rat) (lot S : List Nat) : Rat := if ind lot S = true then pway cs 0 S else 0
theorem wayF_in {cs : List Rat} (hc : ∀ c ∈ cs, In1 c) {lot S : List Nat} : In1 (wayF cs lot S) := by
  unfold wayF
  by_cases z : ind lot S = true
  · rw [if_pos z]; exact way_in cs 0 hc
  · rw [if_neg z]; exact ⟨Rat.le_refl, by decide +kernel⟩
theorem wayF_iq {cs : List Rat} {lot S : List Nat} : Iq (Dd cs) (wayF cs lot S) := by
  unfold wayF
  by_cases z : ind lot S = true
  · rw [if_pos z]; exact way_iq cs 0
  · rw [if_neg z]; exact Iq.zero.up (Nat.one_dvd _) (Dd_pos _)
theorem body_ways {cs : List Rat} {B : Nat} (c : Cs B cs) (hB : B ≤ 1000) {h : Hs} {lot S : List Nat} {x : Rat} (sx : Sz 1100 x) (ll : lot.length ≤ 1000) {a4 a5 a6 a7 : Option D} :
    WpS (wb0 [some (.tup (cs.map fr)), some (lotD lot), some (fr x), some (lotD S), a4, a5, a6, a7] h) (fun ρ h' => h' = h ∧ ∃ b4 b5 b6 b7, ρ = [some (.tup (cs.map fr)), some (lotD lot), some (fr (x + wayF cs lot S)), some (lotD S), b4, b5, b6, b7]) fun _ _ => False := by
  have cc := compT (α := Nat) (g := fun m => .int (m : Nat)) (f := fun m => .int (m : Nat)) (ci := iSeq (eV 1)) (p := .nm 6) (own := [6]) (ct := tst (e2 inD (eV 6) (eV 3))) (ce := eV 6) (t := fun m => decide (m ∈ S)) (ρ := [some (.tup (cs.map fr)), some (lotD lot), some (fr x), some (lotD S), a4, a5, a6, a7]) (h := h) (xs := lot)
    (seq_tup (by simp only [eV0, eVs, bind_ok', then_ok, q_e2, q_e1, q_eC, q_aC, q_aN, q_sPar2, q_sPar3, q_sSet, q_sRet, q_eBf, q_nBf, q_eCall, q_tst, q_tru, q_ifV, q_sIf, q_eTup, q_sPass, q_sExp, q_eLm, q_nLst, q_frz, q_thaw, q_iSeq, q_iR2, q_iR3, q_iEnumD, q_iZip, q_andX, q_andT, q_orT, q_notT, q_eCh, q_sPat, q_eSl, q_nSl, q_pS, q_pN, q_sRetN, q_tYes, q_eDct0, okL0, okL1, okL2, okL3, okL4, okL5, okL6, ent, List.map_cons, List.map_nil, List.length_cons, List.length_nil, List.set_cons_zero, List.set_cons_succ, List.replicate, List.cons_append, List.nil_append, Nat.reduceAdd, Nat.reduceSub, Nat.sub_self, Nat.sub_zero, zero_add', ↓reduceIte, Bool.false_eq_true, item0, item1, addD_ii, subD_ii, negD_i, absD_i, ltD_ii, leD_ii, gtD_ii, geD_ii, truD_bl, decide_true, decide_false]; rfl)) (by omega) fun m hm => ⟨_, rfl, by simp only [wipeD, eV0, eVs, bind_ok', then_ok, q_e2, q_e1, q_eC, q_aC, q_aN, q_sPar2, q_sPar3, q_sSet, q_sRet, q_eBf, q_nBf, q_eCall, q_tst, q_tru, q_ifV, q_sIf, q_eTup, q_sPass, q_sExp, q_eLm, q_nLst, q_frz, q_thaw, q_iSeq, q_iR2, q_iR3, q_iEnumD, q_iZip, q_andX, q_andT, q_orT, q_notT, q_eCh, q_sPat, q_eSl, q_nSl, q_pS, q_pN, q_sRetN, q_tYes, q_eDct0, okL0, okL1, okL2, okL3, okL4, okL5, okL6, ent, List.map_cons, List.map_nil, List.length_cons, List.length_nil, List.set_cons_zero, List.set_cons_succ, List.replicate, List.cons_append, List.nil_append, Nat.reduceAdd, Nat.reduceSub, Nat.sub_self, Nat.sub_zero, zero_add', ↓reduceIte, Bool.false_eq_true, item0, item1, addD_ii, subD_ii, negD_i, absD_i, ltD_ii, leD_ii, gtD_ii, geD_ii, truD_bl, decide_true, decide_false, in_lot], fun _ => by simp only [wipeD, eV0, eVs, bind_ok', then_ok, q_e2, q_e1, q_eC, q_aC, q_aN, q_sPar2, q_sPar3, q_sSet, q_sRet, q_eBf, q_nBf, q_eCall, q_tst, q_tru, q_ifV, q_sIf, q_eTup, q_sPass, q_sExp, q_eLm, q_nLst, q_frz, q_thaw, q_iSeq, q_iR2, q_iR3, q_iEnumD, q_iZip, q_andX, q_andT, q_orT, q_notT, q_eCh, q_sPat, q_eSl, q_nSl, q_pS, q_pN, q_sRetN, q_tYes, q_eDct0, okL0, okL1, okL2, okL3, okL4, okL5, okL6, ent, List.map_cons, List.map_nil, List.length_cons, List.length_nil, List.set_cons_zero, List.set_cons_succ, List.replicate, List.cons_append, List.nil_append, Nat.reduceAdd, Nat.reduceSub, Nat.sub_self, Nat.sub_zero, zero_add', ↓reduceIte, Bool.false_eq_true, item0, item1, addD_ii, subD_ii, negD_i, absD_i, ltD_ii, leD_ii, gtD_ii, geD_ii, truD_bl, decide_true, decide_false]⟩
  have hmet : (lot.filter fun m => decide (m ∈ S)) = metL lot S := rfl
  rw [hmet] at cc
  have s4 : sSet 4 (frz (nLc (iSeq (eV 1)) (.nm 6) [6] (tst (e2 inD (eV 6) (eV 3))) (eV 6))) [some (.tup (cs.map fr)), some (lotD lot), some (fr x), some (lotD S), a4, a5, a6, a7] h = .nx [some (.tup (cs.map fr)), some (lotD lot), some (fr x), some (lotD S), some (.lst ((metL lot S).map fun m => .int (m : Nat))), a5, a6, a7] h := by
    simp only [q_sSet, q_frz, cc, bind_ok', then_ok, List.set_cons_zero, List.set_cons_succ]
  have ln : lenD [.lst ((metL lot S).map fun m => D.int (m : Nat))] h = .ok (.int ((metL lot S).length : Nat)) h := by
    have z := lenD_lst (xs := (metL lot S).map fun m => D.int (m : Nat)) (h := h)
    rwa [List.length_map] at z
  unfold wb0
  rw [wps_seq]
  refine wps_of s4 ?_
  have ng : negD (.int 1) h = .ok (.int (-1)) h := rfl
  have skip : ind lot S = false → sIf (andT (tst (e2 gtD (eBf lenD (aC (eV 4) aN)) (eC (.int 0)))) (tst (e2 eqD (e2 itemD (eV 4) (eC (.int 0))) (e2 itemD (eV 3) (e1 negD (eC (.int 1))))))) (sSeq (sSet 5 (eTup (aC (eC (.int 1)) (aC (eC (.int 1)) aN)))) (sSeq (sFor (iEnumD (aC (eV 0) aN)) (.tp [.nm 6, .nm 7]) wb1) (sSet 2 (eCall 2 m__law_plus (aC (eV 2) (aC (eV 5) aN)))))) (sPass) [some (.tup (cs.map fr)), some (lotD lot), some (fr x), some (lotD S), some (.lst ((metL lot S).map fun m => .int (m : Nat))), a5, a6, a7] h = .nx [some (.tup (cs.map fr)), some (lotD lot), some (fr x), some (lotD S), some (.lst ((metL lot S).map fun m => .int (m : Nat))), a5, a6, a7] h := fun no => by
    cases em : metL lot S with
    | nil =>
      rw [em] at ln
      have g0 : decide ((0 : Int) < ((([] : List Nat).length : Nat) : Int)) = false := by decide
      simp only [q_sIf, q_andT, q_tst, q_e2, q_eBf, q_aC, q_aN, q_eC, eV0, eVs, bind_ok', ln, gtD_ii, g0, Bool.false_eq_true, ↓reduceIte, then_ok, sPass]
    | cons m r =>
      rw [em] at ln
      have g0 : decide ((0 : Int) < (((m :: r).length : Nat) : Int)) = true := decide_eq_true (by rw [List.length_cons]; omega)
      have mS : m ∈ S := by
        have : m ∈ metL lot S := by rw [em]; exact List.mem_cons_self
        exact of_decide_eq_true (List.mem_filter.mp this).2
      have lS : 1 ≤ S.length := List.length_pos_iff.mpr fun e => by rw [e] at mS; cases mS
      obtain ⟨y, hy⟩ : ∃ y, S[S.length - 1]? = some y := ⟨_, List.getElem?_eq_getElem (by omega)⟩
      have il : itemD (lotD S) (.int (-1)) h = .ok (.int (y : Nat)) h := item_lastT (by rw [List.length_map, List.getElem?_map, hy]; rfl) (by rw [List.length_map]; exact lS)
      have i0 : itemD (.lst ((m :: r).map fun m => D.int (m : Nat))) (.int 0) h = .ok (.int (m : Nat)) h := item_lst (i := 0) rfl
      have ne : ¬ ((m : Int) = (y : Int)) := fun e => by
        have e' : m = y := by omega
        have lst : S.getLast? = some m := by rw [List.getLast?_eq_getElem?, hy, e']
        have yes : ind lot S = true := by
          unfold ind
          rw [em]
          exact decide_eq_true lst
        rw [yes] at no
        cases no
      simp only [q_sIf, q_andT, q_tst, q_e2, q_eBf, q_aC, q_aN, q_eC, q_e1, eV0, eVs, bind_ok', ln, gtD_ii, g0, truD_bl, ↓reduceIte, i0, ng, il, eqD_ii, decide_eq_false ne, then_ok, Bool.false_eq_true, sPass]
  by_cases z : ind lot S = true
  · obtain ⟨m, r, em, hl⟩ : ∃ m r, metL lot S = m :: r ∧ S.getLast? = some m := by
      unfold ind at z
      cases em : metL lot S with
      | nil => rw [em] at z; cases z
      | cons m r => rw [em] at z; exact ⟨m, r, rfl, of_decide_eq_true z⟩
    have mS : m ∈ S := by
      have : m ∈ metL lot S := by rw [em]; exact List.mem_cons_self
      exact of_decide_eq_true (List.mem_filter.mp this).2
    have lS : 1 ≤ S.length := List.length_pos_iff.mpr fun e => by rw [e] at mS; cases mS
    have il : itemD (lotD S) (.int (-1)) h = .ok (.int (m : Nat)) h := item_lastT (by rw [List.length_map, List.getElem?_map, ← List.getLast?_eq_getElem?, hl]; rfl) (by rw [List.length_map]; exact lS)
    have i0 : itemD (.lst ((metL lot S).map fun m => D.int (m : Nat))) (.int 0) h = .ok (.int (m : Nat)) h := item_lst (i := 0) (by rw [em]; rfl)
    have g0 : decide ((0 : Int) < (((metL lot S).length : Nat) : Int)) = true := decide_eq_true (by rw [em, List.length_cons]; omega)
    have ct : andT (tst (e2 gtD (eBf lenD (aC (eV 4) aN)) (eC (.int 0)))) (tst (e2 eqD (e2 itemD (eV 4) (eC (.int 0))) (e2 itemD (eV 3) (e1 negD (eC (.int 1)))))) [some (.tup (cs.map fr)), some (lotD lot), some (fr x), some (lotD S), some (.lst ((metL lot S).map fun m => .int (m : Nat))), a5, a6, a7] h = .ok true h := by
      simp only [q_andT, q_tst, q_e2, q_eBf, q_aC, q_aN, q_eC, q_e1, eV0, eVs, bind_ok', ln, gtD_ii, g0, truD_bl, ↓reduceIte, i0, ng, il, eqD_ii, decide_true]
    rw [q_sIf, ct, then_ok, if_pos rfl, wps_seq]
    have s5 : sSet 5 (eTup (aC (eC (.int 1)) (aC (eC (.int 1)) aN))) [some (.tup (cs.map fr)), some (lotD lot), some (fr x), some (lotD S), some (.lst ((metL lot S).map fun m => .int (m : Nat))), a5, a6, a7] h = .nx [some (.tup (cs.map fr)), some (lotD lot), some (fr x), some (lotD S), some (.lst ((metL lot S).map fun m => .int (m : Nat))), some (fr 1), a6, a7] h := by
      simp only [eV0, eVs, bind_ok', then_ok, q_e2, q_e1, q_eC, q_aC, q_aN, q_sPar2, q_sPar3, q_sSet, q_sRet, q_eBf, q_nBf, q_eCall, q_tst, q_tru, q_ifV, q_sIf, q_eTup, q_sPass, q_sExp, q_eLm, q_nLst, q_frz, q_thaw, q_iSeq, q_iR2, q_iR3, q_iEnumD, q_iZip, q_andX, q_andT, q_orT, q_notT, q_eCh, q_sPat, q_eSl, q_nSl, q_pS, q_pN, q_sRetN, q_tYes, q_eDct0, okL0, okL1, okL2, okL3, okL4, okL5, okL6, ent, List.map_cons, List.map_nil, List.length_cons, List.length_nil, List.set_cons_zero, List.set_cons_succ, List.replicate, List.cons_append, List.nil_append, Nat.reduceAdd, Nat.reduceSub, Nat.sub_self, Nat.sub_zero, zero_add', ↓reduceIte, Bool.false_eq_true, item0, item1, addD_ii, subD_ii, negD_i, absD_i, ltD_ii, leD_ii, gtD_ii, geD_ii, truD_bl, decide_true, decide_false]
      rfl
    refine wps_of s5 ?_
    rw [wps_seq, wps_for, q_iEnumD]
    simp only [q_aC, q_aN, eV0, bind_ok', itOf, okG_nil, ↓reduceIte, wp_ok]
    have p1 := way_in (S := S) cs 0 c.one
    have sp : Sz B (pway cs 0 S) := (way_iq (S := S) cs 0).sz1 (Dd_pos _) c.dd p1.1 p1.2
    refine way_loop (B := B) (by omega) cs 0 1 1 a6 a7 c.one .one .one Nat.one_pos (by rw [Nat.one_mul]; exact c.dd) fun a6 a7 => ?_
    have ew : wayF cs lot S = pway cs 0 S := if_pos z
    have e1 : (1 : Rat) * pway cs 0 S = pway cs 0 S := Rat.one_mul _
    rw [e1, ew]
    simp only [eV0, eVs, bind_ok', then_ok, q_e2, q_e1, q_eC, q_aC, q_aN, q_sPar2, q_sPar3, q_sSet, q_sRet, q_eBf, q_nBf, q_eCall, q_tst, q_tru, q_ifV, q_sIf, q_eTup, q_sPass, q_sExp, q_eLm, q_nLst, q_frz, q_thaw, q_iSeq, q_iR2, q_iR3, q_iEnumD, q_iZip, q_andX, q_andT, q_orT, q_notT, q_eCh, q_sPat, q_eSl, q_nSl, q_pS, q_pN, q_sRetN, q_tYes, q_eDct0, okL0, okL1, okL2, okL3, okL4, okL5, okL6, ent, List.map_cons, List.map_nil, List.length_cons, List.length_nil, List.set_cons_zero, List.set_cons_succ, List.replicate, List.cons_append, List.nil_append, Nat.reduceAdd, Nat.reduceSub, Nat.sub_self, Nat.sub_zero, zero_add', ↓reduceIte, Bool.false_eq_true, item0, item1, addD_ii, subD_ii, negD_i, absD_i, ltD_ii, leD_ii, gtD_ii, geD_ii, truD_bl, decide_true, decide_false, wp_ok, wp_bad, wp_bind, wp_nox, wp_def, wps_then, wps_seq, wps_nx, wps_ret, wp_ite, wps_ite, lplus_eq sx sp (by omega)]
    exact ⟨trivial, _, _, _, _, rfl⟩
  · have zf : ind lot S = false := by cases y : ind lot S <;> simp_all
    have ew : wayF cs lot S = 0 := if_neg z
    have e0 : x + 0 = x := by grind
    rw [skip zf, ew, e0, wps_nx]
    exact ⟨rfl, _, _, _, _, rfl⟩
theorem ways_loop {cs : List Rat} {B : Nat} (c : Cs B cs) (hB : B ≤ 1000) {h : Hs} {lot : List Nat} (ll : lot.length ≤ 1000) {N : Env → Hs → Prop} {T : D → Hs → Prop} : ∀ (L : List (List Nat)) (x : Rat) (n : Nat) (a3 a4 a5 a6 a7 : Option D), Iq (Dd cs) x → 0 ≤ x → x ≤ ((n : Nat) : Int) → n + L.length ≤ 1000 → (∀ a3 a4 a5 a6 a7, N [some (.tup (cs.map fr)), some (lotD lot), some (fr (x + smL (wayF cs lot) L)), a3, a4, a5, a6, a7] h) →
    WpS (loopF (.nm 3) wb0 [] (L.map lotD) [some (.tup (cs.map fr)), some (lotD lot), some (fr x), a3, a4, a5, a6, a7] h) N T
  | [], x, n, a3, a4, a5, a6, a7, _, _, _, _, kk => by
    unfold loopF
    have e : x + smL (wayF cs lot) [] = x := by show x + 0 = x; grind
    rw [e] at kk
    exact kk _ _ _ _ _
  | S :: L, x, n, a3, a4, a5, a6, a7, xi, x0, xn, hn, kk => by
    rw [List.length_cons] at hn
    rw [List.map_cons]
    unfold loopF
    rw [if_pos okG_nil]
    have dd := c.dd
    have lt : (n + 1) * Dd cs < 2 ^ 1100 := by
      have a : (n + 1) * Dd cs ≤ 1000 * Dd cs := Nat.mul_le_mul_right _ (by omega)
      have b : 1000 * Dd cs < 2 ^ 10 * 2 ^ B := by omega
      have d : 2 ^ 10 * 2 ^ B ≤ 2 ^ 1100 := by
        rw [← Nat.pow_add]
        exact Nat.pow_le_pow_right (by decide) (by omega)
      omega
    have sx : Sz 1100 x := xi.sz (k := n + 1) (Dd_pos _) lt (Nat.succ_pos _) x0 (by
      refine Rat.le_trans xn ?_
      have : ((n : Int) : Rat) ≤ (((n + 1 : Nat) : Int) : Rat) := Rat.intCast_le_intCast.mpr (by omega)
      exact this)
    have body := body_ways c hB (h := h) (lot := lot) (S := S) sx ll (a4 := a4) (a5 := a5) (a6 := a6) (a7 := a7)
    have w1 := wayF_in (cs := cs) c.one (lot := lot) (S := S)
    show WpS (match wb0 [some (.tup (cs.map fr)), some (lotD lot), some (fr x), some (lotD S), a4, a5, a6, a7] h with
      | .nx ρ2 h2 => loopF _ _ _ _ ρ2 h2
      | .ct ρ2 h2 => loopF _ _ _ _ ρ2 h2
      | .bk ρ2 h2 => .nx ρ2 h2
      | r => r) N T
    generalize wb0 [some (.tup (cs.map fr)), some (lotD lot), some (fr x), some (lotD S), a4, a5, a6, a7] h = r at body ⊢
    cases r with
    | nx ρ2 h2 =>
      obtain ⟨rfl, b4, b5, b6, b7, rfl⟩ := body
      refine ways_loop c hB ll L (x + wayF cs lot S) (n + 1) _ _ _ _ _ (xi.add wayF_iq) ?_ ?_ (by omega) fun a3 a4 a5 a6 a7 => ?_
      · have := w1.1; grind
      · have e : (((n + 1 : Nat) : Int) : Rat) = ((n : Int) : Rat) + 1 := by
          rw [show ((n + 1 : Nat) : Int) = (n : Int) + 1 by omega, Rat.intCast_add]
          rfl
        rw [e]
        have := w1.2
        grind
      · have e : x + wayF cs lot S + smL (wayF cs lot) L = x + smL (wayF cs lot) (S :: L) := by
          show _ = x + (wayF cs lot S + smL (wayF cs lot) L)
          grind
        rw [e]
        exact kk _ _ _ _ _
    | ret d h2 => exact body.elim
    | bk ρ2 h2 => exact body.elim
    | ct ρ2 h2 => exact body.elim
    | exc ρ2 C fs h2 => exact body.elim
    | bad => exact body.elim
theorem lways_eq {cs : List Rat} {B : Nat} (c : Cs B cs) (hB : B ≤ 1000) (l6 : cs.length ≤ 6) {h : Hs} {lot : List Nat} (inc : Inc cs.length 0 lot) : m__law_ways [.tup (cs.map fr), lotD lot] h = .ok (fr (wn cs lot)) h := by
  have ll : lot.length ≤ 1000 := by have := inc.len (Nat.zero_le _); omega
  refine eq_of_wp ?_
  unfold m__law_ways
  rw [ways_code]
  have e1 : ent 8 [D.tup (cs.map fr), lotD lot] = [some (.tup (cs.map fr)), some (lotD lot), none, none, none, none, none, none] := rfl
  have s2 : sSet 2 (eTup (aC (eC (.int 0)) (aC (eC (.int 1)) aN))) [some (.tup (cs.map fr)), some (lotD lot), none, none, none, none, none, none] h = .nx [some (.tup (cs.map fr)), some (lotD lot), some (fr 0), none, none, none, none, none] h := by
    simp only [eV0, eVs, bind_ok', then_ok, q_e2, q_e1, q_eC, q_aC, q_aN, q_sPar2, q_sPar3, q_sSet, q_sRet, q_eBf, q_nBf, q_eCall, q_tst, q_tru, q_ifV, q_sIf, q_eTup, q_sPass, q_sExp, q_eLm, q_nLst, q_frz, q_thaw, q_iSeq, q_iR2, q_iR3, q_iEnumD, q_iZip, q_andX, q_andT, q_orT, q_notT, q_eCh, q_sPat, q_eSl, q_nSl, q_pS, q_pN, q_sRetN, q_tYes, q_eDct0, okL0, okL1, okL2, okL3, okL4, okL5, okL6, ent, List.map_cons, List.map_nil, List.length_cons, List.length_nil, List.set_cons_zero, List.set_cons_succ, List.replicate, List.cons_append, List.nil_append, Nat.reduceAdd, Nat.reduceSub, Nat.sub_self, Nat.sub_zero, zero_add', ↓reduceIte, Bool.false_eq_true, item0, item1, addD_ii, subD_ii, negD_i, absD_i, ltD_ii, leD_ii, gtD_ii, geD_ii, truD_bl, decide_true, decide_false]
    rfl
  have ln : lenD [.tup (cs.map fr)] h = .ok (.int (cs.length : Nat)) h := by
    have z := lenD_tup (xs := cs.map fr) (h := h)
    rwa [List.length_map] at z
  have se : iSeq (eCall 1 m__law_lots (aC (eBf lenD (aC (eV 0) aN)) aN)) [some (.tup (cs.map fr)), some (lotD lot), some (fr 0), none, none, none, none, none] h = .ok ⟨((lots cs.length).mergeSort (PySem.W.dataLe false enL)).map lotD, []⟩ h := seq_lst (by
    simp only [eV0, eVs, bind_ok', then_ok, q_e2, q_e1, q_eC, q_aC, q_aN, q_sPar2, q_sPar3, q_sSet, q_sRet, q_eBf, q_nBf, q_eCall, q_tst, q_tru, q_ifV, q_sIf, q_eTup, q_sPass, q_sExp, q_eLm, q_nLst, q_frz, q_thaw, q_iSeq, q_iR2, q_iR3, q_iEnumD, q_iZip, q_andX, q_andT, q_orT, q_notT, q_eCh, q_sPat, q_eSl, q_nSl, q_pS, q_pN, q_sRetN, q_tYes, q_eDct0, okL0, okL1, okL2, okL3, okL4, okL5, okL6, ent, List.map_cons, List.map_nil, List.length_cons, List.length_nil, List.set_cons_zero, List.set_cons_succ, List.replicate, List.cons_append, List.nil_append, Nat.reduceAdd, Nat.reduceSub, Nat.sub_self, Nat.sub_zero, zero_add', ↓reduceIte, Bool.false_eq_true, item0, item1, addD_ii, subD_ii, negD_i, absD_i, ltD_ii, leD_ii, gtD_ii, geD_ii, truD_bl, decide_true, decide_false, ln, llots_eq (n := cs.length) (by omega) h])
  have lm : ((lots cs.length).mergeSort (PySem.W.dataLe false enL)).length ≤ 64 := by
    rw [List.length_mergeSort, lots_len]
    exact Nat.le_trans (Nat.pow_le_pow_right (by decide) l6) (by decide)
  rw [wp_def, e1, wps_seq, s2, wps_nx, wps_seq, wps_for, se, wp_ok]
  refine ways_loop c hB ll _ 0 0 _ _ _ _ _ (Iq.zero.up (Nat.one_dvd _) (Dd_pos _)) Rat.le_refl (by decide +kernel) (by omega) fun a3 a4 a5 a6 a7 => ?_
  have e : (0 : Rat) + smL (wayF cs lot) ((lots cs.length).mergeSort (PySem.W.dataLe false enL)) = wn cs lot := by
    rw [smL_perm (List.mergeSort_perm _ _), ← ways_wn inc]
    show (0 : Rat) + ways cs lot = ways cs lot
    grind
  rw [e]
  simp only [eV0, eVs, bind_ok', then_ok, q_e2, q_e1, q_eC, q_aC, q_aN, q_sPar2, q_sPar3, q_sSet, q_sRet, q_eBf, q_nBf, q_eCall, q_tst, q_tru, q_ifV, q_sIf, q_eTup, q_sPass, q_sExp, q_eLm, q_nLst, q_frz, q_thaw, q_iSeq, q_iR2, q_iR3, q_iEnumD, q_iZip, q_andX, q_andT, q_orT, q_notT, q_eCh, q_sPat, q_eSl, q_nSl, q_pS, q_pN, q_sRetN, q_tYes, q_eDct0, okL0, okL1, okL2, okL3, okL4, okL5, okL6, ent, List.map_cons, List.map_nil, List.length_cons, List.length_nil, List.set_cons_zero, List.set_cons_succ, List.replicate, List.cons_append, List.nil_append, Nat.reduceAdd, Nat.reduceSub, Nat.sub_self, Nat.sub_zero, zero_add', ↓reduceIte, Bool.false_eq_true, item0, item1, addD_ii, subD_ii, negD_i, absD_i, ltD_ii, leD_ii, gtD_ii, geD_ii, truD_bl, decide_true, decide_false, wp_ok, wp_bad, wp_bind, wp_nox, wp_def, wps_then, wps_seq, wps_nx, wps_ret, wp_ite, wps_ite]
  exact ⟨trivial, trivial⟩
end Pl

set_option maxHeartbeats 1000000
/-! k01: equal to just what they should be -/
namespace Pl
open Dl Sh
local instance : Dl.Tb := ⟨fun _ => []⟩

def e01b_0 : SM := sSet 5 (eCall 3 m__law_bent_v3 (aC (eV 0) (aC (eV 1) (aC (eV 2) aN))))
def e01b_1 : SM := sIf (tru (eCall 1 m__law_are_chances_v2 (aC (eV 5) aN))) (sSeq (sPar2 6 7 (aC (eMake "Trials" 2 m_Trials___init___v3 (aC (eV 5) aN)) (aC (e2 eqD (eV 5) (eV 1)) aN))) (sIf (orT (tst (e2 neD (e2 (ownEq "Trials" m_Trials___eq___v3) (eV 2) (eV 6)) (eV 7))) (orT (tst (e2 neD (e2 (ownEq "Trials" m_Trials___eq___v3) (eV 6) (eV 2)) (eV 7))) (tst (e2 eqD (e2 (ownNe "Trials" m_Trials___eq___v3) (eV 2) (eV 6)) (eV 7))))) (sRet (eC (.bl false))) (sPass))) (sPass)
def e01_0 : SM := sSet 3 (eMake "Trials" 2 m_Trials___init___v3 (aC (eBf tupD (aC (frz (nLc (iSeq (eV 1)) (.nm 8) [8] (tYes') (eBf tupD (aC (frz (nBf listN (aC (eV 8) aN))) aN)))) aN)) aN))
def e01_1 : SM := sIf (orT (notT (tst (e2 (ownEq "Trials" m_Trials___eq___v3) (eV 2) (eV 3)))) (orT (tst (e2 (ownNe "Trials" m_Trials___eq___v3) (eV 2) (eV 3))) (tst (e2 neD (eBf reprD (aC (eFld "Trials" "chances" (eV 2)) aN)) (eBf reprD (aC (eV 1) aN)))))) (sRet (eC (.bl false))) (sPass)
def e01_2 : SM := sIf (tru (eBf anyD (aC (frz (nLc (iSeq (eTup (aC (eV 1) (aC (eC .non) (aC (eC (.int 0)) (aC (eC (.str "trials")) (aC (frz (nLst (aC (eV 2) aN))) aN))))))) (.nm 9) [9] (tYes') (orX (e2 (ownEqT "Trials" [.b "tuple", .b "NoneType", .b "int", .b "str", .b "list"] m_Trials___eq___v3) (eV 2) (eV 9)) (e1 notX (e2 (ownNeT "Trials" [.b "tuple", .b "NoneType", .b "int", .b "str", .b "list"] m_Trials___eq___v3) (eV 2) (eV 9)))))) aN))) (sRet (eC (.bl false))) (sPass)
def e01_3 : SM := sFor (iR1 (aC (eC (.int 4)) aN)) (.nm 4) (sSeq (e01b_0) (e01b_1))
theorem e01_code : c__law_equal_right = sSeq (e01_0) (sSeq (e01_1) (sSeq (e01_2) (sSeq (e01_3) (sRet (eC (.bl true)))))) := rfl
theorem TrAt.g2 {h h' : Hs} {i : Nat} {cs : List Rat} (t : TrAt h i cs) (g : Gb 2 h h') (i2 : 2 ≤ i) : TrAt h' i cs := by
  obtain ⟨fs, e, r⟩ := t
  exact ⟨fs, g.at i2 e, r⟩
theorem TrX.g2 {h h' : Hs} {i : Nat} {x : D} (t : TrX h i x) (g : Gb 2 h h') (i2 : 2 ≤ i) : TrX h' i x := by
  obtain ⟨fs, e, l⟩ := t
  exact ⟨fs, g.at i2 e, l⟩
abbrev ownZ : List (Tg × Tg × Bool) := [(.o "Trials", .o "Trials", true), (.b "tuple", .o "Trials", false), (.b "NoneType", .o "Trials", false), (.b "int", .o "Trials", false), (.b "str", .o "Trials", false), (.b "list", .o "Trials", false)]
theorem eqZ {h : Hs} {i j : Nat} {x y : D} (t : TrX h i x) (u : TrX h j y) (fx : Fz 8 x) (fy : Fz 8 y) : m_Trials___eq___v3 [.obj i, .obj j] h = .ok (.bl (decide (x = y))) h := by
  have f0 : eFld "Trials" "chances" (eV 0) [some (.obj i), some (.obj j)] h = .ok x h := fldX t eV0
  have f1 : eFld "Trials" "chances" (eV 1) [some (.obj i), some (.obj j)] h = .ok y h := fldX u (by simp only [eVs, eV0])
  have is : isiD ownZ [.obj j, .glo "Trials"] h = .ok (.bl true) h := by
    obtain ⟨fs, h1, h2⟩ := u
    have tg : tagOf h (.obj j) = some (.o "Trials") := by
      unfold tagOf
      simp only [h1]
    show (match tagOf h (.obj j), clsOf (.glo "Trials") with
      | some t, some u => (match kit ownZ t u with
        | some b => Dl.R.ok (D.bl b) h
        | none => .bad)
      | _, _ => .bad) = _
    rw [tg]
    rfl
  have eq : eqD x y h = .ok (.bl (decide (x = y))) h := eqD_fz fx fy
  refine mdef_ret (h' := h) ?_
  unfold c_Trials___eq___v3
  have e1 : ent 2 [D.obj i, .obj j] = [some (.obj i), some (.obj j)] := rfl
  rw [e1]
  simp only [eV0, eVs, bind_ok', then_ok, q_e2, q_e1, q_eC, q_aC, q_aN, q_sPar2, q_sPar3, q_sSet, q_sRet, q_eBf, q_nBf, q_eCall, q_tst, q_tru, q_ifV, q_sIf, q_eTup, q_sPass, q_sExp, q_eLm, q_nLst, q_frz, q_thaw, q_iSeq, q_iR2, q_iR3, q_iEnumD, q_iZip, q_andX, q_andT, q_orT, q_notT, q_eCh, q_sPat, q_eSl, q_nSl, q_pS, q_pN, q_sRetN, q_tYes, q_eDct0, okL0, okL1, okL2, okL3, okL4, okL5, okL6, ent, List.map_cons, List.map_nil, List.length_cons, List.length_nil, List.set_cons_zero, List.set_cons_succ, List.replicate, List.cons_append, List.nil_append, Nat.reduceAdd, Nat.reduceSub, Nat.sub_self, Nat.sub_zero, zero_add', ↓reduceIte, Bool.false_eq_true, item0, item1, addD_ii, subD_ii, negD_i, absD_i, ltD_ii, leD_ii, gtD_ii, geD_ii, truD_bl, decide_true, decide_false, is, f0, f1, eq]
theorem eqZ_no {h : Hs} {i : Nat} {y : D} (is : isiD ownZ [y, .glo "Trials"] h = .ok (.bl false) h) : m_Trials___eq___v3 [.obj i, y] h = .ok (.bl false) h := by
  refine mdef_ret (h' := h) ?_
  unfold c_Trials___eq___v3
  have e1 : ent 2 [D.obj i, y] = [some (.obj i), some y] := rfl
  rw [e1]
  simp only [eV0, eVs, bind_ok', then_ok, q_e2, q_e1, q_eC, q_aC, q_aN, q_sPar2, q_sPar3, q_sSet, q_sRet, q_eBf, q_nBf, q_eCall, q_tst, q_tru, q_ifV, q_sIf, q_eTup, q_sPass, q_sExp, q_eLm, q_nLst, q_frz, q_thaw, q_iSeq, q_iR2, q_iR3, q_iEnumD, q_iZip, q_andX, q_andT, q_orT, q_notT, q_eCh, q_sPat, q_eSl, q_nSl, q_pS, q_pN, q_sRetN, q_tYes, q_eDct0, okL0, okL1, okL2, okL3, okL4, okL5, okL6, ent, List.map_cons, List.map_nil, List.length_cons, List.length_nil, List.set_cons_zero, List.set_cons_succ, List.replicate, List.cons_append, List.nil_append, Nat.reduceAdd, Nat.reduceSub, Nat.sub_self, Nat.sub_zero, zero_add', ↓reduceIte, Bool.false_eq_true, item0, item1, addD_ii, subD_ii, negD_i, absD_i, ltD_ii, leD_ii, gtD_ii, geD_ii, truD_bl, decide_true, decide_false, is]
theorem oeZ {h : Hs} {i j : Nat} {x y : D} (t : TrX h i x) (u : TrX h j y) (fx : Fz 8 x) (fy : Fz 8 y) : ownEq "Trials" m_Trials___eq___v3 (.obj i) (.obj j) h = .ok (.bl (decide (x = y))) h ∧ ownNe "Trials" m_Trials___eq___v3 (.obj i) (.obj j) h = .ok (.bl (!decide (x = y))) h := by
  have e := eqZ t u fx fy
  obtain ⟨fs, q1, q2⟩ := t
  obtain ⟨fs', q1', q2'⟩ := u
  constructor
  · unfold ownEq
    rw [fields_at q1, fields_at q1', e]
    rfl
  · unfold ownNe
    rw [fields_at q1, fields_at q1', e]
    rfl
abbrev tgZ : List Tg := [.b "tuple", .b "NoneType", .b "int", .b "str", .b "list"]
theorem oeT {h : Hs} {i : Nat} {x y : D} (t : TrX h i x) (tg : tagIn tgZ h y = true) (is : isiD ownZ [y, .glo "Trials"] h = .ok (.bl false) h) : ownEqT "Trials" tgZ m_Trials___eq___v3 (.obj i) y h = .ok (.bl false) h ∧ ownNeT "Trials" tgZ m_Trials___eq___v3 (.obj i) y h = .ok (.bl true) h := by
  have e := eqZ_no (i := i) is
  obtain ⟨fs, q1, q2⟩ := t
  constructor
  · unfold ownEqT
    rw [fields_at q1, e, tg]
    rfl
  · unfold ownNeT
    rw [fields_at q1, e, tg]
    rfl
/-! ### fractions are shown -/
theorem lit_fr {q : Rat} {n : Nat} (s : Sz 1000 q) : LitB (n + 1) 5000 (fr q) := by
  have up : ∀ i : Int, i.natAbs < 2 ^ 1000 → LitB n 2000 (.int i) := fun i hi => litB_int (Nat.lt_of_lt_of_le hi (Nat.pow_le_pow_right (by decide) (by decide)))
  refine (LitB.tup (n := n) (w := 2000) fun x hx => ?_).mono (Nat.le_refl _) (by simp)
  rcases List.mem_cons.mp hx with e | hx
  · rw [e]; exact up _ s.1
  · rw [List.mem_singleton.mp hx]; exact up _ (by rw [Int.natAbs_natCast]; exact s.2)
theorem repr_one {x : D} (l : LitB 40 500000 x) : ∃ S, PySem.PyData.strOk S = true ∧ ∀ g : Hs, reprD [x] g = .ok (.str S) g := by
  have L := l.mono (show 40 ≤ 62 by decide) (show 500000 ≤ 16777216 by decide)
  exact ⟨_, (reprD_lit (h := []) L.ok L.sz).2, fun g => (reprD_lit L.ok L.sz).1⟩
theorem sh1_sz {q : Rat} (s : Sh1 q) : Sz 1000 q := ⟨Nat.lt_of_lt_of_le s.2.2.1 (Nat.pow_le_pow_right (by decide) (by decide)), Nat.lt_of_lt_of_le s.2.2.2 (Nat.pow_le_pow_right (by decide) (by decide))⟩
theorem repr_row {qs : List Rat} (r : Drawn qs) : ∃ S, PySem.PyData.strOk S = true ∧ ∀ g : Hs, reprD [.tup (qs.map fr)] g = .ok (.str S) g := by
  refine repr_one ((LitB.tup (n := 39) (w := 5000) fun x hx => ?_).mono (by decide) (by rw [List.length_map]; have := r.2.1; omega))
  obtain ⟨q, hq, rfl⟩ := List.mem_map.mp hx
  exact lit_fr (sh1_sz (r.2.2 q hq))
/-! ### the statements -/
abbrev eE (qs : List Rat) (i : Nat) (a3 a4 a5 a6 a7 a8 a9 : Option D) : Env := [some (.obj 1), some (.tup (qs.map fr)), some (.obj i), a3, a4, a5, a6, a7, a8, a9]
section
variable {qs : List Rat} {h : Hs} {N i j : Nat} {a3 a4 a5 a6 a7 a8 a9 : Option D}
theorem er0 (r : Drawn qs) : e01_0 (eE qs i a3 a4 a5 a6 a7 a8 a9) h = .nx (eE qs i (some (.obj h.length)) a4 a5 a6 a7 a8 a9) (newX h (.tup (qs.map fr))) := by
  have c := comp_eq (ci := iSeq (eV 1)) (p := .nm 8) (own := [8]) (ce := eBf tupD (aC (frz (nBf listN (aC (eV 8) aN))) aN)) (ρ := eE qs i a3 a4 a5 a6 a7 a8 a9) (h := h) (xs := qs.map fr) (f := fun x => x)
    (seq_tup (by simp only [eE, eV0, eVs, bind_ok', then_ok, q_e2, q_e1, q_eC, q_aC, q_aN, q_sPar2, q_sPar3, q_sSet, q_sRet, q_eBf, q_nBf, q_eCall, q_tst, q_tru, q_ifV, q_sIf, q_eTup, q_sPass, q_sExp, q_eLm, q_nLst, q_frz, q_thaw, q_iSeq, q_iR2, q_iR3, q_iEnumD, q_iZip, q_andX, q_andT, q_orT, q_notT, q_eCh, q_sPat, q_eSl, q_nSl, q_pS, q_pN, q_sRetN, q_tYes, q_eDct0, okL0, okL1, okL2, okL3, okL4, okL5, okL6, ent, List.map_cons, List.map_nil, List.length_cons, List.length_nil, List.set_cons_zero, List.set_cons_succ, List.replicate, List.cons_append, List.nil_append, Nat.reduceAdd, Nat.reduceSub, Nat.sub_self, Nat.sub_zero, zero_add', ↓reduceIte, Bool.false_eq_true, item0, item1, addD_ii, subD_ii, negD_i, absD_i, ltD_ii, leD_ii, gtD_ii, geD_ii, truD_bl, decide_true, decide_false] <;> rfl)) (by rw [List.length_map]; have := r.2.1; omega) fun x hx => ⟨_, rfl, by
      obtain ⟨q, _, rfl⟩ := List.mem_map.mp hx
      simp only [eE, wipeD, eV0, eVs, bind_ok', then_ok, q_e2, q_e1, q_eC, q_aC, q_aN, q_sPar2, q_sPar3, q_sSet, q_sRet, q_eBf, q_nBf, q_eCall, q_tst, q_tru, q_ifV, q_sIf, q_eTup, q_sPass, q_sExp, q_eLm, q_nLst, q_frz, q_thaw, q_iSeq, q_iR2, q_iR3, q_iEnumD, q_iZip, q_andX, q_andT, q_orT, q_notT, q_eCh, q_sPat, q_eSl, q_nSl, q_pS, q_pN, q_sRetN, q_tYes, q_eDct0, okL0, okL1, okL2, okL3, okL4, okL5, okL6, ent, List.map_cons, List.map_nil, List.length_cons, List.length_nil, List.set_cons_zero, List.set_cons_succ, List.replicate, List.cons_append, List.nil_append, Nat.reduceAdd, Nat.reduceSub, Nat.sub_self, Nat.sub_zero, zero_add', ↓reduceIte, Bool.false_eq_true, item0, item1, addD_ii, subD_ii, negD_i, absD_i, ltD_ii, leD_ii, gtD_ii, geD_ii, truD_bl, decide_true, decide_false, lstN_fr, tupD_lst]
      all_goals rfl⟩
  rw [List.map_id'] at c
  have mk := make3 (h := h) (xs := qs.map fr) (ca := aC (eBf tupD (aC (frz (nLc (iSeq (eV 1)) (.nm 8) [8] (tYes') (eBf tupD (aC (frz (nBf listN (aC (eV 8) aN))) aN)))) aN)) aN) (ρ := eE qs i a3 a4 a5 a6 a7 a8 a9) (row_k3 r.2.2) (row_ch (drawn_row r)) .refl (by
    simp only [q_aC, q_aN, q_eBf, q_frz, c, bind_ok', tupD_lst])
  unfold e01_0
  rw [q_sSet, mk, then_ok]
  rfl
theorem er1 (r : Drawn qs) (t : TrX h i (.tup (qs.map fr))) (u : TrX h j (.tup (qs.map fr))) : e01_1 (eE qs i (some (.obj j)) a4 a5 a6 a7 a8 a9) h = .nx (eE qs i (some (.obj j)) a4 a5 a6 a7 a8 a9) h := by
  have f2 : Fz 8 (.tup (qs.map fr)) := ch_fz (row_ch (drawn_row r))
  obtain ⟨oe, on⟩ := oeZ t u f2 f2
  rw [decide_eq_true rfl] at oe on
  obtain ⟨S, oS, rS⟩ := repr_row r
  have f : eFld "Trials" "chances" (eV 2) (eE qs i (some (.obj j)) a4 a5 a6 a7 a8 a9) h = .ok (.tup (qs.map fr)) h := fldX t (by simp only [eVs, eV0])
  have v1 : eV 1 (eE qs i (some (.obj j)) a4 a5 a6 a7 a8 a9) h = .ok (.tup (qs.map fr)) h := by simp only [eVs, eV0]
  have v2 : eV 2 (eE qs i (some (.obj j)) a4 a5 a6 a7 a8 a9) h = .ok (.obj i) h := by simp only [eVs, eV0]
  have v3 : eV 3 (eE qs i (some (.obj j)) a4 a5 a6 a7 a8 a9) h = .ok (.obj j) h := by simp only [eVs, eV0]
  unfold e01_1
  simp only [q_sIf, q_orT, q_notT, q_tst, q_e2, v2, v3, bind_ok', oe, on, truD_bl, Bool.not_true, Bool.false_eq_true, ↓reduceIte, q_eBf, q_aC, q_aN, f, v1, rS, neD_str oS, then_ok, sPass]
theorem er2 (t : TrX h i (.tup (qs.map fr))) : e01_2 (eE qs i a3 a4 a5 a6 a7 a8 a9) h = .nx (eE qs i a3 a4 a5 a6 a7 a8 a9) h := by
  have c := comp_eq (ci := iSeq (eTup (aC (eV 1) (aC (eC .non) (aC (eC (.int 0)) (aC (eC (.str "trials")) (aC (frz (nLst (aC (eV 2) aN))) aN))))))) (p := .nm 9) (own := [9]) (ce := orX (e2 (ownEqT "Trials" tgZ m_Trials___eq___v3) (eV 2) (eV 9)) (e1 notX (e2 (ownNeT "Trials" tgZ m_Trials___eq___v3) (eV 2) (eV 9)))) (ρ := eE qs i a3 a4 a5 a6 a7 a8 a9) (h := h) (xs := [.tup (qs.map fr), .non, .int 0, .str "trials", .lst [.obj i]]) (f := fun _ => .bl false)
    (seq_tup (by simp only [eE, eV0, eVs, bind_ok', then_ok, q_e2, q_e1, q_eC, q_aC, q_aN, q_sPar2, q_sPar3, q_sSet, q_sRet, q_eBf, q_nBf, q_eCall, q_tst, q_tru, q_ifV, q_sIf, q_eTup, q_sPass, q_sExp, q_eLm, q_nLst, q_frz, q_thaw, q_iSeq, q_iR2, q_iR3, q_iEnumD, q_iZip, q_andX, q_andT, q_orT, q_notT, q_eCh, q_sPat, q_eSl, q_nSl, q_pS, q_pN, q_sRetN, q_tYes, q_eDct0, okL0, okL1, okL2, okL3, okL4, okL5, okL6, ent, List.map_cons, List.map_nil, List.length_cons, List.length_nil, List.set_cons_zero, List.set_cons_succ, List.replicate, List.cons_append, List.nil_append, Nat.reduceAdd, Nat.reduceSub, Nat.sub_self, Nat.sub_zero, zero_add', ↓reduceIte, Bool.false_eq_true, item0, item1, addD_ii, subD_ii, negD_i, absD_i, ltD_ii, leD_ii, gtD_ii, geD_ii, truD_bl, decide_true, decide_false])) (by simp) fun x hx => by
      refine ⟨_, rfl, ?_⟩
      have z : tagIn tgZ h x = true ∧ isiD ownZ [x, .glo "Trials"] h = .ok (.bl false) h := by
        simp only [List.mem_cons, List.not_mem_nil, or_false] at hx
        rcases hx with e | e | e | e | e
        all_goals rw [e]
        all_goals exact ⟨rfl, rfl⟩
      obtain ⟨o1, o2⟩ := oeT t z.1 z.2
      simp only [eE, wipeD, q_orX, q_e2, q_e1, eVs, eV0, List.set_cons_zero, List.set_cons_succ, bind_ok', o1, o2, truD_bl, notX_b, Bool.not_true]
  have a := anyD_bls (fun _ : D => false) [.tup (qs.map fr), .non, .int 0, .str "trials", .lst [.obj i]] h
  simp only [List.map_cons, List.map_nil] at c
  simp only [List.map_cons, List.map_nil, List.any_cons, List.any_nil, Bool.or_false] at a
  unfold e01_2
  simp only [q_sIf, q_tru, q_eBf, q_aC, q_aN, q_frz, c, bind_ok', a, truD_bl, Bool.false_eq_true, ↓reduceIte, then_ok, sPass]
theorem er3_no {x : D} (ar : m__law_are_chances_v2 [x] h = .ok (.bl false) h) : e01b_1 (eE qs i a3 a4 (some x) a6 a7 a8 a9) h = .nx (eE qs i a3 a4 (some x) a6 a7 a8 a9) h := by
  unfold e01b_1 eE
  simp only [eV0, eVs, bind_ok', then_ok, q_e2, q_e1, q_eC, q_aC, q_aN, q_sPar2, q_sPar3, q_sSet, q_sRet, q_eBf, q_nBf, q_eCall, q_tst, q_tru, q_ifV, q_sIf, q_eTup, q_sPass, q_sExp, q_eLm, q_nLst, q_frz, q_thaw, q_iSeq, q_iR2, q_iR3, q_iEnumD, q_iZip, q_andX, q_andT, q_orT, q_notT, q_eCh, q_sPat, q_eSl, q_nSl, q_pS, q_pN, q_sRetN, q_tYes, q_eDct0, okL0, okL1, okL2, okL3, okL4, okL5, okL6, ent, List.map_cons, List.map_nil, List.length_cons, List.length_nil, List.set_cons_zero, List.set_cons_succ, List.replicate, List.cons_append, List.nil_append, Nat.reduceAdd, Nat.reduceSub, Nat.sub_self, Nat.sub_zero, zero_add', ↓reduceIte, Bool.false_eq_true, item0, item1, addD_ii, subD_ii, negD_i, absD_i, ltD_ii, leD_ii, gtD_ii, geD_ii, truD_bl, decide_true, decide_false, ar, sPass]
theorem er3_yes (r : Drawn qs) (t : TrX h i (.tup (qs.map fr))) (i2 : 2 ≤ i) (two : 2 ≤ h.length) {xs : List D} (k : ∀ y ∈ xs, K3 h y) (yes : chB xs = true) : ∃ b6 b7, e01b_1 (eE qs i a3 a4 (some (.tup xs)) a6 a7 a8 a9) h = .nx (eE qs i a3 a4 (some (.tup xs)) b6 b7 a8 a9) (newX h (.tup xs)) := by
  have l : xs.length ≤ 1000 := by
    unfold chB at yes
    rw [Bool.and_eq_true, Bool.and_eq_true, decide_eq_true_iff, decide_eq_true_iff] at yes
    omega
  have ar := are3_tup k l (.refl (b := 2))
  rw [yes] at ar
  have f1 : Fz 8 (.tup xs) := ch_fz yes
  have f2 : Fz 8 (.tup (qs.map fr)) := ch_fz (row_ch (drawn_row r))
  have mk := make3 (h := h) (xs := xs) (ca := aC (eV 5) aN) (ρ := eE qs i a3 a4 (some (.tup xs)) a6 a7 a8 a9) k yes .refl (by simp only [eE, eV0, eVs, bind_ok', then_ok, q_e2, q_e1, q_eC, q_aC, q_aN, q_sPar2, q_sPar3, q_sSet, q_sRet, q_eBf, q_nBf, q_eCall, q_tst, q_tru, q_ifV, q_sIf, q_eTup, q_sPass, q_sExp, q_eLm, q_nLst, q_frz, q_thaw, q_iSeq, q_iR2, q_iR3, q_iEnumD, q_iZip, q_andX, q_andT, q_orT, q_notT, q_eCh, q_sPat, q_eSl, q_nSl, q_pS, q_pN, q_sRetN, q_tYes, q_eDct0, okL0, okL1, okL2, okL3, okL4, okL5, okL6, ent, List.map_cons, List.map_nil, List.length_cons, List.length_nil, List.set_cons_zero, List.set_cons_succ, List.replicate, List.cons_append, List.nil_append, Nat.reduceAdd, Nat.reduceSub, Nat.sub_self, Nat.sub_zero, zero_add', ↓reduceIte, Bool.false_eq_true, item0, item1, addD_ii, subD_ii, negD_i, absD_i, ltD_ii, leD_ii, gtD_ii, geD_ii, truD_bl, decide_true, decide_false])
  have u : TrX (newX h (.tup xs)) h.length (.tup xs) := trX_new
  have t2 : TrX (newX h (.tup xs)) i (.tup (qs.map fr)) := t.g2 .app i2
  have v5 : ∀ g, eV 5 (eE qs i a3 a4 (some (.tup xs)) a6 a7 a8 a9) g = .ok (.tup xs) g := fun g => by simp only [eVs, eV0]
  have v1 : ∀ g, eV 1 (eE qs i a3 a4 (some (.tup xs)) a6 a7 a8 a9) g = .ok (.tup (qs.map fr)) g := fun g => by simp only [eVs, eV0]
  have eq : ∀ g, eqD (.tup xs) (.tup (qs.map fr)) g = .ok (.bl (decide (D.tup xs = .tup (qs.map fr)))) g := fun g => eqD_fz f1 f2
  obtain ⟨o1, n1⟩ := oeZ t2 u f2 f1
  obtain ⟨o2, -⟩ := oeZ u t2 f1 f2
  have sy : decide (D.tup (qs.map fr) = .tup xs) = decide (D.tup xs = .tup (qs.map fr)) := decide_eq_decide.mpr ⟨Eq.symm, Eq.symm⟩
  rw [sy] at o1 n1
  refine ⟨some (.obj h.length), some (.bl (decide (D.tup xs = .tup (qs.map fr)))), ?_⟩
  generalize newX h (.tup xs) = h1 at mk u t2 o1 o2 n1 ⊢
  generalize decide (D.tup xs = .tup (qs.map fr)) = b at eq o1 o2 n1 ⊢
  have w1 : ∀ g : Hs, neD (.bl b) (.bl b) g = .ok (.bl false) g := fun g => by cases b <;> rfl
  have w2 : ∀ g : Hs, eqD (.bl (!b)) (.bl b) g = .ok (.bl false) g := fun g => by cases b <;> rfl
  have sp : sPar2 6 7 (aC (eMake "Trials" 2 m_Trials___init___v3 (aC (eV 5) aN)) (aC (e2 eqD (eV 5) (eV 1)) aN)) (eE qs i a3 a4 (some (.tup xs)) a6 a7 a8 a9) h = .nx (eE qs i a3 a4 (some (.tup xs)) (some (.obj h.length)) (some (.bl b)) a8 a9) h1 := by
    rw [q_sPar2, q_aC, mk, bind_ok', q_aC, q_e2, v5, bind_ok', v1, bind_ok', eq, bind_ok', q_aN, bind_ok', bind_ok', then_ok]
    rfl
  have v5' : tru (eCall 1 m__law_are_chances_v2 (aC (eV 5) aN)) (eE qs i a3 a4 (some (.tup xs)) a6 a7 a8 a9) h = .ok true h := by
    simp only [eE, eV0, eVs, bind_ok', then_ok, q_e2, q_e1, q_eC, q_aC, q_aN, q_sPar2, q_sPar3, q_sSet, q_sRet, q_eBf, q_nBf, q_eCall, q_tst, q_tru, q_ifV, q_sIf, q_eTup, q_sPass, q_sExp, q_eLm, q_nLst, q_frz, q_thaw, q_iSeq, q_iR2, q_iR3, q_iEnumD, q_iZip, q_andX, q_andT, q_orT, q_notT, q_eCh, q_sPat, q_eSl, q_nSl, q_pS, q_pN, q_sRetN, q_tYes, q_eDct0, okL0, okL1, okL2, okL3, okL4, okL5, okL6, ent, List.map_cons, List.map_nil, List.length_cons, List.length_nil, List.set_cons_zero, List.set_cons_succ, List.replicate, List.cons_append, List.nil_append, Nat.reduceAdd, Nat.reduceSub, Nat.sub_self, Nat.sub_zero, zero_add', ↓reduceIte, Bool.false_eq_true, item0, item1, addD_ii, subD_ii, negD_i, absD_i, ltD_ii, leD_ii, gtD_ii, geD_ii, truD_bl, decide_true, decide_false, ar]
  unfold e01b_1
  rw [q_sIf, v5', then_ok, if_pos rfl, seq_nx sp]
  have y2 : eV 2 (eE qs i a3 a4 (some (.tup xs)) (some (.obj h.length)) (some (.bl b)) a8 a9) h1 = .ok (.obj i) h1 := by simp only [eVs, eV0]
  have y6 : eV 6 (eE qs i a3 a4 (some (.tup xs)) (some (.obj h.length)) (some (.bl b)) a8 a9) h1 = .ok (.obj h.length) h1 := by simp only [eVs, eV0]
  have y7 : eV 7 (eE qs i a3 a4 (some (.tup xs)) (some (.obj h.length)) (some (.bl b)) a8 a9) h1 = .ok (.bl b) h1 := by simp only [eVs, eV0]
  simp only [q_sIf, q_orT, q_tst, q_e2, y2, y6, y7, bind_ok', o1, o2, n1, w1, w2, truD_bl, Bool.false_eq_true, ↓reduceIte, then_ok, sPass]
theorem er3 (r : Drawn qs) (th : Tp h N) (hN : N + 1000 ≤ 1000000) (t : TrAt h i qs) (i2 : 2 ≤ i) :
    WpS (e01_3 (eE qs i a3 a4 a5 a6 a7 a8 a9) h) (fun ρ h' => Tp h' (N + 320) ∧ Gb 2 h h' ∧ ∃ b4 b5 b6 b7, ρ = eE qs i a3 b4 b5 b6 b7 a8 a9) fun _ _ => False := by
  unfold e01_3
  rw [wps_for, iR1_eq (n := 4) (h' := h) (by simp only [eV0, eVs, bind_ok', then_ok, q_e2, q_e1, q_eC, q_aC, q_aN, q_sPar2, q_sPar3, q_sSet, q_sRet, q_eBf, q_nBf, q_eCall, q_tst, q_tru, q_ifV, q_sIf, q_eTup, q_sPass, q_sExp, q_eLm, q_nLst, q_frz, q_thaw, q_iSeq, q_iR2, q_iR3, q_iEnumD, q_iZip, q_andX, q_andT, q_orT, q_notT, q_eCh, q_sPat, q_eSl, q_nSl, q_pS, q_pN, q_sRetN, q_tYes, q_eDct0, okL0, okL1, okL2, okL3, okL4, okL5, okL6, ent, List.map_cons, List.map_nil, List.length_cons, List.length_nil, List.set_cons_zero, List.set_cons_succ, List.replicate, List.cons_append, List.nil_append, Nat.reduceAdd, Nat.reduceSub, Nat.sub_self, Nat.sub_zero, zero_add', ↓reduceIte, Bool.false_eq_true, item0, item1, addD_ii, subD_ii, negD_i, absD_i, ltD_ii, leD_ii, gtD_ii, geD_ii, truD_bl, decide_true, decide_false]; rfl) (by decide), wp_ok]
  refine wps_loop (fun j ρ h' => Tp h' (N + 80 * j) ∧ Gb 2 h h' ∧ ∃ b4 b5 b6 b7, ρ = eE qs i a3 b4 b5 b6 b7 a8 a9) _ 0 _ _ ?_ ?_ ⟨th, .refl, _, _, _, _, rfl⟩
  · rintro j y ρ h1 hy ⟨t1, g1, b4, b5, b6, b7, rfl⟩
    rw [Nat.zero_add] at t1 ⊢
    have hj := (List.getElem?_eq_some_iff.mp hy).1
    rw [rng_len] at hj
    refine ⟨rfl, eE qs i a3 (some y) b5 b6 b7 a8 a9, rfl, ?_⟩
    rw [wps_seq]
    unfold e01b_0
    have v : ∀ g : Hs, eV 0 (eE qs i a3 (some y) b5 b6 b7 a8 a9) g = .ok (.obj 1) g ∧ eV 1 (eE qs i a3 (some y) b5 b6 b7 a8 a9) g = .ok (.tup (qs.map fr)) g ∧ eV 2 (eE qs i a3 (some y) b5 b6 b7 a8 a9) g = .ok (.obj i) g := fun g => ⟨rfl, rfl, rfl⟩
    simp only [q_sSet, q_eCall, q_aC, q_aN, (v h1).1, (v h1).2.1, (v h1).2.2, bind_ok', List.length_cons, List.length_nil, Nat.reduceAdd, zero_add', decide_true, ↓reduceIte, wps_then]
    refine bent3_spec r t1 (t.g2 g1 i2) i2 (by omega) fun x h2 bx t2 g2 => ?_
    rw [wps_nx]
    have se : (eE qs i a3 (some y) b5 b6 b7 a8 a9).set 5 (some x) = eE qs i a3 (some y) (some x) b6 b7 a8 a9 := rfl
    rw [se]
    have tt := (t.g2 g1 i2).g2 g2 i2
    rcases bx with ⟨xs, rfl, k, l⟩ | n
    · by_cases c : chB xs = true
      · obtain ⟨c6, c7, e⟩ := er3_yes (a3 := a3) (a4 := some y) (a6 := b6) (a7 := b7) (a8 := a8) (a9 := a9) r (fldT tt) i2 (tape_dr.len t2) k c
        refine wps_of e ⟨tape_dr.mono (tape_dr.app t2) (by omega), (g1.trans g2).trans .app, _, _, _, _, rfl⟩
      · have c' : chB xs = false := by cases z : chB xs <;> simp_all
        have ar := are3_tup k l (.refl (b := 2))
        rw [c'] at ar
        exact wps_of (er3_no ar) ⟨tape_dr.mono t2 (by omega), g1.trans g2, _, _, _, _, rfl⟩
    · exact wps_of (er3_no (are3_no (n h2 .refl))) ⟨tape_dr.mono t2 (by omega), g1.trans g2, _, _, _, _, rfl⟩
  · rintro ρ h1 ⟨t1, g1, b4, b5, b6, b7, rfl⟩
    refine ⟨rfl, ?_⟩
    rw [Nat.zero_add, rng_len] at t1
    exact ⟨tape_dr.mono t1 (by omega), g1, _, _, _, _, rfl⟩
theorem equal_right {Q : D → Hs → Prop} (r : Drawn qs) (th : Tp h N) (hN : N + 1000 ≤ 1000000) (t : TrAt h i qs) (i2 : 2 ≤ i) (k : ∀ h', Tp h' (N + 320) → Gb 2 h h' → Q (.bl true) h') : Wp (m__law_equal_right [.obj 1, .tup (qs.map fr), .obj i] h) Q := by
  unfold m__law_equal_right
  rw [e01_code]
  have en : ent 10 [D.obj 1, .tup (qs.map fr), .obj i] = eE qs i none none none none none none none := rfl
  rw [wp_def, en, wps_seq]
  refine wps_of (er0 r) ?_
  have two := tape_dr.len th
  have u : TrX (newX h (.tup (qs.map fr))) h.length (.tup (qs.map fr)) := trX_new
  have t2 : TrAt (newX h (.tup (qs.map fr))) i qs := t.g2 .app i2
  have g1 : Gb 2 h (newX h (.tup (qs.map fr))) := .app
  have th1 : Tp (newX h (.tup (qs.map fr))) N := tape_dr.app th
  generalize newX h (.tup (qs.map fr)) = h1 at u t2 g1 th1
  rw [wps_seq]
  refine wps_of (er1 r (fldT t2) u) ?_
  rw [wps_seq]
  refine wps_of (er2 (fldT t2)) ?_
  rw [wps_seq]
  refine wps_mono (er3 r th1 hN t2 i2) (fun ρ h2 ⟨th2, g2, b4, b5, b6, b7, e⟩ => ?_) fun _ _ z => z.elim
  subst e
  simp only [eV0, eVs, bind_ok', then_ok, q_e2, q_e1, q_eC, q_aC, q_aN, q_sPar2, q_sPar3, q_sSet, q_sRet, q_eBf, q_nBf, q_eCall, q_tst, q_tru, q_ifV, q_sIf, q_eTup, q_sPass, q_sExp, q_eLm, q_nLst, q_frz, q_thaw, q_iSeq, q_iR2, q_iR3, q_iEnumD, q_iZip, q_andX, q_andT, q_orT, q_notT, q_eCh, q_sPat, q_eSl, q_nSl, q_pS, q_pN, q_sRetN, q_tYes, q_eDct0, okL0, okL1, okL2, okL3, okL4, okL5, okL6, ent, List.map_cons, List.map_nil, List.length_cons, List.length_nil, List.set_cons_zero, List.set_cons_succ, List.replicate, List.cons_append, List.nil_append, Nat.reduceAdd, Nat.reduceSub, Nat.sub_self, Nat.sub_zero, zero_add', ↓reduceIte, Bool.false_eq_true, item0, item1, addD_ii, subD_ii, negD_i, absD_i, ltD_ii, leD_ii, gtD_ii, geD_ii, truD_bl, decide_true, decide_false, wp_ok, wp_bad, wp_bind, wp_nox, wp_def, wps_then, wps_seq, wps_nx, wps_ret, wp_ite, wps_ite]
  exact k h2 th2 (g1.trans g2)
end
end Pl

set_option maxHeartbeats 1000000
/-! law k01 -/
namespace Pl
open Dl Sh
local instance : Dl.Tb := ⟨fun _ => []⟩

def k01b4_0 : SM := sIf (tst (e2 neD (eBf reprD (aC (eCall 2 m_win (aC (eV 5) (aC (eV 8) aN))) aN)) (eBf reprD (aC (eCall 2 m__law_win (aC (eV 4) (aC (eV 8) aN))) aN)))) (sRet (eC (.bl false))) (sPass)
def k01b7_0 : SM := sSet 10 (eCall 3 m__law_bent_v3 (aC (eV 1) (aC (eV 4) (aC (eV 5) aN))))
def k01b7_1 : SM := sIf (tst (e2 eqD (eCall 1 m__law_is_refused (aC (eV 10) aN)) (eCall 1 m__law_are_chances_v2 (aC (eV 10) aN)))) (sRet (eC (.bl false))) (sPass)
def k01t_0 : SM := sSet 4 (eCall 2 m__law_chances (aC (eV 1) (aC (ifV (tst (e2 eqD (eCall 2 m__law_draw (aC (eV 1) (aC (eC (.int 3)) aN))) (eC (.int 0)))) (eC (.int 12)) (eC (.int 6))) aN)))
def k01t_1 : SM := sPat (.tp [.nm 5, .nm 6]) (eTup (aC (eMake "Trials" 2 m_Trials___init___v3 (aC (eV 4) aN)) (aC (eBf lenD (aC (eV 4) aN)) aN)))
def k01t_2 : SM := sIf (notT (tru (eCall 3 m__law_equal_right (aC (eV 1) (aC (eV 4) (aC (eV 5) aN)))))) (sRet (eC (.bl false))) (sPass)
def k01t_3 : SM := sSet 7 (ifV (tst (e2 ltD (eV 6) (eC (.int 6)))) (eCall 1 m__law_lots (aC (eV 6) aN)) (frz (nLst aN)))
def k01t_4 : SM := sFor (iSeq (e2 addD (eV 7) (frz (nLc (iR1 (aC (eC (.int 5)) aN)) (.nm 11) [11] (tYes') (eBf tupD (aC (frz (nLc (iR1 (aC (eV 6) aN)) (.nm 12) [12] (tst (e2 eqD (eCall 2 m__law_draw (aC (eV 1) (aC (eC (.int 2)) aN))) (eC (.int 0)))) (eV 12))) aN)))))) (.nm 8) (k01b4_0)
def k01t_5 : SM := sSet 8 (eBf tupD (aC (frz (nLc (iR1 (aC (eV 6) aN)) (.nm 12) [12] (tst (e2 eqD (eCall 2 m__law_draw (aC (eV 1) (aC (eC (.int 2)) aN))) (eC (.int 0)))) (eV 12))) aN))
def k01t_6 : SM := sIf (andT (tst (e2 ltD (eV 6) (eC (.int 7)))) (tst (e2 neD (eCall 2 m_win (aC (eV 5) (aC (eV 8) aN))) (eCall 2 m__law_ways (aC (eV 4) (aC (eV 8) aN)))))) (sRet (eC (.bl false))) (sPass)
def k01t_7 : SM := sFor (iR1 (aC (eC (.int 7)) aN)) (.nm 9) (sSeq (k01b7_0) (k01b7_1))
def k01turn : SM := sSeq (k01t_0) (sSeq (k01t_1) (sSeq (k01t_2) (sSeq (k01t_3) (sSeq (k01t_4) (sSeq (k01t_5) (sSeq (k01t_6) (k01t_7)))))))
def k01s_1 : SM := sSet 2 (eMake "Trials" 2 m_Trials___init___v3 (aC (eTup (aC (eTup (aC (eC (.int 1)) (aC (eC (.int 2)) aN))) (aC (eTup (aC (eC (.int 1)) (aC (eC (.int 3)) aN))) (aC (eTup (aC (eC (.int 1)) (aC (eC (.int 6)) aN))) aN)))) aN))
def k01s_2 : SM := sIf (tst (e2 neD (frz (nLc (iSeq (eTup (aC (eTup aN) (aC (eTup (aC (eC (.int 0)) aN)) (aC (eTup (aC (eC (.int 0)) (aC (eC (.int 1)) (aC (eC (.int 2)) aN)))) (aC (eTup (aC (eC (.int 2)) aN)) aN)))))) (.nm 8) [8] (tYes') (eCall 2 m_win (aC (eV 2) (aC (eV 8) aN))))) (frz (nLst (aC (eTup (aC (eC (.int 0)) (aC (eC (.int 1)) aN))) (aC (eTup (aC (eC (.int 5)) (aC (eC (.int 18)) aN))) (aC (eTup (aC (eC (.int 17)) (aC (eC (.int 36)) aN))) (aC (eTup (aC (eC (.int 1)) (aC (eC (.int 6)) aN))) aN)))))))) (sRet (eC (.bl false))) (sPass)
def k01s_3 : SM := sIf (orT (notT (tru (eCall 1 m__law_is_refused (aC (eTup aN) aN)))) (orT (notT (tru (eCall 1 m__law_is_refused (aC (eTup (aC (eTup (aC (eC (.int 1)) (aC (eC (.int 2)) aN))) (aC (eTup (aC (eC (.int 2)) (aC (eC (.int 4)) aN))) aN))) aN)))) (tru (eCall 1 m__law_is_refused (aC (eTup (aC (eTup (aC (eC (.int 0)) (aC (eC (.int 1)) aN))) (aC (eTup (aC (eC (.int 1)) (aC (eC (.int 1)) aN))) aN))) aN))))) (sRet (eC (.bl false))) (sPass)
theorem k01_code : c_law_k01 = sSeq (sSet 1 (eCall 1 m__law_tape (aC (eV 0) aN))) (sSeq (k01s_1) (sSeq (k01s_2) (sSeq (k01s_3) (sSeq (sFor (iR1 (aC (eC (.int 3)) aN)) (.nm 3) (k01turn)) (sRet (eC (.bl true))))))) := rfl
theorem lot_draw {dm : List D → M D} {o : D} {b : Nat} {T : Hs → Nat → Prop} (R : Dr dm o b T) {ct : Env → M Bool} {ce : Env → M D} {ρ : Env} {p : Nat} (step : ∀ (x : D) (h : Hs) (N : Nat), T h N → N < 900000 → Wp (ct (ρ.set p (some x)) h) fun _ h2 => T h2 (N + 1) ∧ Gb b h h2) (he : ∀ (x : D) (h : Hs), ce (ρ.set p (some x)) h = .ok x h) : ∀ (n k N : Nat) (h : Hs) {Q : List D → Hs → Prop}, T h N → N + n < 900000 →
    (∀ l h', Inc (k + n) k l → T h' (N + n) → Gb b h h' → Q (l.map fun m => .int (m : Nat)) h') → Wp (lcF (.nm p) ct ce [] ρ (rng (k : Int) 1 n) h) Q
  | 0, k, N, h, Q, t, _, kk => by
    unfold rng lcF
    rw [if_pos okG_nil]
    exact kk [] h trivial t .refl
  | n + 1, k, N, h, Q, t, hN, kk => by
    unfold rng lcF
    rw [if_pos okG_nil]
    show Wp ((ct (ρ.set p (some (.int (k : Nat)))) h).nox.bind fun b h1 => if b = true then (ce (ρ.set p (some (.int (k : Nat)))) h1).nox.bind fun d h2 => (lcF (.nm p) ct ce [] ρ (rng ((k : Int) + 1) 1 n) h2).bind fun ds h3 => .ok (d :: ds) h3 else lcF (.nm p) ct ce [] ρ (rng ((k : Int) + 1) 1 n) h1) Q
    rw [wp_bind, wp_nox]
    have ek : (k : Int) + 1 = ((k + 1 : Nat) : Int) := by omega
    refine wp_mono (step _ h N t (by omega)) fun bb h1 ⟨t1, g1⟩ => ?_
    rw [ek]
    cases bb with
    | true =>
      rw [if_pos rfl, wp_bind, wp_nox, he, wp_ok, wp_bind]
      refine lot_draw R step he n (k + 1) (N + 1) h1 t1 (by omega) fun l h' inc t2 g2 => ?_
      rw [wp_ok]
      have z := kk (k :: l) h' ⟨Nat.le_refl _, by omega, by rw [show k + (n + 1) = k + 1 + n by omega]; exact inc⟩ (by rw [show N + (n + 1) = N + 1 + n by omega]; exact t2) (g1.trans g2)
      exact z
    | false =>
      rw [if_neg Bool.false_ne_true]
      refine lot_draw R step he n (k + 1) (N + 1) h1 t1 (by omega) fun l h' inc t2 g2 => ?_
      exact kk l h' (by rw [show k + (n + 1) = k + 1 + n by omega]; exact inc.from (Nat.le_succ _)) (by rw [show N + (n + 1) = N + 1 + n by omega]; exact t2) (g1.trans g2)
abbrev e1 (a0 a2 a3 : Option D) (qs : List Rat) (i : Nat) (a7 a8 a9 a10 a11 a12 : Option D) : Env := [a0, some (.obj 1), a2, a3, some (.tup (qs.map fr)), some (.obj i), some (.int (qs.length : Nat)), a7, a8, a9, a10, a11, a12]
def IsLot (n : Nat) (d : D) : Prop := ∃ l, Inc n 0 l ∧ d = lotD l
section
variable {qs : List Rat} {h : Hs} {N i : Nat} {a0 a2 a3 a7 a8 a9 a10 a11 a12 : Option D}
theorem wn_repr {cs : List Rat} (c : Cs 1000 cs) {l : List Nat} (inc : Inc cs.length 0 l) : ∃ S, PySem.PyData.strOk S = true ∧ ∀ g : Hs, reprD [fr (wn cs l)] g = .ok (.str S) g := repr_one ((lit_fr (n := 39) (wn_sz c inc)).mono (by decide) (by decide))
theorem rnd_lot (n : Nat) (n12 : n ≤ 12) {ρ : Env} (v1 : ∀ (z : Option D) g, eV 1 (ρ.set 12 z) g = .ok (.obj 1) g) (v12 : ∀ (x : D) g, eV 12 ((ρ.set 12 none).set 12 (some x)) g = .ok x g) (s12 : ∀ x : D, (ρ.set 12 none).set 12 (some x) = ρ.set 12 (some x)) (wp : wipeD ρ [12] = ρ.set 12 none) (v6 : ∀ g, eV 6 ρ g = .ok (.int (n : Nat)) g) (th : Tp h N) (hN : N + 100 ≤ 800000) {Q : D → Hs → Prop} (k : ∀ l h', Inc n 0 l → Tp h' (N + n) → Gb 2 h h' → Q (lotD l) h') {r0 : Dl.R D} (hr0 : eBf tupD (aC (frz (nLc (iR1 (aC (eV 6) aN)) (.nm 12) [12] (tst (e2 eqD (eCall 2 m__law_draw (aC (eV 1) (aC (eC (.int 2)) aN))) (eC (.int 0)))) (eV 12))) aN) ρ h = r0) :
    Wp r0 Q := by
  subst hr0
  have i8 : iR1 (aC (eV 6) aN) ρ h = .ok ⟨rng 0 1 n, []⟩ h := iR1_eq (n := n) (h' := h) (by simp only [q_aC, q_aN, v6, bind_ok']) (by omega)
  rw [q_eBf, wp_bind, q_aC, wp_bind, q_frz, wp_bind, nLc_eq, i8, bind_ok']
  show Wp (if okLen (rng 0 1 n).length = true then _ else _) _
  rw [rng_len, if_pos (okLen_of (by omega)), wp]
  refine lot_draw tape_dr (p := 12) (fun x h N t hN => ?_) (fun x h => v12 x h) n 0 N h th (by omega) fun lot h2 inc t2 g2 => ?_
  · have v1' : eV 1 ((ρ.set 12 none).set 12 (some x)) h = .ok (.obj 1) h := by rw [s12]; exact v1 _ _
    simp only [q_tst, q_e2, q_eCall, q_aC, q_aN, q_eC, v1', bind_ok', List.length_cons, List.length_nil, Nat.reduceAdd, zero_add', decide_true, ↓reduceIte, wp_bind]
    refine tape_dr.draw t (sides := 2) (by decide) (by decide) (by omega) fun d h1 d0 d1 t1 g1 => ?_
    simp only [wp_ok, eqD_ii, wp_bind]
    exact ⟨t1, g1⟩
  rw [Nat.zero_add] at inc
  simp only [q_aN, bind_ok', wp_ok, tupD_lst]
  exact k lot h2 inc t2 g2
theorem wp_lc' {p : Pat} {ce : Env → M D} {gs : List (Nat × List D)} {ρ : Env} (I : Nat → Hs → Prop) (P : D → Prop) {xs : List D} {i : Nat} {Q : List D → Hs → Prop} {r0 : Dl.R (List D)} (hr0 : lcF p tYes' ce gs ρ xs h = r0)
    (step : ∀ j x h, xs[j]? = some x → I (i + j) h → okG gs h = true ∧ ∃ ρ1, patD p x ρ = some ρ1 ∧ Wp (ce ρ1 h) fun d h' => P d ∧ I (i + j + 1) h')
    (fin : ∀ h, I (i + xs.length) h → okG gs h = true) (st : I i h) (k : ∀ ds h', ds.length = xs.length → (∀ d ∈ ds, P d) → I (i + xs.length) h' → Q ds h') : Wp r0 Q := by
  subst hr0
  exact wp_lc I P xs i h step fin st k
theorem t4_body (r : Drawn qs) (t : TrAt h i qs) {l : List Nat} (inc : Inc qs.length 0 l) : k01b4_0 (e1 a0 a2 a3 qs i a7 (some (lotD l)) a9 a10 a11 a12) h = .nx (e1 a0 a2 a3 qs i a7 (some (lotD l)) a9 a10 a11 a12) h := by
  have c := dr_cs r
  have l12 := r.2.1
  have w := win_eq c (by decide) (by omega) t inc
  have lw := lwin_eq c (by decide) (h := h) inc
  obtain ⟨S, oS, rS⟩ := wn_repr c inc
  unfold k01b4_0 e1
  simp only [eV0, eVs, bind_ok', then_ok, q_e2, q_e1, q_eC, q_aC, q_aN, q_sPar2, q_sPar3, q_sSet, q_sRet, q_eBf, q_nBf, q_eCall, q_tst, q_tru, q_ifV, q_sIf, q_eTup, q_sPass, q_sExp, q_eLm, q_nLst, q_frz, q_thaw, q_iSeq, q_iR2, q_iR3, q_iEnumD, q_iZip, q_andX, q_andT, q_orT, q_notT, q_eCh, q_sPat, q_eSl, q_nSl, q_pS, q_pN, q_sRetN, q_tYes, q_eDct0, okL0, okL1, okL2, okL3, okL4, okL5, okL6, ent, List.map_cons, List.map_nil, List.length_cons, List.length_nil, List.set_cons_zero, List.set_cons_succ, List.replicate, List.cons_append, List.nil_append, Nat.reduceAdd, Nat.reduceSub, Nat.sub_self, Nat.sub_zero, zero_add', ↓reduceIte, Bool.false_eq_true, item0, item1, addD_ii, subD_ii, negD_i, absD_i, ltD_ii, leD_ii, gtD_ii, geD_ii, truD_bl, decide_true, decide_false, w, lw, rS, neD_str oS, sPass]
theorem t4_all (r : Drawn qs) (t : TrAt h i qs) : ∀ (L : List D) (a8 : Option D), (∀ d ∈ L, IsLot qs.length d) → WpS (loopF (.nm 8) k01b4_0 [] L (e1 a0 a2 a3 qs i a7 a8 a9 a10 a11 a12) h) (fun ρ h' => h' = h ∧ ∃ b8, ρ = e1 a0 a2 a3 qs i a7 b8 a9 a10 a11 a12) fun _ _ => False
  | [], a8, _ => by
    unfold loopF
    exact ⟨rfl, _, rfl⟩
  | d :: L, a8, hd => by
    obtain ⟨l, inc, e⟩ := hd d List.mem_cons_self
    have bd := t4_body (a0 := a0) (a2 := a2) (a3 := a3) (a7 := a7) (a9 := a9) (a10 := a10) (a11 := a11) (a12 := a12) r t inc
    unfold loopF
    rw [if_pos okG_nil, e]
    show WpS (match k01b4_0 (e1 a0 a2 a3 qs i a7 (some (lotD l)) a9 a10 a11 a12) h with
      | .nx ρ2 h2 => loopF _ _ _ _ ρ2 h2
      | .ct ρ2 h2 => loopF _ _ _ _ ρ2 h2
      | .bk ρ2 h2 => .nx ρ2 h2
      | r => r) _ _
    rw [bd]
    exact t4_all r t L _ fun d hd' => hd d (List.mem_cons_of_mem _ hd')
theorem t3' (r : Drawn qs) : ∃ L : List D, (∀ d ∈ L, IsLot qs.length d) ∧ L.length ≤ 64 ∧ k01t_3 (e1 a0 a2 a3 qs i a7 a8 a9 a10 a11 a12) h = .nx (e1 a0 a2 a3 qs i (some (.lst L)) a8 a9 a10 a11 a12) h := by
  by_cases z : qs.length < 6
  · refine ⟨((lots qs.length).mergeSort (PySem.W.dataLe false enL)).map lotD, fun d hd => ?_, ?_, ?_⟩
    · obtain ⟨l, hl, rfl⟩ := List.mem_map.mp hd
      exact ⟨l, lots_inc (List.mem_mergeSort.mp hl), rfl⟩
    · rw [List.length_map, List.length_mergeSort, lots_len]
      exact Nat.le_trans (Nat.pow_le_pow_right (by decide) (show qs.length ≤ 6 by omega)) (by decide)
    · have ll := llots_eq (n := qs.length) (by omega) h
      unfold k01t_3 e1
      simp only [eV0, eVs, bind_ok', then_ok, q_e2, q_e1, q_eC, q_aC, q_aN, q_sPar2, q_sPar3, q_sSet, q_sRet, q_eBf, q_nBf, q_eCall, q_tst, q_tru, q_ifV, q_sIf, q_eTup, q_sPass, q_sExp, q_eLm, q_nLst, q_frz, q_thaw, q_iSeq, q_iR2, q_iR3, q_iEnumD, q_iZip, q_andX, q_andT, q_orT, q_notT, q_eCh, q_sPat, q_eSl, q_nSl, q_pS, q_pN, q_sRetN, q_tYes, q_eDct0, okL0, okL1, okL2, okL3, okL4, okL5, okL6, ent, List.map_cons, List.map_nil, List.length_cons, List.length_nil, List.set_cons_zero, List.set_cons_succ, List.replicate, List.cons_append, List.nil_append, Nat.reduceAdd, Nat.reduceSub, Nat.sub_self, Nat.sub_zero, zero_add', ↓reduceIte, Bool.false_eq_true, item0, item1, addD_ii, subD_ii, negD_i, absD_i, ltD_ii, leD_ii, gtD_ii, geD_ii, truD_bl, decide_true, decide_false, decide_eq_true (show ((qs.length : Nat) : Int) < 6 by omega), ll]
  · refine ⟨[], (fun d hd => by cases hd), by simp, ?_⟩
    unfold k01t_3 e1
    simp only [eV0, eVs, bind_ok', then_ok, q_e2, q_e1, q_eC, q_aC, q_aN, q_sPar2, q_sPar3, q_sSet, q_sRet, q_eBf, q_nBf, q_eCall, q_tst, q_tru, q_ifV, q_sIf, q_eTup, q_sPass, q_sExp, q_eLm, q_nLst, q_frz, q_thaw, q_iSeq, q_iR2, q_iR3, q_iEnumD, q_iZip, q_andX, q_andT, q_orT, q_notT, q_eCh, q_sPat, q_eSl, q_nSl, q_pS, q_pN, q_sRetN, q_tYes, q_eDct0, okL0, okL1, okL2, okL3, okL4, okL5, okL6, ent, List.map_cons, List.map_nil, List.length_cons, List.length_nil, List.set_cons_zero, List.set_cons_succ, List.replicate, List.cons_append, List.nil_append, Nat.reduceAdd, Nat.reduceSub, Nat.sub_self, Nat.sub_zero, zero_add', ↓reduceIte, Bool.false_eq_true, item0, item1, addD_ii, subD_ii, negD_i, absD_i, ltD_ii, leD_ii, gtD_ii, geD_ii, truD_bl, decide_true, decide_false, decide_eq_false (show ¬ ((qs.length : Nat) : Int) < 6 by omega)]
    all_goals rfl
theorem t4 (r : Drawn qs) (t : TrAt h i qs) (i2 : 2 ≤ i) (th : Tp h N) (hN : N + 1000 ≤ 800000) {L : List D} (hL : ∀ d ∈ L, IsLot qs.length d) (lL : L.length ≤ 64) {r0 : SR} (hr0 : k01t_4 (e1 a0 a2 a3 qs i (some (.lst L)) a8 a9 a10 a11 a12) h = r0) :
    WpS r0 (fun ρ h' => Tp h' (N + 60) ∧ Gb 2 h h' ∧ ∃ b8, ρ = e1 a0 a2 a3 qs i (some (.lst L)) b8 a9 a10 a11 a12) fun _ _ => False := by
  subst hr0
  have l12 := r.2.1
  unfold k01t_4
  have v7 : ∀ g : Hs, eV 7 (e1 a0 a2 a3 qs i (some (.lst L)) a8 a9 a10 a11 a12) g = .ok (.lst L) g := fun g => by simp only [e1, eVs, eV0]
  rw [wps_for, q_iSeq, wp_bind, q_e2, v7, bind_ok', wp_bind, q_frz, wp_bind, nLc_eq, iR1_eq (n := 5) (h' := h) (by simp only [eV0, eVs, bind_ok', then_ok, q_e2, q_e1, q_eC, q_aC, q_aN, q_sPar2, q_sPar3, q_sSet, q_sRet, q_eBf, q_nBf, q_eCall, q_tst, q_tru, q_ifV, q_sIf, q_eTup, q_sPass, q_sExp, q_eLm, q_nLst, q_frz, q_thaw, q_iSeq, q_iR2, q_iR3, q_iEnumD, q_iZip, q_andX, q_andT, q_orT, q_notT, q_eCh, q_sPat, q_eSl, q_nSl, q_pS, q_pN, q_sRetN, q_tYes, q_eDct0, okL0, okL1, okL2, okL3, okL4, okL5, okL6, ent, List.map_cons, List.map_nil, List.length_cons, List.length_nil, List.set_cons_zero, List.set_cons_succ, List.replicate, List.cons_append, List.nil_append, Nat.reduceAdd, Nat.reduceSub, Nat.sub_self, Nat.sub_zero, zero_add', ↓reduceIte, Bool.false_eq_true, item0, item1, addD_ii, subD_ii, negD_i, absD_i, ltD_ii, leD_ii, gtD_ii, geD_ii, truD_bl, decide_true, decide_false]; rfl) (by decide), bind_ok']
  show Wp (if okLen (rng 0 1 5).length = true then _ else _) _
  rw [rng_len, if_pos (okLen_of (by decide))]
  generalize hr : lcF _ _ _ _ _ _ _ = r1
  refine wp_lc' (fun j h' => Tp h' (N + 12 * j) ∧ Gb 2 h h') (IsLot qs.length) (i := 0) hr (fun j x h1 hx ⟨t1, g1⟩ => ?_) (fun _ _ => okG_nil) ⟨th, .refl⟩ fun ds h1 lds hds ⟨t1, g1⟩ => ?_
  · have hj := (List.getElem?_eq_some_iff.mp hx).1
    rw [rng_len] at hj
    rw [Nat.zero_add] at t1 ⊢
    refine ⟨okG_nil, [a0, some (.obj 1), a2, a3, some (.tup (qs.map fr)), some (.obj i), some (.int (qs.length : Nat)), some (.lst L), a8, a9, a10, some x, a12], rfl, ?_⟩
    generalize hr2 : eBf _ _ _ _ = r2
    refine rnd_lot qs.length l12 (fun _ _ => by simp only [List.set_cons_zero, List.set_cons_succ, eVs, eV0]) (fun _ _ => by simp only [List.set_cons_zero, List.set_cons_succ, eVs, eV0]) (fun _ => rfl) rfl (fun _ => by simp only [eVs, eV0]) t1 (by omega) (fun l h2 inc t2 g2 => ?_) hr2
    exact ⟨⟨l, inc, rfl⟩, tape_dr.mono t2 (by omega), g1.trans g2⟩
  · rw [rng_len] at lds t1
    have ad : addD (.lst L) (.lst ds) h1 = .ok (.lst (L ++ ds)) h1 := addD_ll (by omega)
    have it : itOf h1 (.lst (L ++ ds)) = some ⟨L ++ ds, []⟩ := rfl
    rw [wp_ok, ad, wp_ok]
    simp only [it, okG_nil, ↓reduceIte, wp_ok]
    refine wps_mono (t4_all r (t.g2 g1 i2) (L ++ ds) a8 fun d hd => ?_) (fun ρ h2 ⟨e, b8, e2⟩ => ?_) fun _ _ z => z.elim
    · rcases List.mem_append.mp hd with q | q
      · exact hL d q
      · exact hds d q
    · subst e e2
      exact ⟨tape_dr.mono t1 (by omega), g1, _, rfl⟩
theorem t5 (r : Drawn qs) (th : Tp h N) (hN : N + 1000 ≤ 800000) {r0 : SR} (hr0 : k01t_5 (e1 a0 a2 a3 qs i a7 a8 a9 a10 a11 a12) h = r0) :
    WpS r0 (fun ρ h' => Tp h' (N + 12) ∧ Gb 2 h h' ∧ ∃ l, Inc qs.length 0 l ∧ ρ = e1 a0 a2 a3 qs i a7 (some (lotD l)) a9 a10 a11 a12) fun _ _ => False := by
  subst hr0
  have l12 := r.2.1
  unfold k01t_5
  rw [q_sSet, wps_then]
  generalize hr2 : eBf _ _ _ _ = r2
  refine rnd_lot qs.length l12 (fun _ _ => by simp only [e1, List.set_cons_zero, List.set_cons_succ, eVs, eV0]) (fun _ _ => by simp only [e1, List.set_cons_zero, List.set_cons_succ, eVs, eV0]) (fun _ => rfl) rfl (fun _ => by simp only [e1, eVs, eV0]) th (by omega) (fun l h2 inc t2 g2 => ?_) hr2
  exact ⟨tape_dr.mono t2 (by omega), g2, l, inc, rfl⟩
theorem t6 (r : Drawn qs) (t : TrAt h i qs) {l : List Nat} (inc : Inc qs.length 0 l) : k01t_6 (e1 a0 a2 a3 qs i a7 (some (lotD l)) a9 a10 a11 a12) h = .nx (e1 a0 a2 a3 qs i a7 (some (lotD l)) a9 a10 a11 a12) h := by
  have c := dr_cs r
  have l12 := r.2.1
  by_cases z : qs.length ≤ 6
  · have w := win_eq c (by decide) (by omega) t inc
    have lw := lways_eq c (by decide) z (h := h) inc
    have f8 := (fz_fr (wn qs l)).mono (show 1 ≤ 8 by decide)
    have ne : neD (fr (wn qs l)) (fr (wn qs l)) h = .ok (.bl false) h := by
      rw [neD_fz f8 f8, decide_eq_true rfl]
      rfl
    unfold k01t_6 e1
    simp only [eV0, eVs, bind_ok', then_ok, q_e2, q_e1, q_eC, q_aC, q_aN, q_sPar2, q_sPar3, q_sSet, q_sRet, q_eBf, q_nBf, q_eCall, q_tst, q_tru, q_ifV, q_sIf, q_eTup, q_sPass, q_sExp, q_eLm, q_nLst, q_frz, q_thaw, q_iSeq, q_iR2, q_iR3, q_iEnumD, q_iZip, q_andX, q_andT, q_orT, q_notT, q_eCh, q_sPat, q_eSl, q_nSl, q_pS, q_pN, q_sRetN, q_tYes, q_eDct0, okL0, okL1, okL2, okL3, okL4, okL5, okL6, ent, List.map_cons, List.map_nil, List.length_cons, List.length_nil, List.set_cons_zero, List.set_cons_succ, List.replicate, List.cons_append, List.nil_append, Nat.reduceAdd, Nat.reduceSub, Nat.sub_self, Nat.sub_zero, zero_add', ↓reduceIte, Bool.false_eq_true, item0, item1, addD_ii, subD_ii, negD_i, absD_i, ltD_ii, leD_ii, gtD_ii, geD_ii, truD_bl, decide_true, decide_false, decide_eq_true (show ((qs.length : Nat) : Int) < 7 by omega), w, lw, ne, sPass]
  · unfold k01t_6 e1
    simp only [eV0, eVs, bind_ok', then_ok, q_e2, q_e1, q_eC, q_aC, q_aN, q_sPar2, q_sPar3, q_sSet, q_sRet, q_eBf, q_nBf, q_eCall, q_tst, q_tru, q_ifV, q_sIf, q_eTup, q_sPass, q_sExp, q_eLm, q_nLst, q_frz, q_thaw, q_iSeq, q_iR2, q_iR3, q_iEnumD, q_iZip, q_andX, q_andT, q_orT, q_notT, q_eCh, q_sPat, q_eSl, q_nSl, q_pS, q_pN, q_sRetN, q_tYes, q_eDct0, okL0, okL1, okL2, okL3, okL4, okL5, okL6, ent, List.map_cons, List.map_nil, List.length_cons, List.length_nil, List.set_cons_zero, List.set_cons_succ, List.replicate, List.cons_append, List.nil_append, Nat.reduceAdd, Nat.reduceSub, Nat.sub_self, Nat.sub_zero, zero_add', ↓reduceIte, Bool.false_eq_true, item0, item1, addD_ii, subD_ii, negD_i, absD_i, ltD_ii, leD_ii, gtD_ii, geD_ii, truD_bl, decide_true, decide_false, decide_eq_false (show ¬ ((qs.length : Nat) : Int) < 7 by omega), sPass]
theorem t7_body {x : D} {b : Bool} {h' : Hs} (ref : m__law_is_refused [x] h = .ok (.bl (!b)) h') (are : m__law_are_chances_v2 [x] h' = .ok (.bl b) h') : k01b7_1 (e1 a0 a2 a3 qs i a7 a8 a9 (some x) a11 a12) h = .nx (e1 a0 a2 a3 qs i a7 a8 a9 (some x) a11 a12) h' := by
  have eq : eqD (.bl (!b)) (.bl b) h' = .ok (.bl false) h' := by cases b <;> rfl
  unfold k01b7_1 e1
  simp only [eV0, eVs, bind_ok', then_ok, q_e2, q_e1, q_eC, q_aC, q_aN, q_sPar2, q_sPar3, q_sSet, q_sRet, q_eBf, q_nBf, q_eCall, q_tst, q_tru, q_ifV, q_sIf, q_eTup, q_sPass, q_sExp, q_eLm, q_nLst, q_frz, q_thaw, q_iSeq, q_iR2, q_iR3, q_iEnumD, q_iZip, q_andX, q_andT, q_orT, q_notT, q_eCh, q_sPat, q_eSl, q_nSl, q_pS, q_pN, q_sRetN, q_tYes, q_eDct0, okL0, okL1, okL2, okL3, okL4, okL5, okL6, ent, List.map_cons, List.map_nil, List.length_cons, List.length_nil, List.set_cons_zero, List.set_cons_succ, List.replicate, List.cons_append, List.nil_append, Nat.reduceAdd, Nat.reduceSub, Nat.sub_self, Nat.sub_zero, zero_add', ↓reduceIte, Bool.false_eq_true, item0, item1, addD_ii, subD_ii, negD_i, absD_i, ltD_ii, leD_ii, gtD_ii, geD_ii, truD_bl, decide_true, decide_false, ref, are, eq, sPass]
theorem t7_one {x : D} (bx : B3 h x) : ∃ b l, m__law_is_refused [x] h = .ok (.bl (!b)) (h ++ l) ∧ m__law_are_chances_v2 [x] (h ++ l) = .ok (.bl b) (h ++ l) := by
  rcases bx with ⟨xs, rfl, k, l⟩ | n
  · by_cases c : chB xs = true
    · have ar := are3_tup k l (g := newX h (.tup xs)) .app
      rw [c] at ar
      exact ⟨true, _, ref3_no fun ca ρ e => make3 k c .refl e, ar⟩
    · have c' : chB xs = false := by cases z : chB xs <;> simp_all
      have ar := are3_tup k l (g := h ++ [.ins "Trials" []]) .app
      rw [c'] at ar
      exact ⟨false, _, ref3_yes fun n g gg => init3_exc k l c' gg, ar⟩
  · exact ⟨false, _, ref3_yes fun m g gg => init3_no (n g gg), are3_no (n _ .app)⟩
theorem t7 (r : Drawn qs) (th : Tp h N) (hN : N + 1000 ≤ 800000) (t : TrAt h i qs) (i2 : 2 ≤ i) {r0 : SR} (hr0 : k01t_7 (e1 a0 a2 a3 qs i a7 a8 a9 a10 a11 a12) h = r0) :
    WpS r0 (fun ρ h' => Tp h' (N + 560) ∧ ∃ b9 b10, ρ = e1 a0 a2 a3 qs i a7 a8 b9 b10 a11 a12) fun _ _ => False := by
  subst hr0
  unfold k01t_7
  rw [wps_for, iR1_eq (n := 7) (h' := h) (by simp only [eV0, eVs, bind_ok', then_ok, q_e2, q_e1, q_eC, q_aC, q_aN, q_sPar2, q_sPar3, q_sSet, q_sRet, q_eBf, q_nBf, q_eCall, q_tst, q_tru, q_ifV, q_sIf, q_eTup, q_sPass, q_sExp, q_eLm, q_nLst, q_frz, q_thaw, q_iSeq, q_iR2, q_iR3, q_iEnumD, q_iZip, q_andX, q_andT, q_orT, q_notT, q_eCh, q_sPat, q_eSl, q_nSl, q_pS, q_pN, q_sRetN, q_tYes, q_eDct0, okL0, okL1, okL2, okL3, okL4, okL5, okL6, ent, List.map_cons, List.map_nil, List.length_cons, List.length_nil, List.set_cons_zero, List.set_cons_succ, List.replicate, List.cons_append, List.nil_append, Nat.reduceAdd, Nat.reduceSub, Nat.sub_self, Nat.sub_zero, zero_add', ↓reduceIte, Bool.false_eq_true, item0, item1, addD_ii, subD_ii, negD_i, absD_i, ltD_ii, leD_ii, gtD_ii, geD_ii, truD_bl, decide_true, decide_false]; rfl) (by decide), wp_ok]
  refine wps_loop (fun j ρ h' => Tp h' (N + 80 * j) ∧ Gb 2 h h' ∧ ∃ b9 b10, ρ = e1 a0 a2 a3 qs i a7 a8 b9 b10 a11 a12) _ 0 _ _ ?_ ?_ ⟨th, .refl, _, _, rfl⟩
  · rintro j y ρ h1 hy ⟨t1, g1, b9, b10, rfl⟩
    rw [Nat.zero_add] at t1 ⊢
    have hj := (List.getElem?_eq_some_iff.mp hy).1
    rw [rng_len] at hj
    refine ⟨rfl, e1 a0 a2 a3 qs i a7 a8 (some y) b10 a11 a12, rfl, ?_⟩
    rw [wps_seq]
    unfold k01b7_0
    have v1 : eV 1 (e1 a0 a2 a3 qs i a7 a8 (some y) b10 a11 a12) h1 = .ok (.obj 1) h1 := by simp only [eVs, eV0]
    have v4 : eV 4 (e1 a0 a2 a3 qs i a7 a8 (some y) b10 a11 a12) h1 = .ok (.tup (qs.map fr)) h1 := by simp only [eVs, eV0]
    have v5 : eV 5 (e1 a0 a2 a3 qs i a7 a8 (some y) b10 a11 a12) h1 = .ok (.obj i) h1 := by simp only [eVs, eV0]
    simp only [q_sSet, q_eCall, q_aC, q_aN, v1, v4, v5, bind_ok', List.length_cons, List.length_nil, Nat.reduceAdd, zero_add', decide_true, ↓reduceIte, wps_then]
    refine bent3_spec r t1 (t.g2 g1 i2) i2 (by omega) fun x h2 bx t2 g2 => ?_
    rw [wps_nx]
    have se : (e1 a0 a2 a3 qs i a7 a8 (some y) b10 a11 a12).set 10 (some x) = e1 a0 a2 a3 qs i a7 a8 (some y) (some x) a11 a12 := rfl
    rw [se]
    obtain ⟨b, l, q1, q2⟩ := t7_one bx
    refine wps_of (t7_body q1 q2) ⟨tape_dr.mono (tape_dr.app t2) (by omega), (g1.trans g2).trans .app, _, _, rfl⟩
  · rintro ρ h1 ⟨t1, g1, b9, b10, rfl⟩
    refine ⟨rfl, ?_⟩
    rw [Nat.zero_add, rng_len] at t1
    exact ⟨tape_dr.mono t1 (by omega), _, _, rfl⟩
theorem turn01 {a4 a5 a6 : Option D} (th : Tp h N) (hN : N + 3000 ≤ 800000) :
    WpS (k01turn [a0, some (.obj 1), a2, a3, a4, a5, a6, a7, a8, a9, a10, a11, a12] h) (fun ρ h' => Tp h' (N + 1200) ∧ ∃ b4 b5 b6 b7 b8 b9 b10, ρ = [a0, some (.obj 1), a2, a3, b4, b5, b6, b7, b8, b9, b10, a11, a12]) fun _ _ => False := by
  unfold k01turn
  rw [wps_seq]
  unfold k01t_0
  simp only [q_sSet, q_eCall, q_aC, q_aN, q_eC, q_ifV, q_tst, q_e2, eV0, eVs, bind_ok', List.length_cons, List.length_nil, Nat.reduceAdd, zero_add', decide_true, ↓reduceIte, wps_then, wp_bind]
  refine tape_dr.draw th (sides := 3) (by decide) (by decide) (by omega) fun d h0 d0 d1 t0 g0 => ?_
  simp only [wp_ok, eqD_ii, wp_bind]
  have key : ∀ most : Int, 1 ≤ most → most ≤ 12 → WpS ((m__law_chances [.obj 1, .int most] h0).then [a0, some (.obj 1), a2, a3, a4, a5, a6, a7, a8, a9, a10, a11, a12] fun d h1 => .nx [a0, some (.obj 1), a2, a3, some d, a5, a6, a7, a8, a9, a10, a11, a12] h1) (fun ρ h' => WpS (sSeq k01t_1 (sSeq k01t_2 (sSeq k01t_3 (sSeq k01t_4 (sSeq k01t_5 (sSeq k01t_6 k01t_7))))) ρ h') (fun ρ h' => Tp h' (N + 1200) ∧ ∃ b4 b5 b6 b7 b8 b9 b10, ρ = [a0, some (.obj 1), a2, a3, b4, b5, b6, b7, b8, b9, b10, a11, a12]) fun _ _ => False) fun _ _ => False := fun most m1 m2 => by
    rw [wps_then]
    refine chances_spec t0 m1 m2 (by omega) fun qs h1 r lm t1 g1 => ?_
    rw [wps_nx, wps_seq]
    have mk := make3 (h := h1) (xs := qs.map fr) (ca := aC (eV 4) aN) (ρ := [a0, some (.obj 1), a2, a3, some (.tup (qs.map fr)), a5, a6, a7, a8, a9, a10, a11, a12]) (row_k3 r.2.2) (row_ch (drawn_row r)) .refl (by simp only [eV0, eVs, bind_ok', then_ok, q_e2, q_e1, q_eC, q_aC, q_aN, q_sPar2, q_sPar3, q_sSet, q_sRet, q_eBf, q_nBf, q_eCall, q_tst, q_tru, q_ifV, q_sIf, q_eTup, q_sPass, q_sExp, q_eLm, q_nLst, q_frz, q_thaw, q_iSeq, q_iR2, q_iR3, q_iEnumD, q_iZip, q_andX, q_andT, q_orT, q_notT, q_eCh, q_sPat, q_eSl, q_nSl, q_pS, q_pN, q_sRetN, q_tYes, q_eDct0, okL0, okL1, okL2, okL3, okL4, okL5, okL6, ent, List.map_cons, List.map_nil, List.length_cons, List.length_nil, List.set_cons_zero, List.set_cons_succ, List.replicate, List.cons_append, List.nil_append, Nat.reduceAdd, Nat.reduceSub, Nat.sub_self, Nat.sub_zero, zero_add', ↓reduceIte, Bool.false_eq_true, item0, item1, addD_ii, subD_ii, negD_i, absD_i, ltD_ii, leD_ii, gtD_ii, geD_ii, truD_bl, decide_true, decide_false])
    have ln : lenD [.tup (qs.map fr)] (newX h1 (.tup (qs.map fr))) = .ok (.int (qs.length : Nat)) (newX h1 (.tup (qs.map fr))) := by
      have z := lenD_tup (xs := qs.map fr) (h := newX h1 (.tup (qs.map fr)))
      rwa [List.length_map] at z
    have pd : patD (.tp [.nm 5, .nm 6]) (.tup [.obj h1.length, .int (qs.length : Nat)]) [a0, some (.obj 1), a2, a3, some (.tup (qs.map fr)), a5, a6, a7, a8, a9, a10, a11, a12] = some (e1 a0 a2 a3 qs h1.length a7 a8 a9 a10 a11 a12) := rfl
    have s1 : k01t_1 [a0, some (.obj 1), a2, a3, some (.tup (qs.map fr)), a5, a6, a7, a8, a9, a10, a11, a12] h1 = .nx (e1 a0 a2 a3 qs h1.length a7 a8 a9 a10 a11 a12) (newX h1 (.tup (qs.map fr))) := by
      have v4 : ∀ g : Hs, eV 4 [a0, some (.obj 1), a2, a3, some (.tup (qs.map fr)), a5, a6, a7, a8, a9, a10, a11, a12] g = .ok (.tup (qs.map fr)) g := fun g => rfl
      unfold k01t_1
      rw [q_sPat, q_eTup, q_aC, mk, bind_ok', q_aC, q_eBf, q_aC, v4, bind_ok', q_aN, bind_ok', bind_ok', ln, bind_ok', q_aN, bind_ok', bind_ok', bind_ok']
      simp only [List.length_cons, List.length_nil, Nat.reduceAdd, zero_add', okL2, ↓reduceIte, then_ok, pd]
    refine wps_of s1 ?_
    have tt : TrAt (newX h1 (.tup (qs.map fr))) h1.length qs := tr_new
    have i2 : 2 ≤ h1.length := tape_dr.len t1
    have th2 : Tp (newX h1 (.tup (qs.map fr))) (N + 1 + 50) := tape_dr.app t1
    clear s1 mk ln pd
    generalize newX h1 (.tup (qs.map fr)) = h2 at tt th2
    generalize h1.length = i at tt i2
    rw [wps_seq]
    unfold k01t_2
    have v1 : eV 1 (e1 a0 a2 a3 qs i a7 a8 a9 a10 a11 a12) h2 = .ok (.obj 1) h2 := by simp only [eVs, eV0]
    have v4 : eV 4 (e1 a0 a2 a3 qs i a7 a8 a9 a10 a11 a12) h2 = .ok (.tup (qs.map fr)) h2 := by simp only [eVs, eV0]
    have v5 : eV 5 (e1 a0 a2 a3 qs i a7 a8 a9 a10 a11 a12) h2 = .ok (.obj i) h2 := by simp only [eVs, eV0]
    simp only [q_sIf, q_notT, q_tru, q_eCall, q_aC, q_aN, v1, v4, v5, bind_ok', List.length_cons, List.length_nil, Nat.reduceAdd, zero_add', decide_true, ↓reduceIte, wps_then, wp_bind]
    refine equal_right r th2 (by omega) tt i2 fun h3 t3 g3 => ?_
    simp only [truD_bl, wp_ok, Bool.not_true, Bool.false_eq_true, ↓reduceIte, sPass, wps_nx]
    have tt3 := tt.g2 g3 i2
    obtain ⟨L, hL, lL, s3⟩ := t3' (a0 := a0) (a2 := a2) (a3 := a3) (i := i) (h := h3) (a7 := a7) (a8 := a8) (a9 := a9) (a10 := a10) (a11 := a11) (a12 := a12) r
    rw [wps_seq]
    refine wps_of s3 ?_
    rw [wps_seq]
    generalize hr4 : k01t_4 _ _ = r4
    refine wps_mono (t4 r tt3 i2 t3 (by omega) hL lL hr4) (fun ρ h4 ⟨t4', g4, b8, e⟩ => ?_) fun _ _ z => z.elim
    subst e
    rw [wps_seq]
    generalize hr5 : k01t_5 _ _ = r5
    refine wps_mono (t5 r t4' (by omega) hr5) (fun ρ h5 ⟨t5', g5, l, inc, e⟩ => ?_) fun _ _ z => z.elim
    subst e
    have tt5 := (tt3.g2 g4 i2).g2 g5 i2
    rw [wps_seq]
    refine wps_of (t6 r tt5 inc) ?_
    generalize hr7 : k01t_7 _ _ = r7
    refine wps_mono (t7 r t5' (by omega) tt5 i2 hr7) (fun ρ h6 ⟨t6', b9, b10, e⟩ => ?_) fun _ _ z => z.elim
    subst e
    exact ⟨tape_dr.mono t6' (by omega), _, _, _, _, _, _, _, rfl⟩
  by_cases z : d = 0
  · rw [decide_eq_true z]
    simp only [wp_ok, wp_bind, ↓reduceIte]
    have kk := key 12 (by decide) (by decide)
    rw [wps_then] at kk
    exact kk
  · rw [decide_eq_false z]
    simp only [wp_ok, wp_bind, Bool.false_eq_true, ↓reduceIte]
    have kk := key 6 (by decide) (by decide)
    rw [wps_then] at kk
    exact kk
end
/-! ### the known ones -/
def kn01 : List Rat := [1 / 2, 1 / 3, 1 / 6]
theorem kn01_D : kn01.map fr = [.tup [.int 1, .int 2], .tup [.int 1, .int 3], .tup [.int 1, .int 6]] := by decide +kernel
theorem kn01_dr : Drawn kn01 := ⟨by decide, by decide, fun q hq => by
  simp only [kn01, List.mem_cons, List.not_mem_nil, or_false] at hq
  rcases hq with rfl | rfl | rfl <;> exact ⟨by decide +kernel, by decide +kernel, by unfold Sz; decide +kernel⟩⟩
theorem w01 : wn kn01 [] = 0 ∧ wn kn01 [0] = 5 / 18 ∧ wn kn01 [0, 1, 2] = 17 / 36 ∧ wn kn01 [2] = 1 / 6 := by decide +kernel
theorem w01_D : fr (0 : Rat) = .tup [.int 0, .int 1] ∧ fr (5 / 18 : Rat) = .tup [.int 5, .int 18] ∧ fr (17 / 36 : Rat) = .tup [.int 17, .int 36] ∧ fr (1 / 6 : Rat) = .tup [.int 1, .int 6] := by decide +kernel
theorem law_k01 (ns : List Int) (hl : ns.length ≤ 63) (_ : ∀ z ∈ ns, PySem.Builtin.Int.intBits z ≤ 1048576) : ∃ h', m_law_k01 [.scr ns] [] = .ok (.bl true) h' := by
  suffices w : Wp (m_law_k01 [.scr ns] []) fun d _ => d = .bl true by
    obtain ⟨d, h', e, rfl⟩ := wp_ex w
    exact ⟨h', e⟩
  unfold m_law_k01
  rw [k01_code]
  have en : ent 13 [D.scr ns] = [some (.scr ns), none, none, none, none, none, none, none, none, none, none, none, none] := rfl
  rw [wp_def, en, wps_seq]
  simp only [q_sSet, q_eCall, q_aC, q_aN, eV0, eVs, bind_ok', List.length_cons, List.length_nil, Nat.reduceAdd, zero_add', decide_true, ↓reduceIte, wps_then, List.set_cons_zero, List.set_cons_succ]
  refine tape_spec hl fun h0 t0 l0 => ?_
  simp only [wps_nx]
  rw [wps_seq]
  have mk := make3 (h := h0) (xs := kn01.map fr) (ca := aC (eTup (aC (eTup (aC (eC (.int 1)) (aC (eC (.int 2)) aN))) (aC (eTup (aC (eC (.int 1)) (aC (eC (.int 3)) aN))) (aC (eTup (aC (eC (.int 1)) (aC (eC (.int 6)) aN))) aN)))) aN) (ρ := [some (.scr ns), some (.obj 1), none, none, none, none, none, none, none, none, none, none, none]) (row_k3 kn01_dr.2.2) (row_ch (drawn_row kn01_dr)) .refl (by
    rw [kn01_D]
    simp only [eV0, eVs, bind_ok', then_ok, q_e2, q_e1, q_eC, q_aC, q_aN, q_sPar2, q_sPar3, q_sSet, q_sRet, q_eBf, q_nBf, q_eCall, q_tst, q_tru, q_ifV, q_sIf, q_eTup, q_sPass, q_sExp, q_eLm, q_nLst, q_frz, q_thaw, q_iSeq, q_iR2, q_iR3, q_iEnumD, q_iZip, q_andX, q_andT, q_orT, q_notT, q_eCh, q_sPat, q_eSl, q_nSl, q_pS, q_pN, q_sRetN, q_tYes, q_eDct0, okL0, okL1, okL2, okL3, okL4, okL5, okL6, ent, List.map_cons, List.map_nil, List.length_cons, List.length_nil, List.set_cons_zero, List.set_cons_succ, List.replicate, List.cons_append, List.nil_append, Nat.reduceAdd, Nat.reduceSub, Nat.sub_self, Nat.sub_zero, zero_add', ↓reduceIte, Bool.false_eq_true, item0, item1, addD_ii, subD_ii, negD_i, absD_i, ltD_ii, leD_ii, gtD_ii, geD_ii, truD_bl, decide_true, decide_false])
  have s1 : k01s_1 [some (.scr ns), some (.obj 1), none, none, none, none, none, none, none, none, none, none, none] h0 = .nx [some (.scr ns), some (.obj 1), some (.obj h0.length), none, none, none, none, none, none, none, none, none, none] (newX h0 (.tup (kn01.map fr))) := by
    unfold k01s_1
    rw [q_sSet, mk, then_ok]
    rfl
  refine wps_of s1 ?_
  have tt : TrAt (newX h0 (.tup (kn01.map fr))) h0.length kn01 := tr_new
  have i2 : 2 ≤ h0.length := tape_dr.len t0
  have t1 : Tp (newX h0 (.tup (kn01.map fr))) 0 := tape_dr.app t0
  clear s1 mk
  generalize newX h0 (.tup (kn01.map fr)) = h1 at tt t1
  generalize h0.length = i at tt i2
  rw [wps_seq]
  have c := dr_cs kn01_dr
  have wl : ∀ l : List Nat, Inc 3 0 l → m_win [.obj i, lotD l] h1 = .ok (fr (wn kn01 l)) h1 := fun l inc => win_eq c (by decide) (by decide) tt inc
  have s2 : k01s_2 [some (.scr ns), some (.obj 1), some (.obj i), none, none, none, none, none, none, none, none, none, none] h1 = .nx [some (.scr ns), some (.obj 1), some (.obj i), none, none, none, none, none, none, none, none, none, none] h1 := by
    have cc := compM (α := List Nat) (ci := iSeq (eTup (aC (eTup aN) (aC (eTup (aC (eC (.int 0)) aN)) (aC (eTup (aC (eC (.int 0)) (aC (eC (.int 1)) (aC (eC (.int 2)) aN)))) (aC (eTup (aC (eC (.int 2)) aN)) aN)))))) (p := .nm 8) (own := [8]) (ce := eCall 2 m_win (aC (eV 2) (aC (eV 8) aN))) (ρ := [some (.scr ns), some (.obj 1), some (.obj i), none, none, none, none, none, none, none, none, none, none]) (h := h1) (xs := [[], [0], [0, 1, 2], [2]]) (g := lotD) (f := fun l => fr (wn kn01 l))
      (seq_tup (by simp only [eV0, eVs, bind_ok', then_ok, q_e2, q_e1, q_eC, q_aC, q_aN, q_sPar2, q_sPar3, q_sSet, q_sRet, q_eBf, q_nBf, q_eCall, q_tst, q_tru, q_ifV, q_sIf, q_eTup, q_sPass, q_sExp, q_eLm, q_nLst, q_frz, q_thaw, q_iSeq, q_iR2, q_iR3, q_iEnumD, q_iZip, q_andX, q_andT, q_orT, q_notT, q_eCh, q_sPat, q_eSl, q_nSl, q_pS, q_pN, q_sRetN, q_tYes, q_eDct0, okL0, okL1, okL2, okL3, okL4, okL5, okL6, ent, List.map_cons, List.map_nil, List.length_cons, List.length_nil, List.set_cons_zero, List.set_cons_succ, List.replicate, List.cons_append, List.nil_append, Nat.reduceAdd, Nat.reduceSub, Nat.sub_self, Nat.sub_zero, zero_add', ↓reduceIte, Bool.false_eq_true, item0, item1, addD_ii, subD_ii, negD_i, absD_i, ltD_ii, leD_ii, gtD_ii, geD_ii, truD_bl, decide_true, decide_false]; rfl)) (by simp) fun l hl' => ⟨_, rfl, by
        have inc : Inc 3 0 l := by
          simp only [List.mem_cons, List.not_mem_nil, or_false] at hl'
          rcases hl' with rfl | rfl | rfl | rfl <;> simp [Inc]
        simp only [wipeD, eV0, eVs, bind_ok', then_ok, q_e2, q_e1, q_eC, q_aC, q_aN, q_sPar2, q_sPar3, q_sSet, q_sRet, q_eBf, q_nBf, q_eCall, q_tst, q_tru, q_ifV, q_sIf, q_eTup, q_sPass, q_sExp, q_eLm, q_nLst, q_frz, q_thaw, q_iSeq, q_iR2, q_iR3, q_iEnumD, q_iZip, q_andX, q_andT, q_orT, q_notT, q_eCh, q_sPat, q_eSl, q_nSl, q_pS, q_pN, q_sRetN, q_tYes, q_eDct0, okL0, okL1, okL2, okL3, okL4, okL5, okL6, ent, List.map_cons, List.map_nil, List.length_cons, List.length_nil, List.set_cons_zero, List.set_cons_succ, List.replicate, List.cons_append, List.nil_append, Nat.reduceAdd, Nat.reduceSub, Nat.sub_self, Nat.sub_zero, zero_add', ↓reduceIte, Bool.false_eq_true, item0, item1, addD_ii, subD_ii, negD_i, absD_i, ltD_ii, leD_ii, gtD_ii, geD_ii, truD_bl, decide_true, decide_false, wl l inc]⟩
    simp only [List.map_cons, List.map_nil, w01.1, w01.2.1, w01.2.2.1, w01.2.2.2, w01_D.1, w01_D.2.1, w01_D.2.2.1, w01_D.2.2.2] at cc
    have ne : neD (.lst [.tup [.int 0, .int 1], .tup [.int 5, .int 18], .tup [.int 17, .int 36], .tup [.int 1, .int 6]]) (.lst [.tup [.int 0, .int 1], .tup [.int 5, .int 18], .tup [.int 17, .int 36], .tup [.int 1, .int 6]]) h1 = .ok (.bl false) h1 := nr rfl
    unfold k01s_2
    simp only [q_sIf, q_tst, q_e2, q_frz, cc, bind_ok', q_nLst, q_eTup, q_aC, q_aN, q_eC, List.length_cons, List.length_nil, Nat.reduceAdd, zero_add', okL2, okL4, ↓reduceIte, ne, truD_bl, then_ok, Bool.false_eq_true, sPass]
  refine wps_of s2 ?_
  rw [wps_seq]
  have k12 : ∀ (a b : Int), a ≤ 1000 → b ≤ 1000 → ∀ g : Hs, K3 g (.tup [.int a, .int b]) := fun a b ha hb g => k3_ii (Int.le_trans ha (by decide)) (Int.le_trans hb (by decide))
  have q1 : ∀ g : Hs, m__law_is_refused [.tup []] g = .ok (.bl true) (g ++ [.ins "Trials" []]) := fun g => ref3_yes fun n g gg => init3_exc (h := g) (fun y hy => by cases hy) (by simp) rfl .refl
  have q2 : ∀ g : Hs, m__law_is_refused [.tup [.tup [.int 1, .int 2], .tup [.int 2, .int 4]]] g = .ok (.bl true) (g ++ [.ins "Trials" []]) := fun g => ref3_yes fun n g gg => init3_exc (h := g) (fun y hy => by
    simp only [List.mem_cons, List.not_mem_nil, or_false] at hy
    rcases hy with e | e
    all_goals rw [e]
    · exact k12 1 2 (by decide) (by decide) _
    · exact k12 2 4 (by decide) (by decide) _) (by simp) (by decide +kernel) .refl
  have q3 : ∀ g : Hs, m__law_is_refused [.tup [.tup [.int 0, .int 1], .tup [.int 1, .int 1]]] g = .ok (.bl false) (newX g (.tup [.tup [.int 0, .int 1], .tup [.int 1, .int 1]])) := fun g => ref3_no fun ca ρ e => make3 (h := g) (fun y hy => by
    simp only [List.mem_cons, List.not_mem_nil, or_false] at hy
    rcases hy with e | e
    all_goals rw [e]
    · exact k12 0 1 (by decide) (by decide) _
    · exact k12 1 1 (by decide) (by decide) _) (by decide +kernel) .refl e
  have s3 : ∃ l, k01s_3 [some (.scr ns), some (.obj 1), some (.obj i), none, none, none, none, none, none, none, none, none, none] h1 = .nx [some (.scr ns), some (.obj 1), some (.obj i), none, none, none, none, none, none, none, none, none, none] (h1 ++ l) := by
    refine ⟨[.ins "Trials" []] ++ ([.ins "Trials" []] ++ [.ins "Trials" [("chances", .tup [.tup [.int 0, .int 1], .tup [.int 1, .int 1]]), ("looked", .obj ((h1 ++ [DO.ins "Trials" []] ++ [DO.ins "Trials" []]).length + 1))], .dI []]), ?_⟩
    unfold k01s_3
    simp only [q_sIf, q_orT, q_notT, q_tru, q_eCall, q_aC, q_aN, q_eTup, q_eC, bind_ok', List.length_cons, List.length_nil, Nat.reduceAdd, zero_add', okL0, okL2, decide_true, ↓reduceIte, q1, q2, q3, truD_bl, Bool.not_true, Bool.false_eq_true, then_ok, sPass, List.append_assoc]
  obtain ⟨l3, s3⟩ := s3
  refine wps_of s3 ?_
  have t3 : Tp (h1 ++ l3) 0 := tape_dr.app t1
  generalize h1 ++ l3 = h3 at t3
  rw [wps_seq]
  rw [wps_for, iR1_eq (n := 3) (h' := h3) (by simp only [eV0, eVs, bind_ok', then_ok, q_e2, q_e1, q_eC, q_aC, q_aN, q_sPar2, q_sPar3, q_sSet, q_sRet, q_eBf, q_nBf, q_eCall, q_tst, q_tru, q_ifV, q_sIf, q_eTup, q_sPass, q_sExp, q_eLm, q_nLst, q_frz, q_thaw, q_iSeq, q_iR2, q_iR3, q_iEnumD, q_iZip, q_andX, q_andT, q_orT, q_notT, q_eCh, q_sPat, q_eSl, q_nSl, q_pS, q_pN, q_sRetN, q_tYes, q_eDct0, okL0, okL1, okL2, okL3, okL4, okL5, okL6, ent, List.map_cons, List.map_nil, List.length_cons, List.length_nil, List.set_cons_zero, List.set_cons_succ, List.replicate, List.cons_append, List.nil_append, Nat.reduceAdd, Nat.reduceSub, Nat.sub_self, Nat.sub_zero, zero_add', ↓reduceIte, Bool.false_eq_true, item0, item1, addD_ii, subD_ii, negD_i, absD_i, ltD_ii, leD_ii, gtD_ii, geD_ii, truD_bl, decide_true, decide_false]; rfl) (by decide), wp_ok]
  refine wps_loop (fun j ρ h' => Tp h' (1200 * j) ∧ ∃ b3 b4 b5 b6 b7 b8 b9 b10 b11 b12, ρ = [some (.scr ns), some (.obj 1), some (.obj i), b3, b4, b5, b6, b7, b8, b9, b10, b11, b12]) _ 0 _ _ ?_ ?_ ⟨t3, _, _, _, _, _, _, _, _, _, _, rfl⟩
  · rintro j y ρ h4 hy ⟨t4, b3, b4, b5, b6, b7, b8, b9, b10, b11, b12, rfl⟩
    rw [Nat.zero_add] at t4 ⊢
    have hj := (List.getElem?_eq_some_iff.mp hy).1
    rw [rng_len] at hj
    refine ⟨rfl, [some (.scr ns), some (.obj 1), some (.obj i), some y, b4, b5, b6, b7, b8, b9, b10, b11, b12], rfl, ?_⟩
    refine wps_mono (turn01 t4 (by omega)) (fun ρ h' ⟨t5, c4, c5, c6, c7, c8, c9, c10, e⟩ => ?_) fun _ _ z => z.elim
    subst e
    exact ⟨by rw [Nat.mul_add, Nat.mul_one]; exact t5, _, _, _, _, _, _, _, _, _, _, rfl⟩
  · rintro ρ h4 ⟨t4, b3, b4, b5, b6, b7, b8, b9, b10, b11, b12, rfl⟩
    refine ⟨rfl, ?_⟩
    simp only [eV0, eVs, bind_ok', then_ok, q_e2, q_e1, q_eC, q_aC, q_aN, q_sPar2, q_sPar3, q_sSet, q_sRet, q_eBf, q_nBf, q_eCall, q_tst, q_tru, q_ifV, q_sIf, q_eTup, q_sPass, q_sExp, q_eLm, q_nLst, q_frz, q_thaw, q_iSeq, q_iR2, q_iR3, q_iEnumD, q_iZip, q_andX, q_andT, q_orT, q_notT, q_eCh, q_sPat, q_eSl, q_nSl, q_pS, q_pN, q_sRetN, q_tYes, q_eDct0, okL0, okL1, okL2, okL3, okL4, okL5, okL6, ent, List.map_cons, List.map_nil, List.length_cons, List.length_nil, List.set_cons_zero, List.set_cons_succ, List.replicate, List.cons_append, List.nil_append, Nat.reduceAdd, Nat.reduceSub, Nat.sub_self, Nat.sub_zero, zero_add', ↓reduceIte, Bool.false_eq_true, item0, item1, addD_ii, subD_ii, negD_i, absD_i, ltD_ii, leD_ii, gtD_ii, geD_ii, truD_bl, decide_true, decide_false, wp_ok, wp_bad, wp_bind, wp_nox, wp_def, wps_then, wps_seq, wps_nx, wps_ret, wp_ite, wps_ite]
end Pl

namespace Law_k01
open PySem PySem.Spec PyProof.Rows L2 Dl Sh
def own : List (Tg × Tg × Bool) := [(.o "Trials", .o "Trials", true), (.b "NoneType", .o "Trials", false), (.b "int", .o "Trials", false), (.b "list", .o "Trials", false), (.b "str", .o "Trials", false), (.b "tuple", .o "Trials", false), (.o "Trials", .b "tuple", false)]
/-! ### the module -/
def top (i : Nat) : Stmt := PySem.Challenge.pw_openorstop_k01_whole_trials_judged.main.body.getD i (.Pass ⟨0, 0, 0, 0⟩)
local instance : Tb := ⟨fun _ => []⟩
def mainF : Str := PySem.Challenge.pw_openorstop_k01_whole_trials_judged.main.file
structure Md (P : Program) (K : PySem.W.Frag) (mg : Str → Option Value) : Prop where
  c_Trials : Cls K (He.ga K "Trials")
  xc_BadTrials : ExcC K (He.ga K "BadTrials")
  xm_BadTrials_ChanceError : PySem.W.exmOne K (.ref (He.ga K "BadTrials")) (.ref (He.ga K "ChanceError")) = some true
  b_ValueError : mg "ValueError" = none
  b_abs : mg "abs" = none
  b_all : mg "all" = none
  b_any : mg "any" = none
  b_bool : mg "bool" = none
  b_enumerate : mg "enumerate" = none
  b_int : mg "int" = none
  b_isinstance : mg "isinstance" = none
  b_len : mg "len" = none
  b_list : mg "list" = none
  b_range : mg "range" = none
  b_repr : mg "repr" = none
  b_sorted : mg "sorted" = none
  b_sum : mg "sum" = none
  b_super : mg "super" = none
  b_tuple : mg "tuple" = none
  b_zip : mg "zip" = none
  g_BadTrials : mg "BadTrials" = some (.ref (He.ga K "BadTrials"))
  g_ChanceError : mg "ChanceError" = some (.ref (He.ga K "ChanceError"))
  g_Trials : mg "Trials" = some (.ref (He.ga K "Trials"))
  g__law_any : mg "_law_any" = some (.ref (He.ga K "_law_any"))
  g__law_are_chances : mg "_law_are_chances" = some (.ref (He.ga K "_law_are_chances"))
  g__law_bent : mg "_law_bent" = some (.ref (He.ga K "_law_bent"))
  g__law_chances : mg "_law_chances" = some (.ref (He.ga K "_law_chances"))
  g__law_deep : mg "_law_deep" = some (.ref (He.ga K "_law_deep"))
  g__law_draw : mg "_law_draw" = some (.ref (He.ga K "_law_draw"))
  g__law_equal_right : mg "_law_equal_right" = some (.ref (He.ga K "_law_equal_right"))
  g__law_is_in : mg "_law_is_in" = some (.ref (He.ga K "_law_is_in"))
  g__law_is_refused : mg "_law_is_refused" = some (.ref (He.ga K "_law_is_refused"))
  g__law_is_share : mg "_law_is_share" = some (.ref (He.ga K "_law_is_share"))
  g__law_lots : mg "_law_lots" = some (.ref (He.ga K "_law_lots"))
  g__law_low : mg "_law_low" = some (.ref (He.ga K "_law_low"))
  g__law_plus : mg "_law_plus" = some (.ref (He.ga K "_law_plus"))
  g__law_product : mg "_law_product" = some (.ref (He.ga K "_law_product"))
  g__law_rest : mg "_law_rest" = some (.ref (He.ga K "_law_rest"))
  g__law_tape : mg "_law_tape" = some (.ref (He.ga K "_law_tape"))
  g__law_ways : mg "_law_ways" = some (.ref (He.ga K "_law_ways"))
  g__law_win : mg "_law_win" = some (.ref (He.ga K "_law_win"))
  g_common : mg "common" = some (.ref (He.ga K "common"))
  g_is_fraction : mg "is_fraction" = some (.ref (He.ga K "is_fraction"))
  g_is_integer : mg "is_integer" = some (.ref (He.ga K "is_integer"))
  g_is_lot : mg "is_lot" = some (.ref (He.ga K "is_lot"))
  g_is_share : mg "is_share" = some (.ref (He.ga K "is_share"))
  g_is_tuple : mg "is_tuple" = some (.ref (He.ga K "is_tuple"))
  g_is_within : mg "is_within" = some (.ref (He.ga K "is_within"))
  g_last_shares : mg "last_shares" = some (.ref (He.ga K "last_shares"))
  g_law : mg "law" = some (.ref (He.ga K "law"))
  g_lowest : mg "lowest" = some (.ref (He.ga K "lowest"))
  g_minus : mg "minus" = some (.ref (He.ga K "minus"))
  g_none_from : mg "none_from" = some (.ref (He.ga K "none_from"))
  g_plus : mg "plus" = some (.ref (He.ga K "plus"))
  g_product : mg "product" = some (.ref (He.ga K "product"))
  g_win : mg "win" = some (.ref (He.ga K "win"))
  g_won : mg "won" = some (.ref (He.ga K "won"))
  i_MOST_TRIALS : ∃ t, mg "MOST_TRIALS" = some (.int 12 t)
  k_BadTrials_BadTrials : PySem.W.kitOne K (.ref (He.ga K "BadTrials")) (.ref (He.ga K "BadTrials")) = some true
  kv_BadTrials_ValueError : PySem.W.kitOne K (.ref (He.ga K "BadTrials")) (.type "ValueError") = some true
  me_Trials___eq__ : Meth K (He.ga K "Trials") "__eq__" (He.ma K (He.ga K "Trials") "__eq__")
  mk_Trials : Mk K (He.ga K "Trials") (He.ma K (He.ga K "Trials") "__init__")
  n_Trials_chances : NoAttr K (He.ga K "Trials") "chances"
  n_Trials_looked : NoAttr K (He.ga K "Trials") "looked"
  owt_Trials_tuple_NoneType_int_str_list : OwnT K "Trials" [.b "tuple", .b "NoneType", .b "int", .b "str", .b "list"]
  x_BadTrials : SupC P K (He.ga K "BadTrials") (He.ma K (He.ga K "BadTrials") "__init__")
  g_NONE : mg "NONE" = some (.ref (He.ga K "NONE"))
  t_NONE : KT K (He.ga K "NONE") ([0, 1].map V.int)
  g_WHOLE : mg "WHOLE" = some (.ref (He.ga K "WHOLE"))
  t_WHOLE : KT K (He.ga K "WHOLE") ([1, 1].map V.int)
  oc_Trials : OwnC K (He.ga K "Trials") (He.ma K (He.ga K "Trials") "__eq__")
  d_Trials___eq__ : ∃ fd, FunD K "__eq__" "Trials.__eq__" (defArgs (inClass (top 21) 1)) (defBody (inClass (top 21) 1)) (defScope (inClass (top 21) 1)) [] [] (He.ma K (He.ga K "Trials") "__eq__") fd
  d_Trials___init__ : ∃ fd, FunD K "__init__" "Trials.__init__" (defArgs (inClass (top 21) 0)) (defBody (inClass (top 21) 0)) (defScope (inClass (top 21) 0)) [] [] (He.ma K (He.ga K "Trials") "__init__") fd
  d__law_any : ∃ fd, FunD K "_law_any" "_law_any" (defArgs (top 29)) (defBody (top 29)) (defScope (top 29)) [] [] (He.ga K "_law_any") fd
  d__law_are_chances : ∃ fd, FunD K "_law_are_chances" "_law_are_chances" (defArgs (top 40)) (defBody (top 40)) (defScope (top 40)) [] [] (He.ga K "_law_are_chances") fd
  d__law_bent : ∃ fd, FunD K "_law_bent" "_law_bent" (defArgs (top 41)) (defBody (top 41)) (defScope (top 41)) [] [] (He.ga K "_law_bent") fd
  d__law_chances : ∃ fd, FunD K "_law_chances" "_law_chances" (defArgs (top 35)) (defBody (top 35)) (defScope (top 35)) [] [] (He.ga K "_law_chances") fd
  d__law_deep : ∃ fd, FunD K "_law_deep" "_law_deep" (defArgs (top 30)) (defBody (top 30)) (defScope (top 30)) [] [] (He.ga K "_law_deep") fd
  d__law_draw : ∃ fd, FunD K "_law_draw" "_law_draw" (defArgs (top 28)) (defBody (top 28)) (defScope (top 28)) [] [] (He.ga K "_law_draw") fd
  d__law_equal_right : ∃ fd, FunD K "_law_equal_right" "_law_equal_right" (defArgs (top 43)) (defBody (top 43)) (defScope (top 43)) [] [] (He.ga K "_law_equal_right") fd
  d__law_is_in : ∃ fd, FunD K "_law_is_in" "_law_is_in" (defArgs (top 38)) (defBody (top 38)) (defScope (top 38)) [] [] (He.ga K "_law_is_in") fd
  d__law_is_refused : ∃ fd, FunD K "_law_is_refused" "_law_is_refused" (defArgs (top 42)) (defBody (top 42)) (defScope (top 42)) [] [] (He.ga K "_law_is_refused") fd
  d__law_is_share : ∃ fd, FunD K "_law_is_share" "_law_is_share" (defArgs (top 39)) (defBody (top 39)) (defScope (top 39)) [] [] (He.ga K "_law_is_share") fd
  d__law_lots : ∃ fd, FunD K "_law_lots" "_law_lots" (defArgs (top 36)) (defBody (top 36)) (defScope (top 36)) [] [] (He.ga K "_law_lots") fd
  d__law_low : ∃ fd, FunD K "_law_low" "_law_low" (defArgs (top 31)) (defBody (top 31)) (defScope (top 31)) [] [] (He.ga K "_law_low") fd
  d__law_plus : ∃ fd, FunD K "_law_plus" "_law_plus" (defArgs (top 32)) (defBody (top 32)) (defScope (top 32)) [] [] (He.ga K "_law_plus") fd
  d__law_product : ∃ fd, FunD K "_law_product" "_law_product" (defArgs (top 33)) (defBody (top 33)) (defScope (top 33)) [] [] (He.ga K "_law_product") fd
  d__law_rest : ∃ fd, FunD K "_law_rest" "_law_rest" (defArgs (top 34)) (defBody (top 34)) (defScope (top 34)) [] [] (He.ga K "_law_rest") fd
  d__law_tape : ∃ fd, FunD K "_law_tape" "_law_tape" (defArgs (top 27)) (defBody (top 27)) (defScope (top 27)) [] [] (He.ga K "_law_tape") fd
  d__law_ways : ∃ fd, FunD K "_law_ways" "_law_ways" (defArgs (top 44)) (defBody (top 44)) (defScope (top 44)) [] [] (He.ga K "_law_ways") fd
  d__law_win : ∃ fd, FunD K "_law_win" "_law_win" (defArgs (top 37)) (defBody (top 37)) (defScope (top 37)) [] [] (He.ga K "_law_win") fd
  d_common : ∃ fd, FunD K "common" "common" (defArgs (top 12)) (defBody (top 12)) (defScope (top 12)) [] [] (He.ga K "common") fd
  d_is_fraction : ∃ fd, FunD K "is_fraction" "is_fraction" (defArgs (top 17)) (defBody (top 17)) (defScope (top 17)) [] [] (He.ga K "is_fraction") fd
  d_is_integer : ∃ fd, FunD K "is_integer" "is_integer" (defArgs (top 1)) (defBody (top 1)) (defScope (top 1)) [] [] (He.ga K "is_integer") fd
  d_is_lot : ∃ fd, FunD K "is_lot" "is_lot" (defArgs (top 4)) (defBody (top 4)) (defScope (top 4)) [] [] (He.ga K "is_lot") fd
  d_is_share : ∃ fd, FunD K "is_share" "is_share" (defArgs (top 18)) (defBody (top 18)) (defScope (top 18)) [] [] (He.ga K "is_share") fd
  d_is_tuple : ∃ fd, FunD K "is_tuple" "is_tuple" (defArgs (top 3)) (defBody (top 3)) (defScope (top 3)) [] [] (He.ga K "is_tuple") fd
  d_is_within : ∃ fd, FunD K "is_within" "is_within" (defArgs (top 2)) (defBody (top 2)) (defScope (top 2)) [] [] (He.ga K "is_within") fd
  d_last_shares : ∃ fd, FunD K "last_shares" "last_shares" (defArgs (top 23)) (defBody (top 23)) (defScope (top 23)) [] [] (He.ga K "last_shares") fd
  d_law : ∃ fd, FunD K "law" "law" (defArgs (top 45)) (defBody (top 45)) (defScope (top 45)) [] [] (He.ga K "law") fd
  d_lowest : ∃ fd, FunD K "lowest" "lowest" (defArgs (top 13)) (defBody (top 13)) (defScope (top 13)) [] [] (He.ga K "lowest") fd
  d_minus : ∃ fd, FunD K "minus" "minus" (defArgs (top 15)) (defBody (top 15)) (defScope (top 15)) [] [] (He.ga K "minus") fd
  d_none_from : ∃ fd, FunD K "none_from" "none_from" (defArgs (top 22)) (defBody (top 22)) (defScope (top 22)) [] [] (He.ga K "none_from") fd
  d_plus : ∃ fd, FunD K "plus" "plus" (defArgs (top 14)) (defBody (top 14)) (defScope (top 14)) [] [] (He.ga K "plus") fd
  d_product : ∃ fd, FunD K "product" "product" (defArgs (top 16)) (defBody (top 16)) (defScope (top 16)) [] [] (He.ga K "product") fd
  d_win : ∃ fd, FunD K "win" "win" (defArgs (top 25)) (defBody (top 25)) (defScope (top 25)) [] [] (He.ga K "win") fd
  d_won : ∃ fd, FunD K "won" "won" (defArgs (top 24)) (defBody (top 24)) (defScope (top 24)) [] [] (He.ga K "won") fd
  own : OwnF K own
/-! ### each def computes what its function says -/
theorem sc__law_tape : FnScope ["script", "seed", "cell"] ["script"] (defScope (top 27)) := ⟨rfl, rfl, rfl, by decide +kernel, rfl, by decide +kernel, by decide +kernel⟩
theorem m__law_tape_ok {P : Program} {w : World} {K : PySem.W.Frag} {mg : Str → Option Value} {base : Heap} (Z : Md P K mg) : FnD P w K mg base 1 (He.ga K "_law_tape") 1 m__law_tape := by
  obtain ⟨fd, F⟩ := Z.d__law_tape
  have nd := sc__law_tape.nd
  refine fnD_of F sc__law_tape rfl (binds_of F fun _ _ _ _ _ _ us hl => match us, hl with | [_], _ => rfl) fun cdv A outer s H E hr gd => ?_
  exact dss_cons (ds_set (i := 1) nd (de_add (de_add (de_mod (de_tf o_int call_int1 rfl Z.b_int boot_int (da_cons (de_bf o_sum (cr_sum rfl) rfl Z.b_sum boot_sum (da_cons (de_sl (de_v 0) do_none (do_some (de_int))) da_nil)) da_nil)) (de_int)) (de_bf o_len c_len rfl Z.b_len boot_len (da_cons (de_v 0) da_nil))) (de_int))) (dss_cons (ds_for (passes_of rfl) rfl (di_seq (de_sl (de_v 0) do_none (do_some (de_int)))) (pg_nm nd) (dss_one (ds_set (i := 1) nd (de_mod (de_tf o_int call_int1 rfl Z.b_int boot_int (da_cons (de_add (de_add (de_mul (de_v 1) (de_int)) (de_mod (de_tf o_int call_int1 rfl Z.b_int boot_int (da_cons (de_v 2) da_nil)) (de_int))) (de_int)) da_nil)) (de_int))))) (dss_one (ds_ret (de_thaw (dn_lst (da_cons (de_v 1) (da_cons (de_int) (da_cons (de_thaw (dn_lc (own := [("cell", 2)]) rfl nd (di_seq (de_sl (de_v 0) do_none (do_some (de_int)))) (blkOk_by (by kernel_rfl)) (fun _ _ _ _ _ => pg_nm nd) (fun _ _ _ _ _ => dts_one (dt_ge (de_bf o_abs call_abs rfl Z.b_abs boot_abs (da_cons (de_v 2) da_nil)) (de_pow (de_int) (de_int)))) (fun _ _ _ _ _ => de_bf o_abs call_abs rfl Z.b_abs boot_abs (da_cons (de_v 2) da_nil)))) da_nil))))))))

theorem sc_is_tuple_ins : FnScope ["thing", "least", "most"] ["thing", "least", "most"] (defScope (top 3)) := ⟨rfl, rfl, rfl, by decide +kernel, rfl, by decide +kernel, by decide +kernel⟩
theorem m_is_tuple_ins_ok {P : Program} {w : World} {K : PySem.W.Frag} {mg : Str → Option Value} {base : Heap} (Z : Md P K mg) : FnD P w K mg base 1 (He.ga K "is_tuple") 3 m_is_tuple_ins := by
  obtain ⟨fd, F⟩ := Z.d_is_tuple
  have nd := sc_is_tuple_ins.nd
  refine fnD_of F sc_is_tuple_ins rfl (binds_of F fun _ _ _ _ _ _ us hl => match us, hl with | [_, _, _], _ => rfl) fun cdv A outer s H E hr gd => ?_
  exact dss_one (ds_ret (de_andX (de_bf (o_isi (own := [(.o "Trials", .b "tuple", false)]) (own_sub Z.own (by decide))) call_isi rfl Z.b_isinstance boot_isinstance (da_cons (de_v 0) (da_cons (de_ty rfl Z.b_tuple boot_tuple) da_nil))) (de_one (de_lele (de_v 1) (de_bf o_len c_len rfl Z.b_len boot_len (da_cons (de_v 0) da_nil)) (de_v 2)))))

theorem sc_is_tuple : FnScope ["thing", "least", "most"] ["thing", "least", "most"] (defScope (top 3)) := ⟨rfl, rfl, rfl, by decide +kernel, rfl, by decide +kernel, by decide +kernel⟩
theorem m_is_tuple_ok {P : Program} {w : World} {K : PySem.W.Frag} {mg : Str → Option Value} {base : Heap} (Z : Md P K mg) : FnD P w K mg base 1 (He.ga K "is_tuple") 3 m_is_tuple := by
  obtain ⟨fd, F⟩ := Z.d_is_tuple
  have nd := sc_is_tuple.nd
  refine fnD_of F sc_is_tuple rfl (binds_of F fun _ _ _ _ _ _ us hl => match us, hl with | [_, _, _], _ => rfl) fun cdv A outer s H E hr gd => ?_
  exact dss_one (ds_ret (de_andX (de_bf (o_isi (own := []) own_nil) call_isi rfl Z.b_isinstance boot_isinstance (da_cons (de_v 0) (da_cons (de_ty rfl Z.b_tuple boot_tuple) da_nil))) (de_one (de_lele (de_v 1) (de_bf o_len c_len rfl Z.b_len boot_len (da_cons (de_v 0) da_nil)) (de_v 2)))))

theorem sc_is_integer : FnScope ["thing"] ["thing"] (defScope (top 1)) := ⟨rfl, rfl, rfl, by decide +kernel, rfl, by decide +kernel, by decide +kernel⟩
theorem m_is_integer_ok {P : Program} {w : World} {K : PySem.W.Frag} {mg : Str → Option Value} {base : Heap} (Z : Md P K mg) : FnD P w K mg base 1 (He.ga K "is_integer") 1 m_is_integer := by
  obtain ⟨fd, F⟩ := Z.d_is_integer
  have nd := sc_is_integer.nd
  refine fnD_of F sc_is_integer rfl (binds_of F fun _ _ _ _ _ _ us hl => match us, hl with | [_], _ => rfl) fun cdv A outer s H E hr gd => ?_
  exact dss_one (ds_ret (de_andX (de_bf (o_isi (own := []) own_nil) call_isi rfl Z.b_isinstance boot_isinstance (da_cons (de_v 0) (da_cons (de_ty rfl Z.b_int boot_int) da_nil))) (de_one (de_notX (de_bf (o_isi (own := []) own_nil) call_isi rfl Z.b_isinstance boot_isinstance (da_cons (de_v 0) (da_cons (de_ty rfl Z.b_bool boot_bool) da_nil)))))))

theorem sc_common : FnScope ["one", "other"] ["one", "other"] (defScope (top 12)) := ⟨rfl, rfl, rfl, by decide +kernel, rfl, by decide +kernel, by decide +kernel⟩
theorem m_common_ok {P : Program} {w : World} {K : PySem.W.Frag} {mg : Str → Option Value} {base : Heap} (Z : Md P K mg) : FnD P w K mg base 1 (He.ga K "common") 2 m_common := by
  obtain ⟨fd, F⟩ := Z.d_common
  have nd := sc_common.nd
  refine fnD_of F sc_common rfl (binds_of F fun _ _ _ _ _ _ us hl => match us, hl with | [_, _], _ => rfl) fun cdv A outer s H E hr gd => ?_
  exact dss_cons (ds_par2 (i := 0) (j := 1) rfl nd (da_cons (de_bf o_abs call_abs rfl Z.b_abs boot_abs (da_cons (de_v 0) da_nil)) (da_cons (de_bf o_abs call_abs rfl Z.b_abs boot_abs (da_cons (de_v 1) da_nil)) da_nil))) (dss_cons (ds_while (lim := (limI 1)) (passes_of rfl) (dt_gt (de_v 1) (de_int)) (dss_one (ds_par2 (i := 0) (j := 1) rfl nd (da_cons (de_v 1) (da_cons (de_mod (de_v 0) (de_v 1)) da_nil))))) (dss_one (ds_ret (de_v 0))))

theorem sc_is_fraction : FnScope ["thing", "one"] ["thing"] (defScope (top 17)) := ⟨rfl, rfl, rfl, by decide +kernel, rfl, by decide +kernel, by decide +kernel⟩
theorem m_is_fraction_ok {P : Program} {w : World} {K : PySem.W.Frag} {mg : Str → Option Value} {base : Heap} (Z : Md P K mg) : FnD P w K mg base 2 (He.ga K "is_fraction") 1 m_is_fraction := by
  obtain ⟨fd, F⟩ := Z.d_is_fraction
  have nd := sc_is_fraction.nd
  refine fnD_of F sc_is_fraction rfl (binds_of F fun _ _ _ _ _ _ us hl => match us, hl with | [_], _ => rfl) fun cdv A outer s H E hr gd => ?_
  exact dss_cons (ds_if (dt_bool (dw_or (dt_not (dt_tru (de_call ((m_is_tuple_ok Z).mono (by decide)) hr gd (takes_of rfl rfl rfl rfl) Z.g_is_tuple rfl (da_cons (de_v 0) (da_cons (de_int) (da_cons (de_int) da_nil)))))) (dw_or (dt_not (dt_tru (de_bf o_all (cr_all rfl) rfl Z.b_all boot_all (da_cons (de_frz (dn_lc (own := [("one", 1)]) rfl nd (di_seq (de_v 0)) (blkOk_by (by kernel_rfl)) (fun _ _ _ _ _ => pg_nm nd) (fun _ _ _ _ _ => dts_nil) (fun _ _ _ _ _ => de_call ((m_is_integer_ok Z).mono (by decide)) hr gd takes0 Z.g_is_integer rfl (da_cons (de_v 1) da_nil)))) da_nil)))) (dw_or1 (dt_lt (de_item (u1 hr) (de_v 0) (de_int)) (de_int)))))) (dss_one (ds_ret (de_bl))) (dss_nil)) (dss_one (ds_ret (de_eq (u64 hr) (de_call ((m_common_ok Z).mono (by decide)) hr gd (takes_of rfl rfl rfl rfl) Z.g_common rfl (da_cons (de_item (u1 hr) (de_v 0) (de_int)) (da_cons (de_item (u1 hr) (de_v 0) (de_int)) da_nil))) (de_int))))

theorem sc_is_share : FnScope ["thing"] ["thing"] (defScope (top 18)) := ⟨rfl, rfl, rfl, by decide +kernel, rfl, by decide +kernel, by decide +kernel⟩
theorem m_is_share_ok {P : Program} {w : World} {K : PySem.W.Frag} {mg : Str → Option Value} {base : Heap} (Z : Md P K mg) : FnD P w K mg base 3 (He.ga K "is_share") 1 m_is_share := by
  obtain ⟨fd, F⟩ := Z.d_is_share
  have nd := sc_is_share.nd
  refine fnD_of F sc_is_share rfl (binds_of F fun _ _ _ _ _ _ us hl => match us, hl with | [_], _ => rfl) fun cdv A outer s H E hr gd => ?_
  exact dss_one (ds_ret (de_andX (de_call ((m_is_fraction_ok Z).mono (by decide)) hr gd (takes_of rfl rfl rfl rfl) Z.g_is_fraction rfl (da_cons (de_v 0) da_nil)) (de_one (de_lele (de_int) (de_item (u1 hr) (de_v 0) (de_int)) (de_item (u1 hr) (de_v 0) (de_int))))))

theorem sc_Trials___init___v3 : FnScope ["self", "chances", "chance"] ["self", "chances"] (defScope (inClass (top 21) 0)) := ⟨rfl, rfl, rfl, by decide +kernel, rfl, by decide +kernel, by decide +kernel⟩
theorem m_Trials___init___v3_ok {P : Program} {w : World} {K : PySem.W.Frag} {mg : Str → Option Value} {base : Heap} (Z : Md P K mg) : FnD P w K mg base 4 (He.ma K (He.ga K "Trials") "__init__") 2 m_Trials___init___v3 := by
  obtain ⟨fd, F⟩ := Z.d_Trials___init__
  have nd := sc_Trials___init___v3.nd
  refine fnD_of F sc_Trials___init___v3 rfl (binds_of F fun _ _ _ _ _ _ us hl => match us, hl with | [_, _], _ => rfl) fun cdv A outer s H E hr gd => ?_
  exact dss_cons (ds_if (dt_bool (dw_or (dt_not (dt_tru (de_call ((m_is_tuple_ins_ok Z).mono (by decide)) hr gd (takes_of rfl rfl rfl rfl) Z.g_is_tuple rfl (da_cons (de_v 1) (da_cons (de_int) (da_cons (de_gint rfl Z.i_MOST_TRIALS) da_nil)))))) (dw_or1 (dt_not (dt_tru (de_bf o_all (cr_all rfl) rfl Z.b_all boot_all (da_cons (de_frz (dn_lc (own := [("chance", 2)]) rfl nd (di_seq (de_v 1)) (blkOk_by (by kernel_rfl)) (fun _ _ _ _ _ => pg_nm nd) (fun _ _ _ _ _ => dts_nil) (fun _ _ _ _ _ => de_call ((m_is_share_ok Z).mono (by decide)) hr gd takes0 Z.g_is_share rfl (da_cons (de_v 2) da_nil)))) da_nil))))))) (dss_one (ds_raise Z.x_BadTrials hr rfl (takes_of rfl rfl rfl rfl) rfl Z.g_BadTrials Z.b_super)) (dss_nil)) (dss_cons (ds_fld Z.c_Trials Z.n_Trials_chances (de_v 1) (de_v 0)) (dss_one (ds_fld Z.c_Trials Z.n_Trials_looked (de_dct0) (de_v 0))))

theorem sc_is_within : FnScope ["thing", "low", "high"] ["thing", "low", "high"] (defScope (top 2)) := ⟨rfl, rfl, rfl, by decide +kernel, rfl, by decide +kernel, by decide +kernel⟩
theorem m_is_within_ok {P : Program} {w : World} {K : PySem.W.Frag} {mg : Str → Option Value} {base : Heap} (Z : Md P K mg) : FnD P w K mg base 2 (He.ga K "is_within") 3 m_is_within := by
  obtain ⟨fd, F⟩ := Z.d_is_within
  have nd := sc_is_within.nd
  refine fnD_of F sc_is_within rfl (binds_of F fun _ _ _ _ _ _ us hl => match us, hl with | [_, _, _], _ => rfl) fun cdv A outer s H E hr gd => ?_
  exact dss_one (ds_ret (de_andX (de_call ((m_is_integer_ok Z).mono (by decide)) hr gd (takes_of rfl rfl rfl rfl) Z.g_is_integer rfl (da_cons (de_v 0) da_nil)) (de_one (de_lele (de_v 1) (de_v 0) (de_v 2)))))

theorem sc_is_lot : FnScope ["thing", "many", "one", "other"] ["thing", "many"] (defScope (top 4)) := ⟨rfl, rfl, rfl, by decide +kernel, rfl, by decide +kernel, by decide +kernel⟩
theorem m_is_lot_ok {P : Program} {w : World} {K : PySem.W.Frag} {mg : Str → Option Value} {base : Heap} (Z : Md P K mg) : FnD P w K mg base 3 (He.ga K "is_lot") 2 m_is_lot := by
  obtain ⟨fd, F⟩ := Z.d_is_lot
  have nd := sc_is_lot.nd
  refine fnD_of F sc_is_lot rfl (binds_of F fun _ _ _ _ _ _ us hl => match us, hl with | [_, _], _ => rfl) fun cdv A outer s H E hr gd => ?_
  exact dss_cons (ds_if (dt_bool (dw_or (dt_not (dt_tru (de_bf (o_isi (own := []) own_nil) call_isi rfl Z.b_isinstance boot_isinstance (da_cons (de_v 0) (da_cons (de_ty rfl Z.b_tuple boot_tuple) da_nil))))) (dw_or1 (dt_not (dt_tru (de_bf o_all (cr_all rfl) rfl Z.b_all boot_all (da_cons (de_frz (dn_lc (own := [("one", 2)]) rfl nd (di_seq (de_v 0)) (blkOk_by (by kernel_rfl)) (fun _ _ _ _ _ => pg_nm nd) (fun _ _ _ _ _ => dts_nil) (fun _ _ _ _ _ => de_call ((m_is_within_ok Z).mono (by decide)) hr gd takes0 Z.g_is_within rfl (da_cons (de_v 2) (da_cons (de_int) (da_cons (de_sub (de_v 1) (de_int)) da_nil)))))) da_nil))))))) (dss_one (ds_ret (de_bl))) (dss_nil)) (dss_one (ds_ret (de_bf o_all (cr_all rfl) rfl Z.b_all boot_all (da_cons (de_frz (dn_lc (own := [("one", 2), ("other", 3)]) rfl nd (di_zip rfl Z.b_zip (da_cons (de_v 0) (da_cons (de_sl (de_v 0) (do_some (de_int)) do_none) da_nil))) (blkOk_by (by kernel_rfl)) (fun _ _ _ _ _ => pg_tp rfl (pgs_co (pg_nm nd) (pgs_co (pg_nm nd) (pgs_no)))) (fun _ _ _ _ _ => dts_nil) (fun _ _ _ _ _ => de_lt (de_v 2) (de_v 3)))) da_nil))))

theorem sc_lowest : FnScope ["top", "bottom", "by"] ["top", "bottom"] (defScope (top 13)) := ⟨rfl, rfl, rfl, by decide +kernel, rfl, by decide +kernel, by decide +kernel⟩
theorem m_lowest_ok {P : Program} {w : World} {K : PySem.W.Frag} {mg : Str → Option Value} {base : Heap} (Z : Md P K mg) : FnD P w K mg base 2 (He.ga K "lowest") 2 m_lowest := by
  obtain ⟨fd, F⟩ := Z.d_lowest
  have nd := sc_lowest.nd
  refine fnD_of F sc_lowest rfl (binds_of F fun _ _ _ _ _ _ us hl => match us, hl with | [_, _], _ => rfl) fun cdv A outer s H E hr gd => ?_
  exact dss_cons (ds_if (dt_lt (de_v 1) (de_int)) (dss_one (ds_par2 (i := 0) (j := 1) rfl nd (da_cons (de_neg (de_v 0)) (da_cons (de_neg (de_v 1)) da_nil)))) (dss_nil)) (dss_cons (ds_set (i := 2) nd (de_call ((m_common_ok Z).mono (by decide)) hr gd (takes_of rfl rfl rfl rfl) Z.g_common rfl (da_cons (de_v 0) (da_cons (de_v 1) da_nil)))) (dss_one (ds_ret (de_tup (da_cons (de_div (de_v 0) (de_v 2)) (da_cons (de_div (de_v 1) (de_v 2)) da_nil))))))

theorem sc_product : FnScope ["one", "other"] ["one", "other"] (defScope (top 16)) := ⟨rfl, rfl, rfl, by decide +kernel, rfl, by decide +kernel, by decide +kernel⟩
theorem m_product_ok {P : Program} {w : World} {K : PySem.W.Frag} {mg : Str → Option Value} {base : Heap} (Z : Md P K mg) : FnD P w K mg base 3 (He.ga K "product") 2 m_product := by
  obtain ⟨fd, F⟩ := Z.d_product
  have nd := sc_product.nd
  refine fnD_of F sc_product rfl (binds_of F fun _ _ _ _ _ _ us hl => match us, hl with | [_, _], _ => rfl) fun cdv A outer s H E hr gd => ?_
  exact dss_one (ds_ret (de_call ((m_lowest_ok Z).mono (by decide)) hr gd (takes_of rfl rfl rfl rfl) Z.g_lowest rfl (da_cons (de_mul (de_item (u1 hr) (de_v 0) (de_int)) (de_item (u1 hr) (de_v 1) (de_int))) (da_cons (de_mul (de_item (u1 hr) (de_v 0) (de_int)) (de_item (u1 hr) (de_v 1) (de_int))) da_nil))))

theorem sc_minus : FnScope ["one", "other"] ["one", "other"] (defScope (top 15)) := ⟨rfl, rfl, rfl, by decide +kernel, rfl, by decide +kernel, by decide +kernel⟩
theorem m_minus_ok {P : Program} {w : World} {K : PySem.W.Frag} {mg : Str → Option Value} {base : Heap} (Z : Md P K mg) : FnD P w K mg base 3 (He.ga K "minus") 2 m_minus := by
  obtain ⟨fd, F⟩ := Z.d_minus
  have nd := sc_minus.nd
  refine fnD_of F sc_minus rfl (binds_of F fun _ _ _ _ _ _ us hl => match us, hl with | [_, _], _ => rfl) fun cdv A outer s H E hr gd => ?_
  exact dss_one (ds_ret (de_call ((m_lowest_ok Z).mono (by decide)) hr gd (takes_of rfl rfl rfl rfl) Z.g_lowest rfl (da_cons (de_sub (de_mul (de_item (u1 hr) (de_v 0) (de_int)) (de_item (u1 hr) (de_v 1) (de_int))) (de_mul (de_item (u1 hr) (de_v 1) (de_int)) (de_item (u1 hr) (de_v 0) (de_int)))) (da_cons (de_mul (de_item (u1 hr) (de_v 0) (de_int)) (de_item (u1 hr) (de_v 1) (de_int))) da_nil))))

theorem sc_none_from : FnScope ["trials", "number", "found", "chance"] ["trials", "number"] (defScope (top 22)) := ⟨rfl, rfl, rfl, by decide +kernel, rfl, by decide +kernel, by decide +kernel⟩
theorem m_none_from_ok {P : Program} {w : World} {K : PySem.W.Frag} {mg : Str → Option Value} {base : Heap} (Z : Md P K mg) : FnD P w K mg base 4 (He.ga K "none_from") 2 m_none_from := by
  obtain ⟨fd, F⟩ := Z.d_none_from
  have nd := sc_none_from.nd
  refine fnD_of F sc_none_from rfl (binds_of F fun _ _ _ _ _ _ us hl => match us, hl with | [_, _], _ => rfl) fun cdv A outer s H E hr gd => ?_
  exact dss_cons (ds_set (i := 2) nd (de_gtup (is := [1, 1]) rfl Z.g_WHOLE Z.t_WHOLE)) (dss_cons (ds_for (passes_of rfl) rfl (di_seq (de_sl (de_fld Z.c_Trials Z.n_Trials_chances (de_v 0)) (do_some (de_v 1)) do_none)) (pg_nm nd) (dss_one (ds_set (i := 2) nd (de_call ((m_product_ok Z).mono (by decide)) hr gd (takes_of rfl rfl rfl rfl) Z.g_product rfl (da_cons (de_v 2) (da_cons (de_call ((m_minus_ok Z).mono (by decide)) hr gd (takes_of rfl rfl rfl rfl) Z.g_minus rfl (da_cons (de_gtup (is := [1, 1]) rfl Z.g_WHOLE Z.t_WHOLE) (da_cons (de_v 3) da_nil))) da_nil)))))) (dss_one (ds_ret (de_v 2))))

theorem sc_last_shares : FnScope ["trials", "number", "chance"] ["trials"] (defScope (top 23)) := ⟨rfl, rfl, rfl, by decide +kernel, rfl, by decide +kernel, by decide +kernel⟩
theorem m_last_shares_ok {P : Program} {w : World} {K : PySem.W.Frag} {mg : Str → Option Value} {base : Heap} (Z : Md P K mg) : FnD P w K mg base 5 (He.ga K "last_shares") 1 m_last_shares := by
  obtain ⟨fd, F⟩ := Z.d_last_shares
  have nd := sc_last_shares.nd
  refine fnD_of F sc_last_shares rfl (binds_of F fun _ _ _ _ _ _ us hl => match us, hl with | [_], _ => rfl) fun cdv A outer s H E hr gd => ?_
  exact dss_one (ds_ret (de_frz (dn_lc (own := [("number", 1), ("chance", 2)]) rfl nd (di_enumA rfl Z.b_enumerate (da_cons (de_fld Z.c_Trials Z.n_Trials_chances (de_v 0)) da_nil)) (blkOk_by (by kernel_rfl)) (fun _ _ _ _ _ => pg_tp rfl (pgs_co (pg_nm nd) (pgs_co (pg_nm nd) (pgs_no)))) (fun _ _ _ _ _ => dts_nil) (fun _ _ _ _ _ => de_call ((m_product_ok Z).mono (by decide)) hr gd takes0 Z.g_product rfl (da_cons (de_v 2) (da_cons (de_call ((m_none_from_ok Z).mono (by decide)) hr gd takes0 Z.g_none_from rfl (da_cons (de_v 0) (da_cons (de_add (de_v 1) (de_int)) da_nil))) da_nil))))))

theorem sc_plus : FnScope ["one", "other"] ["one", "other"] (defScope (top 14)) := ⟨rfl, rfl, rfl, by decide +kernel, rfl, by decide +kernel, by decide +kernel⟩
theorem m_plus_ok {P : Program} {w : World} {K : PySem.W.Frag} {mg : Str → Option Value} {base : Heap} (Z : Md P K mg) : FnD P w K mg base 3 (He.ga K "plus") 2 m_plus := by
  obtain ⟨fd, F⟩ := Z.d_plus
  have nd := sc_plus.nd
  refine fnD_of F sc_plus rfl (binds_of F fun _ _ _ _ _ _ us hl => match us, hl with | [_, _], _ => rfl) fun cdv A outer s H E hr gd => ?_
  exact dss_one (ds_ret (de_call ((m_lowest_ok Z).mono (by decide)) hr gd (takes_of rfl rfl rfl rfl) Z.g_lowest rfl (da_cons (de_add (de_mul (de_item (u1 hr) (de_v 0) (de_int)) (de_item (u1 hr) (de_v 1) (de_int))) (de_mul (de_item (u1 hr) (de_v 1) (de_int)) (de_item (u1 hr) (de_v 0) (de_int)))) (da_cons (de_mul (de_item (u1 hr) (de_v 0) (de_int)) (de_item (u1 hr) (de_v 1) (de_int))) da_nil))))

theorem sc_won : FnScope ["trials", "lot", "found", "rests", "still", "number"] ["trials", "lot"] (defScope (top 24)) := ⟨rfl, rfl, rfl, by decide +kernel, rfl, by decide +kernel, by decide +kernel⟩
theorem m_won_ok {P : Program} {w : World} {K : PySem.W.Frag} {mg : Str → Option Value} {base : Heap} (Z : Md P K mg) : FnD P w K mg base 6 (He.ga K "won") 2 m_won := by
  obtain ⟨fd, F⟩ := Z.d_won
  have nd := sc_won.nd
  refine fnD_of F sc_won rfl (binds_of F fun _ _ _ _ _ _ us hl => match us, hl with | [_, _], _ => rfl) fun cdv A outer s H E hr gd => ?_
  exact dss_cons (ds_par2 (i := 2) (j := 3) rfl nd (da_cons (de_gtup (is := [0, 1]) rfl Z.g_NONE Z.t_NONE) (da_cons (de_call ((m_last_shares_ok Z).mono (by decide)) hr gd (takes_of rfl rfl rfl rfl) Z.g_last_shares rfl (da_cons (de_v 0) da_nil)) da_nil))) (dss_cons (ds_set (i := 4) nd (de_gtup (is := [1, 1]) rfl Z.g_WHOLE Z.t_WHOLE)) (dss_cons (ds_for (passes_of rfl) rfl (di_seq (de_v 1)) (pg_nm nd) (dss_cons (ds_set (i := 2) nd (de_call ((m_plus_ok Z).mono (by decide)) hr gd (takes_of rfl rfl rfl rfl) Z.g_plus rfl (da_cons (de_v 2) (da_cons (de_call ((m_product_ok Z).mono (by decide)) hr gd (takes_of rfl rfl rfl rfl) Z.g_product rfl (da_cons (de_v 4) (da_cons (de_item (u1 hr) (de_v 3) (de_v 5)) da_nil))) da_nil)))) (dss_one (ds_set (i := 4) nd (de_call ((m_product_ok Z).mono (by decide)) hr gd (takes_of rfl rfl rfl rfl) Z.g_product rfl (da_cons (de_v 4) (da_cons (de_call ((m_minus_ok Z).mono (by decide)) hr gd (takes_of rfl rfl rfl rfl) Z.g_minus rfl (da_cons (de_gtup (is := [1, 1]) rfl Z.g_WHOLE Z.t_WHOLE) (da_cons (de_item (u1 hr) (de_fld Z.c_Trials Z.n_Trials_chances (de_v 0)) (de_v 5)) da_nil))) da_nil))))))) (dss_one (ds_ret (de_v 2)))))

theorem sc_win : FnScope ["trials", "lot"] ["trials", "lot"] (defScope (top 25)) := ⟨rfl, rfl, rfl, by decide +kernel, rfl, by decide +kernel, by decide +kernel⟩
theorem m_win_ok {P : Program} {w : World} {K : PySem.W.Frag} {mg : Str → Option Value} {base : Heap} (Z : Md P K mg) : FnD P w K mg base 7 (He.ga K "win") 2 m_win := by
  obtain ⟨fd, F⟩ := Z.d_win
  have nd := sc_win.nd
  refine fnD_of F sc_win rfl (binds_of F fun _ _ _ _ _ _ us hl => match us, hl with | [_, _], _ => rfl) fun cdv A outer s H E hr gd => ?_
  exact dss_cons (ds_if (dt_not (dt_tru (de_call ((m_is_lot_ok Z).mono (by decide)) hr gd (takes_of rfl rfl rfl rfl) Z.g_is_lot rfl (da_cons (de_v 1) (da_cons (de_bf o_len c_len rfl Z.b_len boot_len (da_cons (de_fld Z.c_Trials Z.n_Trials_chances (de_v 0)) da_nil)) da_nil))))) (dss_one (ds_never)) (dss_nil)) (dss_one (ds_ret (de_call ((m_won_ok Z).mono (by decide)) hr gd (takes_of rfl rfl rfl rfl) Z.g_won rfl (da_cons (de_v 0) (da_cons (de_v 1) da_nil)))))

theorem sc__law_is_refused : FnScope ["thing", "is_so", "error"] ["thing"] (defScope (top 42)) := ⟨rfl, rfl, rfl, by decide +kernel, rfl, by decide +kernel, by decide +kernel⟩
theorem m__law_is_refused_ok {P : Program} {w : World} {K : PySem.W.Frag} {mg : Str → Option Value} {base : Heap} (Z : Md P K mg) : FnD P w K mg base 6 (He.ga K "_law_is_refused") 1 m__law_is_refused := by
  obtain ⟨fd, F⟩ := Z.d__law_is_refused
  have nd := sc__law_is_refused.nd
  refine fnD_of F sc__law_is_refused rfl (binds_of F fun _ _ _ _ _ _ us hl => match us, hl with | [_], _ => rfl) fun cdv A outer s H E hr gd => ?_
  exact dss_cons (ds_set (i := 1) nd (de_bl)) (dss_cons (ds_tryN (n := 3) (i := 2) (tbl := [("BadTrials", .set 1 (.bl true))]) rfl rfl nd rfl rfl ⟨rfl, by decide, .inl Z.g_ChanceError⟩ (takes_of rfl rfl rfl rfl) (fun W pn xe t1 t2 => dss_one (ds_exp (de_make (k := 4) ((m_Trials___init___v3_ok Z).mono (by decide)) Z.mk_Trials hr gd t1 Z.g_Trials rfl (da_cons (de_v 0) da_nil)))) (fun C e h => lk_one h ⟨Z.xm_BadTrials_ChanceError, fun a => sSet 1 (andX (eIsE a 2 true) (eIsE a 2 true)), fun a oe pn hz hf => dss_one (ds_set (i := 1) nd (de_andX (de_isK hz hf Z.xc_BadTrials rfl Z.b_isinstance rfl (Or.inl rfl) rfl Z.g_BadTrials Z.k_BadTrials_BadTrials) (de_one (de_isV (n := "ValueError") hz hf Z.xc_BadTrials rfl Z.b_isinstance rfl (Or.inl rfl) rfl Z.b_ValueError boot_ValueError Z.kv_BadTrials_ValueError)))), fun a ρ h hl => match ρ, hl with
    | [x0, x1, x2], _ => by
      have e : ∀ (b : Bool) (y0 y1 : Option D) (hh : Hs), eIsE a 2 b [y0, y1, some (.exn a)] hh = .ok (.bl b) hh := fun b y0 y1 _ => eIsE_at rfl
      refine ⟨by decide, ?_⟩
      show (sSet 1 (andX (eIsE a 2 true) (eIsE a 2 true))) [x0, x1, some (.exn a)] h = _
      simp only [sSeq, Pl.eV0, Pl.eVs, Pl.bind_ok', Pl.then_ok, Pl.q_e2, Pl.q_e1, Pl.q_eC, Pl.q_aC, Pl.q_aN, Pl.q_sPar2, Pl.q_sPar3, Pl.q_sSet, Pl.q_sRet, Pl.q_eBf, Pl.q_nBf, Pl.q_eCall, Pl.q_tst, Pl.q_tru, Pl.q_ifV, Pl.q_sIf, Pl.q_eTup, Pl.q_sPass, Pl.q_sExp, Pl.q_eLm, Pl.q_nLst, Pl.q_frz, Pl.q_thaw, Pl.q_iSeq, Pl.q_iR2, Pl.q_iR3, Pl.q_iEnumD, Pl.q_iZip, Pl.q_andX, Pl.q_andT, Pl.q_orT, Pl.q_notT, Pl.q_eCh, Pl.q_sPat, Pl.q_eSl, Pl.q_nSl, Pl.q_pS, Pl.q_pN, Pl.q_sRetN, Pl.q_tYes, Pl.q_eDct0, Pl.okL0, Pl.okL1, Pl.okL2, Pl.okL3, Pl.okL4, Pl.okL5, Pl.okL6, ent, List.map_cons, List.map_nil, List.length_cons, List.length_nil, List.set_cons_zero, List.set_cons_succ, List.replicate, List.cons_append, List.nil_append, Nat.reduceAdd, Nat.reduceSub, Nat.sub_self, Nat.sub_zero, Pl.zero_add', ↓reduceIte, Bool.false_eq_true, Pl.item0, Pl.item1, Pl.addD_ii, Pl.subD_ii, Pl.negD_i, Pl.absD_i, Pl.ltD_ii, Pl.leD_ii, Pl.gtD_ii, Pl.geD_ii, Pl.truD_bl, decide_true, decide_false, e, eRm]
      try first | rfl | kernel_rfl⟩)) (dss_one (ds_ret (de_v 1))))

theorem sc__law_draw : FnScope ["tape", "sides", "cells", "digit", "mixed"] ["tape", "sides"] (defScope (top 28)) := ⟨rfl, rfl, rfl, by decide +kernel, rfl, by decide +kernel, by decide +kernel⟩
theorem m__law_draw_ok {P : Program} {w : World} {K : PySem.W.Frag} {mg : Str → Option Value} {base : Heap} (Z : Md P K mg) : FnD P w K mg base 1 (He.ga K "_law_draw") 2 m__law_draw := by
  obtain ⟨fd, F⟩ := Z.d__law_draw
  have nd := sc__law_draw.nd
  refine fnD_of F sc__law_draw rfl (binds_of F fun _ _ _ _ _ _ us hl => match us, hl with | [_, _], _ => rfl) fun cdv A outer s H E hr gd => ?_
  exact dss_cons (ds_store (u1 hr) (de_add (de_item (u1 hr) (de_v 0) (de_int)) (de_int)) (de_v 0) (de_int)) (dss_cons (ds_set (i := 2) nd (de_item (u1 hr) (de_v 0) (de_int))) (dss_cons (ds_if (dt_gt (de_bf o_len c_len rfl Z.b_len boot_len (da_cons (de_v 2) da_nil)) (de_int)) (dss_cons (ds_set (i := 3) nd (de_mod (de_tf o_int call_int1 rfl Z.b_int boot_int (da_cons (de_item (u1 hr) (de_v 2) (de_int)) da_nil)) (de_v 1))) (dss_cons (ds_store (u1 hr) (de_div (de_item (u1 hr) (de_v 2) (de_int)) (de_v 1)) (de_v 2) (de_int)) (dss_cons (ds_if (dt_eq (u64 hr) (de_item (u1 hr) (de_v 2) (de_int)) (de_int)) (dss_one (ds_exp (de_pop1 (de_v 2) (da_cons (de_int) da_nil)))) (dss_nil)) (dss_one (ds_ret (de_v 3)))))) (dss_nil)) (dss_cons (ds_set (i := 4) nd (de_mod (de_tf o_int call_int1 rfl Z.b_int boot_int (da_cons (de_mul (de_add (de_item (u1 hr) (de_v 0) (de_int)) (de_mul (de_int) (de_item (u1 hr) (de_v 0) (de_int)))) (de_int)) da_nil)) (de_int))) (dss_cons (ds_set (i := 4) nd (de_mod (de_tf o_int call_int1 rfl Z.b_int boot_int (da_cons (de_mul (de_v 4) (de_add (de_div (de_v 4) (de_int)) (de_int))) da_nil)) (de_int))) (dss_cons (ds_set (i := 4) nd (de_mod (de_tf o_int call_int1 rfl Z.b_int boot_int (da_cons (de_mul (de_v 4) (de_add (de_div (de_v 4) (de_int)) (de_int))) da_nil)) (de_int))) (dss_one (ds_ret (de_mod (de_tf o_int call_int1 rfl Z.b_int boot_int (da_cons (de_div (de_v 4) (de_int)) da_nil)) (de_v 1)))))))))

theorem sc__law_any : FnScope ["tape", "things"] ["tape", "things"] (defScope (top 29)) := ⟨rfl, rfl, rfl, by decide +kernel, rfl, by decide +kernel, by decide +kernel⟩
theorem m__law_any_ok {P : Program} {w : World} {K : PySem.W.Frag} {mg : Str → Option Value} {base : Heap} (Z : Md P K mg) : FnD P w K mg base 2 (He.ga K "_law_any") 2 m__law_any := by
  obtain ⟨fd, F⟩ := Z.d__law_any
  have nd := sc__law_any.nd
  refine fnD_of F sc__law_any rfl (binds_of F fun _ _ _ _ _ _ us hl => match us, hl with | [_, _], _ => rfl) fun cdv A outer s H E hr gd => ?_
  exact dss_one (ds_ret (de_item (u1 hr) (de_v 1) (de_call ((m__law_draw_ok Z).mono (by decide)) hr gd (takes_of rfl rfl rfl rfl) Z.g__law_draw rfl (da_cons (de_v 0) (da_cons (de_bf o_len c_len rfl Z.b_len boot_len (da_cons (de_v 1) da_nil)) da_nil)))))

theorem sc__law_low : FnScope ["top", "bottom", "one", "other"] ["top", "bottom"] (defScope (top 31)) := ⟨rfl, rfl, rfl, by decide +kernel, rfl, by decide +kernel, by decide +kernel⟩
theorem m__law_low_ok {P : Program} {w : World} {K : PySem.W.Frag} {mg : Str → Option Value} {base : Heap} (Z : Md P K mg) : FnD P w K mg base 1 (He.ga K "_law_low") 2 m__law_low := by
  obtain ⟨fd, F⟩ := Z.d__law_low
  have nd := sc__law_low.nd
  refine fnD_of F sc__law_low rfl (binds_of F fun _ _ _ _ _ _ us hl => match us, hl with | [_, _], _ => rfl) fun cdv A outer s H E hr gd => ?_
  exact dss_cons (ds_par2 (i := 2) (j := 3) rfl nd (da_cons (de_bf o_abs call_abs rfl Z.b_abs boot_abs (da_cons (de_v 0) da_nil)) (da_cons (de_v 1) da_nil))) (dss_cons (ds_while (lim := (limI 3)) (passes_of rfl) (dt_gt (de_v 3) (de_int)) (dss_one (ds_par2 (i := 2) (j := 3) rfl nd (da_cons (de_v 3) (da_cons (de_mod (de_tf o_int call_int1 rfl Z.b_int boot_int (da_cons (de_v 2) da_nil)) (de_v 3)) da_nil))))) (dss_one (ds_ret (de_tup (da_cons (de_div (de_v 0) (de_v 2)) (da_cons (de_div (de_v 1) (de_v 2)) da_nil))))))

theorem sc__law_chances : FnScope ["tape", "most", "found", "size", "trial", "bottom"] ["tape", "most"] (defScope (top 35)) := ⟨rfl, rfl, rfl, by decide +kernel, rfl, by decide +kernel, by decide +kernel⟩
theorem m__law_chances_ok {P : Program} {w : World} {K : PySem.W.Frag} {mg : Str → Option Value} {base : Heap} (Z : Md P K mg) : FnD P w K mg base 3 (He.ga K "_law_chances") 2 m__law_chances := by
  obtain ⟨fd, F⟩ := Z.d__law_chances
  have nd := sc__law_chances.nd
  refine fnD_of F sc__law_chances rfl (binds_of F fun _ _ _ _ _ _ us hl => match us, hl with | [_, _], _ => rfl) fun cdv A outer s H E hr gd => ?_
  exact dss_cons (ds_par2 (i := 2) (j := 3) rfl nd (da_cons (de_thaw (dn_lst da_nil)) (da_cons (de_add (de_int) (de_call ((m__law_draw_ok Z).mono (by decide)) hr gd (takes_of rfl rfl rfl rfl) Z.g__law_draw rfl (da_cons (de_v 0) (da_cons (de_v 1) da_nil)))) da_nil))) (dss_cons (ds_for (passes_of rfl) rfl (di_range1 rfl Z.b_range (da_cons (de_v 3) da_nil)) (pg_nm nd) (dss_cons (ds_set (i := 5) nd (de_call ((m__law_any_ok Z).mono (by decide)) hr gd (takes_of rfl rfl rfl rfl) Z.g__law_any rfl (da_cons (de_v 0) (da_cons (de_frz (dn_lst (da_cons (de_int) (da_cons (de_int) (da_cons (de_int) (da_cons (de_int) (da_cons (de_add (de_v 4) (de_int)) (da_cons (de_int) (da_cons (de_pow (de_int) (de_int)) da_nil))))))))) da_nil)))) (dss_one (ds_exp (de_app (de_v 2) (da_cons (de_call ((m__law_any_ok Z).mono (by decide)) hr gd (takes_of rfl rfl rfl rfl) Z.g__law_any rfl (da_cons (de_v 0) (da_cons (de_add (de_mul (de_frz (dn_lst (da_cons (de_call ((m__law_low_ok Z).mono (by decide)) hr gd (takes_of rfl rfl rfl rfl) Z.g__law_low rfl (da_cons (de_call ((m__law_draw_ok Z).mono (by decide)) hr gd (takes_of rfl rfl rfl rfl) Z.g__law_draw rfl (da_cons (de_v 0) (da_cons (de_add (de_v 5) (de_int)) da_nil))) (da_cons (de_v 5) da_nil))) da_nil))) (de_int)) (de_frz (dn_lst (da_cons (de_tup (da_cons (de_int) (da_cons (de_add (de_v 4) (de_int)) da_nil))) (da_cons (de_tup (da_cons (de_int) (da_cons (de_int) da_nil))) (da_cons (de_tup (da_cons (de_int) (da_cons (de_int) da_nil))) da_nil)))))) da_nil))) da_nil)))))) (dss_one (ds_ret (de_tf o_tup call_tuple_of rfl Z.b_tuple boot_tuple (da_cons (de_v 2) da_nil)))))

theorem sc_Trials___eq___v3 : FnScope ["self", "other"] ["self", "other"] (defScope (inClass (top 21) 1)) := ⟨rfl, rfl, rfl, by decide +kernel, rfl, by decide +kernel, by decide +kernel⟩
theorem m_Trials___eq___v3_ok {P : Program} {w : World} {K : PySem.W.Frag} {mg : Str → Option Value} {base : Heap} (Z : Md P K mg) : FnD P w K mg base 1 (He.ma K (He.ga K "Trials") "__eq__") 2 m_Trials___eq___v3 := by
  obtain ⟨fd, F⟩ := Z.d_Trials___eq__
  have nd := sc_Trials___eq___v3.nd
  refine fnD_of F sc_Trials___eq___v3 rfl (binds_of F fun _ _ _ _ _ _ us hl => match us, hl with | [_, _], _ => rfl) fun cdv A outer s H E hr gd => ?_
  exact dss_one (ds_ret (de_andX (de_bf (o_isi (own := [(.o "Trials", .o "Trials", true), (.b "tuple", .o "Trials", false), (.b "NoneType", .o "Trials", false), (.b "int", .o "Trials", false), (.b "str", .o "Trials", false), (.b "list", .o "Trials", false)]) (own_sub Z.own (by decide))) call_isi rfl Z.b_isinstance boot_isinstance (da_cons (de_v 1) (da_cons (de_glo rfl Z.g_Trials) da_nil))) (de_one (de_eq (u64 hr) (de_fld Z.c_Trials Z.n_Trials_chances (de_v 0)) (de_fld Z.c_Trials Z.n_Trials_chances (de_v 1))))))

theorem sc__law_deep_v4 : FnScope ["tape", "thing", "turn"] ["tape"] (defScope (top 30)) := ⟨rfl, rfl, rfl, by decide +kernel, rfl, by decide +kernel, by decide +kernel⟩
theorem m__law_deep_v4_ok {P : Program} {w : World} {K : PySem.W.Frag} {mg : Str → Option Value} {base : Heap} (Z : Md P K mg) : FnD P w K mg base 3 (He.ga K "_law_deep") 1 m__law_deep_v4 := by
  obtain ⟨fd, F⟩ := Z.d__law_deep
  have nd := sc__law_deep_v4.nd
  refine fnD_of F sc__law_deep_v4 rfl (binds_of F fun _ _ _ _ _ _ us hl => match us, hl with | [_], _ => rfl) fun cdv A outer s H E hr gd => ?_
  exact dss_cons (ds_set (i := 1) nd (de_call ((m__law_any_ok Z).mono (by decide)) hr gd (takes_of rfl rfl rfl rfl) Z.g__law_any rfl (da_cons (de_v 0) (da_cons (de_frz (dn_lst (da_cons (de_non) (da_cons (de_str) (da_cons (de_dct0) da_nil))))) da_nil)))) (dss_cons (ds_for (passes_of rfl) rfl (di_range1 rfl Z.b_range (da_cons (de_add (de_int) (de_call ((m__law_draw_ok Z).mono (by decide)) hr gd (takes_of rfl rfl rfl rfl) Z.g__law_draw rfl (da_cons (de_v 0) (da_cons (de_int) da_nil)))) da_nil)) (pg_nm nd) (dss_one (ds_set (i := 1) nd (de_if (dt_eq (u64 hr) (de_call ((m__law_draw_ok Z).mono (by decide)) hr gd (takes_of rfl rfl rfl rfl) Z.g__law_draw rfl (da_cons (de_v 0) (da_cons (de_int) da_nil))) (de_int)) (de_frz (dn_lst (da_cons (de_v 1) da_nil))) (de_tup (da_cons (de_v 1) da_nil)))))) (dss_one (ds_ret (de_v 1))))

theorem sc__law_bent_v3 : FnScope ["tape", "chances", "trials", "at", "share", "odd", "some"] ["tape", "chances", "trials"] (defScope (top 41)) := ⟨rfl, rfl, rfl, by decide +kernel, rfl, by decide +kernel, by decide +kernel⟩
theorem m__law_bent_v3_ok {P : Program} {w : World} {K : PySem.W.Frag} {mg : Str → Option Value} {base : Heap} (Z : Md P K mg) : FnD P w K mg base 4 (He.ga K "_law_bent") 3 m__law_bent_v3 := by
  obtain ⟨fd, F⟩ := Z.d__law_bent
  have nd := sc__law_bent_v3.nd
  refine fnD_of F sc__law_bent_v3 rfl (binds_of F fun _ _ _ _ _ _ us hl => match us, hl with | [_, _, _], _ => rfl) fun cdv A outer s H E hr gd => ?_
  exact dss_cons (ds_set (i := 3) nd (de_call ((m__law_draw_ok Z).mono (by decide)) hr gd (takes_of rfl rfl rfl rfl) Z.g__law_draw rfl (da_cons (de_v 0) (da_cons (de_bf o_len c_len rfl Z.b_len boot_len (da_cons (de_v 1) da_nil)) da_nil)))) (dss_cons (ds_set (i := 4) nd (de_item (u1 hr) (de_v 1) (de_v 3))) (dss_cons (ds_set (i := 5) nd (de_frz (dn_lst (da_cons (de_tup (da_cons (de_mul (de_int) (de_item (u1 hr) (de_v 4) (de_int))) (da_cons (de_mul (de_int) (de_item (u1 hr) (de_v 4) (de_int))) da_nil))) (da_cons (de_tup (da_cons (de_add (de_item (u1 hr) (de_v 4) (de_int)) (de_int)) (da_cons (de_item (u1 hr) (de_v 4) (de_int)) da_nil))) (da_cons (de_tup (da_cons (de_neg (de_int)) (da_cons (de_int) da_nil))) (da_cons (de_tup (da_cons (de_int) (da_cons (de_int) da_nil))) (da_cons (de_tup (da_cons (de_int) (da_cons (de_int) da_nil))) (da_cons (de_tup (da_cons (de_int) (da_cons (de_int) da_nil))) (da_cons (de_item (u1 hr) (de_v 4) (de_int)) (da_cons (de_non) (da_cons (de_str) da_nil)))))))))))) (dss_cons (ds_set (i := 5) nd (de_add (de_v 5) (de_frz (dn_lst (da_cons (de_frz (dn_tf o_list call_list_of rfl Z.b_list boot_list (da_cons (de_v 4) da_nil))) (da_cons (de_add (de_v 4) (de_tup (da_cons (de_int) da_nil))) (da_cons (de_sl (de_v 4) do_none (do_some (de_int))) (da_cons (de_tup (da_cons (de_bl) (da_cons (de_int) da_nil))) (da_cons (de_tup (da_cons (de_int) (da_cons (de_int) da_nil))) (da_cons (de_tup (da_cons (de_int) (da_cons (de_int) da_nil))) (da_cons (de_tup (da_cons (de_int) (da_cons (de_int) da_nil))) (da_cons (de_tup (da_cons (de_item (u1 hr) (de_v 4) (de_int)) (da_cons (de_neg (de_int)) da_nil))) (da_cons (de_tup (da_cons (de_int) (da_cons (de_bl) da_nil))) (da_cons (de_tup da_nil) da_nil)))))))))))))) (dss_cons (ds_set (i := 6) nd (de_add (de_mul (de_frz (dn_lst (da_cons (de_add (de_add (de_sl (de_v 1) do_none (do_some (de_v 3))) (de_tup (da_cons (de_call ((m__law_any_ok Z).mono (by decide)) hr gd (takes_of rfl rfl rfl rfl) Z.g__law_any rfl (da_cons (de_v 0) (da_cons (de_v 5) da_nil))) da_nil))) (de_sl (de_v 1) (do_some (de_add (de_v 3) (de_int))) do_none)) da_nil))) (de_int)) (de_frz (dn_lst (da_cons (de_frz (dn_tf o_list call_list_of rfl Z.b_list boot_list (da_cons (de_v 1) da_nil))) (da_cons (de_sl (de_v 1) (do_some (de_int)) do_none) (da_cons (de_rev (de_v 1)) (da_cons (de_v 4) da_nil)))))))) (dss_one (ds_ret (de_call ((m__law_any_ok Z).mono (by decide)) hr gd (takes_of rfl rfl rfl rfl) Z.g__law_any rfl (da_cons (de_v 0) (da_cons (de_add (de_v 6) (de_frz (dn_lst (da_cons (de_add (de_v 1) (de_tup (da_cons (de_tup (da_cons (de_int) (da_cons (de_int) da_nil))) da_nil))) (da_cons (de_mul (de_tup (da_cons (de_tup (da_cons (de_int) (da_cons (de_int) da_nil))) da_nil)) (de_int)) (da_cons (de_mul (de_tup (da_cons (de_tup (da_cons (de_int) (da_cons (de_int) da_nil))) da_nil)) (de_int)) (da_cons (de_tup da_nil) (da_cons (de_non) (da_cons (de_int) (da_cons (de_dct0) (da_cons (de_v 2) (da_cons (de_call ((m__law_deep_v4_ok Z).mono (by decide)) hr gd (takes_of rfl rfl rfl rfl) Z.g__law_deep rfl (da_cons (de_v 0) da_nil)) da_nil)))))))))))) da_nil)))))))))

theorem sc__law_is_in : FnScope ["thing", "least", "most"] ["thing", "least", "most"] (defScope (top 38)) := ⟨rfl, rfl, rfl, by decide +kernel, rfl, by decide +kernel, by decide +kernel⟩
theorem m__law_is_in_ok {P : Program} {w : World} {K : PySem.W.Frag} {mg : Str → Option Value} {base : Heap} (Z : Md P K mg) : FnD P w K mg base 1 (He.ga K "_law_is_in") 3 m__law_is_in := by
  obtain ⟨fd, F⟩ := Z.d__law_is_in
  have nd := sc__law_is_in.nd
  refine fnD_of F sc__law_is_in rfl (binds_of F fun _ _ _ _ _ _ us hl => match us, hl with | [_, _, _], _ => rfl) fun cdv A outer s H E hr gd => ?_
  exact dss_one (ds_ret (de_andX (de_bf (o_isi (own := []) own_nil) call_isi rfl Z.b_isinstance boot_isinstance (da_cons (de_v 0) (da_cons (de_ty rfl Z.b_int boot_int) da_nil))) (de_andX (de_notX (de_bf (o_isi (own := []) own_nil) call_isi rfl Z.b_isinstance boot_isinstance (da_cons (de_v 0) (da_cons (de_ty rfl Z.b_bool boot_bool) da_nil)))) (de_one (de_lele (de_v 1) (de_v 0) (de_v 2))))))

theorem sc__law_is_share_v3 : FnScope ["thing", "one"] ["thing"] (defScope (top 39)) := ⟨rfl, rfl, rfl, by decide +kernel, rfl, by decide +kernel, by decide +kernel⟩
theorem m__law_is_share_v3_ok {P : Program} {w : World} {K : PySem.W.Frag} {mg : Str → Option Value} {base : Heap} (Z : Md P K mg) : FnD P w K mg base 2 (He.ga K "_law_is_share") 1 m__law_is_share_v3 := by
  obtain ⟨fd, F⟩ := Z.d__law_is_share
  have nd := sc__law_is_share_v3.nd
  refine fnD_of F sc__law_is_share_v3 rfl (binds_of F fun _ _ _ _ _ _ us hl => match us, hl with | [_], _ => rfl) fun cdv A outer s H E hr gd => ?_
  exact dss_cons (ds_if (dt_bool (dw_or (dt_not (dt_tru (de_bf (o_isi (own := []) own_nil) call_isi rfl Z.b_isinstance boot_isinstance (da_cons (de_v 0) (da_cons (de_ty rfl Z.b_tuple boot_tuple) da_nil))))) (dw_or (dt_ne (u64 hr) (de_bf o_len c_len rfl Z.b_len boot_len (da_cons (de_v 0) da_nil)) (de_int)) (dw_or1 (dt_not (dt_tru (de_bf o_all (cr_all rfl) rfl Z.b_all boot_all (da_cons (de_frz (dn_lc (own := [("one", 1)]) rfl nd (di_seq (de_v 0)) (blkOk_by (by kernel_rfl)) (fun _ _ _ _ _ => pg_nm nd) (fun _ _ _ _ _ => dts_nil) (fun _ _ _ _ _ => de_call ((m__law_is_in_ok Z).mono (by decide)) hr gd takes0 Z.g__law_is_in rfl (da_cons (de_v 1) (da_cons (de_int) (da_cons (de_pow (de_int) (de_int)) da_nil)))))) da_nil)))))))) (dss_one (ds_ret (de_bl))) (dss_nil)) (dss_one (ds_ret (de_andX (de_lele (de_int) (de_item (u1 hr) (de_v 0) (de_int)) (de_item (u1 hr) (de_v 0) (de_int))) (de_andX (de_gt (de_item (u1 hr) (de_v 0) (de_int)) (de_int)) (de_one (de_eq (u64 hr) (de_call ((m__law_low_ok Z).mono (by decide)) hr gd (takes_of rfl rfl rfl rfl) Z.g__law_low rfl (da_cons (de_item (u1 hr) (de_v 0) (de_int)) (da_cons (de_item (u1 hr) (de_v 0) (de_int)) da_nil))) (de_v 0)))))))

theorem sc__law_are_chances_v2 : FnScope ["thing", "one"] ["thing"] (defScope (top 40)) := ⟨rfl, rfl, rfl, by decide +kernel, rfl, by decide +kernel, by decide +kernel⟩
theorem m__law_are_chances_v2_ok {P : Program} {w : World} {K : PySem.W.Frag} {mg : Str → Option Value} {base : Heap} (Z : Md P K mg) : FnD P w K mg base 3 (He.ga K "_law_are_chances") 1 m__law_are_chances_v2 := by
  obtain ⟨fd, F⟩ := Z.d__law_are_chances
  have nd := sc__law_are_chances_v2.nd
  refine fnD_of F sc__law_are_chances_v2 rfl (binds_of F fun _ _ _ _ _ _ us hl => match us, hl with | [_], _ => rfl) fun cdv A outer s H E hr gd => ?_
  exact dss_one (ds_ret (de_andX (de_bf (o_isi (own := [(.o "Trials", .b "tuple", false)]) (own_sub Z.own (by decide))) call_isi rfl Z.b_isinstance boot_isinstance (da_cons (de_v 0) (da_cons (de_ty rfl Z.b_tuple boot_tuple) da_nil))) (de_andX (de_lele (de_int) (de_bf o_len c_len rfl Z.b_len boot_len (da_cons (de_v 0) da_nil)) (de_int)) (de_one (de_bf o_all (cr_all rfl) rfl Z.b_all boot_all (da_cons (de_frz (dn_lc (own := [("one", 1)]) rfl nd (di_seq (de_v 0)) (blkOk_by (by kernel_rfl)) (fun _ _ _ _ _ => pg_nm nd) (fun _ _ _ _ _ => dts_nil) (fun _ _ _ _ _ => de_call ((m__law_is_share_v3_ok Z).mono (by decide)) hr gd takes0 Z.g__law_is_share rfl (da_cons (de_v 1) da_nil)))) da_nil))))))

theorem sc__law_equal_right : FnScope ["tape", "chances", "trials", "again", "turn", "bent", "other", "is_due", "share", "thing"] ["tape", "chances", "trials"] (defScope (top 43)) := ⟨rfl, rfl, rfl, by decide +kernel, rfl, by decide +kernel, by decide +kernel⟩
theorem m__law_equal_right_ok {P : Program} {w : World} {K : PySem.W.Frag} {mg : Str → Option Value} {base : Heap} (Z : Md P K mg) : FnD P w K mg base 6 (He.ga K "_law_equal_right") 3 m__law_equal_right := by
  obtain ⟨fd, F⟩ := Z.d__law_equal_right
  have nd := sc__law_equal_right.nd
  refine fnD_of F sc__law_equal_right rfl (binds_of F fun _ _ _ _ _ _ us hl => match us, hl with | [_, _, _], _ => rfl) fun cdv A outer s H E hr gd => ?_
  exact dss_cons (ds_set (i := 3) nd (de_make (k := 4) ((m_Trials___init___v3_ok Z).mono (by decide)) Z.mk_Trials hr gd (takes_of rfl rfl rfl rfl) Z.g_Trials rfl (da_cons (de_tf o_tup call_tuple_of rfl Z.b_tuple boot_tuple (da_cons (de_frz (dn_lc (own := [("share", 8)]) rfl nd (di_seq (de_v 1)) (blkOk_by (by kernel_rfl)) (fun _ _ _ _ _ => pg_nm nd) (fun _ _ _ _ _ => dts_nil) (fun _ _ _ _ _ => de_tf o_tup call_tuple_of rfl Z.b_tuple boot_tuple (da_cons (de_frz (dn_tf o_list call_list_of rfl Z.b_list boot_list (da_cons (de_v 8) da_nil))) da_nil)))) da_nil)) da_nil))) (dss_cons (ds_if (dt_bool (dw_or (dt_not (dt_ownEq ((m_Trials___eq___v3_ok Z).mono (by decide)) hr gd (takes_of rfl rfl rfl rfl) Z.oc_Trials (de_v 2) (de_v 3))) (dw_or (dt_ownNe (k := 4) ((m_Trials___eq___v3_ok Z).mono (by decide)) hr gd (takes_of rfl rfl rfl rfl) Z.oc_Trials (de_v 2) (de_v 3)) (dw_or1 (dt_ne (u64 hr) (de_bf o_repr (c_repr gd (u64 hr)) rfl Z.b_repr boot_repr (da_cons (de_fld Z.c_Trials Z.n_Trials_chances (de_v 2)) da_nil)) (de_bf o_repr (c_repr gd (u64 hr)) rfl Z.b_repr boot_repr (da_cons (de_v 1) da_nil))))))) (dss_one (ds_ret (de_bl))) (dss_nil)) (dss_cons (ds_if (dt_tru (de_bf o_any (cr_any rfl) rfl Z.b_any boot_any (da_cons (de_frz (dn_lc (own := [("thing", 9)]) rfl nd (di_seq (de_tup (da_cons (de_v 1) (da_cons (de_non) (da_cons (de_int) (da_cons (de_str) (da_cons (de_frz (dn_lst (da_cons (de_v 2) da_nil))) da_nil))))))) (blkOk_by (by kernel_rfl)) (fun _ _ _ _ _ => pg_nm nd) (fun _ _ _ _ _ => dts_nil) (fun _ _ _ _ _ => de_orX (de_ownEqT ((m_Trials___eq___v3_ok Z).mono (by decide)) hr gd takes0 Z.oc_Trials Z.owt_Trials_tuple_NoneType_int_str_list (de_v 2) (de_v 9)) (de_one (de_notX (de_ownNeT (k := 4) ((m_Trials___eq___v3_ok Z).mono (by decide)) hr gd takes0 Z.oc_Trials Z.owt_Trials_tuple_NoneType_int_str_list (de_v 2) (de_v 9))))))) da_nil))) (dss_one (ds_ret (de_bl))) (dss_nil)) (dss_cons (ds_for (passes_of rfl) rfl (di_range1 rfl Z.b_range (da_cons (de_int) da_nil)) (pg_nm nd) (dss_cons (ds_set (i := 5) nd (de_call ((m__law_bent_v3_ok Z).mono (by decide)) hr gd (takes_of rfl rfl rfl rfl) Z.g__law_bent rfl (da_cons (de_v 0) (da_cons (de_v 1) (da_cons (de_v 2) da_nil))))) (dss_one (ds_if (dt_tru (de_call ((m__law_are_chances_v2_ok Z).mono (by decide)) hr gd (takes_of rfl rfl rfl rfl) Z.g__law_are_chances rfl (da_cons (de_v 5) da_nil))) (dss_cons (ds_par2 (i := 6) (j := 7) rfl nd (da_cons (de_make (k := 4) ((m_Trials___init___v3_ok Z).mono (by decide)) Z.mk_Trials hr gd (takes_of rfl rfl rfl rfl) Z.g_Trials rfl (da_cons (de_v 5) da_nil)) (da_cons (de_eq (u64 hr) (de_v 5) (de_v 1)) da_nil))) (dss_one (ds_if (dt_bool (dw_or (dt_ne (u64 hr) (de_ownEq ((m_Trials___eq___v3_ok Z).mono (by decide)) hr gd (takes_of rfl rfl rfl rfl) Z.oc_Trials (de_v 2) (de_v 6)) (de_v 7)) (dw_or (dt_ne (u64 hr) (de_ownEq ((m_Trials___eq___v3_ok Z).mono (by decide)) hr gd (takes_of rfl rfl rfl rfl) Z.oc_Trials (de_v 6) (de_v 2)) (de_v 7)) (dw_or1 (dt_eq (u64 hr) (de_ownNe (k := 4) ((m_Trials___eq___v3_ok Z).mono (by decide)) hr gd (takes_of rfl rfl rfl rfl) Z.oc_Trials (de_v 2) (de_v 6)) (de_v 7)))))) (dss_one (ds_ret (de_bl))) (dss_nil)))) (dss_nil))))) (dss_one (ds_ret (de_bl))))))

theorem sc__law_lots : FnScope ["size", "found", "trial", "lot"] ["size"] (defScope (top 36)) := ⟨rfl, rfl, rfl, by decide +kernel, rfl, by decide +kernel, by decide +kernel⟩
theorem m__law_lots_ok {P : Program} {w : World} {K : PySem.W.Frag} {mg : Str → Option Value} {base : Heap} (Z : Md P K mg) : FnD P w K mg base 1 (He.ga K "_law_lots") 1 m__law_lots := by
  obtain ⟨fd, F⟩ := Z.d__law_lots
  have nd := sc__law_lots.nd
  refine fnD_of F sc__law_lots rfl (binds_of F fun _ _ _ _ _ _ us hl => match us, hl with | [_], _ => rfl) fun cdv A outer s H E hr gd => ?_
  exact dss_cons (ds_set (i := 1) nd (de_frz (dn_lst (da_cons (de_tup da_nil) da_nil)))) (dss_cons (ds_for (passes_of rfl) rfl (di_range1 rfl Z.b_range (da_cons (de_v 0) da_nil)) (pg_nm nd) (dss_one (ds_set (i := 1) nd (de_add (de_v 1) (de_frz (dn_lc (own := [("lot", 3)]) rfl nd (di_seq (de_v 1)) (blkOk_by (by kernel_rfl)) (fun _ _ _ _ _ => pg_nm nd) (fun _ _ _ _ _ => dts_nil) (fun _ _ _ _ _ => de_add (de_v 3) (de_tup (da_cons (de_v 2) da_nil))))))))) (dss_one (ds_ret (de_frz (dn_bf o_sorted (c_sorted (u64 hr)) rfl Z.b_sorted boot_sorted (da_cons (de_v 1) da_nil))))))

theorem sc__law_product : FnScope ["one", "other"] ["one", "other"] (defScope (top 33)) := ⟨rfl, rfl, rfl, by decide +kernel, rfl, by decide +kernel, by decide +kernel⟩
theorem m__law_product_ok {P : Program} {w : World} {K : PySem.W.Frag} {mg : Str → Option Value} {base : Heap} (Z : Md P K mg) : FnD P w K mg base 2 (He.ga K "_law_product") 2 m__law_product := by
  obtain ⟨fd, F⟩ := Z.d__law_product
  have nd := sc__law_product.nd
  refine fnD_of F sc__law_product rfl (binds_of F fun _ _ _ _ _ _ us hl => match us, hl with | [_, _], _ => rfl) fun cdv A outer s H E hr gd => ?_
  exact dss_one (ds_ret (de_call ((m__law_low_ok Z).mono (by decide)) hr gd (takes_of rfl rfl rfl rfl) Z.g__law_low rfl (da_cons (de_mul (de_item (u1 hr) (de_v 0) (de_int)) (de_item (u1 hr) (de_v 1) (de_int))) (da_cons (de_mul (de_item (u1 hr) (de_v 0) (de_int)) (de_item (u1 hr) (de_v 1) (de_int))) da_nil))))

theorem sc__law_rest_v2 : FnScope ["share"] ["share"] (defScope (top 34)) := ⟨rfl, rfl, rfl, by decide +kernel, rfl, by decide +kernel, by decide +kernel⟩
theorem m__law_rest_v2_ok {P : Program} {w : World} {K : PySem.W.Frag} {mg : Str → Option Value} {base : Heap} (Z : Md P K mg) : FnD P w K mg base 1 (He.ga K "_law_rest") 1 m__law_rest_v2 := by
  obtain ⟨fd, F⟩ := Z.d__law_rest
  have nd := sc__law_rest_v2.nd
  refine fnD_of F sc__law_rest_v2 rfl (binds_of F fun _ _ _ _ _ _ us hl => match us, hl with | [_], _ => rfl) fun cdv A outer s H E hr gd => ?_
  exact dss_one (ds_ret (de_tup (da_cons (de_sub (de_item (u1 hr) (de_v 0) (de_int)) (de_item (u1 hr) (de_v 0) (de_int))) (da_cons (de_item (u1 hr) (de_v 0) (de_int)) da_nil))))

theorem sc__law_plus : FnScope ["one", "other"] ["one", "other"] (defScope (top 32)) := ⟨rfl, rfl, rfl, by decide +kernel, rfl, by decide +kernel, by decide +kernel⟩
theorem m__law_plus_ok {P : Program} {w : World} {K : PySem.W.Frag} {mg : Str → Option Value} {base : Heap} (Z : Md P K mg) : FnD P w K mg base 2 (He.ga K "_law_plus") 2 m__law_plus := by
  obtain ⟨fd, F⟩ := Z.d__law_plus
  have nd := sc__law_plus.nd
  refine fnD_of F sc__law_plus rfl (binds_of F fun _ _ _ _ _ _ us hl => match us, hl with | [_, _], _ => rfl) fun cdv A outer s H E hr gd => ?_
  exact dss_one (ds_ret (de_call ((m__law_low_ok Z).mono (by decide)) hr gd (takes_of rfl rfl rfl rfl) Z.g__law_low rfl (da_cons (de_add (de_mul (de_item (u1 hr) (de_v 0) (de_int)) (de_item (u1 hr) (de_v 1) (de_int))) (de_mul (de_item (u1 hr) (de_v 1) (de_int)) (de_item (u1 hr) (de_v 0) (de_int)))) (da_cons (de_mul (de_item (u1 hr) (de_v 0) (de_int)) (de_item (u1 hr) (de_v 1) (de_int))) da_nil))))

theorem sc__law_win : FnScope ["chances", "lot", "total", "open_still", "trial", "alone", "later"] ["chances", "lot"] (defScope (top 37)) := ⟨rfl, rfl, rfl, by decide +kernel, rfl, by decide +kernel, by decide +kernel⟩
theorem m__law_win_ok {P : Program} {w : World} {K : PySem.W.Frag} {mg : Str → Option Value} {base : Heap} (Z : Md P K mg) : FnD P w K mg base 3 (He.ga K "_law_win") 2 m__law_win := by
  obtain ⟨fd, F⟩ := Z.d__law_win
  have nd := sc__law_win.nd
  refine fnD_of F sc__law_win rfl (binds_of F fun _ _ _ _ _ _ us hl => match us, hl with | [_, _], _ => rfl) fun cdv A outer s H E hr gd => ?_
  exact dss_cons (ds_pat (de_tup (da_cons (de_tup (da_cons (de_int) (da_cons (de_int) da_nil))) (da_cons (de_tup (da_cons (de_int) (da_cons (de_int) da_nil))) da_nil))) (pg_tp rfl (pgs_co (pg_nm nd) (pgs_co (pg_nm nd) (pgs_no))))) (dss_cons (ds_for (passes_of rfl) rfl (di_seq (de_v 1)) (pg_nm nd) (dss_cons (ds_set (i := 5) nd (de_item (u1 hr) (de_v 0) (de_v 4))) (dss_cons (ds_for (passes_of rfl) rfl (di_seq (de_sl (de_v 0) (do_some (de_add (de_v 4) (de_int))) do_none)) (pg_nm nd) (dss_one (ds_set (i := 5) nd (de_call ((m__law_product_ok Z).mono (by decide)) hr gd (takes_of rfl rfl rfl rfl) Z.g__law_product rfl (da_cons (de_v 5) (da_cons (de_call ((m__law_rest_v2_ok Z).mono (by decide)) hr gd (takes_of rfl rfl rfl rfl) Z.g__law_rest rfl (da_cons (de_v 6) da_nil)) da_nil)))))) (dss_cons (ds_set (i := 2) nd (de_call ((m__law_plus_ok Z).mono (by decide)) hr gd (takes_of rfl rfl rfl rfl) Z.g__law_plus rfl (da_cons (de_v 2) (da_cons (de_call ((m__law_product_ok Z).mono (by decide)) hr gd (takes_of rfl rfl rfl rfl) Z.g__law_product rfl (da_cons (de_v 3) (da_cons (de_v 5) da_nil))) da_nil)))) (dss_one (ds_set (i := 3) nd (de_call ((m__law_product_ok Z).mono (by decide)) hr gd (takes_of rfl rfl rfl rfl) Z.g__law_product rfl (da_cons (de_v 3) (da_cons (de_call ((m__law_rest_v2_ok Z).mono (by decide)) hr gd (takes_of rfl rfl rfl rfl) Z.g__law_rest rfl (da_cons (de_item (u1 hr) (de_v 0) (de_v 4)) da_nil)) da_nil))))))))) (dss_one (ds_ret (de_v 2))))

theorem sc__law_ways : FnScope ["chances", "lot", "total", "good", "met", "share", "trial", "chance"] ["chances", "lot"] (defScope (top 44)) := ⟨rfl, rfl, rfl, by decide +kernel, rfl, by decide +kernel, by decide +kernel⟩
theorem m__law_ways_ok {P : Program} {w : World} {K : PySem.W.Frag} {mg : Str → Option Value} {base : Heap} (Z : Md P K mg) : FnD P w K mg base 3 (He.ga K "_law_ways") 2 m__law_ways := by
  obtain ⟨fd, F⟩ := Z.d__law_ways
  have nd := sc__law_ways.nd
  refine fnD_of F sc__law_ways rfl (binds_of F fun _ _ _ _ _ _ us hl => match us, hl with | [_, _], _ => rfl) fun cdv A outer s H E hr gd => ?_
  exact dss_cons (ds_set (i := 2) nd (de_tup (da_cons (de_int) (da_cons (de_int) da_nil)))) (dss_cons (ds_for (passes_of rfl) rfl (di_seq (de_call ((m__law_lots_ok Z).mono (by decide)) hr gd (takes_of rfl rfl rfl rfl) Z.g__law_lots rfl (da_cons (de_bf o_len c_len rfl Z.b_len boot_len (da_cons (de_v 0) da_nil)) da_nil))) (pg_nm nd) (dss_cons (ds_setLc (fun _ _ _ _ q => w_frz q) (own := [("trial", 6)]) rfl nd (di_seq (de_v 1)) (blkOk_by (by kernel_rfl)) (fun _ _ _ _ _ => pg_nm nd) (fun _ _ _ _ _ => dts_one (dt_in (u65 hr) (de_v 6) (de_v 3))) (fun _ _ _ _ _ => de_v 6)) (dss_one (ds_if (dt_bool (dw_and (dt_gt (de_bf o_len c_len rfl Z.b_len boot_len (da_cons (de_v 4) da_nil)) (de_int)) (dw_and1 (dt_eq (u64 hr) (de_item (u1 hr) (de_v 4) (de_int)) (de_item (u1 hr) (de_v 3) (de_neg (de_int))))))) (dss_cons (ds_set (i := 5) nd (de_tup (da_cons (de_int) (da_cons (de_int) da_nil)))) (dss_cons (ds_for (passes_of rfl) rfl (di_enumA rfl Z.b_enumerate (da_cons (de_v 0) da_nil)) (pg_tp rfl (pgs_co (pg_nm nd) (pgs_co (pg_nm nd) (pgs_no)))) (dss_one (ds_set (i := 5) nd (de_call ((m__law_product_ok Z).mono (by decide)) hr gd (takes_of rfl rfl rfl rfl) Z.g__law_product rfl (da_cons (de_v 5) (da_cons (de_if (dt_in (u65 hr) (de_v 6) (de_v 3)) (de_v 7) (de_call ((m__law_rest_v2_ok Z).mono (by decide)) hr gd (takes_of rfl rfl rfl rfl) Z.g__law_rest rfl (da_cons (de_v 7) da_nil))) da_nil)))))) (dss_one (ds_set (i := 2) nd (de_call ((m__law_plus_ok Z).mono (by decide)) hr gd (takes_of rfl rfl rfl rfl) Z.g__law_plus rfl (da_cons (de_v 2) (da_cons (de_v 5) da_nil))))))) (dss_nil))))) (dss_one (ds_ret (de_v 2))))

theorem sc_law_k01 : FnScope ["script", "tape", "known", "turn", "chances", "trials", "size", "lots", "lot", "change", "bent", "again", "trial"] ["script"] (defScope (top 45)) := ⟨rfl, rfl, rfl, by decide +kernel, rfl, by decide +kernel, by decide +kernel⟩
theorem m_law_k01_ok {P : Program} {w : World} {K : PySem.W.Frag} {mg : Str → Option Value} {base : Heap} (Z : Md P K mg) : FnD P w K mg base 8 (He.ga K "law") 1 m_law_k01 := by
  obtain ⟨fd, F⟩ := Z.d_law
  have nd := sc_law_k01.nd
  refine fnD_of F sc_law_k01 rfl (binds_of F fun _ _ _ _ _ _ us hl => match us, hl with | [_], _ => rfl) fun cdv A outer s H E hr gd => ?_
  exact dss_cons (ds_set (i := 1) nd (de_call ((m__law_tape_ok Z).mono (by decide)) hr gd (takes_of rfl rfl rfl rfl) Z.g__law_tape rfl (da_cons (de_v 0) da_nil))) (dss_cons (ds_set (i := 2) nd (de_make (k := 6) ((m_Trials___init___v3_ok Z).mono (by decide)) Z.mk_Trials hr gd (takes_of rfl rfl rfl rfl) Z.g_Trials rfl (da_cons (de_tup (da_cons (de_tup (da_cons (de_int) (da_cons (de_int) da_nil))) (da_cons (de_tup (da_cons (de_int) (da_cons (de_int) da_nil))) (da_cons (de_tup (da_cons (de_int) (da_cons (de_int) da_nil))) da_nil)))) da_nil))) (dss_cons (ds_if (dt_ne (u64 hr) (de_frz (dn_lc (own := [("lot", 8)]) rfl nd (di_seq (de_tup (da_cons (de_tup da_nil) (da_cons (de_tup (da_cons (de_int) da_nil)) (da_cons (de_tup (da_cons (de_int) (da_cons (de_int) (da_cons (de_int) da_nil)))) (da_cons (de_tup (da_cons (de_int) da_nil)) da_nil)))))) (blkOk_by (by kernel_rfl)) (fun _ _ _ _ _ => pg_nm nd) (fun _ _ _ _ _ => dts_nil) (fun _ _ _ _ _ => de_call ((m_win_ok Z).mono (by decide)) hr gd takes0 Z.g_win rfl (da_cons (de_v 2) (da_cons (de_v 8) da_nil))))) (de_frz (dn_lst (da_cons (de_tup (da_cons (de_int) (da_cons (de_int) da_nil))) (da_cons (de_tup (da_cons (de_int) (da_cons (de_int) da_nil))) (da_cons (de_tup (da_cons (de_int) (da_cons (de_int) da_nil))) (da_cons (de_tup (da_cons (de_int) (da_cons (de_int) da_nil))) da_nil))))))) (dss_one (ds_ret (de_bl))) (dss_nil)) (dss_cons (ds_if (dt_bool (dw_or (dt_not (dt_tru (de_call ((m__law_is_refused_ok Z).mono (by decide)) hr gd (takes_of rfl rfl rfl rfl) Z.g__law_is_refused rfl (da_cons (de_tup da_nil) da_nil)))) (dw_or (dt_not (dt_tru (de_call ((m__law_is_refused_ok Z).mono (by decide)) hr gd (takes_of rfl rfl rfl rfl) Z.g__law_is_refused rfl (da_cons (de_tup (da_cons (de_tup (da_cons (de_int) (da_cons (de_int) da_nil))) (da_cons (de_tup (da_cons (de_int) (da_cons (de_int) da_nil))) da_nil))) da_nil)))) (dw_or1 (dt_tru (de_call ((m__law_is_refused_ok Z).mono (by decide)) hr gd (takes_of rfl rfl rfl rfl) Z.g__law_is_refused rfl (da_cons (de_tup (da_cons (de_tup (da_cons (de_int) (da_cons (de_int) da_nil))) (da_cons (de_tup (da_cons (de_int) (da_cons (de_int) da_nil))) da_nil))) da_nil))))))) (dss_one (ds_ret (de_bl))) (dss_nil)) (dss_cons (ds_for (passes_of rfl) rfl (di_range1 rfl Z.b_range (da_cons (de_int) da_nil)) (pg_nm nd) (dss_cons (ds_set (i := 4) nd (de_call ((m__law_chances_ok Z).mono (by decide)) hr gd (takes_of rfl rfl rfl rfl) Z.g__law_chances rfl (da_cons (de_v 1) (da_cons (de_if (dt_eq (u64 hr) (de_call ((m__law_draw_ok Z).mono (by decide)) hr gd (takes_of rfl rfl rfl rfl) Z.g__law_draw rfl (da_cons (de_v 1) (da_cons (de_int) da_nil))) (de_int)) (de_int) (de_int)) da_nil)))) (dss_cons (ds_pat (de_tup (da_cons (de_make (k := 6) ((m_Trials___init___v3_ok Z).mono (by decide)) Z.mk_Trials hr gd (takes_of rfl rfl rfl rfl) Z.g_Trials rfl (da_cons (de_v 4) da_nil)) (da_cons (de_bf o_len c_len rfl Z.b_len boot_len (da_cons (de_v 4) da_nil)) da_nil))) (pg_tp rfl (pgs_co (pg_nm nd) (pgs_co (pg_nm nd) (pgs_no))))) (dss_cons (ds_if (dt_not (dt_tru (de_call ((m__law_equal_right_ok Z).mono (by decide)) hr gd (takes_of rfl rfl rfl rfl) Z.g__law_equal_right rfl (da_cons (de_v 1) (da_cons (de_v 4) (da_cons (de_v 5) da_nil)))))) (dss_one (ds_ret (de_bl))) (dss_nil)) (dss_cons (ds_set (i := 7) nd (de_if (dt_lt (de_v 6) (de_int)) (de_call ((m__law_lots_ok Z).mono (by decide)) hr gd (takes_of rfl rfl rfl rfl) Z.g__law_lots rfl (da_cons (de_v 6) da_nil)) (de_frz (dn_lst da_nil)))) (dss_cons (ds_for (passes_of rfl) rfl (di_seq (de_add (de_v 7) (de_frz (dn_lc (own := [("again", 11)]) rfl nd (di_range1 rfl Z.b_range (da_cons (de_int) da_nil)) (blkOk_by (by kernel_rfl)) (fun _ _ _ _ _ => pg_nm nd) (fun _ _ _ _ _ => dts_nil) (fun _ _ _ _ _ => de_tf o_tup call_tuple_of rfl Z.b_tuple boot_tuple (da_cons (de_frz (dn_lc (own := [("trial", 12)]) rfl nd (di_range1 rfl Z.b_range (da_cons (de_v 6) da_nil)) (blkOk_by (by kernel_rfl)) (fun _ _ _ _ _ => pg_nm nd) (fun _ _ _ _ _ => dts_one (dt_eq (u64 hr) (de_call ((m__law_draw_ok Z).mono (by decide)) hr gd takes0 Z.g__law_draw rfl (da_cons (de_v 1) (da_cons (de_int) da_nil))) (de_int))) (fun _ _ _ _ _ => de_v 12))) da_nil)))))) (pg_nm nd) (dss_one (ds_if (dt_ne (u64 hr) (de_bf o_repr (c_repr gd (u64 hr)) rfl Z.b_repr boot_repr (da_cons (de_call ((m_win_ok Z).mono (by decide)) hr gd (takes_of rfl rfl rfl rfl) Z.g_win rfl (da_cons (de_v 5) (da_cons (de_v 8) da_nil))) da_nil)) (de_bf o_repr (c_repr gd (u64 hr)) rfl Z.b_repr boot_repr (da_cons (de_call ((m__law_win_ok Z).mono (by decide)) hr gd (takes_of rfl rfl rfl rfl) Z.g__law_win rfl (da_cons (de_v 4) (da_cons (de_v 8) da_nil))) da_nil))) (dss_one (ds_ret (de_bl))) (dss_nil)))) (dss_cons (ds_set (i := 8) nd (de_tf o_tup call_tuple_of rfl Z.b_tuple boot_tuple (da_cons (de_frz (dn_lc (own := [("trial", 12)]) rfl nd (di_range1 rfl Z.b_range (da_cons (de_v 6) da_nil)) (blkOk_by (by kernel_rfl)) (fun _ _ _ _ _ => pg_nm nd) (fun _ _ _ _ _ => dts_one (dt_eq (u64 hr) (de_call ((m__law_draw_ok Z).mono (by decide)) hr gd takes0 Z.g__law_draw rfl (da_cons (de_v 1) (da_cons (de_int) da_nil))) (de_int))) (fun _ _ _ _ _ => de_v 12))) da_nil))) (dss_cons (ds_if (dt_bool (dw_and (dt_lt (de_v 6) (de_int)) (dw_and1 (dt_ne (u64 hr) (de_call ((m_win_ok Z).mono (by decide)) hr gd (takes_of rfl rfl rfl rfl) Z.g_win rfl (da_cons (de_v 5) (da_cons (de_v 8) da_nil))) (de_call ((m__law_ways_ok Z).mono (by decide)) hr gd (takes_of rfl rfl rfl rfl) Z.g__law_ways rfl (da_cons (de_v 4) (da_cons (de_v 8) da_nil))))))) (dss_one (ds_ret (de_bl))) (dss_nil)) (dss_one (ds_for (passes_of rfl) rfl (di_range1 rfl Z.b_range (da_cons (de_int) da_nil)) (pg_nm nd) (dss_cons (ds_set (i := 10) nd (de_call ((m__law_bent_v3_ok Z).mono (by decide)) hr gd (takes_of rfl rfl rfl rfl) Z.g__law_bent rfl (da_cons (de_v 1) (da_cons (de_v 4) (da_cons (de_v 5) da_nil))))) (dss_one (ds_if (dt_eq (u64 hr) (de_call ((m__law_is_refused_ok Z).mono (by decide)) hr gd (takes_of rfl rfl rfl rfl) Z.g__law_is_refused rfl (da_cons (de_v 10) da_nil)) (de_call ((m__law_are_chances_v2_ok Z).mono (by decide)) hr gd (takes_of rfl rfl rfl rfl) Z.g__law_are_chances rfl (da_cons (de_v 10) da_nil))) (dss_one (ds_ret (de_bl))) (dss_nil)))))))))))))) (dss_one (ds_ret (de_bl)))))))

/-! ### the head -/
def dd_Trials___eq__ : He.DefD := ⟨("Trials", some "__eq__"), "__eq__", "Trials.__eq__", defArgs (inClass (top 21) 1), defBody (inClass (top 21) 1), defScope (inClass (top 21) 1), [], []⟩
def dd_Trials___init__ : He.DefD := ⟨("Trials", some "__init__"), "__init__", "Trials.__init__", defArgs (inClass (top 21) 0), defBody (inClass (top 21) 0), defScope (inClass (top 21) 0), [], []⟩
def dd__law_any : He.DefD := ⟨("_law_any", none), "_law_any", "_law_any", defArgs (top 29), defBody (top 29), defScope (top 29), [], []⟩
def dd__law_are_chances : He.DefD := ⟨("_law_are_chances", none), "_law_are_chances", "_law_are_chances", defArgs (top 40), defBody (top 40), defScope (top 40), [], []⟩
def dd__law_bent : He.DefD := ⟨("_law_bent", none), "_law_bent", "_law_bent", defArgs (top 41), defBody (top 41), defScope (top 41), [], []⟩
def dd__law_chances : He.DefD := ⟨("_law_chances", none), "_law_chances", "_law_chances", defArgs (top 35), defBody (top 35), defScope (top 35), [], []⟩
def dd__law_deep : He.DefD := ⟨("_law_deep", none), "_law_deep", "_law_deep", defArgs (top 30), defBody (top 30), defScope (top 30), [], []⟩
def dd__law_draw : He.DefD := ⟨("_law_draw", none), "_law_draw", "_law_draw", defArgs (top 28), defBody (top 28), defScope (top 28), [], []⟩
def dd__law_equal_right : He.DefD := ⟨("_law_equal_right", none), "_law_equal_right", "_law_equal_right", defArgs (top 43), defBody (top 43), defScope (top 43), [], []⟩
def dd__law_is_in : He.DefD := ⟨("_law_is_in", none), "_law_is_in", "_law_is_in", defArgs (top 38), defBody (top 38), defScope (top 38), [], []⟩
def dd__law_is_refused : He.DefD := ⟨("_law_is_refused", none), "_law_is_refused", "_law_is_refused", defArgs (top 42), defBody (top 42), defScope (top 42), [], []⟩
def dd__law_is_share : He.DefD := ⟨("_law_is_share", none), "_law_is_share", "_law_is_share", defArgs (top 39), defBody (top 39), defScope (top 39), [], []⟩
def dd__law_lots : He.DefD := ⟨("_law_lots", none), "_law_lots", "_law_lots", defArgs (top 36), defBody (top 36), defScope (top 36), [], []⟩
def dd__law_low : He.DefD := ⟨("_law_low", none), "_law_low", "_law_low", defArgs (top 31), defBody (top 31), defScope (top 31), [], []⟩
def dd__law_plus : He.DefD := ⟨("_law_plus", none), "_law_plus", "_law_plus", defArgs (top 32), defBody (top 32), defScope (top 32), [], []⟩
def dd__law_product : He.DefD := ⟨("_law_product", none), "_law_product", "_law_product", defArgs (top 33), defBody (top 33), defScope (top 33), [], []⟩
def dd__law_rest : He.DefD := ⟨("_law_rest", none), "_law_rest", "_law_rest", defArgs (top 34), defBody (top 34), defScope (top 34), [], []⟩
def dd__law_tape : He.DefD := ⟨("_law_tape", none), "_law_tape", "_law_tape", defArgs (top 27), defBody (top 27), defScope (top 27), [], []⟩
def dd__law_ways : He.DefD := ⟨("_law_ways", none), "_law_ways", "_law_ways", defArgs (top 44), defBody (top 44), defScope (top 44), [], []⟩
def dd__law_win : He.DefD := ⟨("_law_win", none), "_law_win", "_law_win", defArgs (top 37), defBody (top 37), defScope (top 37), [], []⟩
def dd_common : He.DefD := ⟨("common", none), "common", "common", defArgs (top 12), defBody (top 12), defScope (top 12), [], []⟩
def dd_is_fraction : He.DefD := ⟨("is_fraction", none), "is_fraction", "is_fraction", defArgs (top 17), defBody (top 17), defScope (top 17), [], []⟩
def dd_is_integer : He.DefD := ⟨("is_integer", none), "is_integer", "is_integer", defArgs (top 1), defBody (top 1), defScope (top 1), [], []⟩
def dd_is_lot : He.DefD := ⟨("is_lot", none), "is_lot", "is_lot", defArgs (top 4), defBody (top 4), defScope (top 4), [], []⟩
def dd_is_share : He.DefD := ⟨("is_share", none), "is_share", "is_share", defArgs (top 18), defBody (top 18), defScope (top 18), [], []⟩
def dd_is_tuple : He.DefD := ⟨("is_tuple", none), "is_tuple", "is_tuple", defArgs (top 3), defBody (top 3), defScope (top 3), [], []⟩
def dd_is_within : He.DefD := ⟨("is_within", none), "is_within", "is_within", defArgs (top 2), defBody (top 2), defScope (top 2), [], []⟩
def dd_last_shares : He.DefD := ⟨("last_shares", none), "last_shares", "last_shares", defArgs (top 23), defBody (top 23), defScope (top 23), [], []⟩
def dd_law : He.DefD := ⟨("law", none), "law", "law", defArgs (top 45), defBody (top 45), defScope (top 45), [], []⟩
def dd_lowest : He.DefD := ⟨("lowest", none), "lowest", "lowest", defArgs (top 13), defBody (top 13), defScope (top 13), [], []⟩
def dd_minus : He.DefD := ⟨("minus", none), "minus", "minus", defArgs (top 15), defBody (top 15), defScope (top 15), [], []⟩
def dd_none_from : He.DefD := ⟨("none_from", none), "none_from", "none_from", defArgs (top 22), defBody (top 22), defScope (top 22), [], []⟩
def dd_plus : He.DefD := ⟨("plus", none), "plus", "plus", defArgs (top 14), defBody (top 14), defScope (top 14), [], []⟩
def dd_product : He.DefD := ⟨("product", none), "product", "product", defArgs (top 16), defBody (top 16), defScope (top 16), [], []⟩
def dd_win : He.DefD := ⟨("win", none), "win", "win", defArgs (top 25), defBody (top 25), defScope (top 25), [], []⟩
def dd_won : He.DefD := ⟨("won", none), "won", "won", defArgs (top 24), defBody (top 24), defScope (top 24), [], []⟩
def fn : List He.DefD := [dd_Trials___eq__, dd_Trials___init__, dd__law_any, dd__law_are_chances, dd__law_bent, dd__law_chances, dd__law_deep, dd__law_draw, dd__law_equal_right, dd__law_is_in, dd__law_is_refused, dd__law_is_share, dd__law_lots, dd__law_low, dd__law_plus, dd__law_product, dd__law_rest, dd__law_tape, dd__law_ways, dd__law_win, dd_common, dd_is_fraction, dd_is_integer, dd_is_lot, dd_is_share, dd_is_tuple, dd_is_within, dd_last_shares, dd_law, dd_lowest, dd_minus, dd_none_from, dd_plus, dd_product, dd_win, dd_won]
def fa : List He.Fa := [.cls "Trials", .exm "BadTrials" "ChanceError" true, .free "ValueError", .free "abs", .free "all", .free "any", .free "bool", .free "enumerate", .free "int", .free "isinstance", .free "len", .free "list", .free "range", .free "repr", .free "sorted", .free "sum", .free "super", .free "tuple", .free "zip", .glo "BadTrials", .glo "ChanceError", .glo "Trials", .glo "_law_any", .glo "_law_are_chances", .glo "_law_bent", .glo "_law_chances", .glo "_law_deep", .glo "_law_draw", .glo "_law_equal_right", .glo "_law_is_in", .glo "_law_is_refused", .glo "_law_is_share", .glo "_law_lots", .glo "_law_low", .glo "_law_plus", .glo "_law_product", .glo "_law_rest", .glo "_law_tape", .glo "_law_ways", .glo "_law_win", .glo "common", .glo "is_fraction", .glo "is_integer", .glo "is_lot", .glo "is_share", .glo "is_tuple", .glo "is_within", .glo "last_shares", .glo "law", .glo "lowest", .glo "minus", .glo "none_from", .glo "plus", .glo "product", .glo "win", .glo "won", .int "MOST_TRIALS" 12, .meth "Trials" "__eq__", .mkr "Trials", .noat "Trials" "chances", .noat "Trials" "looked", .glo "NONE", .glo "WHOLE"]
def ex (K : PySem.W.Frag) : Bool := (excCB K "BadTrials") && (kitB K "BadTrials" "BadTrials" true) && (kitVB K "BadTrials" "ValueError" true) && (owtB K "Trials" [.b "tuple", .b "NoneType", .b "int", .b "str", .b "list"]) && (supB mainF K "BadTrials") && (He.tupB K "NONE" ([0, 1].map He.Dv.int)) && (He.tupB K "WHOLE" ([1, 1].map He.Dv.int)) && (oweB K "Trials") && (ownB own K)
theorem ex_0 {K : PySem.W.Frag} (h : ex K = true) : excCB K "BadTrials" = true := (He.ba (He.ba (He.ba (He.ba (He.ba (He.ba (He.ba (He.ba h).1).1).1).1).1).1).1).1
theorem ex_1 {K : PySem.W.Frag} (h : ex K = true) : kitB K "BadTrials" "BadTrials" true = true := (He.ba (He.ba (He.ba (He.ba (He.ba (He.ba (He.ba (He.ba h).1).1).1).1).1).1).1).2
theorem ex_2 {K : PySem.W.Frag} (h : ex K = true) : kitVB K "BadTrials" "ValueError" true = true := (He.ba (He.ba (He.ba (He.ba (He.ba (He.ba (He.ba h).1).1).1).1).1).1).2
theorem ex_3 {K : PySem.W.Frag} (h : ex K = true) : owtB K "Trials" [.b "tuple", .b "NoneType", .b "int", .b "str", .b "list"] = true := (He.ba (He.ba (He.ba (He.ba (He.ba (He.ba h).1).1).1).1).1).2
theorem ex_4 {K : PySem.W.Frag} (h : ex K = true) : supB mainF K "BadTrials" = true := (He.ba (He.ba (He.ba (He.ba (He.ba h).1).1).1).1).2
theorem ex_5 {K : PySem.W.Frag} (h : ex K = true) : He.tupB K "NONE" ([0, 1].map He.Dv.int) = true := (He.ba (He.ba (He.ba (He.ba h).1).1).1).2
theorem ex_6 {K : PySem.W.Frag} (h : ex K = true) : He.tupB K "WHOLE" ([1, 1].map He.Dv.int) = true := (He.ba (He.ba (He.ba h).1).1).2
theorem ex_7 {K : PySem.W.Frag} (h : ex K = true) : oweB K "Trials" = true := (He.ba (He.ba h).1).2
theorem ex_8 {K : PySem.W.Frag} (h : ex K = true) : ownB own K = true := (He.ba h).2
theorem own_ok {K : PySem.W.Frag} (h : ex K = true) : OwnF K own := ownB_ok (ex_8 h)
theorem md_of {P : Program} (hP : P.main.file = mainF) (hS : (P.main.scope.names.lookup ("super" : Str)).isSome = false) {K : PySem.W.Frag} {mg : Str → Option Value} {h : Heap} (X : K.In h) (G : h.Ns mainGlobals mg) (c : SaysE fa fn ex K) : Md P K mg := ⟨He.cls_ok (c.d.fact 0 rfl),
  excCB_ok (ex_0 c.e),
  He.exm_ok (c.d.fact 1 rfl),
  He.free_ok X G (c.d.fact 2 rfl),
  He.free_ok X G (c.d.fact 3 rfl),
  He.free_ok X G (c.d.fact 4 rfl),
  He.free_ok X G (c.d.fact 5 rfl),
  He.free_ok X G (c.d.fact 6 rfl),
  He.free_ok X G (c.d.fact 7 rfl),
  He.free_ok X G (c.d.fact 8 rfl),
  He.free_ok X G (c.d.fact 9 rfl),
  He.free_ok X G (c.d.fact 10 rfl),
  He.free_ok X G (c.d.fact 11 rfl),
  He.free_ok X G (c.d.fact 12 rfl),
  He.free_ok X G (c.d.fact 13 rfl),
  He.free_ok X G (c.d.fact 14 rfl),
  He.free_ok X G (c.d.fact 15 rfl),
  He.free_ok X G (c.d.fact 16 rfl),
  He.free_ok X G (c.d.fact 17 rfl),
  He.free_ok X G (c.d.fact 18 rfl),
  He.glo_ok X G (c.d.fact 19 rfl),
  He.glo_ok X G (c.d.fact 20 rfl),
  He.glo_ok X G (c.d.fact 21 rfl),
  He.glo_ok X G (c.d.fact 22 rfl),
  He.glo_ok X G (c.d.fact 23 rfl),
  He.glo_ok X G (c.d.fact 24 rfl),
  He.glo_ok X G (c.d.fact 25 rfl),
  He.glo_ok X G (c.d.fact 26 rfl),
  He.glo_ok X G (c.d.fact 27 rfl),
  He.glo_ok X G (c.d.fact 28 rfl),
  He.glo_ok X G (c.d.fact 29 rfl),
  He.glo_ok X G (c.d.fact 30 rfl),
  He.glo_ok X G (c.d.fact 31 rfl),
  He.glo_ok X G (c.d.fact 32 rfl),
  He.glo_ok X G (c.d.fact 33 rfl),
  He.glo_ok X G (c.d.fact 34 rfl),
  He.glo_ok X G (c.d.fact 35 rfl),
  He.glo_ok X G (c.d.fact 36 rfl),
  He.glo_ok X G (c.d.fact 37 rfl),
  He.glo_ok X G (c.d.fact 38 rfl),
  He.glo_ok X G (c.d.fact 39 rfl),
  He.glo_ok X G (c.d.fact 40 rfl),
  He.glo_ok X G (c.d.fact 41 rfl),
  He.glo_ok X G (c.d.fact 42 rfl),
  He.glo_ok X G (c.d.fact 43 rfl),
  He.glo_ok X G (c.d.fact 44 rfl),
  He.glo_ok X G (c.d.fact 45 rfl),
  He.glo_ok X G (c.d.fact 46 rfl),
  He.glo_ok X G (c.d.fact 47 rfl),
  He.glo_ok X G (c.d.fact 48 rfl),
  He.glo_ok X G (c.d.fact 49 rfl),
  He.glo_ok X G (c.d.fact 50 rfl),
  He.glo_ok X G (c.d.fact 51 rfl),
  He.glo_ok X G (c.d.fact 52 rfl),
  He.glo_ok X G (c.d.fact 53 rfl),
  He.glo_ok X G (c.d.fact 54 rfl),
  He.glo_ok X G (c.d.fact 55 rfl),
  He.int_ok X G (c.d.fact 56 rfl),
  kitB_ok (ex_1 c.e),
  kitVB_ok (ex_2 c.e),
  He.meth_ok (c.d.fact 57 rfl),
  He.mkr_ok (c.d.fact 58 rfl),
  He.noat_ok (c.d.fact 59 rfl),
  He.noat_ok (c.d.fact 60 rfl),
  owtB_ok (ex_3 c.e),
  supB_ok hP hS (ex_4 c.e),
  He.glo_ok X G (c.d.fact 61 rfl),
  tup_kt (ex_5 c.e),
  He.glo_ok X G (c.d.fact 62 rfl),
  tup_kt (ex_6 c.e),
  oweB_ok (He.meth_ok (c.d.fact 57 rfl)) (ex_7 c.e),
  c.d.def_ 0 (d := dd_Trials___eq__) rfl,
  c.d.def_ 1 (d := dd_Trials___init__) rfl,
  c.d.def_ 2 (d := dd__law_any) rfl,
  c.d.def_ 3 (d := dd__law_are_chances) rfl,
  c.d.def_ 4 (d := dd__law_bent) rfl,
  c.d.def_ 5 (d := dd__law_chances) rfl,
  c.d.def_ 6 (d := dd__law_deep) rfl,
  c.d.def_ 7 (d := dd__law_draw) rfl,
  c.d.def_ 8 (d := dd__law_equal_right) rfl,
  c.d.def_ 9 (d := dd__law_is_in) rfl,
  c.d.def_ 10 (d := dd__law_is_refused) rfl,
  c.d.def_ 11 (d := dd__law_is_share) rfl,
  c.d.def_ 12 (d := dd__law_lots) rfl,
  c.d.def_ 13 (d := dd__law_low) rfl,
  c.d.def_ 14 (d := dd__law_plus) rfl,
  c.d.def_ 15 (d := dd__law_product) rfl,
  c.d.def_ 16 (d := dd__law_rest) rfl,
  c.d.def_ 17 (d := dd__law_tape) rfl,
  c.d.def_ 18 (d := dd__law_ways) rfl,
  c.d.def_ 19 (d := dd__law_win) rfl,
  c.d.def_ 20 (d := dd_common) rfl,
  c.d.def_ 21 (d := dd_is_fraction) rfl,
  c.d.def_ 22 (d := dd_is_integer) rfl,
  c.d.def_ 23 (d := dd_is_lot) rfl,
  c.d.def_ 24 (d := dd_is_share) rfl,
  c.d.def_ 25 (d := dd_is_tuple) rfl,
  c.d.def_ 26 (d := dd_is_within) rfl,
  c.d.def_ 27 (d := dd_last_shares) rfl,
  c.d.def_ 28 (d := dd_law) rfl,
  c.d.def_ 29 (d := dd_lowest) rfl,
  c.d.def_ 30 (d := dd_minus) rfl,
  c.d.def_ 31 (d := dd_none_from) rfl,
  c.d.def_ 32 (d := dd_plus) rfl,
  c.d.def_ 33 (d := dd_product) rfl,
  c.d.def_ 34 (d := dd_win) rfl,
  c.d.def_ 35 (d := dd_won) rfl,
  own_ok c.e⟩
abbrev R0 : PySem.W.OpenRow := PySem.W.OpenLaw.row PySem.Challenge.rw_openorstop_k01_whole_trials_judged
abbrev hk : PySem.W.Hook := hookS 6 fa fn ex
def ob (s : PySem.W.SharedT) : AlE := obsS 6 fa fn ex (HandSHeadRun.getT s)
theorem ob_eq (s : PySem.W.SharedT) : ob s = hk.obs s.abs := obsS_eq (HandSHeadRun.getT_eq s)
abbrev loose0 : List Str := ["is_integer", "is_within", "is_tuple", "is_lot", "ChanceError", "BadTrials", "NoLot", "NONE", "WHOLE", "common", "lowest", "plus"]
abbrev loose1 : List Str := ["minus", "product", "is_fraction", "is_share", "MOST_TRIALS", "Trials", "none_from", "last_shares", "won", "win", "_law_tape", "_law_draw"]
abbrev loose2 : List Str := ["_law_any", "_law_deep", "_law_low", "_law_plus", "_law_product", "_law_rest", "_law_chances", "_law_lots", "_law_win", "_law_is_in", "_law_is_share", "_law_are_chances"]
abbrev loose3 : List Str := ["_law_bent", "_law_is_refused", "_law_equal_right", "_law_ways"]
abbrev loose : List Str := loose0 ++ loose1 ++ loose2 ++ loose3
theorem run (w : World) : HandSHeadRun.RunEq R0 (PySem.W.view R0.prog [45]) hk ob 8000 loose w := by
  intro os
  kernel_rfl
end Law_k01
local instance : Dl.Tb := ⟨fun _ => []⟩
open PySem PySem.W PySem.Calls PyProof.Rows
theorem Law_k01_of (hm : ∀ ns : List Int, ns.length ≤ 63 → (∀ z ∈ ns, Builtin.Int.intBits z ≤ 1048576) → ∃ h', Sh.m_law_k01 [.scr ns] [] = .ok (.bl true) h') : PySem.Challenge.rw_openorstop_k01_whole_trials_judged.Holds := by
  w_on; o_law
  refine HandSHeadRun.head_any (r := OpenLaw.row PySem.Challenge.rw_openorstop_k01_whole_trials_judged) (q := view (OpenLaw.row PySem.Challenge.rw_openorstop_k01_whole_trials_judged).prog [45]) (H := Law_k01.hk) (ob := Law_k01.ob) (M := 8000) (loose := Law_k01.loose) (d := HandSHeadRun.topDef (OpenLaw.row PySem.Challenge.rw_openorstop_k01_whole_trials_judged).prog 45) (kwd := []) Law_k01.ob_eq
    (by kernel_rfl) (fun s => by kernel_rfl) Law_k01.run (by kernel_rfl) (by kernel_rfl) (by kernel_rfl) (by rfl) (by first | assumption | decide +kernel) (by decide +kernel) ⟨rfl, rfl, rfl, rfl, rfl, by decide +kernel⟩ ?hw ?hc
  case hw => w_witness2
  case hc =>
    refine Dl.walk_law (l := PySem.Challenge.rw_openorstop_k01_whole_trials_judged) (n := 63) (k := 8) (m := Sh.m_law_k01) (fun _ => rfl) rfl (by decide) (by kernel_rfl) ⟨rfl, by decide, by decide⟩ ?F hm
    intro w mg fa h Y G hmg0
    obtain ⟨K, KX, c⟩ := Y
    have Z := Law_k01.md_of (P := (PySem.Challenge.rw_openorstop_k01_whole_trials_judged).prog) rfl (by kernel_rfl) KX G c
    have hmg : mg ("law" : PySem.Str) = some (.ref fa) := by
      have e : (HandSHeadRun.topDef (OpenLaw.row PySem.Challenge.rw_openorstop_k01_whole_trials_judged).prog 45).name = ("law" : PySem.Str) := by kernel_rfl
      rw [← e]
      exact hmg0
    have e := hmg.symm.trans Z.g_law
    cases e
    exact ⟨K, KX, fun base _ _ => Law_k01.m_law_k01_ok Z⟩

theorem PySem.Challenge.cw_openorstop_k01_whole_trials_judged_holds : PySem.Challenge.rw_openorstop_k01_whole_trials_judged.Holds :=
  Law_k01_of fun ns hl hb => Pl.law_k01 ns hl hb
