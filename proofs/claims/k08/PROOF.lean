import PyProof.Rows.All
import Wide.All
import OpenK.AllK
import Wide.FinOn
import HandS.ForMost
import HandS.Walk
import HandS.TupAny
import HandS.Wide
import HandS.WideBits
import HandS.Zip
import HandS.Exc
import HandS.WordsExc
import HandS.Defaults
import HandS.HeadHook2
import KE.KDictKeyed
import HandS.Lambda
import HandS.Deep
import HandS.TupMul
import HandS.Style
import HandS.Conv
import HandS.Flow
import HandS.ExcOwn
import HandS.IsInst
import HandS.More
import HandS.Small
import HandS.WordsDict
import HandS.SortInts
import PyProof.ReprRoads
import HandS.RaiseMore
import HandS.EndBits
import HandS.HeadEnd
import HandS.Head0
import HandS.Head1
import HandS.Head2
import HandS.Words
import KE.SortData
import KE.GoesEnum
import KE.GoesMore
import HandS.Strs
import HandS.SetFor
import HandS.Dict
import HandS.Iter
import KE.KExcSuper
import HandS.TryOnly
import HandS.TryMany
import HandS.ExcIs
import KE.KExcIs
import PyProof.ListMulRoad
import PyProof.FactsAll.tuple_2
import KE.DataFind
import HandS.EndTab
import HandS.HeadWalk
import HandS.DictTup
import KE.KDictZip
import HandS.GenList
import HandS.SetKeys
import HandS.ExcInit
import HandS.Text
import HandS.StrSplit
import PyProof.FitsInt
import PyProof.Rows.ReprOcc
import PySem.Challenge.RW_openorstop_k08_whole_candidates_with_pic
set_option Elab.async false
set_option linter.all false
set_option maxHeartbeats 4000000
set_option maxRecDepth 100000
/-! The D layer, 1: Python's values as plain data, computations as plain functions, what they have to do with the hand layer. -/
namespace Dl
open PySem PySem.Spec PyProof.Rows L2

/-! ### data -/
/-- an exception: where it stands, and its fields' dict, with what is known of it -/
abbrev Ed := Nat × Option (Nat × List (Str × Key))
inductive D where
  | non | bl (b : Bool) | int (i : Int) | str (x : Str) | ty (n : String) | glo (x : Str)
  | tup (xs : List D) | lst (xs : List D) | obj (n : Nat) | scr (ns : List Int) | exn (a : Ed)
inductive DO where
  | lst (xs : List D)
  | ins (C : Str) (fs : List (Str × D))
  | dI (kvs : List (Key × D))
  | dF (kvs : List (Key × D))
  | dN (kvs : List (NestedKey × D))
abbrev Hs := List DO
inductive R (α : Type) where
  | ok (a : α) (h : Hs) | exc (C : Str) (fs : List (Str × D)) (h : Hs) | bad
abbrev M (α : Type) := Hs → R α
def R.bind {α β : Type} (r : R α) (f : α → M β) : R β := match r with
  | .ok a h => f a h
  | .exc C fs h => .exc C fs h
  | .bad => .bad
abbrev Env := List (Option D)

/-! ### what stands for what -/
/-- where the changing things stand, by number; lists that are being made -/
structure Ix where
  os : List Addr
  rs : List Addr
def Ix.fz (ι : Ix) (a : Addr) : Prop := a ∉ ι.os ∧ a ∉ ι.rs
def KT (K : PySem.W.Frag) (a : Addr) (xs : List V) : Prop :=
  ∃ (o : Obj) (its : Array Value) (n : Nat), K.lookup a = some o ∧ o.cls = .type "tuple" ∧ o.data = .seq its n ∧ its.size ≤ sizeLine ∧ Vals xs its.toList
def KL (K : PySem.W.Frag) (a : Addr) (xs : List V) : Prop :=
  ∃ (o : Obj) (its : Array Value) (n : Nat), K.lookup a = some o ∧ o.cls = .type "list" ∧ o.dict = none ∧ o.data = .seq its n ∧ its.size ≤ sizeLine ∧ Vals xs its.toList
def TupAt (K : PySem.W.Frag) (ι : Ix) (H : Hp) (a : Addr) (xs : List V) : Prop := (ι.fz a ∧ Rd H a (.tup xs)) ∨ KT K a xs
def LstAt (ι : Ix) (H : Hp) (a : Addr) (xs : List V) : Prop := ι.fz a ∧ H a = some (.lst xs)
/-- the script: it is read alone -/
def ScrAt (K : PySem.W.Frag) (ι : Ix) (H : Hp) (a : Addr) (xs : List V) : Prop := (ι.fz a ∧ Rd H a (.lst xs)) ∨ KL K a xs
def EdOk (ι : Ix) (H : Hp) (a : Ed) : Prop := ∀ d ps, a.2 = some (d, ps) → ι.fz d ∧ ∃ us, H d = some (.xd us) ∧ ∀ f k, ps.lookup f = some k → us.lookup f = some (kV k)
mutual
inductive RD (K : PySem.W.Frag) (ι : Ix) (H : Hp) : D → V → Prop
  | non : RD K ι H .non .non
  | bl (b : Bool) : RD K ι H (.bl b) (.bl b)
  | int (i : Int) : RD K ι H (.int i) (.int i)
  | str (x : Str) : RD K ι H (.str x) (.str x)
  | ty (n : String) : RD K ι H (.ty n) (.ty n)
  | glo (x : Str) : RD K ι H (.glo x) (.ref (He.ga K x))
  | tup {a : Addr} {vs : List V} {xs : List D} : TupAt K ι H a vs → RDs K ι H xs vs → RD K ι H (.tup xs) (.ref a)
  | lst {a : Addr} {vs : List V} {xs : List D} : LstAt ι H a vs → RDs K ι H xs vs → RD K ι H (.lst xs) (.ref a)
  | obj {n : Nat} {a : Addr} : ι.os[n]? = some a → RD K ι H (.obj n) (.ref a)
  | scr {a : Addr} {ns : List Int} : ScrAt K ι H a (ns.map V.int) → RD K ι H (.scr ns) (.ref a)
  | exn (a : Ed) : EdOk ι H a → RD K ι H (.exn a) (.ref a.1)
inductive RDs (K : PySem.W.Frag) (ι : Ix) (H : Hp) : List D → List V → Prop
  | nil : RDs K ι H [] []
  | cons {x : D} {xs : List D} {v : V} {vs : List V} : RD K ι H x v → RDs K ι H xs vs → RDs K ι H (x :: xs) (v :: vs)
end
/-- a key without texts, as deep as n -/
def optAll {α β : Type} (f : α → Option β) : List α → Option (List β)
  | [] => some []
  | x :: xs => (match f x, optAll f xs with
    | some y, some ys => some (y :: ys)
    | _, _ => none)
def nkOf : Nat → D → Option NestedKey
  | 0, d => (match d with
    | .int i => some (.num i)
    | _ => none)
  | n + 1, d => (match d with
    | .int i => some (.num i)
    | .tup xs => (optAll (nkOf n) xs).map .tup
    | _ => none)
/-- the one object of a dict whose keys are tuples -/
def NDict (a : Addr) (xs : List (NestedKey × Addr × Value)) (h : Heap) : Prop := (a == sysModules) = false ∧ xs.length ≤ sizeLine ∧ (xs.map (·.1)).Nodup ∧
  ∃ o es ep, h.get? a = some o ∧ o.ExactDict ∧ o.data = .dict es ep ∧ ∀ w : World, es.toList = xs.map fun x => (⟨x.1.hash w, .ref x.2.1, x.2.2⟩ : DictEntry)
def RN (K : PySem.W.Frag) (ι : Ix) (H : Hp) : List (NestedKey × D) → List (NestedKey × Addr × Value) → Prop :=
  Paired fun (p : NestedKey × D) (q : NestedKey × Addr × Value) => p.1 = q.1 ∧ (∃ kd, nkOf 4 kd = some p.1 ∧ RD K ι H kd (.ref q.2.1)) ∧ ∃ v, RelV v q.2.2 ∧ RD K ι H p.2 v
/-- fields, pairs of a dict -/
def RF {κ : Type} (K : PySem.W.Frag) (ι : Ix) (H : Hp) : List (κ × D) → List (κ × V) → Prop := Paired fun (p : κ × D) (q : κ × V) => p.1 = q.1 ∧ RD K ι H p.2 q.2
def CellOk (K : PySem.W.Frag) (ι : Ix) (H : Hp) (a : Addr) : DO → Prop
  | .lst xs => ∃ vs, H a = some (.lst vs) ∧ RDs K ι H xs vs
  | .ins C fs => ∃ dx us, H a = some (.ins (He.ga K C) dx us) ∧ RF K ι H fs us
  | .dI kvs => ∃ us, H a = some (.dK us) ∧ RF K ι H kvs us
  | .dF kvs => ∃ od us, H a = some (.frz od (.dK us)) ∧ RF K ι H kvs us
  | .dN kvs => ∃ xs, H a = some (.ext (NDict a xs)) ∧ RN K ι H kvs xs
/-- the tables of code objects that a law's lambdas stand in, by the program's fragment (none in most laws) -/
class Tb where
  ts : PySem.W.Frag → List (Addr × Str)
variable [Tb]
def NT (o : HO) : Prop := ∀ ps, o ≠ .tbl ps
def TabOk (ι : Ix) (H : Hp) (P : Addr) (q : Str) : Prop := ∃ ps : Array Value, H P = some (.tbl ps) ∧ TriplesOk ps.toList ∧
  ∀ (pos : Pos) (cv : Value), codeAmong pos ps.toList = some cv → ∃ c, cv = .ref c ∧ H c = some (LamX.CodeO c q) ∧ ι.fz c
structure Rel (K : PySem.W.Frag) (ι : Ix) (h : Hs) (H : Hp) : Prop where
  len : ι.os.length = h.length
  nd : ι.os.Nodup
  cell : ∀ (n : Nat) (a : Addr) (o : DO), ι.os[n]? = some a → h[n]? = some o → CellOk K ι H a o
  res : ∀ a, a ∈ ι.rs → H a ≠ none
  tab : ∀ p, p ∈ Tb.ts K → p.1 ∈ ι.rs ∧ TabOk ι H p.1 p.2
/-- what stood stands: all but the changing things -/
structure Ext (ι : Ix) (H : Hp) (ι' : Ix) (H' : Hp) : Prop where
  pre : ∃ t, ι'.os = ι.os ++ t
  rs : ι'.rs = ι.rs
  keep : ∀ a o, H a = some o → a ∉ ι.os → (a ∈ ι.rs → NT o) → H' a = some o
  new : ∀ a, a ∈ ι'.os → a ∈ ι.os ∨ H a = none
  frz : ∀ a od u, H a = some (.frz od u) → H' a = some (.frz od u)
  dom : ∀ a, H a ≠ none → H' a ≠ none
theorem Ext.refl {ι : Ix} {H : Hp} : Ext ι H ι H := ⟨⟨[], by simp⟩, rfl, fun _ _ h _ _ => h, fun _ h => .inl h, fun _ _ _ h => h, fun _ h => h⟩
theorem Ext.trans {ι ι1 ι2 : Ix} {H H1 H2 : Hp} (a : Ext ι H ι1 H1) (b : Ext ι1 H1 ι2 H2) : Ext ι H ι2 H2 := by
  have back : ∀ x, x ∈ ι1.os → x ∉ ι.os → H x = none := fun x h n => (a.new x h).elim (fun z => absurd z n) id
  refine ⟨?_, b.rs.trans a.rs, fun x o h n r => ?_, fun x h => ?_, fun x od u h => b.frz x od u (a.frz x od u h), fun x n => b.dom x (a.dom x n)⟩
  · obtain ⟨t, e⟩ := a.pre
    obtain ⟨u, e2⟩ := b.pre
    exact ⟨t ++ u, by rw [e2, e, List.append_assoc]⟩
  · refine b.keep x o (a.keep x o h n r) (fun z => ?_) fun m => r (by rw [← a.rs]; exact m)
    rw [back x z n] at h
    cases h
  · rcases b.new x h with z | z
    · exact a.new x z
    · by_cases hx : x ∈ ι.os
      · exact .inl hx
      · refine .inr ?_
        cases q : H x with
        | none => rfl
        | some o => exact absurd z (a.dom x (by rw [q]; exact fun y => nomatch y))
theorem Ext.get {ι ι' : Ix} {H H' : Hp} (e : Ext ι H ι' H') {n : Nat} {a : Addr} (h : ι.os[n]? = some a) : ι'.os[n]? = some a := by
  obtain ⟨t, e1⟩ := e.pre
  rw [e1]
  have := (List.getElem?_eq_some_iff.mp h).1
  rw [List.getElem?_append_left this]
  exact h
/-- what a value stands on is kept -/
structure Up (ι : Ix) (H : Hp) (ι' : Ix) (H' : Hp) : Prop where
  get : ∀ (n : Nat) a, ι.os[n]? = some a → ι'.os[n]? = some a
  keep : ∀ a o, H a = some o → ι.fz a → H' a = some o ∧ ι'.fz a
/-- and what is locked stays so -/
structure UpF (ι : Ix) (H : Hp) (ι' : Ix) (H' : Hp) : Prop where
  up : Up ι H ι' H'
  frz : ∀ a od u, H a = some (.frz od u) → H' a = some (.frz od u)
theorem Ext.up {ι ι' : Ix} {H H' : Hp} (e : Ext ι H ι' H') : Up ι H ι' H' := by
  refine ⟨fun n a h => e.get h, fun a o h f => ⟨e.keep a o h f.1 fun m => absurd m f.2, ⟨fun z => ?_, by rw [e.rs]; exact f.2⟩⟩⟩
  rcases e.new a z with y | y
  · exact f.1 y
  · rw [h] at y
    cases y
theorem TabOk.up {ι ι' : Ix} {H H' : Hp} {P : Addr} {q : Str} (t : TabOk ι H P q) (u : Up ι H ι' H') (e : H' P = H P) : TabOk ι' H' P q := by
  obtain ⟨ps, h1, h2, h3⟩ := t
  refine ⟨ps, e.trans h1, h2, fun pos cv hc => ?_⟩
  obtain ⟨c, c1, c2, c3⟩ := h3 pos cv hc
  exact ⟨c, c1, (u.keep c _ c2 c3).1, (u.keep c _ c2 c3).2⟩
theorem TabOk.ne {ι : Ix} {H : Hp} {P : Addr} {q : Str} (t : TabOk ι H P q) : H P ≠ none := by
  obtain ⟨ps, h1, _⟩ := t
  rw [h1]
  exact fun z => nomatch z
theorem TabOk.nt {ι : Ix} {H : Hp} {P : Addr} {q : Str} (t : TabOk ι H P q) {o : HO} (e : H P = some o) (n : NT o) : False := by
  obtain ⟨ps, h1, _⟩ := t
  rw [h1] at e
  exact n ps (Option.some.inj e).symm
theorem Ext.upF {ι ι' : Ix} {H H' : Hp} (e : Ext ι H ι' H') : UpF ι H ι' H' := ⟨e.up, e.frz⟩
section
variable {K : PySem.W.Frag} {ι ι' : Ix} {H H' : Hp}
theorem Up.rd {a : Addr} {u : HO} (e : Up ι H ι' H') (n : ι.fz a) (h : Rd H a u) : ι'.fz a ∧ Rd H' a u := by
  rcases h with h | ⟨o, h⟩
  · exact ⟨(e.keep _ _ h n).2, .inl (e.keep _ _ h n).1⟩
  · exact ⟨(e.keep _ _ h n).2, .inr ⟨o, (e.keep _ _ h n).1⟩⟩
theorem TupAt.up {a : Addr} {vs : List V} (e : Up ι H ι' H') (h : TupAt K ι H a vs) : TupAt K ι' H' a vs := by
  rcases h with ⟨n, h⟩ | h
  · exact .inl (e.rd n h)
  · exact .inr h
theorem LstAt.up {a : Addr} {vs : List V} (e : Up ι H ι' H') (h : LstAt ι H a vs) : LstAt ι' H' a vs := ⟨(e.keep _ _ h.2 h.1).2, (e.keep _ _ h.2 h.1).1⟩
theorem ScrAt.up {a : Addr} {vs : List V} (e : Up ι H ι' H') (h : ScrAt K ι H a vs) : ScrAt K ι' H' a vs := by
  rcases h with ⟨n, h⟩ | h
  · exact .inl (e.rd n h)
  · exact .inr h
theorem TupAt.sq {a : Addr} {vs : List V} (h : TupAt K ι H a vs) : SqT K H a vs := by
  rcases h with ⟨_, h⟩ | h
  · exact .inl h
  · exact .inr h
theorem LstAt.sq {a : Addr} {vs : List V} (h : LstAt ι H a vs) : SqL K H a vs := .inl (.inl h.2)
theorem ScrAt.sq {a : Addr} {vs : List V} (h : ScrAt K ι H a vs) : SqL K H a vs := by
  rcases h with ⟨_, h⟩ | h
  · exact .inl h
  · exact .inr h
theorem EdOk.up {a : Ed} (e : Up ι H ι' H') (q : EdOk ι H a) : EdOk ι' H' a := fun d ps z => by
  obtain ⟨f, us, h1, h2⟩ := q d ps z
  exact ⟨(e.keep _ _ h1 f).2, us, (e.keep _ _ h1 f).1, h2⟩
mutual
theorem RD.up (e : Up ι H ι' H') : ∀ {d : D} {v : V}, RD K ι H d v → RD K ι' H' d v
  | _, _, .non => .non
  | _, _, .bl b => .bl b
  | _, _, .int i => .int i
  | _, _, .str x => .str x
  | _, _, .ty n => .ty n
  | _, _, .glo x => .glo x
  | _, _, .tup h r => .tup (h.up e) (RDs.up e r)
  | _, _, .lst h r => .lst (h.up e) (RDs.up e r)
  | _, _, .obj h => .obj (e.get _ _ h)
  | _, _, .scr h => .scr (h.up e)
  | _, _, .exn a q => .exn a (q.up e)
theorem RDs.up (e : Up ι H ι' H') : ∀ {ds : List D} {vs : List V}, RDs K ι H ds vs → RDs K ι' H' ds vs
  | _, _, .nil => .nil
  | _, _, .cons h r => .cons (RD.up e h) (RDs.up e r)
end
theorem RD.mono (e : Ext ι H ι' H') {d : D} {v : V} (h : RD K ι H d v) : RD K ι' H' d v := h.up e.up
theorem RDs.mono (e : Ext ι H ι' H') {d : List D} {v : List V} (h : RDs K ι H d v) : RDs K ι' H' d v := h.up e.up
theorem RF.up {κ : Type} (e : Up ι H ι' H') {fs : List (κ × D)} {us : List (κ × V)} (h : RF K ι H fs us) : RF K ι' H' fs us := Paired.mapP h fun _ _ z => ⟨z.1, z.2.up e⟩
theorem RN.up (e : Up ι H ι' H') {fs : List (NestedKey × D)} {us : List (NestedKey × Addr × Value)} (h : RN K ι H fs us) : RN K ι' H' fs us := Paired.mapP h fun _ _ ⟨z1, ⟨kd, z2, z3⟩, v, z4, z5⟩ => ⟨z1, ⟨kd, z2, z3.up e⟩, v, z4, z5.up e⟩
theorem RF.mono {κ : Type} (e : Ext ι H ι' H') {fs : List (κ × D)} {us : List (κ × V)} (h : RF K ι H fs us) : RF K ι' H' fs us := h.up e.up
theorem RDs.length : ∀ {ds : List D} {vs : List V}, RDs K ι H ds vs → ds.length = vs.length
  | _, _, .nil => rfl
  | _, _, .cons _ r => by rw [List.length_cons, List.length_cons, r.length]
theorem RDs.get : ∀ {ds : List D} {vs : List V} {i : Nat} {d : D}, RDs K ι H ds vs → ds[i]? = some d → ∃ v, vs[i]? = some v ∧ RD K ι H d v
  | _, _, _, _, .nil, e => by simp at e
  | _, _, 0, _, .cons h _, e => by simp at e; subst e; exact ⟨_, rfl, h⟩
  | _, _, i + 1, d, .cons _ r, e => by
    obtain ⟨v, h1, h2⟩ := RDs.get (i := i) (d := d) r (by simpa using e)
    exact ⟨v, by simpa using h1, h2⟩
theorem RDs.getV : ∀ {ds : List D} {vs : List V} {i : Nat} {v : V}, RDs K ι H ds vs → vs[i]? = some v → ∃ d, ds[i]? = some d ∧ RD K ι H d v
  | _, _, _, _, .nil, e => by simp at e
  | _, _, 0, _, .cons h _, e => by simp at e; subst e; exact ⟨_, rfl, h⟩
  | _, _, i + 1, d, .cons _ r, e => by
    obtain ⟨v, h1, h2⟩ := RDs.getV (i := i) (v := d) r (by simpa using e)
    exact ⟨v, by simpa using h1, h2⟩
theorem RDs.append : ∀ {xs ys : List D} {us ws : List V}, RDs K ι H xs us → RDs K ι H ys ws → RDs K ι H (xs ++ ys) (us ++ ws)
  | _, _, _, _, .nil, s => s
  | _, _, _, _, .cons h r, s => .cons h (RDs.append r s)
theorem RDs.take : ∀ {xs : List D} {us : List V} (n : Nat), RDs K ι H xs us → RDs K ι H (xs.take n) (us.take n)
  | _, _, 0, _ => .nil
  | _, _, _ + 1, .nil => .nil
  | _, _, n + 1, .cons h r => .cons h (RDs.take n r)
theorem RDs.drop : ∀ {xs : List D} {us : List V} (n : Nat), RDs K ι H xs us → RDs K ι H (xs.drop n) (us.drop n)
  | _, _, 0, r => r
  | _, _, _ + 1, .nil => .nil
  | _, _, n + 1, .cons _ r => RDs.drop n r
theorem RDs.set {x : D} {u : V} (h : RD K ι H x u) : ∀ {xs : List D} {us : List V} (i : Nat), RDs K ι H xs us → RDs K ι H (xs.set i x) (us.set i u)
  | _, _, _, .nil => .nil
  | _, _, 0, .cons _ r => .cons h r
  | _, _, i + 1, .cons g r => .cons g (RDs.set h i r)
theorem RDs.rep {xs : List D} {us : List V} (h : RDs K ι H xs us) : ∀ k : Nat, RDs K ι H (List.replicate k xs).flatten (List.replicate k us).flatten
  | 0 => .nil
  | k + 1 => by
    rw [List.replicate_succ, List.replicate_succ, List.flatten_cons, List.flatten_cons]
    exact h.append (RDs.rep h k)
theorem RDs.nil_iff {xs : List D} {us : List V} (r : RDs K ι H xs us) : us = [] ↔ xs = [] := by
  cases r with
  | nil => simp
  | cons _ _ => simp
theorem RDs.ints : ∀ {ns : List Int} {us : List V}, RDs K ι H (ns.map D.int) us → us = ns.map V.int
  | [], _, .nil => rfl
  | n :: ns, _, .cons h r => by
    cases h
    rw [List.map_cons, RDs.ints r]
theorem RDs.ofInts : ∀ {ns : List Int}, RDs K ι H (ns.map D.int) (ns.map V.int)
  | [] => .nil
  | n :: ns => .cons (.int n) RDs.ofInts
end

/-! ### the slots -/
def RS (K : PySem.W.Frag) (ι : Ix) (H : Hp) (ρ : Env) (σ : L2.St) : Prop := ρ.length = σ.length ∧ ∀ (i : Nat) (d : D), ρ[i]? = some (some d) → ∃ v, σ[i]? = some (some v) ∧ RD K ι H d v
section
variable {K : PySem.W.Frag} {ι ι' : Ix} {H H' : Hp} {ρ : Env} {σ : L2.St}
theorem RS.mono (e : Ext ι H ι' H') (h : RS K ι H ρ σ) : RS K ι' H' ρ σ := ⟨h.1, fun i d g => let ⟨v, h1, h2⟩ := h.2 i d g; ⟨v, h1, h2.mono e⟩⟩
theorem RS.set {d : D} {v : V} (h : RS K ι H ρ σ) (i : Nat) (r : RD K ι H d v) : RS K ι H (ρ.set i (some d)) (σ.set i (some v)) := by
  refine ⟨by rw [List.length_set, List.length_set]; exact h.1, fun j d' g => ?_⟩
  by_cases e : i = j
  · subst e
    by_cases hi : i < ρ.length
    · rw [List.getElem?_set_self hi] at g
      cases g
      exact ⟨v, List.getElem?_set_self (by rw [← h.1]; exact hi), r⟩
    · rw [List.getElem?_eq_none (by rw [List.length_set]; omega)] at g
      cases g
  · rw [List.getElem?_set_ne e] at g
    rw [List.getElem?_set_ne e]
    exact h.2 j d' g
end

/-! ### what is wanted behind a computation -/
abbrev XD (K : PySem.W.Frag) (ι : Ix) (H : Hp) (fs : List (Str × D)) (od : Option Addr) : Prop :=
  (fs = [] ∧ od = none) ∨ ∃ d us, fs ≠ [] ∧ od = some d ∧ H d = some (.xd us) ∧ ι.fz d ∧ RF K ι H fs us
def Post {α β : Type} (K : PySem.W.Frag) (W : XK) (RA : Ix → Hp → α → β → Prop) (r : R α) (ι : Ix) (H : Hp) (Q : β → Hp → Prop) : Prop :=
  match r with
  | .ok a h' => ∀ ι' H' b, Ext ι H ι' H' → Rel K ι' h' H' → RA ι' H' a b → Q b H'
  | .exc C fs h' => ∀ ι' H' od, Ext ι H ι' H' → Rel K ι' h' H' → XD K ι' H' fs od → W (.ref (He.ga K C)) od H'
  | .bad => False
section
variable {K : PySem.W.Frag} {W : XK} {ι ι1 : Ix} {H H1 : Hp} {α β γ δ : Type} {RA : Ix → Hp → α → β → Prop} {RB : Ix → Hp → γ → δ → Prop}
theorem Post.ext {r : R α} {Q : β → Hp → Prop} (p : Post K W RA r ι H Q) (e : Ext ι H ι1 H1) : Post K W RA r ι1 H1 Q := by
  cases r with
  | ok a h => exact fun ι' H' b e' => p ι' H' b (e.trans e')
  | exc C fs h => exact fun ι' H' od e' => p ι' H' od (e.trans e')
  | bad => exact p
theorem Post.bind {r : R α} {f : α → M γ} {Q : δ → Hp → Prop} (p : Post K W RB (r.bind f) ι H Q) :
    Post K W RA r ι H (fun b H1 => ∃ ι1 h1 a, Ext ι H ι1 H1 ∧ Rel K ι1 h1 H1 ∧ RA ι1 H1 a b ∧ Post K W RB (f a h1) ι1 H1 Q) := by
  cases r with
  | ok a h => exact fun ι' H' b e R ra => ⟨ι', h, a, e, R, ra, Post.ext p e⟩
  | exc C fs h => exact p
  | bad => exact p
theorem Post.imp {r : R α} {Q Q' : β → Hp → Prop} (p : Post K W RA r ι H Q) (q : ∀ b H, Q b H → Q' b H) : Post K W RA r ι H Q' := by
  cases r with
  | ok a h => exact fun ι' H' b e R ra => q _ _ (p ι' H' b e R ra)
  | exc C fs h => exact p
  | bad => exact p
theorem Post.ok {a : α} {h : Hs} {b : β} {Q : β → Hp → Prop} (p : Post K W RA (.ok a h) ι H Q) (R : Rel K ι h H) (ra : RA ι H a b) : Q b H := p ι H b .refl R ra
end

/-- an expression, a test, arguments as computations -/
def wE (K : PySem.W.Frag) (W : WX) (c : Env → M D) : TE := fun σ H Q => ∃ ι h ρ, Rel K ι h H ∧ RS K ι H ρ σ ∧ Post K (fun x d H' => W x d σ H') (RD K) (c ρ h) ι H Q
def wT (K : PySem.W.Frag) (W : WX) (c : Env → M Bool) : TT := fun σ H Q => ∃ ι h ρ, Rel K ι h H ∧ RS K ι H ρ σ ∧ Post K (fun x d H' => W x d σ H') (fun _ _ a b => a = b) (c ρ h) ι H Q
def wA (K : PySem.W.Frag) (W : WX) (c : Env → M (List D)) : TA := fun σ H Q => ∃ ι h ρ, Rel K ι h H ∧ RS K ι H ρ σ ∧ Post K (fun x d H' => W x d σ H') (RDs K) (c ρ h) ι H Q
/-- a list being made at p -/
def Ix.with (ι : Ix) (p : Addr) : Ix := ⟨ι.os, p :: ι.rs⟩
/-- a new list, of which nothing knows yet -/
def PostN (K : PySem.W.Frag) (W : XK) (r : R (List D)) (ι : Ix) (H : Hp) (Q : V → Hp → Prop) : Prop :=
  match r with
  | .ok xs h' => ∀ ι' H' p vs, Ext ι H ι' H' → Rel K (ι'.with p) h' H' → RDs K (ι'.with p) H' xs vs → H' p = some (.lst vs) → p ∉ ι'.os → p ∉ ι'.rs → H p = none → Q (.ref p) H'
  | .exc C fs h' => ∀ ι' H' od, Ext ι H ι' H' → Rel K ι' h' H' → XD K ι' H' fs od → W (.ref (He.ga K C)) od H'
  | .bad => False
def wN (K : PySem.W.Frag) (W : WX) (c : Env → M (List D)) : TE := fun σ H Q => ∃ ι h ρ, Rel K ι h H ∧ RS K ι H ρ σ ∧ PostN K (fun x d H' => W x d σ H') (c ρ h) ι H Q
abbrev DE (X : Cx) (W : WX) (e : Expr) (c : Env → M D) : Prop := PE X e (wE X.K W c)
abbrev DT (X : Cx) (W : WX) (e : Expr) (c : Env → M Bool) : Prop := PT X e (wT X.K W c)
abbrev DA (X : Cx) (W : WX) (es : List Expr) (c : Env → M (List D)) : Prop := PA X es (wA X.K W c)
abbrev DN (X : Cx) (W : WX) (e : Expr) (c : Env → M (List D)) : Prop := PE X e (wN X.K W c)
theorem pe_imp {X : Cx} {e : Expr} {t t' : TE} (h : PE X e t) (w : ∀ σ H Q, t' σ H Q → t σ H Q) : PE X e t' := ⟨fun pins s σ H Q I z => h.run pins s σ H Q I (w σ H Q z)⟩
theorem pt_imp {X : Cx} {e : Expr} {t t' : TT} (h : PT X e t) (w : ∀ σ H Q, t' σ H Q → t σ H Q) : PT X e t' := ⟨fun pins s σ H Q I z => h.run pins s σ H Q I (w σ H Q z)⟩
theorem pa_imp {X : Cx} {e : List Expr} {t t' : TA} (h : PA X e t) (w : ∀ σ H Q, t' σ H Q → t σ H Q) : PA X e t' := ⟨fun pos pins s σ H Q I z => h.run pos pins s σ H Q I (w σ H Q z)⟩

/-! ### names, constants -/
def eV (i : Nat) : Env → M D := fun ρ h => match ρ[i]? with
  | some (some d) => .ok d h
  | _ => .bad
def eC (d : D) : Env → M D := fun _ h => .ok d h
section
variable {X : Cx} {W : WX} {pos : Pos}
theorem de_v (i : Nat) {x : Str} (hN : X.N[i]? = some x := by rfl) (hv : Vis X.env.scope x := by first | exact Or.inl rfl | exact Or.inr (Or.inl rfl) | exact Or.inr (Or.inr rfl)) (hd : (x == ("__debug__" : Str)) = false := by decide)
    (hcd : (x == ("__classdict__" : Str)) = false := by decide) : DE X W (.Name x pos) (eV i) := pe_imp (pv i hN hv hd hcd) fun σ H Q ⟨ι, h, ρ, R, S, p⟩ => by
  unfold eV at p
  cases e : ρ[i]? with
  | none => rw [e] at p; exact p.elim
  | some o =>
    rw [e] at p
    cases o with
    | none => exact p.elim
    | some d =>
      obtain ⟨v, h1, h2⟩ := S.2 i d e
      exact ⟨v, h1, p.ok R h2⟩
theorem de_c {e : Expr} {d : D} {v : V} (hp : PE X e (tC v)) (r : ∀ ι H, RD X.K ι H d v) : DE X W e (eC d) := pe_imp hp fun σ H Q ⟨ι, h, ρ, R, S, p⟩ => Post.ok p R (r ι H)
theorem de_int {i j} : DE X W (.Constant (.int i) j pos) (eC (.int i)) := de_c pe_int fun _ _ => .int i
theorem de_bl {b j} : DE X W (.Constant (.bool b) j pos) (eC (.bl b)) := de_c pe_bl fun _ _ => .bl b
theorem de_non {j} : DE X W (.Constant .none j pos) (eC .non) := de_c pe_non fun _ _ => .non
/-- a number of the module -/
theorem de_gint {x : Str} {i : Int} (hg : Gl X x) (hm : ∃ t, X.mg x = some (.int i t)) (hd : (x == ("__debug__" : Str)) = false := by decide) : DE X W (.Name x pos) (eC (.int i)) := by
  obtain ⟨t, hm⟩ := hm
  exact de_c (pe_glob hg hm (v := .int i) ⟨t, rfl⟩ hd) fun _ _ => .int i
/-- a tuple of ints of the module -/
theorem de_gtup {x : Str} {is : List Int} (hg : Gl X x) (hm : X.mg x = some (.ref (He.ga X.K x))) (hk : KT X.K (He.ga X.K x) (is.map V.int)) (hd : (x == ("__debug__" : Str)) = false := by decide) : DE X W (.Name x pos) (eC (.tup (is.map D.int))) :=
  de_c (pe_glob hg hm (v := .ref (He.ga X.K x)) rfl hd) fun _ _ => .tup (.inr hk) RDs.ofInts
/-- a built-in class as a value -/
theorem de_ty {x : Str} {n : String} (hg : Gl X x) (hm : X.mg x = none) (hv : bootBuiltins x = some (.type n)) (hn : x ≠ "__name__" := by decide) (hd : (x == ("__debug__" : Str)) = false := by decide) : DE X W (.Name x pos) (eC (.ty n)) := de_c (pe_bltn hg hm hv (v := .ty n) rfl hn hd) fun _ _ => .ty n
end

/-! ### operators -/
def e2 (f : D → D → M D) (ca cb : Env → M D) : Env → M D := fun ρ h => (ca ρ h).bind fun x h1 => (cb ρ h1).bind fun y h2 => f x y h2
def e1 (f : D → M D) (ca : Env → M D) : Env → M D := fun ρ h => (ca ρ h).bind fun x h1 => f x h1
/-- the operation on values keeps what the function says -/
def Op2 (X : Cx) (g : R2) (f : D → D → M D) : Prop := ∀ (ι : Ix) (h : Hs) (H : Hp) (x y : D) (v u : V) (W : XK) (Q : VK), Rel X.K ι h H → RD X.K ι H x v → RD X.K ι H y u → Post X.K W (RD X.K) (f x y h) ι H Q → g v u H Q
def Op1 (X : Cx) (g : V → Hp → VK → Prop) (f : D → M D) : Prop := ∀ (ι : Ix) (h : Hs) (H : Hp) (x : D) (v : V) (W : XK) (Q : VK), Rel X.K ι h H → RD X.K ι H x v → Post X.K W (RD X.K) (f x h) ι H Q → g v H Q
section
variable {X : Cx} {W : WX} {pos : Pos} {a b : Expr} {ca cb : Env → M D} {f : D → D → M D} {g : R2}
theorem w2 {σ : L2.St} {H : Hp} {Q : VK} (op : Op2 X g f) (h : wE X.K W (e2 f ca cb) σ H Q) : tOp g (wE X.K W ca) (wE X.K W cb) σ H Q := by
  obtain ⟨ι, h, ρ, R, S, p⟩ := h
  refine ⟨ι, h, ρ, R, S, Post.imp (Post.bind p) fun x H1 ⟨ι1, h1, dx, x1, R1, r1, p1⟩ => ?_⟩
  refine ⟨ι1, h1, ρ, R1, S.mono x1, Post.imp (Post.bind p1) fun y H2 ⟨ι2, h2, dy, x2, R2, r2, p2⟩ => ?_⟩
  exact op ι2 h2 H2 dx dy x y _ Q R2 (r1.mono x2) r2 p2
theorem de_bin {o : Operator} (ho : OpR X (binaryOp o) g) (op : Op2 X g f) (ha : DE X W a ca) (hb : DE X W b cb) : DE X W (.BinOp a o b pos) (e2 f ca cb) := pe_imp (pe_op ho ha hb) fun _ _ _ h => w2 op h
theorem de_cmp {o : CmpOp} (ho : OpR X (compareOp o) g) (op : Op2 X g f) (ha : DE X W a ca) (hb : DE X W b cb) (hm : behindInMarks o b = false) : DE X W (.Compare a [o] [b] pos) (e2 f ca cb) := pe_imp (pe_cmpR ho ha hb hm) fun _ _ _ h => w2 op h
theorem de_ix (ho : IxR X g) (op : Op2 X g f) (ha : DE X W a ca) (hb : DE X W b cb) (hs : PlainIx b) : DE X W (.Subscript a b pos) (e2 f ca cb) := pe_imp (pe_ix ho ha hb hs) fun _ _ _ h => w2 op h
theorem de_un {o : UnaryOp} {g : V → Hp → VK → Prop} {f : D → M D} (ho : UnR X (unaryOp o) g) (op : Op1 X g f) (ha : DE X W a ca) : DE X W (.UnaryOp o a pos) (e1 f ca) := pe_imp (pe_un ho ha) fun σ H Q ⟨ι, h, ρ, R, S, p⟩ => by
  refine ⟨ι, h, ρ, R, S, Post.imp (Post.bind p) fun x H1 ⟨ι1, h1, dx, x1, R1, r1, p1⟩ => ?_⟩
  exact op ι1 h1 H1 dx x _ Q R1 r1 p1
end
end Dl

/-! The D layer, 2: operators. -/
namespace Dl
open PySem PySem.Spec PyProof.Rows L2
variable [Tb]

/-! ### lists behind values -/
def items (h : Hs) : D → Option (List D)
  | .lst xs => some xs
  | .obj n => (match h[n]? with
    | some (.lst xs) => some xs
    | _ => none)
  | _ => none
/-- a dict, locked or not: its pairs -/
def dctKV (h : Hs) (n : Nat) : Option (List (Key × D)) := match h[n]? with
  | some (.dI kvs) => some kvs
  | some (.dF kvs) => some kvs
  | _ => none
section
variable {K : PySem.W.Frag} {ι ι' : Ix} {H H' : Hp} {h : Hs} {W : XK}
theorem Rel.at (R : Rel K ι h H) {n : Nat} {a : Addr} {o : DO} (e : ι.os[n]? = some a) (g : h[n]? = some o) : CellOk K ι H a o := R.cell n a o e g
theorem items_ok (R : Rel K ι h H) {x : D} {v : V} {xs : List D} (r : RD K ι H x v) (e : items h x = some xs) : ∃ a vs, v = .ref a ∧ H a = some (.lst vs) ∧ RDs K ι H xs vs := by
  cases r with
  | lst l q =>
    cases e
    exact ⟨_, _, rfl, l.2, q⟩
  | @obj n a g =>
    have e : (match h[n]? with
    | some (.lst xs) => some xs
    | _ => none) = some xs := e
    cases hn : h[n]? with
    | none => rw [hn] at e; cases e
    | some o =>
      rw [hn] at e
      cases o with
      | lst ys =>
        cases e
        obtain ⟨vs, h1, h2⟩ := R.at g hn
        exact ⟨a, vs, rfl, h1, h2⟩
      | _ => cases e
  | _ => cases e
theorem dctKV_rd (R : Rel K ι h H) {n : Nat} {a : Addr} {kvs : List (Key × D)} (g : ι.os[n]? = some a) (e : dctKV h n = some kvs) : ∃ us, Rd H a (.dK us) ∧ RF K ι H kvs us := by
  unfold dctKV at e
  split at e
  · rename_i ks hn
    cases e
    obtain ⟨us, h1, h2⟩ := R.at g hn
    exact ⟨us, .inl h1, h2⟩
  · rename_i ks hn
    cases e
    obtain ⟨od, us, h1, h2⟩ := R.at g hn
    exact ⟨us, .inr ⟨od, h1⟩, h2⟩
  · cases e
/-- an address of a changing thing is tracked -/
theorem Rel.ne (R : Rel K ι h H) {a : Addr} (m : a ∈ ι.os) : H a ≠ none := by
  obtain ⟨n, hn, e⟩ := List.getElem_of_mem m
  have e1 : ι.os[n]? = some a := by rw [List.getElem?_eq_getElem hn, e]
  have hl : n < h.length := by rw [← R.len]; exact hn
  have c := R.cell n a h[n] e1 (by rw [List.getElem?_eq_getElem hl])
  cases q : h[n] with
  | lst xs => rw [q] at c; obtain ⟨vs, h1, _⟩ := c; rw [h1]; exact fun z => nomatch z
  | ins C fs => rw [q] at c; obtain ⟨dx, us, h1, _⟩ := c; rw [h1]; exact fun z => nomatch z
  | dI kvs => rw [q] at c; obtain ⟨us, h1, _⟩ := c; rw [h1]; exact fun z => nomatch z
  | dF kvs => rw [q] at c; obtain ⟨od, us, h1, _⟩ := c; rw [h1]; exact fun z => nomatch z
  | dN kvs => rw [q] at c; obtain ⟨xs, h1, _⟩ := c; rw [h1]; exact fun z => nomatch z
theorem Rel.out (R : Rel K ι h H) {a : Addr} (n : H a = none) : ι.fz a := ⟨fun m => R.ne m n, fun m => R.res a m n⟩
theorem CellOk.up {a : Addr} {o : DO} (e : Up ι H ι' H') (q : H' a = H a) (c : CellOk K ι H a o) : CellOk K ι' H' a o := by
  cases o with
  | lst xs => obtain ⟨vs, h1, h2⟩ := c; exact ⟨vs, q.trans h1, h2.up e⟩
  | ins C fs => obtain ⟨dx, us, h1, h2⟩ := c; exact ⟨dx, us, q.trans h1, h2.up e⟩
  | dI kvs => obtain ⟨us, h1, h2⟩ := c; exact ⟨us, q.trans h1, h2.up e⟩
  | dF kvs => obtain ⟨od, us, h1, h2⟩ := c; exact ⟨od, us, q.trans h1, h2.up e⟩
  | dN kvs => obtain ⟨xs, h1, h2⟩ := c; exact ⟨xs, q.trans h1, h2.up e⟩
theorem CellOk.nt {a : Addr} {o : DO} (c : CellOk K ι H a o) : ∃ u, H a = some u ∧ NT u := by
  cases o with
  | lst xs => obtain ⟨vs, h1, _⟩ := c; exact ⟨_, h1, fun _ z => nomatch z⟩
  | ins C fs => obtain ⟨dx, us, h1, _⟩ := c; exact ⟨_, h1, fun _ z => nomatch z⟩
  | dI kvs => obtain ⟨us, h1, _⟩ := c; exact ⟨_, h1, fun _ z => nomatch z⟩
  | dF kvs => obtain ⟨od, us, h1, _⟩ := c; exact ⟨_, h1, fun _ z => nomatch z⟩
  | dN kvs => obtain ⟨xs, h1, _⟩ := c; exact ⟨_, h1, fun _ z => nomatch z⟩
theorem Rel.cnt (R : Rel K ι h H) {n : Nat} {a : Addr} (e : ι.os[n]? = some a) : ∃ u, H a = some u ∧ NT u := by
  have hl : n < h.length := by rw [← R.len]; exact (List.getElem?_eq_some_iff.mp e).1
  exact (R.cell n a h[n] e (List.getElem?_eq_getElem hl)).nt
/-- a new thing that never changes -/
theorem upd_dom {p : Addr} {o : HO} (a : Addr) (n : H a ≠ none) : upd H p o a ≠ none := by
  by_cases z : a = p
  · rw [z, upd_same]; exact fun y => nomatch y
  · rw [upd_ne z]; exact n
theorem Ext.put {p : Addr} {o : HO} (n : H p = none) : Ext ι H ι (upd H p o) :=
  ⟨⟨[], by simp⟩, rfl, fun a u e _ _ => by rw [upd_ne (ne_of_none e n)]; exact e, fun _ m => .inl m, fun a od u e => by rw [upd_ne (ne_of_none e n)]; exact e, upd_dom⟩
theorem Rel.put {p : Addr} {o : HO} (R : Rel K ι h H) (n : H p = none) : Rel K ι h (upd H p o) :=
  ⟨R.len, R.nd, fun k a u e g => CellOk.up (Ext.put n).up (upd_ne fun z => R.ne (List.mem_of_getElem? e) (by rw [z]; exact n)) (R.cell k a u e g), fun a m => by
    rw [upd_ne fun z => R.res a m (by rw [z]; exact n)]
    exact R.res a m, fun q m => ⟨(R.tab q m).1, (R.tab q m).2.up (Ext.put n).up (upd_ne fun z => (R.tab q m).2.ne (by rw [z]; exact n))⟩⟩
/-- a new list that is being made -/
theorem Up.with {p : Addr} {H2 : Hp} (n : H p = none) (k : ∀ a u, H a = some u → H2 a = some u) : Up ι H (ι.with p) H2 :=
  ⟨fun _ _ e => e, fun a o e f => ⟨k a o e, f.1, fun z => (List.mem_cons.mp z).elim (fun y => by rw [y, n] at e; cases e) f.2⟩⟩
theorem Rel.with {p : Addr} {H2 : Hp} (R : Rel K ι h H) (n : H p = none) (k : ∀ a u, H a = some u → H2 a = some u) (n2 : H2 p ≠ none) : Rel K (ι.with p) h H2 := by
  refine ⟨R.len, R.nd, fun j a u e g => ?_, fun a m => ?_, fun q m => ⟨List.mem_cons_of_mem _ (R.tab q m).1, (R.tab q m).2.up (Up.with n k) ?_⟩⟩
  rotate_right
  · have ne := (R.tab q m).2.ne
    cases z : H q.1 with
    | none => exact absurd z ne
    | some w => exact k q.1 w z
  · refine CellOk.up (Up.with n k) ?_ (R.cell j a u e g)
    have ne := R.ne (List.mem_of_getElem? e)
    cases q : H a with
    | none => exact absurd q ne
    | some w => exact k a w q
  · rcases List.mem_cons.mp m with m | m
    · rw [m]; exact n2
    · have ne := R.res a m
      cases q : H a with
      | none => exact absurd q ne
      | some w => rw [k a w q]; exact fun z => nomatch z
/-- it is made: it stays, or it may change -/
theorem Up.done {p : Addr} : Up (ι.with p) H ι H := ⟨fun _ _ e => e, fun a o e f => ⟨e, f.1, fun z => f.2 (List.mem_cons_of_mem _ z)⟩⟩
theorem Rel.done {p : Addr} {o : HO} (R : Rel K (ι.with p) h H) (ep : H p = some o) (np : NT o := by intro _ z; cases z) : Rel K ι h H := ⟨R.len, R.nd, fun j a u e g => CellOk.up Up.done rfl (R.cell j a u e g), fun a m => R.res a (List.mem_cons_of_mem _ m), fun q m => ⟨(List.mem_cons.mp (R.tab q m).1).elim (fun z => ((R.tab q m).2.nt (by rw [z]; exact ep) np).elim) id, (R.tab q m).2.up Up.done rfl⟩⟩
def Ix.push (ι : Ix) (p : Addr) : Ix := ⟨ι.os ++ [p], ι.rs⟩
theorem getl {α : Type} {l t : List α} {n : Nat} {a : α} (e : l[n]? = some a) : (l ++ t)[n]? = some a := by
  rw [List.getElem?_append_left (List.getElem?_eq_some_iff.mp e).1]
  exact e
theorem Up.push {p : Addr} : Up (ι.with p) H (ι.push p) H :=
  ⟨fun _ _ e => getl e, fun a o e f => ⟨e, fun z => (List.mem_append.mp z).elim f.1 fun y => f.2 (by rw [List.mem_singleton.mp y]; exact List.mem_cons_self), fun z => f.2 (List.mem_cons_of_mem _ z)⟩⟩
theorem Rel.push {p : Addr} {o : DO} (R : Rel K (ι.with p) h H) (n : p ∉ ι.os) (c : CellOk K (ι.push p) H p o) : Rel K (ι.push p) (h ++ [o]) H := by
  have hl : ι.os.length = h.length := R.len
  obtain ⟨u0, ep, np⟩ := c.nt
  refine ⟨by show (ι.os ++ [p]).length = _; rw [List.length_append, List.length_append, hl]; rfl, ?_, fun j a u e g => ?_, fun a m => R.res a (List.mem_cons_of_mem _ m), fun q m => ⟨(List.mem_cons.mp (R.tab q m).1).elim (fun z => ((R.tab q m).2.nt (by rw [z]; exact ep) np).elim) id, (R.tab q m).2.up Up.push rfl⟩⟩
  · show (ι.os ++ [p]).Nodup
    rw [List.nodup_append]
    refine ⟨R.nd, by simp, fun a ha b hb z => ?_⟩
    rw [List.mem_singleton.mp hb] at z
    exact n (z ▸ ha)
  · have e : (ι.os ++ [p])[j]? = some a := e
    by_cases hj : j < ι.os.length
    · rw [List.getElem?_append_left hj] at e
      rw [List.getElem?_append_left (by rw [← hl]; exact hj)] at g
      exact CellOk.up Up.push rfl (R.cell j a u e g)
    · have hl2 := (List.getElem?_eq_some_iff.mp e).1
      rw [List.length_append, List.length_singleton] at hl2
      have hj2 : j = ι.os.length := by omega
      subst hj2
      rw [List.getElem?_append_right (Nat.le_refl _)] at e
      simp at e
      rw [hl, List.getElem?_append_right (Nat.le_refl _)] at g
      simp at g
      subst e g
      exact c
/-- a new changing thing -/
theorem Ext.alloc {p : Addr} {H2 : Hp} (n : H p = none) (k : ∀ a u, H a = some u → H2 a = some u) : Ext ι H (ι.push p) H2 :=
  ⟨⟨[p], rfl⟩, rfl, fun a u e _ _ => k a u e, fun a m => by
    rcases List.mem_append.mp m with m | m
    · exact .inl m
    · exact .inr (by rw [List.mem_singleton.mp m]; exact n), fun a od u e => k a _ e, fun a ne => by
    cases q : H a with
    | none => exact absurd q ne
    | some w => rw [k a w q]; exact fun z => nomatch z⟩
theorem Rel.alloc {p : Addr} {H2 : Hp} {o : DO} (R : Rel K ι h H) (n : H p = none) (k : ∀ a u, H a = some u → H2 a = some u) (n2 : H2 p ≠ none) (c : CellOk K (ι.push p) H2 p o) : Rel K (ι.push p) (h ++ [o]) H2 :=
  Rel.push (R.with n k n2) (R.out n).1 c
theorem push_at {p : Addr} (R : Rel K ι h H) : (ι.push p).os[h.length]? = some p := by
  show (ι.os ++ [p])[h.length]? = some p
  rw [← R.len, List.getElem?_append_right (Nat.le_refl _)]
  simp
/-- a changing thing changed -/
theorem nfr {a : Addr} {o : HO} (e : H a = some o) (n : ∀ od u, o ≠ .frz od u := by intro _ _ z; cases z) : ∀ od u, H a ≠ some (.frz od u) := fun od u z => by
  rw [e] at z
  exact n od u (Option.some.inj z)
theorem Ext.chg {a : Addr} {o : HO} (m : a ∈ ι.os) (nf : ∀ od u, H a ≠ some (.frz od u)) : Ext ι H ι (upd H a o) := ⟨⟨[], by simp⟩, rfl, fun b u e n _ => by rw [upd_ne (fun z => n (by rw [z]; exact m))]; exact e, fun _ m => .inl m, fun b od u e => by rw [upd_ne (fun z => nf od u (by rw [← z]; exact e))]; exact e, upd_dom⟩
theorem Up.chg {a : Addr} {o : HO} (m : a ∈ ι.os) : Up ι H ι (upd H a o) := ⟨fun _ _ e => e, fun b u e f => ⟨by rw [upd_ne (fun z => f.1 (by rw [z]; exact m))]; exact e, f⟩⟩
theorem Rel.chg {n : Nat} {a : Addr} {o : HO} {d : DO} (R : Rel K ι h H) (e : ι.os[n]? = some a) (c : CellOk K ι (upd H a o) a d) : Rel K ι (h.set n d) (upd H a o) := by
  refine ⟨by rw [List.length_set]; exact R.len, R.nd, fun j b u eb g => ?_, fun b m => ?_, fun q m => ⟨(R.tab q m).1, (R.tab q m).2.up (Up.chg (List.mem_of_getElem? e)) (upd_ne fun z => by
    obtain ⟨u0, ep, np⟩ := R.cnt e
    exact (R.tab q m).2.nt (by rw [z]; exact ep) np)⟩⟩
  · by_cases hj : n = j
    · subst hj
      rw [e] at eb
      cases eb
      have hl : n < h.length := by rw [← R.len]; exact (List.getElem?_eq_some_iff.mp e).1
      rw [List.getElem?_set_self hl] at g
      cases g
      exact c
    · rw [List.getElem?_set_ne hj] at g
      have nb : b ≠ a := fun z => hj (nd_ix R.nd e (z ▸ eb))
      exact CellOk.up (Up.chg (List.mem_of_getElem? e)) (upd_ne nb) (R.cell j b u eb g)
  · by_cases z : b = a
    · rw [z, upd_same]
      exact fun z => nomatch z
    · rw [upd_ne z]
      exact R.res b m
/-- Post of a new tuple, a new list that stays -/
theorem Post.tup {xs : List D} {vs : List V} {Q : VK} {p : Addr} (q : Post K W (RD K) (.ok (.tup xs) h) ι H Q) (R : Rel K ι h H) (r : RDs K ι H xs vs) (n : H p = none) : Q (.ref p) (upd H p (.tup vs)) :=
  q ι _ _ (.put n) (R.put n) (.tup (.inl ⟨R.out n, .inl upd_same⟩) (r.mono (.put n)))
theorem Post.lst {xs : List D} {vs : List V} {Q : VK} {p : Addr} (q : Post K W (RD K) (.ok (.lst xs) h) ι H Q) (R : Rel K ι h H) (r : RDs K ι H xs vs) (n : H p = none) : Q (.ref p) (upd H p (.lst vs)) :=
  q ι _ _ (.put n) (R.put n) (.lst ⟨R.out n, upd_same⟩ (r.mono (.put n)))
theorem upd_keep {p : Addr} {o : HO} (n : H p = none) : ∀ a u, H a = some u → upd H p o a = some u := fun a u e => by rw [upd_ne (ne_of_none e n)]; exact e
theorem Ext.back {ι1 : Ix} {H1 : Hp} (e : Ext ι H ι1 H1) {a : Addr} (n : H1 a = none) (m : a ∉ ι.os) : H a = none := by
  cases q : H a with
  | none => rfl
  | some o => exact absurd n (e.dom a (by rw [q]; exact fun y => nomatch y))
/-- a new list, nothing knows of it -/
theorem PostN.new {xs : List D} {vs : List V} {Q : VK} {p : Addr} {ιb : Ix} {Hb : Hp} (q : PostN K W (.ok xs h) ιb Hb Q) (e : Ext ιb Hb ι H) (R : Rel K ι h H) (r : RDs K ι H xs vs) (n : H p = none) : Q (.ref p) (upd H p (.lst vs)) := by
  have o := R.out n
  refine q ι _ p vs (e.trans (.put n)) (R.with n (upd_keep n) (by rw [upd_same]; exact fun z => nomatch z)) (r.up (Up.with n (upd_keep n))) upd_same o.1 o.2 (e.back n fun z => o.1 ?_)
  obtain ⟨t, e1⟩ := e.pre
  rw [e1]
  exact List.mem_append_left _ z
end

/-! ### + - * // % ** -/
def okLen (n : Nat) : Bool := decide (n ≤ 16777216)
theorem okLen_ok {n : Nat} (h : okLen n = true) : n ≤ sizeLine := by
  rw [sizeLine_eq]
  exact of_decide_eq_true h
def addD (x y : D) : M D := fun h => match x, y with
  | .int i, .int j => .ok (.int (i + j)) h
  | .str a, .str b => if okLen (a.length + b.length) then .ok (.str (a ++ b)) h else .bad
  | .tup xs, .tup ys => if okLen (xs.length + ys.length) then .ok (.tup (xs ++ ys)) h else .bad
  | x, y => (match items h x, items h y with
    | some xs, some ys => if okLen (xs.length + ys.length) then .ok (.lst (xs ++ ys)) h else .bad
    | _, _ => .bad)
def subD (x y : D) : M D := fun h => match x, y with
  | .int i, .int j => .ok (.int (i - j)) h
  | _, _ => .bad
def okMul (i j : Int) : Bool := decide (Builtin.Int.intBits i + Builtin.Int.intBits j ≤ 134217728)
def okRep (n : Nat) (k : Int) : Bool := decide (-1000000 ≤ k ∧ k ≤ 1000000 ∧ n * k.toNat ≤ 16777216)
def mulD (x y : D) : M D := fun h => match x, y with
  | .int i, .int j => if okMul i j then .ok (.int (i * j)) h else .bad
  | .tup xs, .int k => if decide (xs ≠ [] ∧ 2 ≤ k ∧ k ≤ 1000 ∧ xs.length ≤ 1000) then .ok (.tup (List.replicate k.toNat xs).flatten) h else .bad
  | x, .int k => (match items h x with
    | some xs => if okRep xs.length k then .ok (.lst (List.replicate k.toNat xs).flatten) h else .bad
    | none => .bad)
  | _, _ => .bad
def okDiv (i j : Int) : Bool := decide (0 < j ∧ (j.natAbs.log2 < 9000 ∨ Builtin.Int.intBits i ≤ Builtin.Int.intBits j + 4000))
def divD (x y : D) : M D := fun h => match x, y with
  | .int i, .int j => if okDiv i j then .ok (.int (i / j)) h else .bad
  | _, _ => .bad
def modD (x y : D) : M D := fun h => match x, y with
  | .int i, .int j => if decide (0 < j) then .ok (.int (i % j)) h else .bad
  | _, _ => .bad
def powD (x y : D) : M D := fun h => match x, y with
  | .int i, .int j => if decide (0 ≤ j ∧ j ≤ 1000000 ∧ i.natAbs < 2 ^ 64) then .ok (.int (i ^ j.toNat)) h else .bad
  | _, _ => .bad
def negD (x : D) : M D := fun h => match x with
  | .int i => .ok (.int (-i)) h
  | _ => .bad
section
variable {X : Cx}
abbrev rAddI : R2 := rI0 fun i j => .int (i + j)
abbrev rAddS : R2 := fun x y H Q => ∃ i j, x = .str i ∧ y = .str j ∧ i.length + j.length ≤ sizeLine ∧ Q (.str (i ++ j)) H
def gAdd (K : PySem.W.Frag) : R2 := fun x y H Q => (rAddI x y H Q ∨ rAddS x y H Q) ∨ (rCatA K x y H Q ∨ rCat x y H Q)
theorem or_add : OpR X (binaryOp .Add) (gAdd X.K) := OpR.or (OpR.or op_add op_add_str) (OpR.or op_catA op_cat)
/-- a guarded end -/
theorem Post.guard {α β : Type} {K : PySem.W.Frag} {W : XK} {RA : Ix → Hp → α → β → Prop} {ι : Ix} {H : Hp} {Q : β → Hp → Prop} {c : Bool} {r : R α} (p : Post K W RA (if c = true then r else .bad) ι H Q) : c = true ∧ Post K W RA r ι H Q := by
  cases c with
  | true => exact ⟨rfl, p⟩
  | false => exact (show False from p).elim
theorem o_add : Op2 X (gAdd X.K) addD := by
  intro ι h H x y v u W Q R rx ry p
  have lists : ∀ {xs ys : List D}, items h x = some xs → items h y = some ys → Post X.K W (RD X.K) (if okLen (xs.length + ys.length) then .ok (.lst (xs ++ ys)) h else .bad) ι H Q → gAdd X.K v u H Q := fun {xs ys} e1 e2 p => by
    obtain ⟨c, p⟩ := p.guard
    obtain ⟨a, vs, rfl, ha, rv⟩ := items_ok R rx e1
    obtain ⟨b, us, rfl, hb, ru⟩ := items_ok R ry e2
    exact .inr (.inr ⟨a, b, vs, us, rfl, rfl, ha, hb, by rw [← rv.length, ← ru.length]; exact okLen_ok c, fun q hq => p.lst R (rv.append ru) hq⟩)
  unfold addD at p
  split at p
  · cases rx
    cases ry
    exact .inl (.inl ⟨_, _, rfl, rfl, p.ok R (.int _)⟩)
  · obtain ⟨c, p⟩ := p.guard
    cases rx
    cases ry
    exact .inl (.inr ⟨_, _, rfl, rfl, okLen_ok c, p.ok R (.str _)⟩)
  · obtain ⟨c, p⟩ := p.guard
    cases rx with
    | tup ta ra =>
      cases ry with
      | tup tb rb =>
        refine .inr (.inl ⟨_, _, _, _, rfl, rfl, ta.sq, tb.sq, by rw [← ra.length, ← rb.length]; exact okLen_ok c, fun z => ?_, fun z1 z => ?_, fun _ _ q hq => p.tup R (ra.append rb) hq⟩)
        · have z1 := ra.nil_iff.mp z
          subst z1
          exact p.ok R (.tup tb rb)
        · have z1 := rb.nil_iff.mp z
          subst z1
          rw [List.append_nil] at p
          exact p.ok R (.tup ta ra)
  · split at p
    · rename_i e1 e2
      exact lists e1 e2 p
    · exact p.elim
theorem o_sub : Op2 X (rI0 fun i j => .int (i - j)) subD := by
  intro ι h H x y v u W Q R rx ry p
  unfold subD at p
  split at p
  · cases rx
    cases ry
    exact ⟨_, _, rfl, rfl, p.ok R (.int _)⟩
  · exact p.elim
abbrev rMulI : R2 := rI CMulX fun i j => .int (i * j)
def gMul (K : PySem.W.Frag) : R2 := fun x y H Q => rMulI x y H Q ∨ (rRepT K x y H Q ∨ rRep x y H Q)
theorem or_mul : OpR X (binaryOp .Mult) (gMul X.K) := OpR.or op_mulX (OpR.or op_repT op_rep)
theorem o_mul : Op2 X (gMul X.K) mulD := by
  intro ι h H x y v u W Q R rx ry p
  unfold mulD at p
  split at p
  · obtain ⟨c, p⟩ := p.guard
    cases rx
    cases ry
    refine .inl ⟨_, _, rfl, rfl, ?_, p.ok R (.int _)⟩
    have c1 := of_decide_eq_true c
    unfold CMulX
    omega
  · obtain ⟨c, p⟩ := p.guard
    obtain ⟨c1, c2, c3, c4⟩ := of_decide_eq_true c
    cases ry
    cases rx with
    | tup ta ra => exact .inr (.inl ⟨_, _, _, rfl, rfl, ta.sq, fun z => c1 (ra.nil_iff.mp z), c2, c3, by rw [← ra.length]; exact c4, fun q hq => p.tup R (ra.rep _) hq⟩)
  · split at p
    · rename_i xs e1
      obtain ⟨c, p⟩ := p.guard
      obtain ⟨c1, c2, c3⟩ := of_decide_eq_true c
      obtain ⟨a, vs, rfl, ha, rv⟩ := items_ok R rx e1
      cases ry
      exact .inr (.inr ⟨_, _, _, rfl, rfl, ha, by omega, by omega, by rw [← rv.length, sizeLine_eq]; exact c3, fun q hq => p.lst R (rv.rep _) hq⟩)
    · exact p.elim
  · exact p.elim
theorem op_fdivX : OpR X (binaryOp .FloorDiv) (rI (fun i j => okDiv i j = true) fun i j => .int (i / j)) := opI fun i j _ _ _ _ _ hc q => by
  obtain ⟨h1, h2⟩ := of_decide_eq_true hc
  refine floordiv_int (by omega) (by rw [Int.fdiv_eq_ediv_of_nonneg i (by omega)]; exact q) ?_
  rcases h2 with h2 | h2
  · exact .inl (PyProof.noPylong_of_log2 h2)
  · exact .inl (divp_ok h1 h2).2
theorem o_div : Op2 X (rI (fun i j => okDiv i j = true) fun i j => .int (i / j)) divD := by
  intro ι h H x y v u W Q R rx ry p
  unfold divD at p
  split at p
  · obtain ⟨c, p⟩ := p.guard
    cases rx
    cases ry
    exact ⟨_, _, rfl, rfl, c, p.ok R (.int _)⟩
  · exact p.elim
theorem o_mod : Op2 X (rI (fun _ j => 0 < j) fun i j => .int (i % j)) modD := by
  intro ι h H x y v u W Q R rx ry p
  unfold modD at p
  split at p
  · obtain ⟨c, p⟩ := p.guard
    cases rx
    cases ry
    exact ⟨_, _, rfl, rfl, of_decide_eq_true c, p.ok R (.int _)⟩
  · exact p.elim
theorem o_pow : Op2 X (rI CPow fun i j => .int (i ^ j.toNat)) powD := by
  intro ι h H x y v u W Q R rx ry p
  unfold powD at p
  split at p
  · obtain ⟨c, p⟩ := p.guard
    cases rx
    cases ry
    exact ⟨_, _, rfl, rfl, (of_decide_eq_true c : _ ∧ _ ∧ _), p.ok R (.int _)⟩
  · exact p.elim
theorem o_neg : Op1 X (rU fun i => .int (-i)) negD := by
  intro ι h H x v W Q R rx p
  unfold negD at p
  split at p
  · cases rx
    exact ⟨_, rfl, p.ok R (.int _)⟩
  · exact p.elim
variable {W : WX} {pos : Pos} {a b : Expr} {ca cb : Env → M D}
theorem de_add (ha : DE X W a ca) (hb : DE X W b cb) : DE X W (.BinOp a .Add b pos) (e2 addD ca cb) := de_bin or_add o_add ha hb
theorem de_sub (ha : DE X W a ca) (hb : DE X W b cb) : DE X W (.BinOp a .Sub b pos) (e2 subD ca cb) := de_bin op_sub o_sub ha hb
theorem de_mul (ha : DE X W a ca) (hb : DE X W b cb) : DE X W (.BinOp a .Mult b pos) (e2 mulD ca cb) := de_bin or_mul o_mul ha hb
theorem de_div (ha : DE X W a ca) (hb : DE X W b cb) : DE X W (.BinOp a .FloorDiv b pos) (e2 divD ca cb) := de_bin op_fdivX o_div ha hb
theorem de_mod (ha : DE X W a ca) (hb : DE X W b cb) : DE X W (.BinOp a .Mod b pos) (e2 modD ca cb) := de_bin op_mod o_mod ha hb
theorem de_pow (ha : DE X W a ca) (hb : DE X W b cb) : DE X W (.BinOp a .Pow b pos) (e2 powD ca cb) := de_bin op_pow o_pow ha hb
theorem de_neg (ha : DE X W a ca) : DE X W (.UnaryOp .USub a pos) (e1 negD ca) := de_un un_neg o_neg ha
end
end Dl

/-! The D layer, 3: comparisons, tests. -/
namespace Dl
open PySem PySem.Spec PyProof.Rows L2
variable [Tb]

/-- as the library's own data, to a depth -/
def toPy (h : Hs) : Nat → D → Option PyData
  | 0, d => (match d with
    | .non => some .none
    | .bl b => some (.bool b)
    | .int i => some (.int i)
    | .str x => some (.str x)
    | _ => none)
  | n + 1, d => (match d with
    | .non => some .none
    | .bl b => some (.bool b)
    | .int i => some (.int i)
    | .str x => some (.str x)
    | .tup xs => (optAll (toPy h n) xs).map .tuple
    | .lst xs => (optAll (toPy h n) xs).map .list
    | .obj k => (match h[k]? with
      | some (.lst xs) => (optAll (toPy h n) xs).map .list
      | _ => none)
    | _ => none)
section
variable {K : PySem.W.Frag} {ι : Ix} {H : Hp} {h : Hs}
theorem optAll_ok {f : D → Option PyData} (hf : ∀ d v p, RD K ι H d v → f d = some p → Dp K H v p) : ∀ {xs : List D} {vs : List V} {ps : List PyData}, RDs K ι H xs vs → optAll f xs = some ps → DpAll K H vs ps
  | [], _, _, .nil, e => by cases e; exact .nil
  | x :: xs, _, ps, .cons r rs, e => by
    unfold optAll at e
    split at e
    · rename_i y ys h1 h2
      cases e
      exact .cons (hf _ _ _ r h1) (optAll_ok hf rs h2)
    · cases e
theorem toPy_ok (R : Rel K ι h H) : ∀ (n : Nat) (d : D) (v : V) (p : PyData), RD K ι H d v → toPy h n d = some p → Dp K H v p
  | 0, d, v, p, r, e => by
    cases r <;> first
      | (cases e; first | exact .non | exact .bl _ | exact .int _ | exact .str _)
      | (cases e; done)
  | n + 1, d, v, p, r, e => by
    have ih := toPy_ok R n
    cases r with
    | non => cases e; exact .non
    | bl b => cases e; exact .bl _
    | int i => cases e; exact .int _
    | str x => cases e; exact .str _
    | tup t q =>
      obtain ⟨ps, e1, e2⟩ := Option.map_eq_some_iff.mp (show (optAll (toPy h n) _).map PyData.tuple = some p from e)
      subst e2
      exact .tup t.sq (optAll_ok ih q e1)
    | lst l q =>
      obtain ⟨ps, e1, e2⟩ := Option.map_eq_some_iff.mp (show (optAll (toPy h n) _).map PyData.list = some p from e)
      subst e2
      exact .lst l.sq (optAll_ok ih q e1)
    | @obj k a g =>
      have e : (match h[k]? with
      | some (.lst xs) => (optAll (toPy h n) xs).map PyData.list
      | _ => none) = some p := e
      cases hk : h[k]? with
      | none => rw [hk] at e; cases e
      | some o =>
        rw [hk] at e
        cases o with
        | lst xs =>
          obtain ⟨ps, e1, e2⟩ := Option.map_eq_some_iff.mp e
          subst e2
          obtain ⟨vs, h1, h2⟩ := R.at g hk
          exact .lst (SqL.of h1) (optAll_ok ih h2 e1)
        | _ => cases e
    | _ => cases e
end
def pyDepth : Nat := 63
def eqPy (x y : D) (neg : Bool) : M D := fun h => match toPy h pyDepth x, toPy h pyDepth y with
  | some p, some q => if SeqAt.shaped p && SeqAt.shaped q then .ok (.bl (if neg then !PyData.eqv p q else PyData.eqv p q)) h else .bad
  | _, _ => .bad
def eqD (x y : D) : M D := eqPy x y false
def neD (x y : D) : M D := eqPy x y true
def cmpD (f : Int → Int → Bool) (x y : D) : M D := fun h => match x, y with
  | .int i, .int j => .ok (.bl (f i j)) h
  | _, _ => .bad
def ltD := cmpD fun i j => decide (i < j)
def leD := cmpD fun i j => decide (i ≤ j)
def gtD := cmpD fun i j => decide (j < i)
def geD := cmpD fun i j => decide (j ≤ i)
def keyOf : D → Option Key
  | .int i => some (.inl i)
  | .str x => some (.inr x)
  | _ => none
def seqOf (h : Hs) : D → Option (List D)
  | .tup xs => some xs
  | d => items h d
def look {κ : Type} [DecidableEq κ] (kvs : List (κ × D)) (k : κ) : Option D := (kvs.find? fun p => decide (p.1 = k)).map (·.2)
/-- x in y -/
def inGen (neg : Bool) (x y : D) : M D := fun h => match y with
  | .str b => (match x with
    | .str a => .ok (.bl (if neg then !(!(Builtin.Str.occurrences b a 0 b.length 1).isEmpty) else !(Builtin.Str.occurrences b a 0 b.length 1).isEmpty)) h
    | _ => .bad)
  | y => (match seqOf h y with
    | some ys => (match toPy h pyDepth x, optAll (toPy h pyDepth) ys with
      | some p, some ps => if SeqAt.shaped p && SeqAt.shaped (.tuple ps) then .ok (.bl (if neg then !(ps.any fun z => PyData.eqv z p) else ps.any fun z => PyData.eqv z p)) h else .bad
      | _, _ => .bad)
    | none => (match y with
      | .obj n => (match dctKV h n, keyOf x with
        | some kvs, some k => .ok (.bl (if neg then !(look kvs k).isSome else (look kvs k).isSome)) h
        | _, _ => .bad)
      | _ => .bad))
def inD := inGen false
def ninD := inGen true
section
variable {X : Cx}
theorem o_eq : Op2 X (rEqD X.K) eqD := by
  intro ι h H x y v u W Q R rx ry p
  unfold eqD eqPy at p
  split at p
  · rename_i a b h1 h2
    obtain ⟨c, p⟩ := p.guard
    obtain ⟨c1, c2⟩ := Bool.and_eq_true_iff.mp c
    exact ⟨a, b, toPy_ok R _ _ _ _ rx h1, toPy_ok R _ _ _ _ ry h2, c1, c2, p.ok R (.bl _)⟩
  · exact p.elim
theorem o_ne : Op2 X (rNeD X.K) neD := by
  intro ι h H x y v u W Q R rx ry p
  unfold neD eqPy at p
  split at p
  · rename_i a b h1 h2
    obtain ⟨c, p⟩ := p.guard
    obtain ⟨c1, c2⟩ := Bool.and_eq_true_iff.mp c
    exact ⟨a, b, toPy_ok R _ _ _ _ rx h1, toPy_ok R _ _ _ _ ry h2, c1, c2, p.ok R (.bl _)⟩
  · exact p.elim
theorem o_cmp {f : Int → Int → Bool} : Op2 X (rI0 fun i j => .bl (f i j)) (cmpD f) := by
  intro ι h H x y v u W Q R rx ry p
  unfold cmpD at p
  split at p
  · cases rx
    cases ry
    exact ⟨_, _, rfl, rfl, p.ok R (.bl _)⟩
  · exact p.elim
/-- in a tuple -/
def rInTD (K : PySem.W.Frag) (neg : Bool) : R2 := fun x y H Q => ∃ d ds, Dp K H x d ∧ Dp K H y (.tuple ds) ∧ SeqAt.shaped d = true ∧ SeqAt.shaped (.tuple ds) = true ∧ Q (.bl (if neg then !(ds.any fun z => PyData.eqv z d) else ds.any fun z => PyData.eqv z d)) H
theorem op_inTD (hu : X.A.units + 65 < cLine) : OpR X (compareOp .In) (rInTD X.K false) := by
  intro pins s σ H x y v u Q I rx ry h
  obtain ⟨d, ds, hd, he, sd, se, q⟩ := h
  obtain ⟨as, r1⟩ := Dp.reads I d x v hd rx
  obtain ⟨bs, r2⟩ := Dp.reads I (.tuple ds) y u he ry
  exact SeqAt.in_tuple_reads r2 r1 (SeqAt.canLay_of_shaped se) (SeqAt.canLay_of_shaped sd) (room_in_shaped sd hu) ⟨.bl _, H, I, rfl, q⟩
theorem op_ninTD (hu : X.A.units + 65 < cLine) : OpR X (compareOp .NotIn) (rInTD X.K true) := by
  intro pins s σ H x y v u Q I rx ry h
  obtain ⟨d, ds, hd, he, sd, se, q⟩ := h
  obtain ⟨as, r1⟩ := Dp.reads I d x v hd rx
  obtain ⟨bs, r2⟩ := Dp.reads I (.tuple ds) y u he ry
  exact SeqAt.notIn_tuple_reads r2 r1 (SeqAt.canLay_of_shaped se) (SeqAt.canLay_of_shaped sd) (room_in_shaped sd hu) ⟨.bl _, H, I, rfl, q⟩
end
end Dl

/-! The D layer, 4: in, and or not, displays, calls, fields, subscripts, slices. -/
namespace Dl
open PySem PySem.Spec PyProof.Rows L2
variable [Tb]

section
variable {K : PySem.W.Frag} {ι : Ix} {H : Hp} {h : Hs}
theorem keyOf_kV {x : D} {v : V} {k : Key} (r : RD K ι H x v) (e : keyOf x = some k) : v = kV k := by
  cases r <;> first
    | (cases e; rfl)
    | (cases e; done)
theorem look_rf {κ : Type} [DecidableEq κ] {k : κ} : ∀ {kvs : List (κ × D)} {us : List (κ × V)}, RF K ι H kvs us →
    (∀ d, look kvs k = some d → ∃ v, valV us k = some v ∧ RD K ι H d v) ∧ (look kvs k = none → valV us k = none)
  | _, _, .nil => ⟨fun d e => (nomatch e), fun _ => rfl⟩
  | p :: kvs, q :: us, .cons g r => by
    obtain ⟨i1, i2⟩ := look_rf (k := k) r
    by_cases e : p.1 = k
    · have e2 : q.1 = k := by rw [← g.1]; exact e
      refine ⟨fun d z => ?_, fun z => ?_⟩
      · have z1 : look (p :: kvs) k = some p.2 := by simp [look, List.find?_cons, e]
        rw [z1] at z
        cases z
        exact ⟨q.2, valV_pos e2, g.2⟩
      · have z1 : look (p :: kvs) k = some p.2 := by simp [look, List.find?_cons, e]
        rw [z1] at z
        cases z
    · have e2 : ¬ q.1 = k := by rw [← g.1]; exact e
      have z1 : look (p :: kvs) k = look kvs k := by simp [look, List.find?_cons, e]
      rw [z1, valV_neg e2]
      exact ⟨i1, i2⟩
theorem look_isSome {κ : Type} [DecidableEq κ] {k : κ} {kvs : List (κ × D)} {us : List (κ × V)} (r : RF K ι H kvs us) : (valV us k).isSome = (look kvs k).isSome := by
  obtain ⟨i1, i2⟩ := look_rf (k := k) r
  cases e : look kvs k with
  | none => rw [i2 e] <;> rfl
  | some d =>
    obtain ⟨v, z, _⟩ := i1 d e
    rw [z]
    rfl
theorem seqOf_ok (R : Rel K ι h H) {x : D} {v : V} {xs : List D} (r : RD K ι H x v) (e : seqOf h x = some xs) : ∃ a vs, v = .ref a ∧ (SqL K H a vs ∨ SqT K H a vs) ∧ RDs K ι H xs vs := by
  cases r with
  | tup t q => cases e; exact ⟨_, _, rfl, .inr t.sq, q⟩
  | lst l q => cases e; exact ⟨_, _, rfl, .inl l.sq, q⟩
  | @obj n a g =>
    obtain ⟨a, vs, e1, e2, e3⟩ := items_ok R (.obj g) (show items h (.obj n) = some xs from e)
    exact ⟨a, vs, e1, .inl (SqL.of e2), e3⟩
  | _ => cases e
theorem seqOf_dp (R : Rel K ι h H) {x : D} {v : V} {xs : List D} {ps : List PyData} (r : RD K ι H x v) (e : seqOf h x = some xs) (f : optAll (toPy h pyDepth) xs = some ps) : Dp K H v (.list ps) ∨ Dp K H v (.tuple ps) := by
  obtain ⟨a, vs, rfl, q, rs⟩ := seqOf_ok R r e
  have z := optAll_ok (toPy_ok R pyDepth) rs f
  rcases q with q | q
  · exact .inl (.lst q z)
  · exact .inr (.tup q z)
end
theorem shaped_lt (ps : List PyData) : SeqAt.shaped (.tuple ps) = SeqAt.shaped (.list ps) := by
  unfold SeqAt.shaped
  have e1 : PyData.canLay0 (.tuple ps) = PyData.canLay0 (.list ps) := by simp only [PyData.canLay0]
  have e2 : PyData.depth (.tuple ps) = PyData.depth (.list ps) := by simp only [PyData.depth]
  rw [e1, e2]
section
variable {X : Cx}
def rInDct (neg : Bool) : R2 := fun x y H Q => ∃ a o, y = .ref a ∧ DGet H a x o ∧ Q (.bl (if neg then !o.isSome else o.isSome)) H
theorem op_inDct (hu : X.A.units + 1 < cLine) : OpR X (compareOp .In) (rInDct false) := by
  intro pins s σ H x y v u Q I rx ry h
  obtain ⟨a, o, rfl, g, q⟩ := h
  cases ry
  exact d_in hu I g rx fun s3 I3 => ⟨.bl o.isSome, H, I3, rfl, q⟩
theorem op_ninDct (hu : X.A.units + 1 < cLine) : OpR X (compareOp .NotIn) (rInDct true) := by
  intro pins s σ H x y v u Q I rx ry h
  obtain ⟨a, o, rfl, g, q⟩ := h
  cases ry
  exact d_notIn hu I g rx fun s3 I3 => ⟨.bl (!o.isSome), H, I3, rfl, q⟩
def rInStr (neg : Bool) : R2 := fun x y H Q => ∃ i j, x = .str i ∧ y = .str j ∧ Q (.bl (if neg then !(!(Builtin.Str.occurrences j i 0 j.length 1).isEmpty) else !(Builtin.Str.occurrences j i 0 j.length 1).isEmpty)) H
def rInLD (K : PySem.W.Frag) (neg : Bool) : R2 := fun x y H Q => ∃ d ds, Dp K H x d ∧ Dp K H y (.list ds) ∧ SeqAt.shaped d = true ∧ SeqAt.shaped (.list ds) = true ∧ Q (.bl (if neg then !(ds.any fun z => PyData.eqv z d) else ds.any fun z => PyData.eqv z d)) H
def gIn (K : PySem.W.Frag) (neg : Bool) : R2 := fun x y H Q => (rInLD K neg x y H Q ∨ rInTD K neg x y H Q) ∨ (rInDct neg x y H Q ∨ rInStr neg x y H Q)
theorem or_in (hu : X.A.units + 65 < cLine) : OpR X (compareOp .In) (gIn X.K false) := OpR.or (OpR.or (op_inD hu) (op_inTD hu)) (OpR.or (op_inDct (by omega)) op_in_str)
theorem or_nin (hu : X.A.units + 65 < cLine) : OpR X (compareOp .NotIn) (gIn X.K true) := OpR.or (OpR.or (op_notInD hu) (op_ninTD hu)) (OpR.or (op_ninDct (by omega)) op_notIn_str)
theorem o_in {neg : Bool} : Op2 X (gIn X.K neg) (inGen neg) := by
  intro ι h H x y v u W Q R rx ry p
  unfold inGen at p
  split at p
  · split at p
    · cases rx
      cases ry
      exact .inr (.inr ⟨_, _, rfl, rfl, p.ok R (.bl _)⟩)
    · exact p.elim
  · split at p
    · rename_i ys e1
      split at p
      · rename_i d ps e2 e3
        obtain ⟨c, p⟩ := p.guard
        obtain ⟨c1, c2⟩ := Bool.and_eq_true_iff.mp c
        rcases seqOf_dp R ry e1 e3 with z | z
        · exact .inl (.inl ⟨d, ps, toPy_ok R _ _ _ _ rx e2, z, c1, by rw [← shaped_lt]; exact c2, p.ok R (.bl _)⟩)
        · exact .inl (.inr ⟨d, ps, toPy_ok R _ _ _ _ rx e2, z, c1, c2, p.ok R (.bl _)⟩)
      · exact p.elim
    · split at p
      · split at p
        · rename_i n kvs k e1 e2
          cases ry with
          | obj g =>
            obtain ⟨us, h1, h2⟩ := dctKV_rd R g e1
            refine .inr (.inl ⟨_, valV us k, rfl, ?_, ?_⟩)
            · rw [keyOf_kV rx e2]
              exact .inl ⟨us, k, h1, rfl, rfl⟩
            · rw [look_isSome h2]
              exact p.ok R (.bl _)
        · exact p.elim
      · exact p.elim
variable {W : WX} {pos : Pos} {a b c : Expr} {ca cb cc : Env → M D}
theorem de_eq (hu : X.A.units + 64 < cLine) (ha : DE X W a ca) (hb : DE X W b cb) : DE X W (.Compare a [.Eq] [b] pos) (e2 eqD ca cb) := de_cmp (op_eqD hu) o_eq ha hb (nomark _)
theorem de_lt (ha : DE X W a ca) (hb : DE X W b cb) : DE X W (.Compare a [.Lt] [b] pos) (e2 ltD ca cb) := de_cmp op_lt o_cmp ha hb (nomark _)
theorem de_ge (ha : DE X W a ca) (hb : DE X W b cb) : DE X W (.Compare a [.GtE] [b] pos) (e2 geD ca cb) := de_cmp op_ge o_cmp ha hb (nomark _)
theorem de_in (hu : X.A.units + 65 < cLine) (ha : DE X W a ca) (hb : DE X W b cb) (hm : behindInMarks .In b = false := by with_unfolding_all rfl) : DE X W (.Compare a [.In] [b] pos) (e2 inD ca cb) := de_cmp (or_in hu) o_in ha hb hm
/-- a <= b <= c -/
def eCh (f g : D → D → M D) (ca cb cc : Env → M D) : Env → M D := fun ρ h => (ca ρ h).bind fun x h1 => (cb ρ h1).bind fun y h2 => (f x y h2).bind fun z h3 => match z with
  | .bl true => (cc ρ h3).bind fun w h4 => g y w h4
  | .bl false => .ok (.bl false) h3
  | _ => .bad
theorem de_chain {o o' : CmpOp} {f g : D → D → M D} {r r' : R2} (ho : OpR X (compareOp o) r) (ho' : OpR X (compareOp o') r') (op : Op2 X r f) (op' : Op2 X r' g) (ha : DE X W a ca) (hb : DE X W b cb) (hc : DE X W c cc)
    (hm : lastMarks [o, o'] [b, c] = false) : DE X W (.Compare a [o, o'] [b, c] pos) (eCh f g ca cb cc) := pe_imp (pe_chain ho ho' ha hb hc hm) fun σ H Q ⟨ι, h, ρ, R, S, p⟩ => by
  refine ⟨ι, h, ρ, R, S, Post.imp (Post.bind p) fun x H1 ⟨ι1, h1, dx, x1, R1, r1, p1⟩ => ?_⟩
  refine ⟨ι1, h1, ρ, R1, S.mono x1, Post.imp (Post.bind p1) fun y H2 ⟨ι2, h2, dy, x2, R2, r2, p2⟩ => ?_⟩
  refine op ι2 h2 H2 dx dy x y _ _ R2 (r1.mono x2) r2 (Post.imp (Post.bind p2) fun z H3 ⟨ι3, h3, dz, x3, R3, r3, p3⟩ => ?_)
  split at p3
  · cases r3
    refine ⟨true, rfl, ?_⟩
    rw [if_pos rfl]
    refine ⟨ι3, h3, ρ, R3, S.mono ((x1.trans x2).trans x3), Post.imp (Post.bind p3) fun w H4 ⟨ι4, h4, dw, x4, R4, r4, p4⟩ => ?_⟩
    exact op' ι4 h4 H4 dy dw y w _ _ R4 (r2.mono (x3.trans x4)) r4 p4
  · cases r3
    refine ⟨false, rfl, ?_⟩
    rw [if_neg Bool.false_ne_true]
    exact p3.ok R3 (.bl _)
  · exact p3.elim
theorem de_lele (ha : DE X W a ca) (hb : DE X W b cb) (hc : DE X W c cc) (hm : lastMarks [.LtE, .LtE] [b, c] = false := by with_unfolding_all rfl) : DE X W (.Compare a [.LtE, .LtE] [b, c] pos) (eCh leD leD ca cb cc) := de_chain op_le op_le o_cmp o_cmp ha hb hc hm
/-! ### and, or, not, if as values and as tests -/
def tst (ca : Env → M D) : Env → M Bool := fun ρ h => (ca ρ h).bind fun x h1 => match x with
  | .bl b => .ok b h1
  | _ => .bad
def andT (ca cb : Env → M Bool) : Env → M Bool := fun ρ h => (ca ρ h).bind fun x h1 => if x = true then cb ρ h1 else .ok false h1
def orT (ca cb : Env → M Bool) : Env → M Bool := fun ρ h => (ca ρ h).bind fun x h1 => if x = true then .ok true h1 else cb ρ h1
def notT (ca : Env → M Bool) : Env → M Bool := fun ρ h => (ca ρ h).bind fun x h1 => .ok (!x) h1
def ifV (ct : Env → M Bool) (ca cb : Env → M D) : Env → M D := fun ρ h => (ct ρ h).bind fun x h1 => if x = true then ca ρ h1 else cb ρ h1
variable {ta tb : Env → M Bool} {rest : List Expr}
theorem de_one {op} (ha : DE X W a ca) : DE X W (.BoolOp op [a] pos) ca := pe_one ha
theorem w_cmp {o : CmpOp} {f : D → D → M D} {g : R2} (ho : OpR X (compareOp o) g) (op : Op2 X g f) (ha : DE X W a ca) (hb : DE X W b cb) (hm : behindInMarks o b = false) : DT X W (.Compare a [o] [b] pos) (tst (e2 f ca cb)) := pt_imp (pt_cmpR ho ha hb hm) fun σ H Q ⟨ι, h, ρ, R, S, p⟩ => by
  have q : wE X.K W (e2 f ca cb) σ H fun x H' => ∃ k, x = V.bl k ∧ Q k H' := by
    refine ⟨ι, h, ρ, R, S, Post.imp (Post.bind p) fun x H1 ⟨ι1, h1, dx, x1, R1, r1, p1⟩ => ?_⟩
    split at p1
    · cases r1
      exact ⟨_, rfl, p1.ok R1 rfl⟩
    · exact p1.elim
  exact w2 op q
theorem dt_eq (hu : X.A.units + 64 < cLine) (ha : DE X W a ca) (hb : DE X W b cb) : DT X W (.Compare a [.Eq] [b] pos) (tst (e2 eqD ca cb)) := w_cmp (op_eqD hu) o_eq ha hb (nomark _)
theorem dt_ne (hu : X.A.units + 64 < cLine) (ha : DE X W a ca) (hb : DE X W b cb) : DT X W (.Compare a [.NotEq] [b] pos) (tst (e2 neD ca cb)) := w_cmp (op_neD hu) o_ne ha hb (nomark _)
theorem dt_lt (ha : DE X W a ca) (hb : DE X W b cb) : DT X W (.Compare a [.Lt] [b] pos) (tst (e2 ltD ca cb)) := w_cmp op_lt o_cmp ha hb (nomark _)
theorem dt_gt (ha : DE X W a ca) (hb : DE X W b cb) : DT X W (.Compare a [.Gt] [b] pos) (tst (e2 gtD ca cb)) := w_cmp op_gt o_cmp ha hb (nomark _)
theorem dt_ge (ha : DE X W a ca) (hb : DE X W b cb) : DT X W (.Compare a [.GtE] [b] pos) (tst (e2 geD ca cb)) := w_cmp op_ge o_cmp ha hb (nomark _)
theorem dt_in (hu : X.A.units + 65 < cLine) (ha : DE X W a ca) (hb : DE X W b cb) (hm : behindInMarks .In b = false := by with_unfolding_all rfl) : DT X W (.Compare a [.In] [b] pos) (tst (e2 inD ca cb)) := w_cmp (or_in hu) o_in ha hb hm
theorem dt_nin (hu : X.A.units + 65 < cLine) (ha : DE X W a ca) (hb : DE X W b cb) (hm : behindInMarks .NotIn b = false := by with_unfolding_all rfl) : DT X W (.Compare a [.NotIn] [b] pos) (tst (e2 ninD ca cb)) := w_cmp (or_nin hu) o_in ha hb hm
/-- a test whatever its whole is -/
abbrev DW (X : Cx) (W : WX) (e : Expr) (c : Env → M Bool) : Prop := PW X e (wT X.K W c)
theorem pw_imp {X : Cx} {e : Expr} {t t' : TT} (h : PW X e t) (w : ∀ σ H Q, t' σ H Q → t σ H Q) : PW X e t' := ⟨fun wh pins s σ H Q I z => h.run wh pins s σ H Q I (w σ H Q z)⟩
theorem dw_and1 (ha : DT X W a ta) : DW X W (.BoolOp .And [a] pos) ta := pw_and1 ha
theorem dw_or1 (ha : DT X W a ta) : DW X W (.BoolOp .Or [a] pos) ta := pw_or1 ha
theorem dw_and (ha : DT X W a ta) (hb : DW X W (.BoolOp .And (b :: rest) pos) tb) : DW X W (.BoolOp .And (a :: b :: rest) pos) (andT ta tb) := pw_imp (pw_and ha hb) fun σ H Q ⟨ι, h, ρ, R, S, p⟩ => by
  refine ⟨ι, h, ρ, R, S, Post.imp (Post.bind p) fun x H1 ⟨ι1, h1, dx, x1, R1, r1, p1⟩ => ?_⟩
  subst r1
  cases dx with
  | true =>
    rw [if_pos rfl] at p1 ⊢
    exact ⟨ι1, h1, ρ, R1, S.mono x1, p1⟩
  | false =>
    rw [if_neg Bool.false_ne_true] at p1 ⊢
    exact p1.ok R1 rfl
theorem dw_or (ha : DT X W a ta) (hb : DW X W (.BoolOp .Or (b :: rest) pos) tb) : DW X W (.BoolOp .Or (a :: b :: rest) pos) (orT ta tb) := pw_imp (pw_or ha hb) fun σ H Q ⟨ι, h, ρ, R, S, p⟩ => by
  refine ⟨ι, h, ρ, R, S, Post.imp (Post.bind p) fun x H1 ⟨ι1, h1, dx, x1, R1, r1, p1⟩ => ?_⟩
  subst r1
  cases dx with
  | true =>
    rw [if_pos rfl] at p1 ⊢
    exact p1.ok R1 rfl
  | false =>
    rw [if_neg Bool.false_ne_true] at p1 ⊢
    exact ⟨ι1, h1, ρ, R1, S.mono x1, p1⟩
theorem dt_bool (h : DW X W a ta) : DT X W a ta := h.pt
theorem dt_not (ha : DT X W a ta) : DT X W (.UnaryOp .Not a pos) (notT ta) := pt_imp (pt_not ha) fun σ H Q ⟨ι, h, ρ, R, S, p⟩ => by
  refine ⟨ι, h, ρ, R, S, Post.imp (Post.bind p) fun x H1 ⟨ι1, h1, dx, x1, R1, r1, p1⟩ => ?_⟩
  subst r1
  exact p1.ok R1 rfl
theorem de_if (ht : DT X W c ta) (ha : DE X W a ca) (hb : DE X W b cb) : DE X W (.IfExp c a b pos) (ifV ta ca cb) := pe_imp (pe_ifExp ht ha hb) fun σ H Q ⟨ι, h, ρ, R, S, p⟩ => by
  refine ⟨ι, h, ρ, R, S, Post.imp (Post.bind p) fun x H1 ⟨ι1, h1, dx, x1, R1, r1, p1⟩ => ?_⟩
  subst r1
  cases dx with
  | true =>
    rw [if_pos rfl] at p1 ⊢
    exact ⟨ι1, h1, ρ, R1, S.mono x1, p1⟩
  | false =>
    rw [if_neg Bool.false_ne_true] at p1 ⊢
    exact ⟨ι1, h1, ρ, R1, S.mono x1, p1⟩

/-! ### arguments, displays -/
def aN : Env → M (List D) := fun _ h => .ok [] h
def aC (ca : Env → M D) (cs : Env → M (List D)) : Env → M (List D) := fun ρ h => (ca ρ h).bind fun x h1 => (cs ρ h1).bind fun xs h2 => .ok (x :: xs) h2
variable {es : List Expr} {cs : Env → M (List D)}
theorem da_nil : DA X W [] aN := pa_imp pa_nil fun σ H Q ⟨ι, h, ρ, R, S, p⟩ => p.ok R .nil
theorem da_cons (ha : DE X W a ca) (hs : DA X W es cs) (hst : starEach (a :: es) X.env = (false, eval a X.env) :: starEach es X.env := by rfl) : DA X W (a :: es) (aC ca cs) := pa_imp (pa_cons ha hs hst) fun σ H Q ⟨ι, h, ρ, R, S, p⟩ => by
  refine ⟨ι, h, ρ, R, S, Post.imp (Post.bind p) fun x H1 ⟨ι1, h1, dx, x1, R1, r1, p1⟩ => ?_⟩
  refine ⟨ι1, h1, ρ, R1, S.mono x1, Post.imp (Post.bind p1) fun xs H2 ⟨ι2, h2, dxs, x2, R2, r2, p2⟩ => ?_⟩
  exact p2.ok R2 (.cons (r1.mono x2) r2)
def eTup (cs : Env → M (List D)) : Env → M D := fun ρ h => (cs ρ h).bind fun xs h1 => if okLen xs.length then .ok (.tup xs) h1 else .bad
theorem de_tup {k : Nat} (hs : DA X W es cs) : DE X W (.Tuple es k pos) (eTup cs) := pe_imp (pe_tup hs) fun σ H Q ⟨ι, h, ρ, R, S, p⟩ => by
  refine ⟨ι, h, ρ, R, S, Post.imp (Post.bind p) fun xs H1 ⟨ι1, h1, dxs, x1, R1, r1, p1⟩ => ?_⟩
  obtain ⟨c, p1⟩ := p1.guard
  exact ⟨by rw [← r1.length]; exact okLen_ok c, fun q hq => p1.tup R1 r1 hq⟩
/-- a new list: its items -/
def nLst (cs : Env → M (List D)) : Env → M (List D) := fun ρ h => (cs ρ h).bind fun xs h1 => if okLen xs.length then .ok xs h1 else .bad
/-- it stays as it is; it may change -/
def frz (cs : Env → M (List D)) : Env → M D := fun ρ h => (cs ρ h).bind fun xs h1 => .ok (.lst xs) h1
def thaw (cs : Env → M (List D)) : Env → M D := fun ρ h => (cs ρ h).bind fun xs h1 => .ok (.obj h1.length) (h1 ++ [.lst xs])
theorem PostN.bind {K : PySem.W.Frag} {W : XK} {α β : Type} {RA : Ix → Hp → α → β → Prop} {r : R α} {f : α → M (List D)} {ι : Ix} {H : Hp} {Q : VK} (p : PostN K W (r.bind f) ι H Q) :
    Post K W RA r ι H (fun b H1 => ∃ ι1 h1 a, Ext ι H ι1 H1 ∧ Rel K ι1 h1 H1 ∧ RA ι1 H1 a b ∧ PostN K W (f a h1) ι H Q) := by
  cases r with
  | ok a h => exact fun ι' H' b e R ra => ⟨ι', h, a, e, R, ra, p⟩
  | exc C fs h => exact p
  | bad => exact p
theorem PostN.bindAt {K : PySem.W.Frag} {W : XK} {α β : Type} {RA : Ix → Hp → α → β → Prop} {r : R α} {f : α → M (List D)} {ι ιb : Ix} {H Hb : Hp} {Q : VK} (e : Ext ιb Hb ι H) (p : PostN K W (r.bind f) ιb Hb Q) :
    Post K W RA r ι H (fun b H1 => ∃ ι1 h1 a, Ext ι H ι1 H1 ∧ Rel K ι1 h1 H1 ∧ RA ι1 H1 a b ∧ PostN K W (f a h1) ιb Hb Q) := by
  cases r with
  | ok a h => exact fun ι' H' b e R ra => ⟨ι', h, a, e, R, ra, p⟩
  | exc C fs h => exact fun ι' H' od e' => p ι' H' od (e.trans e')
  | bad => exact p
theorem PostN.guard {K : PySem.W.Frag} {W : XK} {ι : Ix} {H : Hp} {Q : VK} {c : Bool} {r : R (List D)} (p : PostN K W (if c = true then r else .bad) ι H Q) : c = true ∧ PostN K W r ι H Q := by
  cases c with
  | true => exact ⟨rfl, p⟩
  | false => exact (show False from p).elim
theorem dn_lst (hs : DA X W es cs) : DN X W (.List es pos) (nLst cs) := pe_imp (pe_lst hs) fun σ H Q ⟨ι, h, ρ, R, S, p⟩ => by
  refine ⟨ι, h, ρ, R, S, Post.imp (PostN.bind p) fun xs H1 ⟨ι1, h1, dxs, x1, R1, r1, p1⟩ => ?_⟩
  obtain ⟨c, p1⟩ := p1.guard
  exact ⟨by rw [← r1.length]; exact okLen_ok c, fun q hq => p1.new x1 R1 r1 hq⟩
theorem Ext.more {ι ι1 : Ix} {H H1 : Hp} {l : Addr} (e : Ext ι H ι1 H1) (n : H l = none) : Ext ι H (ι1.push l) H1 := ⟨by
    obtain ⟨t, e1⟩ := e.pre
    exact ⟨t ++ [l], by show ι1.os ++ [l] = _; rw [e1, List.append_assoc]⟩, e.rs, e.keep, fun b m => by
    rcases List.mem_append.mp m with m | m
    · exact e.new b m
    · exact .inr (by rw [List.mem_singleton.mp m]; exact n), e.frz, e.dom⟩
theorem w_frz {K : PySem.W.Frag} {σ : L2.St} {H : Hp} {Q : VK} (q : wE K W (frz cs) σ H Q) : wN K W cs σ H Q := by
  obtain ⟨ι, h, ρ, R, S, p⟩ := q
  refine ⟨ι, h, ρ, R, S, ?_⟩
  unfold frz at p
  cases q : cs ρ h with
  | bad => rw [q] at p; exact p
  | exc C fs h' => rw [q] at p; exact p
  | ok xs h1 =>
    rw [q] at p
    intro ι1 H1 l vs x1 R1 r1 e n1 n2 n0
    exact p ι1 H1 _ x1 (R1.done e) (.lst ⟨⟨n1, n2⟩, e⟩ (r1.up Up.done))
theorem w_thaw {K : PySem.W.Frag} {σ : L2.St} {H : Hp} {Q : VK} (q : wE K W (thaw cs) σ H Q) : wN K W cs σ H Q := by
  obtain ⟨ι, h, ρ, R, S, p⟩ := q
  refine ⟨ι, h, ρ, R, S, ?_⟩
  unfold thaw at p
  cases q : cs ρ h with
  | bad => rw [q] at p; exact p
  | exc C fs h' => rw [q] at p; exact p
  | ok xs h1 =>
    rw [q] at p
    intro ι1 H1 l vs x1 R1 r1 e n1 n2 n0
    refine p (ι1.push l) H1 _ (x1.more n0) (R1.push n1 ⟨vs, e, r1.up Up.push⟩) (.obj ?_)
    have hl : ι1.os.length = h1.length := R1.len
    show (ι1.os ++ [l])[h1.length]? = some l
    rw [← hl, List.getElem?_append_right (Nat.le_refl _)]
    simp
theorem de_frz (hs : DN X W a cs) : DE X W a (frz cs) := pe_imp hs fun _ _ _ q => w_frz q
theorem de_thaw (hs : DN X W a cs) : DE X W a (thaw cs) := pe_imp hs fun _ _ _ q => w_thaw q
end
end Dl

/-! The D layer, 5: calls of defs, methods, classes; fields; subscripts. -/
namespace Dl
open PySem PySem.Spec PyProof.Rows L2
variable [Tb]

/-! ### a def's promise -/
def spD (K : PySem.W.Frag) (n : Nat) (m : List D → M D) : Sp := fun vs H Q E => vs.length = n ∧ ∃ ι h ds, Rel K ι h H ∧ RDs K ι H ds vs ∧ Post K E (RD K) (m ds h) ι H Q
/-- as the hand layer's FnOk, where no repr is under way -/
structure FnG (P : Program) (w : World) (K : PySem.W.Frag) (mg : Str → Option Value) (base : Heap) (CX : CXT) (k : Nat) (f : Addr) (fd : FuncData) (ps : List Str) (sp : Sp) : Prop where
  len : ∀ vs H Q E, sp vs H Q E → vs.length = ps.length
  run : ∀ (A : Around) (outer : List PySem.Env) (s : Shared) (H : Hp) (args : Args) (us : List Value) (vs : List V) (Q : VK) (E : XK), Room k A → A.guards = some [] → Env0 P w K mg base A outer s H → BindsTo s fd args (ps.zip us) → Vals vs us → sp vs H Q E →
    codeAny (model P w) A (.call (.ref f) args) (CR CX outer P w H s Q E) s
theorem FnG.mono {P : Program} {w : World} {K : PySem.W.Frag} {mg : Str → Option Value} {base : Heap} {CX : CXT} {j k : Nat} {f : Addr} {fd : FuncData} {ps : List Str} {sp : Sp} (F : FnG P w K mg base CX j f fd ps sp) (h : j ≤ k) :
    FnG P w K mg base CX k f fd ps sp := ⟨F.len, fun A outer s H args us vs Q E hr => F.run A outer s H args us vs Q E (hr.mono h)⟩
def FnD (P : Program) (w : World) (K : PySem.W.Frag) (mg : Str → Option Value) (base : Heap) (k : Nat) (f : Addr) (n : Nat) (m : List D → M D) : Prop :=
  ∃ fd ps, FnG P w K mg base (L2.CX P w) k f fd ps (spD K n m) ∧ Binds K fd ps [] ∧ PySem.W.keepIn K (.ref f) = true
theorem FnD.mono {P : Program} {w : World} {K : PySem.W.Frag} {mg : Str → Option Value} {base : Heap} {j k : Nat} {f : Addr} {n : Nat} {m : List D → M D} (F : FnD P w K mg base j f n m) (h : j ≤ k) : FnD P w K mg base k f n m := by
  obtain ⟨fd, ps, F, b, kp⟩ := F
  exact ⟨fd, ps, F.mono h, b, kp⟩
section
variable {X : Cx} {CX : CXT} {k : Nat} {f C : Addr} {fd : FuncData} {ps : List Str} {sp : Sp} {E : L2.St → XK} {x m : Str} {p pos apos : Pos} {e o : Expr} {es : List Expr} {ta : TE} {t : TA}
theorem run_fnG {pins : List (Addr × Obj)} {σ : L2.St} {H : Hp} {s : Shared} {Q : VK} {us : List Value} {vs : List V} (F : FnG X.prog X.w X.K X.mg X.base CX k f fd ps sp) (hr : Room k X.A) (gd : X.A.guards = some []) (hb : Binds X.K fd ps []) (hx : PassesAt CX X σ (E σ))
    (I : Inv X pins σ H s) (r : Vals vs us) (h : sp vs H Q (E σ)) : wpAny (model X.prog X.w) X.A (call (.ref f) us) (EP X pins σ Q) X.xe s := by
  have hl : us.length = ps.length := by rw [← r.length]; exact F.len _ _ _ _ h
  have b := hb s us I.kIn (by rw [List.append_nil]; exact hl)
  rw [List.append_nil] at b
  refine wpAny_call (codeAny_mono (F.run X.A X.stack s H ⟨us, []⟩ us vs Q (E σ) hr gd I.env0 b r h) fun r s' hq => ?_)
  cases r with
  | error e => exact hx pins H s e s' I hq
  | ok fl =>
    cases fl with
    | ret u => exact I.after hq
    | next => exact False.elim hq
    | brk => exact False.elim hq
    | cont => exact False.elim hq
theorem pe_callG (F : FnG X.prog X.w X.K X.mg X.base CX k f fd ps sp) (hr : Room k X.A) (gd : X.A.guards = some []) (hg : Gl X x) (hm : X.mg x = some (.ref f)) (hk : PySem.W.keepIn X.K (.ref f) = true) (hb : Binds X.K fd ps []) (hx : ∀ σ, PassesAt CX X σ (E σ))
    (ha : PA X (e :: es) t) (hdb : (x == ("__debug__" : Str)) = false := by decide) (he : starEach (e :: es) X.env = (false, eval e X.env) :: starEach es X.env := by rfl) (hpl : (backTo pos (starEach es X.env)).any (·.1) = false := by rfl) :
    PE X (.Call (.Name x p) (e :: es) [] pos) (tCallS sp E t) := by
  refine ⟨fun pins s σ H Q I h => ?_⟩
  refine wpAny_Call_Name_kw (ld_glob I hg hm ?_ hdb)
  refine PySem.W.callWith_K (h₀ := X.base) I.ok.mod.kin hk (thn (ha.run pos pins s σ H _ I h) fun us s1 ⟨vs, H1, I1, r, q⟩ => ⟨I1.kIn, ?_⟩) he hpl
  exact run_fnG F hr gd hb (hx σ) I1 r q
end
def eCall (n : Nat) (m : List D → M D) (cs : Env → M (List D)) : Env → M D := fun ρ h => (cs ρ h).bind fun xs h1 => if decide (xs.length = n) then m xs h1 else .bad
def fieldsAt (C : Str) (h : Hs) (x : D) : Option (List (Str × D)) := match x with
  | .obj n => (match h[n]? with
    | some (.ins C' fs) => if decide (C' = C) then some fs else none
    | _ => none)
  | _ => none
section
variable {K : PySem.W.Frag} {ι : Ix} {H : Hp} {h : Hs}
theorem fieldsAt_ok (R : Rel K ι h H) {C : Str} {x : D} {v : V} {fs : List (Str × D)} (r : RD K ι H x v) (e : fieldsAt C h x = some fs) :
    ∃ n a dx us, x = .obj n ∧ v = .ref a ∧ ι.os[n]? = some a ∧ h[n]? = some (.ins C fs) ∧ H a = some (.ins (He.ga K C) dx us) ∧ RF K ι H fs us := by
  cases r with
  | @obj n a g =>
    have e : (match h[n]? with
    | some (.ins C' fs) => if decide (C' = C) then some fs else none
    | _ => none) = some fs := e
    cases hn : h[n]? with
    | none => rw [hn] at e; cases e
    | some o =>
      rw [hn] at e
      cases o with
      | ins C' gs =>
        have e : (if decide (C' = C) = true then some gs else none) = some fs := e
        by_cases hc : C' = C
        · rw [if_pos (decide_eq_true hc)] at e
          cases e
          subst hc
          obtain ⟨dx, us, h1, h2⟩ := R.at g hn
          exact ⟨n, a, dx, us, rfl, rfl, g, hn, h1, h2⟩
        · rw [if_neg (by simpa using hc)] at e
          cases e
      | _ => cases e
  | _ => cases e
theorem rf_lookup {f : Str} : ∀ {fs : List (Str × D)} {us : List (Str × V)}, RF K ι H fs us → (∀ d, fs.lookup f = some d → ∃ v, us.lookup f = some v ∧ RD K ι H d v) ∧ (fs.lookup f = none → us.lookup f = none)
  | _, _, .nil => ⟨fun d e => (nomatch e), fun _ => rfl⟩
  | p :: fs, q :: us, .cons g r => by
    obtain ⟨i1, i2⟩ := rf_lookup (f := f) r
    obtain ⟨p1, p2⟩ := p
    obtain ⟨q1, q2⟩ := q
    have e1 : p1 = q1 := g.1
    subst e1
    rw [List.lookup_cons, List.lookup_cons]
    cases z : f == p1 with
    | true => exact ⟨fun d e => by cases e; exact ⟨_, rfl, g.2⟩, fun e => (nomatch e)⟩
    | false => exact ⟨i1, i2⟩
def putFD (f : Str) (d : D) : List (Str × D) → List (Str × D)
  | [] => [(f, d)]
  | (g, e) :: r => if g = f then (g, d) :: r else (g, e) :: putFD f d r
theorem rf_put {f : Str} {d : D} {v : V} (rd : RD K ι H d v) : ∀ {fs : List (Str × D)} {us : List (Str × V)}, RF K ι H fs us → RF K ι H (putFD f d fs) (putF f v us)
  | _, _, .nil => .cons ⟨rfl, rd⟩ .nil
  | (p1, p2) :: fs, (q1, q2) :: us, .cons g r => by
    have e1 : p1 = q1 := g.1
    subst e1
    unfold putFD putF
    by_cases z : p1 = f
    · rw [if_pos z, if_pos z]
      exact .cons ⟨rfl, rd⟩ r
    · rw [if_neg z, if_neg z]
      exact .cons g (rf_put rd r)
theorem rf_len {κ : Type} {fs : List (κ × D)} {us : List (κ × V)} (r : RF K ι H fs us) : fs.length = us.length := Paired.length r
end
def eFld (C f : Str) (ca : Env → M D) : Env → M D := fun ρ h => (ca ρ h).bind fun x h1 => match (fieldsAt C h1 x).bind (·.lookup f) with
  | some d => .ok d h1
  | none => .bad
def eMeth (C m : Str) (n : Nat) (mf : List D → M D) (ca : Env → M D) (cs : Env → M (List D)) : Env → M D := fun ρ h => (ca ρ h).bind fun x h1 => match (fieldsAt C h1 x).map (·.lookup m) with
  | some none => (cs ρ h1).bind fun xs h2 => if decide (xs.length + 1 = n) then mf (x :: xs) h2 else .bad
  | _ => .bad
def eMake (C : Str) (n : Nat) (mf : List D → M D) (cs : Env → M (List D)) : Env → M D := fun ρ h => (cs ρ h).bind fun xs h1 => if decide (xs.length + 1 = n) then
  (mf (.obj h1.length :: xs) (h1 ++ [.ins C []])).bind fun r h2 => match r with
  | .non => .ok (.obj h1.length) h2
  | _ => .bad
  else .bad
section
variable {X : Cx} {W : WX} {pos p apos : Pos} {a : Expr} {es : List Expr} {ca : Env → M D} {cs : Env → M (List D)} {k n : Nat} {mf : List D → M D} {x C m f : Str}
/-- f(a, ..) -/
theorem de_call (F : FnD X.prog X.w X.K X.mg X.base k (He.ga X.K x) n mf) (hr : Room k X.A) (gd : X.A.guards = some []) (tk : Takes X W) (hm : X.mg x = some (.ref (He.ga X.K x))) (hg : Gl X x) (ha : DA X W (a :: es) cs) (hdb : (x == ("__debug__" : Str)) = false := by decide)
    (he : starEach (a :: es) X.env = (false, eval a X.env) :: starEach es X.env := by rfl) (hpl : (backTo pos (starEach es X.env)).any (·.1) = false := by rfl) : DE X W (.Call (.Name x p) (a :: es) [] pos) (eCall n mf cs) := by
  obtain ⟨fd, ps, F, b, kp⟩ := F
  refine pe_imp (pe_callG F hr gd hg hm kp b (fun σ => passAt tk σ) ha hdb he hpl) fun σ H Q ⟨ι, h, ρ, R, S, p⟩ => ?_
  refine ⟨ι, h, ρ, R, S, Post.imp (Post.bind p) fun vs H1 ⟨ι1, h1, ds, x1, R1, r1, p1⟩ => ?_⟩
  obtain ⟨c, p1⟩ := p1.guard
  exact ⟨by rw [← r1.length]; exact of_decide_eq_true c, ι1, h1, ds, R1, r1, p1⟩
/-- o.f -/
theorem de_fld (c : Cls X.K (He.ga X.K C)) (nf : NoAttr X.K (He.ga X.K C) f) (ha : DE X W a ca) (hb : attributeBase a f X.env (eval a X.env) = eval a X.env := by rfl) : DE X W (.Attribute a f pos) (eFld C f ca) := pe_imp (pe_fld ha hb) fun σ H Q ⟨ι, h, ρ, R, S, p⟩ => by
  refine ⟨ι, h, ρ, R, S, Post.imp (Post.bind p) fun v H1 ⟨ι1, h1, dx, x1, R1, r1, p1⟩ => ?_⟩
  split at p1
  · rename_i d e
    obtain ⟨fs, e1, e2⟩ := Option.bind_eq_some_iff.mp e
    obtain ⟨n, q, dx, us, rfl, rfl, g, hn, hq, rf⟩ := fieldsAt_ok R1 r1 e1
    obtain ⟨w, h2, r2⟩ := (rf_lookup (f := f) rf).1 d e2
    exact ⟨q, _, dx, us, w, rfl, hq, c, nf, h2, p1.ok R1 r2⟩
  · exact p1.elim
/-! ### C(..) -/
def tMakeS (C : Addr) (sp : Sp) (E : L2.St → XK) (t : TA) : TE := fun σ H Q => t σ H fun vs H1 => ∀ x dx, H1 x = none → H1 dx = none → dx ≠ x →
  sp (.ref x :: vs) (upd (upd H1 dx (.own x)) x (.ins C dx [])) (fun v H2 => v = .non ∧ Q (.ref x) H2) (E σ)
theorem make_guards {A : Around} {C : Addr} {us : List Value} {kw : List (Str × Value)} (gd : A.guards = some []) : (A.under (.builtin "type.__call__" ⟨.ref C :: us, kw⟩)).guards = some [] := by
  have e : (Code.builtin "type.__call__" ⟨.ref C :: us, kw⟩).guards = [] := by
    first
      | rfl
      | simp [Code.guards, Code.isGuard, guardIds]
  show pushGuards (Code.builtin "type.__call__" ⟨.ref C :: us, kw⟩).guards A.guards = some []
  rw [e, gd]
  rfl
theorem run_makeS {CX : CXT} {C f : Addr} {fd : FuncData} {ps : List Str} {sp : Sp} {E : XK} {pins : List (Addr × Obj)} {σ : L2.St} {H : Hp} {s : Shared} {Q : VK} {us : List Value} {vs : List V} (M : Mk X.K C f) (F : FnG X.prog X.w X.K X.mg X.base CX k f fd ps sp) (hr : Room (k + 1) X.A) (gd : X.A.guards = some [])
    (hb : Binds X.K fd ps []) (hx : PassesAt CX X σ E) (I : Inv X pins σ H s) (r : Vals vs us)
    (h : ∀ x dx, H x = none → H dx = none → dx ≠ x → sp (.ref x :: vs) (upd (upd H dx (.own x)) x (.ins C dx [])) (fun v H2 => v = .non ∧ Q (.ref x) H2) E) :
    wpAny (model X.prog X.w) X.A (call (.ref C) us) (EP X pins σ Q) X.xe s := by
  have hq := h (s.heap.objs.size + 1) s.heap.objs.size (I.hok.fresh (Nat.le_succ _)) (I.hok.fresh (Nat.le_refl _)) (Nat.ne_of_lt (Nat.lt_succ_self _))
  have I2 := Inv.made (C := C) I
  have r2 : Vals (V.ref (s.heap.objs.size + 1) :: vs) (Value.ref (s.heap.objs.size + 1) :: us) := .cons rfl r
  have hl : (Value.ref (s.heap.objs.size + 1) :: us).length = ps.length := by
    have e := r2.length
    rw [F.len _ _ _ _ hq] at e
    exact e.symm
  have b := hb _ (Value.ref (s.heap.objs.size + 1) :: us) I2.kIn (by rw [List.append_nil]; exact hl)
  rw [List.append_nil] at b
  refine wpAny_call (make_map (f := f) I.kIn M.makes M.init (beq_iff_eq.mp M.fn) (codeAny_mono (F.run _ X.stack _ _ ⟨Value.ref (s.heap.objs.size + 1) :: us, []⟩ (Value.ref (s.heap.objs.size + 1) :: us) _ _ E (hr.make C us []) (make_guards gd)
    (I2.env0.make C us []) b r2 hq) fun r s' hq' => ?_))
  cases r with
  | error e => exact hx pins _ _ e s' I2 hq'
  | ok fl =>
    cases fl with
    | ret u =>
      obtain ⟨v, H', I3, rv, ev, q3⟩ := I2.after hq'
      subst ev
      exact ⟨rv, ⟨V.ref (s.heap.objs.size + 1), H', I3, rfl, q3⟩⟩
    | next => exact False.elim hq'
    | brk => exact False.elim hq'
    | cont => exact False.elim hq'
theorem pe_makeS {CX : CXT} {C f : Addr} {fd : FuncData} {ps : List Str} {sp : Sp} {E : L2.St → XK} {t : TA} (M : Mk X.K C f) (F : FnG X.prog X.w X.K X.mg X.base CX k f fd ps sp) (hr : Room (k + 1) X.A) (gd : X.A.guards = some []) (hg : Gl X x) (hm : X.mg x = some (.ref C)) (hb : Binds X.K fd ps [])
    (hx : ∀ σ, PassesAt CX X σ (E σ)) (ha : PA X (a :: es) t) (hdb : (x == ("__debug__" : Str)) = false := by decide) (he : starEach (a :: es) X.env = (false, eval a X.env) :: starEach es X.env := by rfl) (hpl : (backTo pos (starEach es X.env)).any (·.1) = false := by rfl) :
    PE X (.Call (.Name x p) (a :: es) [] pos) (tMakeS C sp E t) := by
  refine ⟨fun pins s σ H Q I h => ?_⟩
  refine wpAny_Call_Name_kw (ld_glob I hg hm ?_ hdb)
  refine PySem.W.callWith_K (h₀ := X.base) I.ok.mod.kin M.kp (thn (ha.run pos pins s σ H _ I h) fun us s1 ⟨vs, H1, I1, r, q⟩ => ⟨I1.kIn, ?_⟩) he hpl
  exact run_makeS M F hr gd hb (hx σ) I1 r q
theorem w_make {σ : L2.St} {H : Hp} {Q : VK} {t : TA} {cs' : Env → M (List D)} (ht : ∀ σ H Q, wA X.K W cs' σ H Q → t σ H Q) (q : wE X.K W (eMake C n mf cs') σ H Q) : tMakeS (He.ga X.K C) (spD X.K n mf) (WE W) t σ H Q := by
  obtain ⟨ι, h, ρ, R, S, p⟩ := q
  refine ht _ _ _ ⟨ι, h, ρ, R, S, Post.imp (Post.bind p) fun vs H1 ⟨ι1, h1, ds, x1, R1, r1, p1⟩ => ?_⟩
  obtain ⟨c, p1⟩ := p1.guard
  intro y dy hy hdy ne
  have k : ∀ b u, H1 b = some u → upd (upd H1 dy (.own y)) y (.ins (He.ga X.K C) dy []) b = some u := fun b u e => by
    rw [upd_ne (ne_of_none e hy), upd_ne (ne_of_none e hdy)]
    exact e
  have n2 : upd (upd H1 dy (.own y)) y (.ins (He.ga X.K C) dy []) y ≠ none := by rw [upd_same]; exact fun z => nomatch z
  have x2 : Ext ι1 H1 (ι1.push y) (upd (upd H1 dy (.own y)) y (.ins (He.ga X.K C) dy [])) := .alloc hy k
  have R2 := R1.alloc (o := .ins C []) hy k n2 ⟨dy, [], upd_same, .nil⟩
  refine ⟨by rw [List.length_cons, ← r1.length]; exact of_decide_eq_true c, ι1.push y, _, _, R2, .cons (.obj (push_at R1)) (r1.mono x2), ?_⟩
  have p1 := p1.ext x2
  refine Post.imp (Post.bind p1) fun v H3 ⟨ι3, h3, r, x3, R3, r3, p3⟩ => ?_
  split at p3
  · cases r3
    exact ⟨rfl, p3.ok R3 (.obj (x3.get (push_at R1)))⟩
  · exact p3.elim
theorem de_make (F : FnD X.prog X.w X.K X.mg X.base k (He.ma X.K (He.ga X.K C) "__init__") n mf) (M : Mk X.K (He.ga X.K C) (He.ma X.K (He.ga X.K C) "__init__")) (hr : Room (k + 1) X.A) (gd : X.A.guards = some []) (tk : Takes X W) (hm : X.mg C = some (.ref (He.ga X.K C))) (hg : Gl X C) (ha : DA X W (a :: es) cs)
    (hdb : (C == ("__debug__" : Str)) = false := by decide) (he : starEach (a :: es) X.env = (false, eval a X.env) :: starEach es X.env := by rfl) (hpl : (backTo pos (starEach es X.env)).any (·.1) = false := by rfl) : DE X W (.Call (.Name C p) (a :: es) [] pos) (eMake C n mf cs) := by
  obtain ⟨fd, ps, F, b, kp⟩ := F
  exact pe_imp (pe_makeS M F hr gd hg hm b (fun σ => passAt tk σ) ha hdb he hpl) fun σ H Q q => w_make (fun _ _ _ z => z) q
end
end Dl

/-! The D layer, 6: subscripts, slices, built-in functions. -/
namespace Dl
open PySem PySem.Spec PyProof.Rows L2
variable [Tb]

/-! ### a[i] -/
def itemD (x y : D) : M D := fun h => match x, y with
  | .str z, .int i => if okLen z.length then (match atI z.cps.toList i with
    | some c => .ok (.str ⟨#[c]⟩) h
    | none => .bad) else .bad
  | x, y => (match seqOf h x with
    | some xs => (match y with
      | .int i => (match atI xs i with
        | some d => .ok d h
        | none => .bad)
      | _ => .bad)
    | none => (match x with
      | .obj n => (match dctKV h n, keyOf y with
        | some kvs, some k => (match look kvs k with
          | some d => .ok d h
          | none => .bad)
        | _, _ => .bad)
      | _ => .bad))
section
variable {X : Cx}
def rIxDct : R2 := fun x y H Q => ∃ a v, x = .ref a ∧ DGet H a y (some v) ∧ Q v H
theorem ix_dct (hu : X.A.units + 1 < cLine) : IxR X rIxDct := by
  intro value slice pins s σ H x y v u Q I rx ry h hs
  obtain ⟨a, w, rfl, g, q⟩ := h
  cases rx
  exact tail_any (dict_typeIs I g) PySem.F.slot_dict_getitem.lookup (d_getItem hu I g ry fun w' s3 I3 rw' => ⟨w, H, I3, rw', q⟩) hs
def gIx (K : PySem.W.Frag) : R2 := fun x y H Q => rIx K x y H Q ∨ rIxDct x y H Q
theorem ix_all (hu : X.A.units + 1 < cLine) : IxR X (gIx X.K) := IxR.or ix_seq (ix_dct hu)
theorem atI_rd {K : PySem.W.Frag} {ι : Ix} {H : Hp} {xs : List D} {vs : List V} {i : Int} {d : D} (r : RDs K ι H xs vs) (e : atI xs i = some d) : ∃ v, atI vs i = some v ∧ RD K ι H d v := by
  unfold atI at e ⊢
  rw [← r.length]
  obtain ⟨j, e1, e2⟩ := Option.bind_eq_some_iff.mp e
  obtain ⟨v, h1, h2⟩ := r.get e2
  exact ⟨v, by rw [e1]; exact h1, h2⟩
theorem o_item : Op2 X (gIx X.K) itemD := by
  intro ι h H x y v u W Q R rx ry p
  unfold itemD at p
  split at p
  · obtain ⟨c, p⟩ := p.guard
    split at p
    · rename_i e
      cases rx
      cases ry
      exact .inl (.inr (.inr ⟨_, _, _, rfl, rfl, okLen_ok c, e, p.ok R (.str _)⟩))
    · exact p.elim
  · split at p
    · rename_i e1
      split at p
      · split at p
        · rename_i d e2
          obtain ⟨a, vs, rfl, q, rs⟩ := seqOf_ok R rx e1
          obtain ⟨w, h1, h2⟩ := atI_rd rs e2
          cases ry
          rcases q with q | q
          · exact .inl (.inl ⟨a, vs, _, w, rfl, rfl, q, h1, p.ok R h2⟩)
          · exact .inl (.inr (.inl ⟨a, vs, _, w, rfl, rfl, q, h1, p.ok R h2⟩))
        · exact p.elim
      · exact p.elim
    · split at p
      · split at p
        · rename_i n kvs k e1 e2
          split at p
          · rename_i d e3
            cases rx with
            | obj g =>
              obtain ⟨us, h1, h2⟩ := dctKV_rd R g e1
              obtain ⟨w, z1, z2⟩ := (look_rf (k := k) h2).1 d e3
              refine .inr ⟨_, w, rfl, ?_, p.ok R z2⟩
              rw [keyOf_kV ry e2, ← z1]
              exact .inl ⟨us, k, h1, rfl, rfl⟩
          · exact p.elim
        · exact p.elim
      · exact p.elim
variable {W : WX} {pos : Pos} {a b c : Expr} {ca cb cc : Env → M D}
theorem de_item (hu : X.A.units + 1 < cLine) (ha : DE X W a ca) (hb : DE X W b cb) (hs : PlainIx b := by intro _ _; rfl) : DE X W (.Subscript a b pos) (e2 itemD ca cb) := de_ix (ix_all hu) o_item ha hb hs

/-! ### a[lo:hi] -/
def cutL {α : Type} (xs : List α) (lo hi : Option Int) : List α := (xs.drop (HT.sIx xs.length 0 lo)).take (HT.sIx xs.length xs.length hi - HT.sIx xs.length 0 lo)
def sliceN (x : D) (lo hi : Option Int) : M (List D) := fun h => match x with
  | .scr ns => .ok ((cutL ns lo hi).map .int) h
  | x => (match items h x with
    | some xs => .ok (cutL xs lo hi) h
    | none => .bad)
def sliceD (x : D) (lo hi : Option Int) : M D := fun h => match x with
  | .tup xs => .ok (.tup (cutL xs lo hi)) h
  | .str z => if okLen z.length then .ok (.str (cutS z lo hi)) h else .bad
  | x => (sliceN x lo hi h).bind fun xs h1 => .ok (.lst xs) h1
def pN : Env → M (Option Int) := fun _ h => .ok none h
def pS (ca : Env → M D) : Env → M (Option Int) := fun ρ h => (ca ρ h).bind fun x h1 => match x with
  | .int i => .ok (some i) h1
  | _ => .bad
def eSl (ca : Env → M D) (cl cu : Env → M (Option Int)) : Env → M D := fun ρ h => (ca ρ h).bind fun x h1 => (cl ρ h1).bind fun lo h2 => (cu ρ h2).bind fun hi h3 => sliceD x lo hi h3
def nSl (ca : Env → M D) (cl cu : Env → M (Option Int)) : Env → M (List D) := fun ρ h => (ca ρ h).bind fun x h1 => (cl ρ h1).bind fun lo h2 => (cu ρ h2).bind fun hi h3 => sliceN x lo hi h3
def wO (K : PySem.W.Frag) (W : WX) (c : Env → M (Option Int)) : TO := fun σ H Q => ∃ ι h ρ, Rel K ι h H ∧ RS K ι H ρ σ ∧ Post K (fun x d H' => W x d σ H') (fun _ _ a b => a = b) (c ρ h) ι H Q
abbrev DO' (X : Cx) (W : WX) (e : Option Expr) (c : Env → M (Option Int)) : Prop := PO X e (wO X.K W c)
theorem po_imp {e : Option Expr} {t t' : TO} (h : PO X e t) (w : ∀ σ H Q, t' σ H Q → t σ H Q) : PO X e t' := ⟨fun pins s σ H Q I z => h.run pins s σ H Q I (w σ H Q z)⟩
theorem do_none : DO' X W none pN := po_imp po_none fun σ H Q ⟨ι, h, ρ, R, S, p⟩ => p.ok R rfl
theorem do_some (ha : DE X W a ca) : DO' X W (some a) (pS ca) := po_imp (po_some ha) fun σ H Q ⟨ι, h, ρ, R, S, p⟩ => by
  refine ⟨ι, h, ρ, R, S, Post.imp (Post.bind p) fun x H1 ⟨ι1, h1, dx, x1, R1, r1, p1⟩ => ?_⟩
  split at p1
  · cases r1
    exact ⟨_, rfl, p1.ok R1 rfl⟩
  · exact p1.elim
def gSl (K : PySem.W.Frag) : V → Option Int → Option Int → Hp → VK → Prop := fun x lo hi H Q => rSlA K x lo hi H Q ∨ (rSlL K x lo hi H Q ∨ rSlS x lo hi H Q)
theorem sl_all : SlR X (gSl X.K) := SlR.or sl_tupA (SlR.or sl_list sl_str)
theorem cutL_rds {K : PySem.W.Frag} {ι : Ix} {H : Hp} {xs : List D} {vs : List V} {lo hi : Option Int} (r : RDs K ι H xs vs) : RDs K ι H (cutL xs lo hi) (cutV vs lo hi) := by
  unfold cutL cutV
  rw [← r.length]
  exact (r.drop _).take _
theorem cutL_whole {α : Type} {xs : List α} {lo hi : Option Int} (h1 : HT.sIx xs.length 0 lo = 0) (h2 : HT.sIx xs.length xs.length hi = xs.length) : cutL xs lo hi = xs := by
  unfold cutL
  rw [h1, h2]
  simp
theorem cutL_map {α β : Type} (f : α → β) (xs : List α) (lo hi : Option Int) : (cutL xs lo hi).map f = cutL (xs.map f) lo hi := by
  unfold cutL
  rw [List.map_take, List.map_drop, List.length_map]
theorem cutV_eq (xs : List V) (lo hi : Option Int) : cutV xs lo hi = cutL xs lo hi := rfl
theorem sliceN_ok {K : PySem.W.Frag} {ι ιb : Ix} {H Hb : Hp} {h : Hs} {x : D} {v : V} {lo hi : Option Int} {W : XK} {Q : VK} (e : Ext ιb Hb ι H) (R : Rel K ι h H) (r : RD K ι H x v) (p : PostN K W (sliceN x lo hi h) ιb Hb Q) : gSl K v lo hi H Q := by
  unfold sliceN at p
  split at p
  · rename_i ns
    cases r with
    | scr sc =>
      refine .inr (.inl ⟨_, _, rfl, sc.sq, fun q hq => ?_⟩)
      rw [cutV_eq, ← cutL_map]
      exact p.new e R RDs.ofInts hq
  · split at p
    · rename_i xs e1
      obtain ⟨b, vs, rfl, hb, rs⟩ := items_ok R r e1
      exact .inr (.inl ⟨b, vs, rfl, SqL.of hb, fun q hq => p.new e R (cutL_rds rs) hq⟩)
    · exact p.elim
theorem sliceD_ok {K : PySem.W.Frag} {ι : Ix} {H : Hp} {h : Hs} {x : D} {v : V} {lo hi : Option Int} {W : XK} {Q : VK} (R : Rel K ι h H) (r : RD K ι H x v) (p : Post K W (RD K) (sliceD x lo hi h) ι H Q) : gSl K v lo hi H Q := by
  unfold sliceD at p
  split at p
  · rename_i xs
    cases r with
    | tup t q =>
      refine .inl ⟨_, _, rfl, t.sq, fun z => ?_, fun _ y hy => ?_⟩
      · rw [← q.length] at z
        rw [cutL_whole z.1 z.2] at p
        exact p.ok R (.tup t q)
      · exact p.tup R (cutL_rds q) hy
  · obtain ⟨c, p⟩ := p.guard
    cases r
    exact .inr (.inr ⟨_, rfl, okLen_ok c, p.ok R (.str _)⟩)
  · refine sliceN_ok (ιb := ι) (Hb := H) (W := W) .refl R r ?_
    cases q : sliceN x lo hi h with
    | bad => rw [q] at p; exact p
    | exc C fs h' => rw [q] at p; exact p
    | ok xs h1 =>
      rw [q] at p
      intro ι1 H1 l vs x1 R1 r1 e n1 n2 n0
      exact p ι1 H1 _ x1 (R1.done e) (.lst ⟨⟨n1, n2⟩, e⟩ (r1.up Up.done))
theorem de_sl {lo hi : Option Expr} {p2 : Pos} {cl cu : Env → M (Option Int)} (ha : DE X W a ca) (hl : DO' X W lo cl) (hh : DO' X W hi cu) : DE X W (.Subscript a (.Slice lo hi none p2) pos) (eSl ca cl cu) := pe_imp (pe_slice sl_all ha hl hh) fun σ H Q ⟨ι, h, ρ, R, S, p⟩ => by
  refine ⟨ι, h, ρ, R, S, Post.imp (Post.bind p) fun x H1 ⟨ι1, h1, dx, x1, R1, r1, p1⟩ => ?_⟩
  refine ⟨ι1, h1, ρ, R1, S.mono x1, Post.imp (Post.bind p1) fun l H2 ⟨ι2, h2, dl, x2, R2, r2, p2⟩ => ?_⟩
  refine ⟨ι2, h2, ρ, R2, S.mono (x1.trans x2), Post.imp (Post.bind p2) fun u H3 ⟨ι3, h3, du, x3, R3, r3, p3⟩ => ?_⟩
  subst r2 r3
  exact sliceD_ok R3 (r1.mono (x2.trans x3)) p3

/-! ### a[::-1] -/
section
variable {prog : Program} {w : World} {A : Around} {E : Value → Shared → Prop} {s : Shared}
end
end
end Dl

/-! The D layer, 7: statements, loops. -/
namespace Dl
open PySem PySem.Spec PyProof.Rows L2
variable [Tb]

inductive SR where
  | nx (ρ : Env) (h : Hs) | ret (d : D) (h : Hs) | bk (ρ : Env) (h : Hs) | ct (ρ : Env) (h : Hs) | exc (ρ : Env) (C : Str) (fs : List (Str × D)) (h : Hs) | bad
abbrev SM := Env → Hs → SR
def R.then {α : Type} (r : R α) (ρ : Env) (f : α → Hs → SR) : SR := match r with
  | .ok a h => f a h
  | .exc C fs h => .exc ρ C fs h
  | .bad => .bad
def PostS (K : PySem.W.Frag) (W : WX) (r : SR) (ι : Ix) (H : Hp) (D : Ends) : Prop := match r with
  | .nx ρ h => ∀ ι' H' σ', Ext ι H ι' H' → Rel K ι' h H' → RS K ι' H' ρ σ' → D.nx σ' H'
  | .ret d h => ∀ ι' H' v, Ext ι H ι' H' → Rel K ι' h H' → RD K ι' H' d v → D.rt v H'
  | .bk ρ h => ∀ ι' H' σ', Ext ι H ι' H' → Rel K ι' h H' → RS K ι' H' ρ σ' → D.bk σ' H'
  | .ct ρ h => ∀ ι' H' σ', Ext ι H ι' H' → Rel K ι' h H' → RS K ι' H' ρ σ' → D.ct σ' H'
  | .exc ρ C fs h => ∀ ι' H' od σ', Ext ι H ι' H' → Rel K ι' h H' → RS K ι' H' ρ σ' → XD K ι' H' fs od → W (.ref (He.ga K C)) od σ' H'
  | .bad => False
def wS (K : PySem.W.Frag) (W : WX) (c : SM) : TS := fun D σ H => ∃ ι h ρ, Rel K ι h H ∧ RS K ι H ρ σ ∧ PostS K W (c ρ h) ι H D
abbrev DS (X : Cx) (W : WX) (st : Stmt) (c : SM) : Prop := PS X st (wS X.K W c)
abbrev DSs (X : Cx) (W : WX) (st : List Stmt) (c : SM) : Prop := PSs X st (wS X.K W c)
theorem ps_imp {X : Cx} {e : Stmt} {t t' : TS} (h : PS X e t) (w : ∀ D σ H, t' D σ H → t D σ H) : PS X e t' := ⟨fun pins s σ H D I z => h.run pins s σ H D I (w D σ H z)⟩
theorem pss_imp {X : Cx} {e : List Stmt} {t t' : TS} (h : PSs X e t) (w : ∀ D σ H, t' D σ H → t D σ H) : PSs X e t' := ⟨fun pins s σ H D I z => h.run pins s σ H D I (w D σ H z)⟩
section
variable {K : PySem.W.Frag} {W : WX} {ι ι1 : Ix} {H H1 : Hp} {D : Ends}
theorem PostS.ext {r : SR} (p : PostS K W r ι H D) (e : Ext ι H ι1 H1) : PostS K W r ι1 H1 D := by
  cases r with
  | nx ρ h => exact fun ι' H' σ' e' => p ι' H' σ' (e.trans e')
  | ret d h => exact fun ι' H' σ' e' => p ι' H' σ' (e.trans e')
  | bk ρ h => exact fun ι' H' σ' e' => p ι' H' σ' (e.trans e')
  | ct ρ h => exact fun ι' H' σ' e' => p ι' H' σ' (e.trans e')
  | exc ρ C fs h => exact fun ι' H' od σ' e' => p ι' H' od σ' (e.trans e')
  | bad => exact p
theorem PostS.then {α β : Type} {RA : Ix → Hp → α → β → Prop} {r : R α} {ρ : Env} {σ : L2.St} {f : α → Hs → SR} (p : PostS K W (r.then ρ f) ι H D) (S : RS K ι H ρ σ) :
    Post K (fun x d H' => W x d σ H') RA r ι H (fun b H1 => ∃ ι1 h1 a, Ext ι H ι1 H1 ∧ Rel K ι1 h1 H1 ∧ RA ι1 H1 a b ∧ PostS K W (f a h1) ι1 H1 D) := by
  cases r with
  | ok a h => exact fun ι' H' b e R ra => ⟨ι', h, a, e, R, ra, p.ext e⟩
  | exc C fs h => exact fun ι' H' od e R x => p ι' H' od σ e R (S.mono e) x
  | bad => exact p
end

/-! ### small statements -/
def sPass : SM := fun ρ h => .nx ρ h
def sSeq (c1 c2 : SM) : SM := fun ρ h => match c1 ρ h with
  | .nx ρ1 h1 => c2 ρ1 h1
  | r => r
def sRet (ce : Env → M D) : SM := fun ρ h => (ce ρ h).then ρ fun d h1 => .ret d h1
def sRetN : SM := fun _ h => .ret .non h
def sExp (ce : Env → M D) : SM := fun ρ h => (ce ρ h).then ρ fun _ h1 => .nx ρ h1
def sIf (ct : Env → M Bool) (c1 c2 : SM) : SM := fun ρ h => (ct ρ h).then ρ fun b h1 => if b = true then c1 ρ h1 else c2 ρ h1
def sSet (i : Nat) (ce : Env → M D) : SM := fun ρ h => (ce ρ h).then ρ fun d h1 => .nx (ρ.set i (some d)) h1
def sBad : SM := fun _ _ => .bad
section
variable {X : Cx} {W : WX} {pos : Pos} {e : Expr} {ce : Env → M D} {c1 c2 : SM} {st : Stmt} {rest : List Stmt} {ct : Env → M Bool}
theorem dss_nil : DSs X W [] sPass := pss_imp pss_nil fun D σ H ⟨ι, h, ρ, R, S, p⟩ => p ι H σ .refl R S
theorem dss_one (h1 : DS X W st c1) : DSs X W [st] c1 := pss_one h1
theorem dss_cons (h1 : DS X W st c1) (h2 : DSs X W rest c2) : DSs X W (st :: rest) (sSeq c1 c2) := pss_imp (pss_cons h1 h2) fun D σ H ⟨ι, h, ρ, R, S, p⟩ => by
  refine ⟨ι, h, ρ, R, S, ?_⟩
  unfold sSeq at p
  cases q : c1 ρ h with
  | nx ρ1 h1 =>
    rw [q] at p
    exact fun ι' H' σ' e R' S' => ⟨ι', h1, ρ1, R', S', PostS.ext p e⟩
  | ret d h1 => rw [q] at p; exact p
  | bk ρ1 h1 => rw [q] at p; exact p
  | ct ρ1 h1 => rw [q] at p; exact p
  | exc ρ1 C fs h1 => rw [q] at p; exact p
  | bad => rw [q] at p; exact p
theorem ds_never : DS X W st sBad := ps_imp ps_never fun D σ H ⟨ι, h, ρ, R, S, p⟩ => p
theorem ds_ret (he : DE X W e ce) : DS X W (.Return (some e) pos) (sRet ce) := ps_imp (ps_ret he) fun D σ H ⟨ι, h, ρ, R, S, p⟩ => by
  refine ⟨ι, h, ρ, R, S, Post.imp (PostS.then p S) fun v H1 ⟨ι1, h1, d, x1, R1, r1, p1⟩ => ?_⟩
  exact p1 ι1 H1 v .refl R1 r1
theorem ds_exp (he : DE X W e ce) (hs : swapsWith e none pos.line X.env = pure false := by rfl) : DS X W (.Expr e pos) (sExp ce) := ps_imp (ps_expr he hs) fun D σ H ⟨ι, h, ρ, R, S, p⟩ => by
  refine ⟨ι, h, ρ, R, S, Post.imp (PostS.then p S) fun v H1 ⟨ι1, h1, d, x1, R1, r1, p1⟩ => ?_⟩
  exact p1 ι1 H1 σ .refl R1 (S.mono x1)
theorem ds_if {c : Expr} {a b : List Stmt} (hc : DT X W c ct) (ha : DSs X W a c1) (hb : DSs X W b c2) : DS X W (.If c a b pos) (sIf ct c1 c2) := ps_imp (ps_if hc ha hb) fun D σ H ⟨ι, h, ρ, R, S, p⟩ => by
  refine ⟨ι, h, ρ, R, S, Post.imp (PostS.then p S) fun v H1 ⟨ι1, h1, d, x1, R1, r1, p1⟩ => ?_⟩
  subst r1
  cases d with
  | true =>
    rw [if_pos rfl] at p1 ⊢
    exact ⟨ι1, h1, ρ, R1, S.mono x1, p1⟩
  | false =>
    rw [if_neg Bool.false_ne_true] at p1 ⊢
    exact ⟨ι1, h1, ρ, R1, S.mono x1, p1⟩
theorem w_set {K : PySem.W.Frag} {i : Nat} {D : Ends} {σ : L2.St} {H : Hp} (q : wS K W (sSet i ce) D σ H) : wE K W ce σ H fun x H1 => gName i x σ H1 D.nx := by
  obtain ⟨ι, h, ρ, R, S, p⟩ := q
  refine ⟨ι, h, ρ, R, S, Post.imp (PostS.then p S) fun v H1 ⟨ι1, h1, d, x1, R1, r1, p1⟩ => ?_⟩
  exact p1 ι1 H1 _ .refl R1 ((S.mono x1).set i r1)
theorem ds_set {i : Nat} {x : Str} {pos' : Pos} (hN : X.N.Nodup) (he : DE X W e ce) (hi : X.N[i]? = some x := by rfl) (hx : Loc X.env.scope x := by first | exact Or.inl rfl | exact Or.inr rfl) (hs : swapsWith e (some (.Name x pos')) pos.line X.env = pure false := by rfl)
    (hf : X.fn x = true ∨ X.env.scope.names.lookup x = some .local := by first | exact .inl rfl | exact .inr rfl | assumption) : DS X W (.Assign [.Name x pos'] e pos) (sSet i ce) := ps_imp (ps_set hN hi hx he hs hf) fun D σ H ⟨ι, h, ρ, R, S, p⟩ => by
  refine ⟨ι, h, ρ, R, S, Post.imp (PostS.then p S) fun v H1 ⟨ι1, h1, d, x1, R1, r1, p1⟩ => ?_⟩
  exact p1 ι1 H1 _ .refl R1 ((S.mono x1).set i r1)

/-! ### targets: names, tuples of names -/
inductive Pat where
  | nm (i : Nat) | tp (ps : List Pat)
mutual
def patD : Pat → D → Env → Option Env
  | .nm i, d, ρ => some (ρ.set i (some d))
  | .tp ps, d, ρ => (match d with
    | .tup xs => patsD ps xs ρ
    | _ => none)
def patsD : List Pat → List D → Env → Option Env
  | [], [], ρ => some ρ
  | p :: ps, x :: xs, ρ => (patD p x ρ).bind fun ρ1 => patsD ps xs ρ1
  | _, _, _ => none
end
mutual
def gPat (K : PySem.W.Frag) : Pat → TG
  | .nm i => gName i
  | .tp ps => gTup K ps.length (gPats K ps)
def gPats (K : PySem.W.Frag) : List Pat → TGs
  | [] => gNil
  | p :: ps => gCons (gPat K p) (gPats K ps)
end
theorem patsD_len : ∀ {ps : List Pat} {xs : List D} {ρ ρ' : Env}, patsD ps xs ρ = some ρ' → xs.length = ps.length
  | [], [], _, _, _ => rfl
  | [], _ :: _, _, _, e => by unfold patsD at e; cases e
  | _ :: _, [], _, _, e => by unfold patsD at e; cases e
  | p :: ps, x :: xs, ρ, ρ', e => by
    unfold patsD at e
    obtain ⟨ρ1, _, e2⟩ := Option.bind_eq_some_iff.mp e
    rw [List.length_cons, List.length_cons, patsD_len e2]
mutual
def patIs : Pat → List Nat
  | .nm i => [i]
  | .tp ps => patsIs ps
def patsIs : List Pat → List Nat
  | [] => []
  | p :: ps => patIs p ++ patsIs ps
end
theorem wipe_in {σ : L2.St} {j : Nat} : ∀ {vs : List Nat}, j ∈ vs → (wipe σ vs)[j]? = if j < σ.length then some none else none
  | [], h => by cases h
  | v :: vs, h => by
    show ((wipe σ vs).set v none)[j]? = _
    by_cases e : v = j
    · subst e
      by_cases hl : v < σ.length
      · rw [List.getElem?_set_self (by rw [wipe_length]; exact hl), if_pos hl]
      · rw [List.getElem?_eq_none (by rw [List.length_set, wipe_length]; omega), if_neg hl]
    · rw [List.getElem?_set_ne e]
      exact wipe_in ((List.mem_cons.mp h).resolve_left fun z => e z.symm)
theorem wipe_set {σ : L2.St} {i : Nat} {x : Option V} {vs : List Nat} (hi : i ∈ vs) : wipe (σ.set i x) vs = wipe σ vs := by
  apply List.ext_getElem?
  intro j
  by_cases hj : j ∈ vs
  · rw [wipe_in hj, wipe_in hj, List.length_set]
  · rw [wipe_out hj, wipe_out hj, List.getElem?_set_ne fun z => hj (by rw [← z]; exact hi)]
mutual
theorem gPat_ok {K : PySem.W.Frag} {ι : Ix} {H : Hp} {vs : List Nat} : ∀ (p : Pat) {d : D} {v : V} {ρ ρ' : Env} {σ : L2.St} {Q : L2.St → Hp → Prop}, RD K ι H d v → RS K ι H ρ σ → patD p d ρ = some ρ' → (∀ i, i ∈ patIs p → i ∈ vs) →
    (∀ σ', RS K ι H ρ' σ' → wipe σ' vs = wipe σ vs → Q σ' H) → gPat K p v σ H Q
  | .nm i, d, v, ρ, ρ', σ, Q, r, S, e, hv, q => by
    unfold patD at e
    cases e
    unfold gPat
    refine q _ (S.set i r) ?_
    exact wipe_set (hv i (by unfold patIs; simp))
  | .tp ps, d, v, ρ, ρ', σ, Q, r, S, e, hv, q => by
    unfold patD at e
    split at e
    · cases r with
      | tup t rs =>
        unfold gPat
        exact ⟨_, _, rfl, t.sq, by rw [← rs.length]; exact patsD_len e, gPats_ok ps rs S e (fun i hi => hv i (by unfold patIs; exact hi)) q⟩
    · cases e
theorem gPats_ok {K : PySem.W.Frag} {ι : Ix} {H : Hp} {vs : List Nat} : ∀ (ps : List Pat) {ds : List D} {us : List V} {ρ ρ' : Env} {σ : L2.St} {Q : L2.St → Hp → Prop}, RDs K ι H ds us → RS K ι H ρ σ → patsD ps ds ρ = some ρ' → (∀ i, i ∈ patsIs ps → i ∈ vs) →
    (∀ σ', RS K ι H ρ' σ' → wipe σ' vs = wipe σ vs → Q σ' H) → gPats K ps us σ H Q
  | [], ds, us, ρ, ρ', σ, Q, r, S, e, hv, q => by
    cases r with
    | nil =>
      unfold patsD at e
      cases e
      unfold gPats
      exact ⟨rfl, q σ S rfl⟩
    | cons _ _ => unfold patsD at e; cases e
  | p :: ps, ds, us, ρ, ρ', σ, Q, r, S, e, hv, q => by
    cases r with
    | nil => unfold patsD at e; cases e
    | cons r1 r2 =>
      unfold patsD at e
      obtain ⟨ρ1, e1, e2⟩ := Option.bind_eq_some_iff.mp e
      unfold gPats
      refine ⟨_, _, rfl, gPat_ok p r1 S e1 (fun i hi => hv i (by unfold patsIs; exact List.mem_append_left _ hi)) fun σ1 S1 w1 => ?_⟩
      exact gPats_ok ps r2 S1 e2 (fun i hi => hv i (by unfold patsIs; exact List.mem_append_right _ hi)) fun σ2 S2 w2 => q σ2 S2 (w2.trans w1)
end
end
end Dl

/-! The D layer, 8: what is walked; for, while, comprehensions. -/
namespace Dl
open PySem PySem.Spec PyProof.Rows L2
variable [Tb]

/-! ### equality of data, as a Bool -/
mutual
def D.beq : D → D → Bool
  | .non, .non => true
  | .bl a, .bl b => decide (a = b)
  | .int a, .int b => decide (a = b)
  | .str a, .str b => decide (a = b)
  | .ty a, .ty b => decide (a = b)
  | .glo a, .glo b => decide (a = b)
  | .obj a, .obj b => decide (a = b)
  | .scr a, .scr b => decide (a = b)
  | .exn a, .exn b => decide (a = b)
  | .tup xs, .tup ys => D.beqs xs ys
  | .lst xs, .lst ys => D.beqs xs ys
  | _, _ => false
def D.beqs : List D → List D → Bool
  | [], [] => true
  | x :: xs, y :: ys => D.beq x y && D.beqs xs ys
  | _, _ => false
end
mutual
theorem D.beq_eq : ∀ (a b : D), D.beq a b = true → a = b
  | .non, b, h => by cases b <;> first | rfl | (unfold D.beq at h; cases h)
  | .bl a, b, h => by cases b <;> first | (unfold D.beq at h; rw [of_decide_eq_true h]) | (unfold D.beq at h; cases h)
  | .int a, b, h => by cases b <;> first | (unfold D.beq at h; rw [of_decide_eq_true h]) | (unfold D.beq at h; cases h)
  | .str a, b, h => by cases b <;> first | (unfold D.beq at h; rw [of_decide_eq_true h]) | (unfold D.beq at h; cases h)
  | .ty a, b, h => by cases b <;> first | (unfold D.beq at h; rw [of_decide_eq_true h]) | (unfold D.beq at h; cases h)
  | .glo a, b, h => by cases b <;> first | (unfold D.beq at h; rw [of_decide_eq_true h]) | (unfold D.beq at h; cases h)
  | .obj a, b, h => by cases b <;> first | (unfold D.beq at h; rw [of_decide_eq_true h]) | (unfold D.beq at h; cases h)
  | .scr a, b, h => by cases b <;> first | (unfold D.beq at h; rw [of_decide_eq_true h]) | (unfold D.beq at h; cases h)
  | .exn a, b, h => by cases b <;> first | (unfold D.beq at h; rw [of_decide_eq_true h]) | (unfold D.beq at h; cases h)
  | .tup xs, b, h => by cases b <;> first | (unfold D.beq at h; rw [D.beqs_eq _ _ h]) | (unfold D.beq at h; cases h)
  | .lst xs, b, h => by cases b <;> first | (unfold D.beq at h; rw [D.beqs_eq _ _ h]) | (unfold D.beq at h; cases h)
theorem D.beqs_eq : ∀ (a b : List D), D.beqs a b = true → a = b
  | [], [], _ => rfl
  | [], _ :: _, h => by unfold D.beqs at h; cases h
  | _ :: _, [], h => by unfold D.beqs at h; cases h
  | x :: xs, y :: ys, h => by
    unfold D.beqs at h
    obtain ⟨h1, h2⟩ := Bool.and_eq_true_iff.mp h
    rw [D.beq_eq x y h1, D.beqs_eq xs ys h2]
end
mutual
theorem D.beq_refl : ∀ a : D, D.beq a a = true
  | .non => by unfold D.beq; rfl
  | .bl a => by unfold D.beq; exact decide_eq_true rfl
  | .int a => by unfold D.beq; exact decide_eq_true rfl
  | .str a => by unfold D.beq; exact decide_eq_true rfl
  | .ty a => by unfold D.beq; exact decide_eq_true rfl
  | .glo a => by unfold D.beq; exact decide_eq_true rfl
  | .obj a => by unfold D.beq; exact decide_eq_true rfl
  | .scr a => by unfold D.beq; exact decide_eq_true rfl
  | .exn a => by unfold D.beq; exact decide_eq_true rfl
  | .tup xs => by unfold D.beq; exact D.beqs_refl xs
  | .lst xs => by unfold D.beq; exact D.beqs_refl xs
theorem D.beqs_refl : ∀ a : List D, D.beqs a a = true
  | [] => by unfold D.beqs; rfl
  | x :: xs => by unfold D.beqs; rw [D.beq_refl x, D.beqs_refl xs]; rfl
end

/-! ### what is walked: its items; the changing lists that must stay meanwhile -/
structure ItD where
  items : List D
  gs : List (Nat × List D) := []
def okG (gs : List (Nat × List D)) (h : Hs) : Bool := gs.all fun p => match h[p.1]? with
  | some (.lst ys) => D.beqs ys p.2
  | _ => false
theorem okG_at {gs : List (Nat × List D)} {h : Hs} (o : okG gs h = true) {n : Nat} {xs : List D} (m : (n, xs) ∈ gs) : h[n]? = some (.lst xs) := by
  have z := List.all_eq_true.mp o _ m
  simp only at z
  split at z
  · rename_i ys e
    rw [e, D.beqs_eq _ _ z]
  · cases z
def RI (K : PySem.W.Frag) (ι : Ix) (H : Hp) (it : ItD) (J : It) : Prop := ∃ (G : Hp → Prop) (Y : Nat → Hp → V → Hp → Prop), Walk J it.items.length G Y ∧
  (∀ ι' H' h', UpF ι H ι' H' → Rel K ι' h' H' → okG it.gs h' = true → G H') ∧
  ∀ i Hc x H' ι' h', i < it.items.length → Y i Hc x H' → UpF ι H ι' Hc → Rel K ι' h' Hc → okG it.gs h' = true → ∃ d, it.items[i]? = some d ∧ RD K ι' H' d x ∧ Ext ι' Hc ι' H' ∧ Rel K ι' h' H' ∧ ∀ b o, Hc b = some o → H' b = some o
def wI (K : PySem.W.Frag) (W : WX) (ci : Env → M ItD) : TI := fun σ H Q => ∃ ι h ρ, Rel K ι h H ∧ RS K ι H ρ σ ∧ Post K (fun x d H' => W x d σ H') (RI K) (ci ρ h) ι H Q
abbrev DI (X : Cx) (W : WX) (tg it : Expr) (ci : Env → M ItD) : Prop := PI X tg it (wI X.K W ci)
theorem pi_imp {X : Cx} {tg e : Expr} {t t' : TI} (h : PI X tg e t) (w : ∀ σ H Q, t' σ H Q → t σ H Q) : PI X tg e t' := ⟨fun pins s σ H Q I z => h.run pins s σ H Q I (w σ H Q z)⟩

/-! ### for -/
def loopF (p : Pat) (body : SM) (gs : List (Nat × List D)) : List D → SM
  | [], ρ, h => if okG gs h then .nx ρ h else .bad
  | x :: xs, ρ, h => if okG gs h then (match patD p x ρ with
    | none => .bad
    | some ρ1 => (match body ρ1 h with
      | .nx ρ2 h2 => loopF p body gs xs ρ2 h2
      | .ct ρ2 h2 => loopF p body gs xs ρ2 h2
      | .bk ρ2 h2 => .nx ρ2 h2
      | r => r)) else .bad
def sFor (ci : Env → M ItD) (p : Pat) (body : SM) : SM := fun ρ h => (ci ρ h).then ρ fun it h1 => loopF p body it.gs it.items ρ h1
section
variable {K : PySem.W.Frag} {W : WX} {ι : Ix} {H : Hp} {h : Hs} {ρ : Env} {D : Ends}
theorem loopF_ok {p : Pat} {body : SM} {gs : List (Nat × List Dl.D)} {xs : List Dl.D} (q : PostS K W (loopF p body gs xs ρ h) ι H D) : okG gs h = true := by
  cases xs with
  | nil =>
    unfold loopF at q
    cases e : okG gs h with
    | true => rfl
    | false => rw [e] at q; exact q.elim
  | cons x xs =>
    unfold loopF at q
    cases e : okG gs h with
    | true => rfl
    | false => rw [e] at q; exact q.elim
end
section
variable {X : Cx} {W : WX} {pos : Pos} {tg iter : Expr} {body : List Stmt} {ci : Env → M ItD} {cb : SM} {p : Pat}
theorem ds_for (hp : PassesOwn (model X.prog X.w) X.A X.env X.xe) (hc : X.calm = true) (hi : DI X W tg iter ci) (hg : PG X tg (gPat X.K p)) (hb : DSs X W body cb)
    (hs : ∀ x, foldedSetIterable iter X.env x = pure x := by intro _; rfl) : DS X W (.For tg iter body [] pos) (sFor ci p cb) := ps_imp (ps_for hp hc hi hg hb hs) fun D σ H ⟨ι, h, ρ, R, S, q⟩ => by
  refine ⟨ι, h, ρ, R, S, Post.imp (PostS.then q S) fun J H1 ⟨ι1, h1, it, x1, R1, ⟨G, Y, w, st, yd⟩, q1⟩ => ?_⟩
  refine for_it w (fun i σ H => ∃ ι h ρ, Ext ι1 H1 ι H ∧ Rel X.K ι h H ∧ RS X.K ι H ρ σ ∧ PostS X.K W (loopF p cb it.gs (it.items.drop i) ρ h) ι H D) ⟨ι1, h1, ρ, .refl, R1, S.mono x1, q1⟩ ?_ ?_ ?_
  · rintro i σ2 H2 _ ⟨ι2, h2, ρ2, x2, R2, S2, q2⟩
    exact st ι2 H2 h2 x2.upF R2 (loopF_ok q2)
  · rintro i x σ2 H2 H3 hi ⟨ι2, h2, ρ2, x2, R2, S2, q2⟩ y
    have og := loopF_ok q2
    obtain ⟨d, e, rd, x3, R3, _⟩ := yd i H2 x H3 ι2 h2 hi y x2.upF R2 og
    have ed : it.items.drop i = d :: it.items.drop (i + 1) := by
      obtain ⟨hl, e1⟩ := List.getElem?_eq_some_iff.mp e
      rw [← e1]
      exact List.drop_eq_getElem_cons hl
    rw [ed] at q2
    unfold loopF at q2
    rw [if_pos og] at q2
    cases ep : patD p d ρ2 with
    | none => rw [ep] at q2; exact q2.elim
    | some ρ3 =>
      rw [ep] at q2
      refine gPat_ok (vs := patIs p) p rd (S2.mono x3) ep (fun _ z => z) fun σ3 S3 _ => ?_
      refine ⟨ι2, h2, ρ3, R3, S3, ?_⟩
      have q2 := PostS.ext q2 x3
      cases eb : cb ρ3 h2 with
      | nx ρ4 h4 =>
        simp only [eb] at q2
        exact fun ι4 H4 σ4 x4 R4 S4 => ⟨ι4, h4, ρ4, (x2.trans x3).trans x4, R4, S4, PostS.ext q2 x4⟩
      | ct ρ4 h4 =>
        simp only [eb] at q2
        exact fun ι4 H4 σ4 x4 R4 S4 => ⟨ι4, h4, ρ4, (x2.trans x3).trans x4, R4, S4, PostS.ext q2 x4⟩
      | bk ρ4 h4 => simp only [eb] at q2; exact q2
      | ret d4 h4 => simp only [eb] at q2; exact q2
      | exc ρ4 C fs h4 => simp only [eb] at q2; exact q2
      | bad => simp only [eb] at q2; exact q2
  · rintro σ2 H2 ⟨ι2, h2, ρ2, x2, R2, S2, q2⟩
    have og := loopF_ok q2
    rw [List.drop_length] at q2
    unfold loopF at q2
    rw [if_pos og] at q2
    exact q2 ι2 H2 σ2 .refl R2 S2

/-! ### while: at most n turns -/
def whileF (ct : Env → M Bool) (body : SM) : Nat → SM
  | 0, _, _ => .bad
  | n + 1, ρ, h => (ct ρ h).then ρ fun b h1 => if b = true then (match body ρ h1 with
    | .nx ρ2 h2 => whileF ct body n ρ2 h2
    | .ct ρ2 h2 => whileF ct body n ρ2 h2
    | .bk ρ2 h2 => .nx ρ2 h2
    | r => r) else .nx ρ h1
/-- a limit that a function of the state gives -/
def sWhile (lim : Env → Hs → Nat) (ct : Env → M Bool) (body : SM) : SM := fun ρ h => whileF ct body (lim ρ h) ρ h
theorem ds_while {c : Expr} {ct : Env → M Bool} {lim : Env → Hs → Nat} (hp : PassesOwn (model X.prog X.w) X.A X.env X.xe) (hc : DT X W c ct) (hb : DSs X W body cb) : DS X W (.While c body [] pos) (sWhile lim ct cb) := ps_imp (ps_while hp hc hb) fun D σ H ⟨ι, h, ρ, R, S, q⟩ => by
  refine ⟨fun n σ H => ∃ ι h ρ, Rel X.K ι h H ∧ RS X.K ι H ρ σ ∧ PostS X.K W (whileF ct cb n ρ h) ι H D, ⟨lim ρ h, ι, h, ρ, R, S, q⟩, ?_⟩
  rintro n σ2 H2 ⟨ι2, h2, ρ2, R2, S2, q2⟩
  cases n with
  | zero => exact q2.elim
  | succ n =>
    unfold whileF at q2
    refine ⟨ι2, h2, ρ2, R2, S2, Post.imp (PostS.then q2 S2) fun b H3 ⟨ι3, h3, d, x3, R3, r3, q3⟩ => ?_⟩
    subst r3
    cases d with
    | false =>
      rw [if_neg Bool.false_ne_true] at q3 ⊢
      exact q3 ι3 H3 σ2 .refl R3 (S2.mono x3)
    | true =>
      rw [if_pos rfl] at q3 ⊢
      refine ⟨fun σ H => ∃ ι h ρ, Rel X.K ι h H ∧ RS X.K ι H ρ σ ∧ PostS X.K W (whileF ct cb n ρ h) ι H D, fun σ' H' z => ⟨n, Nat.lt_succ_self _, z⟩, ι3, h3, ρ2, R3, S2.mono x3, ?_⟩
      cases eb : cb ρ2 h3 with
      | nx ρ4 h4 =>
        simp only [eb] at q3
        exact fun ι4 H4 σ4 x4 R4 S4 => ⟨ι4, h4, ρ4, R4, S4, PostS.ext q3 x4⟩
      | ct ρ4 h4 =>
        simp only [eb] at q3
        exact fun ι4 H4 σ4 x4 R4 S4 => ⟨ι4, h4, ρ4, R4, S4, PostS.ext q3 x4⟩
      | bk ρ4 h4 => simp only [eb] at q3; exact q3
      | ret d4 h4 => simp only [eb] at q3; exact q3
      | exc ρ4 C fs h4 => simp only [eb] at q3; exact q3
      | bad => simp only [eb] at q3; exact q3
end
end Dl

/-! The D layer, 9: patterns, what is walked. -/
namespace Dl
open PySem PySem.Spec PyProof.Rows L2
variable [Tb]

section
variable {X : Cx} {W : WX} {pos : Pos}
/-! ### patterns -/
theorem pg_nm {i : Nat} {x : Str} (hN : X.N.Nodup) (hi : X.N[i]? = some x := by rfl) (hx : Loc X.env.scope x := by first | exact Or.inl rfl | exact Or.inr rfl) (hf : X.fn x = true ∨ X.env.scope.names.lookup x = some .local := by first | exact .inl rfl | exact .inr rfl | assumption) : PG X (.Name x pos) (gPat X.K (.nm i)) := by
  unfold gPat
  exact pg_name hN hi hx hf
theorem pgs_no : PGs X [] (gPats X.K []) := by
  unfold gPats
  exact pgs_nil
theorem pgs_co {e : Expr} {es : List Expr} {p : Pat} {ps : List Pat} (h1 : PG X e (gPat X.K p)) (h2 : PGs X es (gPats X.K ps))
    (hs : (assignEach (e :: es) X.env).map (·.2) = assign e X.env :: (assignEach es X.env).map (·.2) := by rfl) : PGs X (e :: es) (gPats X.K (p :: ps)) := by
  unfold gPats
  exact pgs_cons h1 h2 hs
theorem pg_tp {es : List Expr} {k : Nat} {ps : List Pat} (hc : X.calm = true) (h : PGs X es (gPats X.K ps))
    (hn : (assignEach es X.env).length = ps.length := by rfl) (hst : (assignEach es X.env).findIdx? (·.1) = none := by rfl) : PG X (.Tuple es k pos) (gPat X.K (.tp ps)) := by
  unfold gPat
  exact pg_tup hc h hn hst

/-! ### a list or a tuple -/
def iSeqT (K : PySem.W.Frag) (tl : TE) : TI := fun σ H R => tl σ H fun x H1 => ∃ a, x = .ref a ∧ (((∃ xs, SqL K H1 a xs) ∧ R (Itl K a) H1) ∨ ((∃ xs, SqT K H1 a xs) ∧ R (Itt K a) H1))
theorem pi_seq {tg l : Expr} {tl : TE} (hl : PE X l tl) : PI X tg l (iSeqT X.K tl) := by
  refine ⟨fun pins s σ H R I h => ?_⟩
  refine thn (hl.run pins s σ H _ I h) fun v s1 ⟨x, H1, I1, r1, q1⟩ => ?_
  obtain ⟨a, e, q⟩ := q1
  subst e
  cases r1
  have new : ∀ b ∈ [s1.heap.objs.size], FpOk X pins H1 b := fun b hb => by
    have e : b = s1.heap.objs.size := by simpa using hb
    subst e
    exact I1.fpOk (Nat.le_refl _) (I1.hok.fresh (Nat.le_refl _))
  rcases q with ⟨⟨xs, hq⟩, q⟩ | ⟨⟨xs, hq⟩, q⟩
  · obtain ⟨its, rv, p, hz⟩ := I1.list hq
    refine wpAny_pyIter_list p.isList ?_
    exact ⟨s1.heap.objs.size, [s1.heap.objs.size], _, _, H1, rfl, I1.kept (t' := s1.toks) fun b o e => Heap.get?_push_of_some _ e, turn_list a _, ⟨_, Heap.get?_push_size _ rfl, rfl, rfl⟩, new, q⟩
  · obtain ⟨its, rv, p, hz⟩ := I1.tuple hq
    refine wpAny_pyIter_tuple (show s1.heap.IsTuple a its.toArray from p) ?_
    exact ⟨s1.heap.objs.size, [s1.heap.objs.size], _, _, H1, rfl, I1.kept (t' := s1.toks) fun b o e => Heap.get?_push_of_some _ e, turn_tuple a _, ⟨_, Heap.get?_push_size _ rfl, rfl, rfl⟩, new, q⟩
end
/-- what is walked, of a value -/
def itOf (h : Hs) : D → Option ItD
  | .tup xs => some ⟨xs, []⟩
  | .lst xs => some ⟨xs, []⟩
  | .scr ns => some ⟨ns.map .int, []⟩
  | .obj n => (match h[n]? with
    | some (.lst xs) => some ⟨xs, [(n, xs)]⟩
    | _ => none)
  | _ => none
section
variable {K : PySem.W.Frag} {ι : Ix} {H : Hp} {h : Hs}
theorem walk_listN {a : Addr} {n : Nat} : Walk (Itl K a) n (fun H => ∃ vs, SqL K H a vs ∧ vs.length = n) (fun i Hc x H' => H' = Hc ∧ ∀ ys, SqL K Hc a ys → ys[i]? = some x) :=
  ⟨fun i _ hi ⟨vs, q, e⟩ => ⟨vs, vs[i], q, by simp [e, hi]⟩, fun _ ⟨vs, q, e⟩ => ⟨vs, q, by omega⟩, fun _ _ _ _ _ _ y => y⟩
theorem walk_tupN {a : Addr} {n : Nat} : Walk (Itt K a) n (fun H => ∃ vs, SqT K H a vs ∧ vs.length = n) (fun i Hc x H' => H' = Hc ∧ ∀ ys, SqT K Hc a ys → ys[i]? = some x) :=
  ⟨fun i _ hi ⟨vs, q, e⟩ => ⟨vs, vs[i], q, by simp [e, hi]⟩, fun _ ⟨vs, q, e⟩ => ⟨vs, q, by omega⟩, fun _ _ _ _ _ _ y => y⟩
/-- a list whose state gives its items at any time -/
theorem ri_list {a : Addr} {it : ItD} (f : ∀ ι' H' h', Up ι H ι' H' → Rel K ι' h' H' → okG it.gs h' = true → ∃ vs, SqL K H' a vs ∧ RDs K ι' H' it.items vs) : RI K ι H it (Itl K a) := by
  refine ⟨_, _, walk_listN, fun ι' H' h' u R g => ?_, fun i Hc x H' ι' h' hi y u R g => ?_⟩
  · obtain ⟨vs, q, r⟩ := f ι' H' h' u.up R g
    exact ⟨vs, q, r.length.symm⟩
  · obtain ⟨rfl, y⟩ := y
    obtain ⟨vs, q, r⟩ := f ι' _ h' u.up R g
    obtain ⟨d, e, rd⟩ := r.getV (y vs q)
    exact ⟨d, e, rd, .refl, R, fun _ _ z => z⟩
theorem ri_tup {a : Addr} {it : ItD} (f : ∀ ι' H' h', Up ι H ι' H' → Rel K ι' h' H' → okG it.gs h' = true → ∃ vs, SqT K H' a vs ∧ RDs K ι' H' it.items vs) : RI K ι H it (Itt K a) := by
  refine ⟨_, _, walk_tupN, fun ι' H' h' u R g => ?_, fun i Hc x H' ι' h' hi y u R g => ?_⟩
  · obtain ⟨vs, q, r⟩ := f ι' H' h' u.up R g
    exact ⟨vs, q, r.length.symm⟩
  · obtain ⟨rfl, y⟩ := y
    obtain ⟨vs, q, r⟩ := f ι' _ h' u.up R g
    obtain ⟨d, e, rd⟩ := r.getV (y vs q)
    exact ⟨d, e, rd, .refl, R, fun _ _ z => z⟩
/-- a value that is walked: a list all the time, or a tuple all the time -/
theorem itOf_ok {x : D} {v : V} {it : ItD} (r : RD K ι H x v) (e : itOf h x = some it) : ∃ a, v = .ref a ∧
    ((∀ ι' H' h', Up ι H ι' H' → Rel K ι' h' H' → okG it.gs h' = true → ∃ vs, SqL K H' a vs ∧ RDs K ι' H' it.items vs) ∨ (∀ ι' H' h', Up ι H ι' H' → Rel K ι' h' H' → okG it.gs h' = true → ∃ vs, SqT K H' a vs ∧ RDs K ι' H' it.items vs)) := by
  cases r with
  | tup t rs => cases e; exact ⟨_, rfl, .inr fun ι' H' h' u R _ => ⟨_, (t.up u).sq, rs.up u⟩⟩
  | lst t rs => cases e; exact ⟨_, rfl, .inl fun ι' H' h' u R _ => ⟨_, (t.up u).sq, rs.up u⟩⟩
  | scr t => cases e; exact ⟨_, rfl, .inl fun ι' H' h' u R _ => ⟨_, (t.up u).sq, RDs.ofInts⟩⟩
  | @obj n a g =>
    have e : (match h[n]? with
    | some (.lst xs) => some (ItD.mk xs [(n, xs)])
    | _ => none) = some it := e
    split at e
    · cases e
      refine ⟨_, rfl, .inl fun ι' H' h' u R og => ?_⟩
      obtain ⟨vs, h1, h2⟩ := R.at (u.get _ _ g) (okG_at og List.mem_cons_self)
      exact ⟨vs, SqL.of h1, h2⟩
    · cases e
  | _ => cases e
def iSeq (ce : Env → M D) : Env → M ItD := fun ρ h => (ce ρ h).bind fun x h1 => match itOf h1 x with
  | some it => if okG it.gs h1 then .ok it h1 else .bad
  | none => .bad
variable {X : Cx} {W : WX} {pos : Pos} {ce : Env → M D} {cs : Env → M (List D)}
theorem di_seq {tg l : Expr} (hl : DE X W l ce) : DI X W tg l (iSeq ce) := pi_imp (pi_seq hl) fun σ H Q ⟨ι, h, ρ, R, S, p⟩ => by
  refine ⟨ι, h, ρ, R, S, Post.imp (Post.bind p) fun x H1 ⟨ι1, h1, dx, x1, R1, r1, p1⟩ => ?_⟩
  split at p1
  · rename_i it e
    obtain ⟨g, p1⟩ := p1.guard
    obtain ⟨a, rfl, f⟩ := itOf_ok r1 e
    rcases f with f | f
    · obtain ⟨vs, q, _⟩ := f ι1 H1 h1 (Ext.refl.up) R1 g
      exact ⟨a, rfl, .inl ⟨⟨vs, q⟩, p1.ok R1 (ri_list f)⟩⟩
    · obtain ⟨vs, q, _⟩ := f ι1 H1 h1 (Ext.refl.up) R1 g
      exact ⟨a, rfl, .inr ⟨⟨vs, q⟩, p1.ok R1 (ri_tup f)⟩⟩
  · exact p1.elim

/-! ### range -/
def rng : Int → Int → Nat → List D
  | _, _, 0 => []
  | a, c, n + 1 => .int a :: rng (a + c) c n
theorem rng_len : ∀ (n : Nat) (a c : Int), (rng a c n).length = n
  | 0, _, _ => rfl
  | n + 1, a, c => by unfold rng; rw [List.length_cons, rng_len n]
theorem rng_at : ∀ (n : Nat) (a c : Int) (i : Nat), i < n → (rng a c n)[i]? = some (.int (a + (i : Nat) * c))
  | 0, _, _, _, h => absurd h (Nat.not_lt_zero _)
  | n + 1, a, c, 0, _ => by unfold rng; simp
  | n + 1, a, c, i + 1, h => by
    unfold rng
    rw [List.getElem?_cons_succ, rng_at n (a + c) c i (Nat.lt_of_succ_lt_succ h)]
    congr 2
    rw [Int.natCast_succ, Int.add_mul, Int.one_mul]
    omega
theorem ri_fn {J : It} {a c : Int} {n : Nat} (w : Walk J n (fun _ => True) (YFn fun i => .int (a + (i : Nat) * c))) : RI K ι H ⟨rng a c n, []⟩ J := by
  have w' : Walk J (rng a c n).length (fun _ => True) (YFn fun i => .int (a + (i : Nat) * c)) := by rw [rng_len]; exact w
  refine ⟨_, _, w', fun _ _ _ _ _ _ => trivial, fun i Hc x H' ι' h' hi y u R g => ?_⟩
  obtain ⟨rfl, rfl⟩ := y
  rw [show (ItD.mk (rng a c n) []).items = rng a c n from rfl, rng_len] at hi
  exact ⟨_, rng_at n a c i hi, .int _, .refl, R, fun _ _ z => z⟩
def okI (i : Int) : Bool := decide (-4611686018427387904 ≤ i ∧ i < 4611686018427387904)
theorem okI_ok {i : Int} (h : okI i = true) : -(2 ^ 62) ≤ i ∧ i < 2 ^ 62 := by
  have := of_decide_eq_true h
  omega
def iR1 (cs : Env → M (List D)) : Env → M ItD := fun ρ h => (cs ρ h).bind fun ds h1 => match ds with
  | [.int j] => if okI j then .ok ⟨rng 0 1 j.toNat, []⟩ h1 else .bad
  | _ => .bad
def iR2 (cs : Env → M (List D)) : Env → M ItD := fun ρ h => (cs ρ h).bind fun ds h1 => match ds with
  | [.int i, .int j] => if okI i && okI j then .ok ⟨rng i 1 (j - i).toNat, []⟩ h1 else .bad
  | _ => .bad
def iR3 (cs : Env → M (List D)) : Env → M ItD := fun ρ h => (cs ρ h).bind fun ds h1 => match ds with
  | [.int i, .int j, .int k] => if okI i && okI j && decide (k = -1) then .ok ⟨rng i (-1) (i - j).toNat, []⟩ h1 else .bad
  | _ => .bad
theorem walk_r1 {lo : Int} {n : Nat} : Walk (Itr lo n) n (fun _ => True) (YFn fun i => .int (lo + (i : Nat) * 1)) := walk_range.mono (fun _ z => z) fun i H x H' _ _ y => ⟨y.1, by rw [y.2]; simp only [Int.mul_one]⟩
theorem di_range1 {tg a : Expr} {p : Pos} (hg : Gl X "range") (hm : X.mg "range" = none) (ha : DA X W [a] cs) (hs : starEach [a] X.env = [(false, eval a X.env)] := by rfl) : DI X W tg (.Call (.Name "range" p) [a] [] pos) (iR1 cs) := pi_imp (pi_range1 hg hm ha hs) fun σ H Q ⟨ι, h, ρ, R, S, p⟩ => by
  refine ⟨ι, h, ρ, R, S, Post.imp (Post.bind p) fun vs H1 ⟨ι1, h1, ds, x1, R1, r1, p1⟩ => ?_⟩
  split at p1
  · rename_i j
    obtain ⟨c, p1⟩ := p1.guard
    cases r1 with
    | cons r rr =>
      cases r
      cases rr
      exact ⟨j, rfl, (okI_ok c).1, (okI_ok c).2, p1.ok R1 (ri_fn walk_r1)⟩
  · exact p1.elim
theorem di_range2 {tg a b : Expr} {p : Pos} (hg : Gl X "range") (hm : X.mg "range" = none) (ha : DA X W [a, b] cs) (hs : starEach [a, b] X.env = [(false, eval a X.env), (false, eval b X.env)] := by rfl) (hs2 : starEach [b] X.env = [(false, eval b X.env)] := by rfl) : DI X W tg (.Call (.Name "range" p) [a, b] [] pos) (iR2 cs) := pi_imp (pi_range2 hg hm ha hs hs2) fun σ H Q ⟨ι, h, ρ, R, S, p⟩ => by
  refine ⟨ι, h, ρ, R, S, Post.imp (Post.bind p) fun vs H1 ⟨ι1, h1, ds, x1, R1, r1, p1⟩ => ?_⟩
  split at p1
  · rename_i i j
    obtain ⟨c, p1⟩ := p1.guard
    obtain ⟨c1, c2⟩ := Bool.and_eq_true_iff.mp c
    cases r1 with
    | cons r rr =>
      cases r
      cases rr with
      | cons r rr =>
        cases r
        cases rr
        exact ⟨i, j, rfl, ⟨(okI_ok c1).1, (okI_ok c1).2, (okI_ok c2).1, (okI_ok c2).2⟩, p1.ok R1 (ri_fn walk_r1)⟩
  · exact p1.elim
theorem di_range3 {tg a b c : Expr} {p : Pos} (hg : Gl X "range") (hm : X.mg "range" = none) (ha : DA X W [a, b, c] cs)
    (hs : starEach [a, b, c] X.env = (false, eval a X.env) :: starEach [b, c] X.env := by rfl) (hpl : (backTo pos (starEach [b, c] X.env)).any (·.1) = false := by rfl) : DI X W tg (.Call (.Name "range" p) [a, b, c] [] pos) (iR3 cs) := pi_imp (pi_range3 hg hm ha hs hpl) fun σ H Q ⟨ι, h, ρ, R, S, p⟩ => by
  refine ⟨ι, h, ρ, R, S, Post.imp (Post.bind p) fun vs H1 ⟨ι1, h1, ds, x1, R1, r1, p1⟩ => ?_⟩
  split at p1
  · rename_i i j k
    obtain ⟨c, p2⟩ := p1.guard
    obtain ⟨c, c3⟩ := Bool.and_eq_true_iff.mp c
    obtain ⟨c1, c2⟩ := Bool.and_eq_true_iff.mp c
    have c3 : k = -1 := of_decide_eq_true c3
    subst c3
    cases r1 with
    | cons r rr =>
      cases r
      cases rr with
      | cons r rr =>
        cases r
        cases rr with
        | cons r rr =>
          cases r
          cases rr
          exact ⟨i, j, -1, _, rfl, RgC.neg (okI_ok c1).1 (okI_ok c1).2 (okI_ok c2).1 (okI_ok c2).2, p2.ok R1 (ri_fn walk_rangeC)⟩
  · exact p1.elim

/-! ### enumerate, zip: new pairs -/
theorem ri_pair {J : It} {it : ItD} {G : Hp → Prop} {A B : Nat → Hp → V → Prop} (w : Walk J it.items.length G (fun i H v H' => ∃ T x y, v = .ref T ∧ H T = none ∧ H' = upd H T (.tup [x, y]) ∧ A i H x ∧ B i H y))
    (f : ∀ ι' H' h', Up ι H ι' H' → Rel K ι' h' H' → okG it.gs h' = true → G H')
    (k : ∀ i ι' H' h' x y, i < it.items.length → Up ι H ι' H' → Rel K ι' h' H' → okG it.gs h' = true → A i H' x → B i H' y → ∃ d e, it.items[i]? = some (.tup [d, e]) ∧ RD K ι' H' d x ∧ RD K ι' H' e y) : RI K ι H it J := by
  refine ⟨_, _, w, fun ι' H' h' u => f ι' H' h' u.up, fun i Hc v H' ι' h' hi y u R g => ?_⟩
  obtain ⟨T, x, y, rfl, hT, rfl, ha, hb⟩ := y
  obtain ⟨d, e, h1, h2, h3⟩ := k i ι' Hc h' x y hi u.up R g ha hb
  exact ⟨_, h1, .tup (.inl ⟨R.out hT, .inl upd_same⟩) (.cons (h2.mono (.put hT)) (.cons (h3.mono (.put hT)) .nil)), .put hT, R.put hT, upd_keep hT⟩
theorem walk_enumN {a : Addr} {n : Nat} : Walk (Ite K a) n (fun H => ∃ vs, SqL K H a vs ∧ vs.length = n) (fun i H v H' => ∃ T x y, v = .ref T ∧ H T = none ∧ H' = upd H T (.tup [x, y]) ∧ x = .int (i : Nat) ∧ ∀ ys, SqL K H a ys → ys[i]? = some y) := by
  refine ⟨fun i _ hi ⟨vs, q, e⟩ => ⟨vs, vs[i], q, by simp [e, hi]⟩, fun _ ⟨vs, q, e⟩ => ⟨vs, q, by omega⟩, fun i H v H' _ _ y => ?_⟩
  obtain ⟨T, x, h1, h2, h3, h4⟩ := y
  exact ⟨T, .int (i : Nat), x, h1, h2, h3, rfl, h4⟩
theorem walk_zipN {a b : Addr} {n : Nat} : Walk (Itz K a b) n (fun H => ∃ vs us, SqL K H a vs ∧ SqL K H b us ∧ n = min vs.length us.length) (fun i H v H' => ∃ T x y, v = .ref T ∧ H T = none ∧ H' = upd H T (.tup [x, y]) ∧ (∀ ys, SqL K H a ys → ys[i]? = some x) ∧ ∀ ys, SqL K H b ys → ys[i]? = some y) := by
  refine ⟨fun i _ hi ⟨vs, us, q, q', e⟩ => ?_, fun _ ⟨vs, us, q, q', e⟩ => ⟨vs, us, q, q', by omega⟩, fun i H v H' _ _ y => y⟩
  have h1 : i < vs.length := by omega
  have h2 : i < us.length := by omega
  exact ⟨vs, us, vs[i], us[i], q, q', by simp [h1], by simp [h2]⟩
theorem walk_zipTN {a b : Addr} {n : Nat} : Walk (RZ.ItzT K a b) n (fun H => ∃ vs us, SqT K H a vs ∧ SqT K H b us ∧ n = min vs.length us.length) (fun i H v H' => ∃ T x y, v = .ref T ∧ H T = none ∧ H' = upd H T (.tup [x, y]) ∧ (∀ ys, SqT K H a ys → ys[i]? = some x) ∧ ∀ ys, SqT K H b ys → ys[i]? = some y) := by
  refine ⟨fun i _ hi ⟨vs, us, q, q', e⟩ => ?_, fun _ ⟨vs, us, q, q', e⟩ => ⟨vs, us, q, q', by omega⟩, fun i H v H' _ _ y => y⟩
  have h1 : i < vs.length := by omega
  have h2 : i < us.length := by omega
  exact ⟨vs, us, vs[i], us[i], q, q', by simp [h1], by simp [h2]⟩
def enumD : Nat → List D → List D
  | _, [] => []
  | n, x :: xs => .tup [.int n, x] :: enumD (n + 1) xs
theorem enumD_len : ∀ (xs : List D) (n : Nat), (enumD n xs).length = xs.length
  | [], _ => rfl
  | x :: xs, n => by unfold enumD; rw [List.length_cons, List.length_cons, enumD_len xs]
theorem enumD_at : ∀ (xs : List D) (n i : Nat) (d : D), xs[i]? = some d → (enumD n xs)[i]? = some (.tup [.int ((n + i : Nat) : Int), d])
  | [], _, _, _, e => by simp at e
  | x :: xs, n, 0, d, e => by unfold enumD; simp at e ⊢; exact e
  | x :: xs, n, i + 1, d, e => by
    unfold enumD
    rw [List.getElem?_cons_succ, enumD_at xs (n + 1) i d (by simpa using e)]
    congr 5
    omega
def zipD : List D → List D → List D
  | x :: xs, y :: ys => .tup [x, y] :: zipD xs ys
  | _, _ => []
theorem zipD_len : ∀ (xs ys : List D), (zipD xs ys).length = min xs.length ys.length
  | [], ys => by cases ys <;> simp [zipD]
  | _ :: _, [] => by simp [zipD]
  | x :: xs, y :: ys => by unfold zipD; rw [List.length_cons, List.length_cons, List.length_cons, zipD_len xs]; omega
theorem zipD_at : ∀ (xs ys : List D) (i : Nat) (d e : D), xs[i]? = some d → ys[i]? = some e → (zipD xs ys)[i]? = some (.tup [d, e])
  | [], _, _, _, _, h, _ => by simp at h
  | _ :: _, [], _, _, _, _, h => by simp at h
  | x :: xs, y :: ys, 0, d, e, h1, h2 => by simp at h1 h2; subst h1 h2; rfl
  | x :: xs, y :: ys, i + 1, d, e, h1, h2 => by
    unfold zipD
    rw [List.getElem?_cons_succ]
    exact zipD_at xs ys i d e (by simpa using h1) (by simpa using h2)
def isT : D → Bool
  | .tup _ => true
  | _ => false
def iZip (cs : Env → M (List D)) : Env → M ItD := fun ρ h => (cs ρ h).bind fun ds h1 => match ds with
  | [x, y] => if isT x == isT y then (match itOf h1 x, itOf h1 y with
    | some it, some jt => if okG it.gs h1 && okG jt.gs h1 then .ok ⟨zipD it.items jt.items, it.gs ++ jt.gs⟩ h1 else .bad
    | _, _ => .bad) else .bad
  | _ => .bad
theorem okG_app {a b : List (Nat × List D)} {h : Hs} (e : okG (a ++ b) h = true) : okG a h = true ∧ okG b h = true := by
  unfold okG at e ⊢
  rw [List.all_append] at e
  exact Bool.and_eq_true_iff.mp e
/-- a value that is walked, by its kind -/
theorem itOf_L {x : D} {v : V} {it : ItD} (r : RD K ι H x v) (e : itOf h x = some it) (nt : isT x = false) : ∃ a, v = .ref a ∧ ∀ ι' H' h', Up ι H ι' H' → Rel K ι' h' H' → okG it.gs h' = true → ∃ vs, SqL K H' a vs ∧ RDs K ι' H' it.items vs := by
  cases r with
  | tup t rs => cases nt
  | lst t rs => cases e; exact ⟨_, rfl, fun ι' H' h' u R _ => ⟨_, (t.up u).sq, rs.up u⟩⟩
  | scr t => cases e; exact ⟨_, rfl, fun ι' H' h' u R _ => ⟨_, (t.up u).sq, RDs.ofInts⟩⟩
  | @obj n a g =>
    have e : (match h[n]? with
    | some (.lst xs) => some (ItD.mk xs [(n, xs)])
    | _ => none) = some it := e
    split at e
    · cases e
      refine ⟨_, rfl, fun ι' H' h' u R og => ?_⟩
      obtain ⟨vs, h1, h2⟩ := R.at (u.get _ _ g) (okG_at og List.mem_cons_self)
      exact ⟨vs, SqL.of h1, h2⟩
    · cases e
  | _ => cases e
theorem itOf_T {x : D} {v : V} {it : ItD} (r : RD K ι H x v) (e : itOf h x = some it) (nt : isT x = true) : ∃ a, v = .ref a ∧ ∀ ι' H' h', Up ι H ι' H' → Rel K ι' h' H' → okG it.gs h' = true → ∃ vs, SqT K H' a vs ∧ RDs K ι' H' it.items vs := by
  cases r with
  | tup t rs => cases e; exact ⟨_, rfl, fun ι' H' h' u R _ => ⟨_, (t.up u).sq, rs.up u⟩⟩
  | _ => cases nt
theorem di_zip {a b : Expr} {p tpos : Pos} {elts : List Expr} {kk : Nat} (hg : Gl X "zip") (hm : X.mg "zip" = none) (ha : DA X W [a, b] cs)
    (hs : starEach [a, b] X.env = (false, eval a X.env) :: starEach [b] X.env := by rfl) (hpl : (backTo pos (starEach [b] X.env)).any (·.1) = false := by rfl) : DI X W (.Tuple elts kk tpos) (.Call (.Name "zip" p) [a, b] [] pos) (iZip cs) := pi_imp (RZ.pi_zipA hg hm ha hs hpl) fun σ H Q ⟨ι, h, ρ, R, S, p⟩ => by
  refine ⟨ι, h, ρ, R, S, Post.imp (Post.bind p) fun vs H1 ⟨ι1, h1, ds, x1, R1, r1, p1⟩ => ?_⟩
  split at p1
  · rename_i x y
    obtain ⟨et, p1⟩ := p1.guard
    have et : isT x = isT y := by simpa using et
    split at p1
    · rename_i it jt e1 e2
      obtain ⟨g, p1⟩ := p1.guard
      obtain ⟨g1, g2⟩ := Bool.and_eq_true_iff.mp g
      cases r1 with
      | cons r rr =>
        cases rr with
        | cons r' rr =>
          cases rr
          cases ex : isT x with
          | false =>
            obtain ⟨a, rfl, f⟩ := itOf_L r e1 ex
            obtain ⟨b, rfl, f'⟩ := itOf_L r' e2 (et ▸ ex)
            obtain ⟨vs, q, _⟩ := f ι1 H1 h1 (Ext.refl.up) R1 g1
            obtain ⟨us, q', _⟩ := f' ι1 H1 h1 (Ext.refl.up) R1 g2
            refine ⟨a, b, vs, us, rfl, .inl ⟨q, q', p1.ok R1 (ri_pair (walk_zipN (n := (zipD it.items jt.items).length)) (fun ι' H' h' u R g => ?_) fun i ι' H' h' y z hi u R g hy hz => ?_)⟩⟩
            · obtain ⟨vs, q, r⟩ := f ι' H' h' u R (okG_app g).1
              obtain ⟨us, q', r'⟩ := f' ι' H' h' u R (okG_app g).2
              exact ⟨vs, us, q, q', by rw [zipD_len, r.length, r'.length]⟩
            · obtain ⟨vs, q, r⟩ := f ι' H' h' u R (okG_app g).1
              obtain ⟨us, q', r'⟩ := f' ι' H' h' u R (okG_app g).2
              obtain ⟨d, e1, e2⟩ := r.getV (hy vs q)
              obtain ⟨d', e1', e2'⟩ := r'.getV (hz us q')
              exact ⟨d, d', zipD_at _ _ _ _ _ e1 e1', e2, e2'⟩
          | true =>
            obtain ⟨a, rfl, f⟩ := itOf_T r e1 ex
            obtain ⟨b, rfl, f'⟩ := itOf_T r' e2 (et ▸ ex)
            obtain ⟨vs, q, _⟩ := f ι1 H1 h1 (Ext.refl.up) R1 g1
            obtain ⟨us, q', _⟩ := f' ι1 H1 h1 (Ext.refl.up) R1 g2
            refine ⟨a, b, vs, us, rfl, .inr ⟨q, q', p1.ok R1 (ri_pair (walk_zipTN (n := (zipD it.items jt.items).length)) (fun ι' H' h' u R g => ?_) fun i ι' H' h' y z hi u R g hy hz => ?_)⟩⟩
            · obtain ⟨vs, q, r⟩ := f ι' H' h' u R (okG_app g).1
              obtain ⟨us, q', r'⟩ := f' ι' H' h' u R (okG_app g).2
              exact ⟨vs, us, q, q', by rw [zipD_len, r.length, r'.length]⟩
            · obtain ⟨vs, q, r⟩ := f ι' H' h' u R (okG_app g).1
              obtain ⟨us, q', r'⟩ := f' ι' H' h' u R (okG_app g).2
              obtain ⟨d, e1, e2⟩ := r.getV (hy vs q)
              obtain ⟨d', e1', e2'⟩ := r'.getV (hz us q')
              exact ⟨d, d', zipD_at _ _ _ _ _ e1 e1', e2, e2'⟩
    · exact p1.elim
  · exact p1.elim
end
end Dl

/-! The D layer, 10: comprehensions. -/
namespace Dl
open PySem PySem.Spec PyProof.Rows L2
variable [Tb]

def wipeD (ρ : Env) : List Nat → Env
  | [] => ρ
  | v :: vs => (wipeD ρ vs).set v none
def R.nox {α : Type} (r : R α) : R α := match r with
  | .ok a h => .ok a h
  | _ => .bad
def lcF (p : Pat) (ct : Env → M Bool) (ce : Env → M D) (gs : List (Nat × List D)) (ρ : Env) : List D → M (List D)
  | [], h => if okG gs h then .ok [] h else .bad
  | x :: xs, h => if okG gs h then (match patD p x ρ with
    | none => .bad
    | some ρ1 => (ct ρ1 h).nox.bind fun b h1 => if b = true then (ce ρ1 h1).nox.bind fun d h2 => (lcF p ct ce gs ρ xs h2).bind fun ds h3 => .ok (d :: ds) h3 else lcF p ct ce gs ρ xs h1) else .bad
def nLc (ci : Env → M ItD) (p : Pat) (own : List Nat) (ct : Env → M Bool) (ce : Env → M D) : Env → M (List D) := fun ρ h =>
  (ci ρ h).bind fun it h1 => if okLen it.items.length then lcF p ct ce it.gs (wipeD ρ own) it.items h1 else .bad
def tYes' : Env → M Bool := fun _ h => .ok true h
def NoW : WX := fun _ _ _ _ => False
section
variable {K : PySem.W.Frag} {ι ι1 : Ix} {H H1 : Hp} {h : Hs} {ρ : Env} {σ : L2.St}
theorem RS.wipe (S : RS K ι H ρ σ) : ∀ vs : List Nat, RS K ι H (wipeD ρ vs) (L2.wipe σ vs)
  | [] => S
  | v :: vs => by
    have ih := RS.wipe S vs
    refine ⟨?_, fun j d g => ?_⟩
    · show ((wipeD ρ vs).set v none).length = ((L2.wipe σ vs).set v none).length
      rw [List.length_set, List.length_set]
      exact ih.1
    · have g : ((wipeD ρ vs).set v none)[j]? = some (some d) := g
      show ∃ w, ((L2.wipe σ vs).set v none)[j]? = some (some w) ∧ _
      by_cases e : v = j
      · subst e
        by_cases hl : v < (wipeD ρ vs).length
        · rw [List.getElem?_set_self hl] at g; cases g
        · rw [List.getElem?_eq_none (by rw [List.length_set]; omega)] at g; cases g
      · rw [List.getElem?_set_ne e] at g ⊢
        exact ih.2 j d g
theorem wipe_wipe {vs : List Nat} : L2.wipe (L2.wipe σ vs) vs = L2.wipe σ vs := by
  apply List.ext_getElem?
  intro j
  by_cases hj : j ∈ vs
  · rw [wipe_in hj, wipe_in hj, wipe_length]
  · rw [wipe_out hj]
theorem PostN.nox {W : XK} {W' : XK} {α β : Type} {RA : Ix → Hp → α → β → Prop} {r : R α} {f : α → M (List D)} {ιb : Ix} {Hb : Hp} {Q : VK} (p : PostN K W (r.nox.bind f) ιb Hb Q) :
    Post K W' RA r ι H (fun b H1 => ∃ ι1 h1 a, Ext ι H ι1 H1 ∧ Rel K ι1 h1 H1 ∧ RA ι1 H1 a b ∧ PostN K W (f a h1) ιb Hb Q) := by
  cases r with
  | ok a h => exact fun ι' H' b e R ra => ⟨ι', h, a, e, R, ra, p⟩
  | exc C fs h => exact (show False from p).elim
  | bad => exact (show False from p).elim
/-- a list that is being made, changed -/
theorem Ext.inner {p : Addr} {o : HO} (e : Ext (ι.with p) H ι1 H1) : ∃ ι2 : Ix, ι1 = ι2.with p ∧ ι2.rs = ι.rs ∧ ι2.os = ι1.os := by
  refine ⟨⟨ι1.os, ι.rs⟩, ?_, rfl, rfl⟩
  have e1 : ι1.rs = p :: ι.rs := e.rs
  show ι1 = ⟨ι1.os, p :: ι.rs⟩
  rw [← e1]
theorem Up.chgr {p : Addr} {o : HO} : Up (ι.with p) H (ι.with p) (upd H p o) := ⟨fun _ _ e => e, fun a u e f => ⟨by rw [upd_ne fun z => f.2 (by rw [z]; exact List.mem_cons_self)]; exact e, f⟩⟩
theorem Rel.chgr {p : Addr} {o : HO} {u : HO} (R : Rel K (ι.with p) h H) (n : p ∉ ι.os) (ep : H p = some u) (np : NT u := by intro _ z; cases z) : Rel K (ι.with p) h (upd H p o) := by
  refine ⟨R.len, R.nd, fun j a u e g => CellOk.up Up.chgr (upd_ne fun z => n (by rw [← z]; exact List.mem_of_getElem? e)) (R.cell j a u e g), fun a m => ?_, fun q m => ⟨(R.tab q m).1, (R.tab q m).2.up Up.chgr (upd_ne fun z => (R.tab q m).2.nt (by rw [z]; exact ep) np)⟩⟩
  by_cases z : a = p
  · rw [z, upd_same]; exact fun z => nomatch z
  · rw [upd_ne z]; exact R.res a m
theorem lcF_ok {p : Pat} {ct : Env → M Bool} {ce : Env → M D} {gs : List (Nat × List D)} {xs : List D} {W : XK} {f : List D → M (List D)} {Q : VK} (q : PostN K W ((lcF p ct ce gs ρ xs h).bind f) ι H Q) : okG gs h = true := by
  cases xs with
  | nil =>
    unfold lcF at q
    cases e : okG gs h with
    | true => rfl
    | false => rw [e] at q; exact (show False from q).elim
  | cons x xs =>
    unfold lcF at q
    cases e : okG gs h with
    | true => rfl
    | false => rw [e] at q; exact (show False from q).elim
theorem bind_assoc {α β γ : Type} (r : R α) (f : α → M β) (g : β → M γ) : (r.bind f).bind g = r.bind fun a h => (f a h).bind g := by
  cases r <;> rfl
theorem bind_ok {α β : Type} (a : α) (f : α → M β) (h : Hs) : (R.ok a h).bind f = f a h := rfl
theorem up2 {ι2 : Ix} {Hc : Hp} {p : Addr} (x2 : Ext ι1 H1 ι2 Hc) (hD : H1 p = none) : Up ι1 H1 (ι2.with p) Hc := by
  refine ⟨x2.up.get, fun a o e f => ?_⟩
  obtain ⟨z1, z2⟩ := x2.up.keep a o e f
  exact ⟨z1, z2.1, fun m => (List.mem_cons.mp m).elim (fun y => by rw [y, hD] at e; cases e) z2.2⟩
theorem RS.up' {ι' : Ix} {H' : Hp} (S : RS K ι H ρ σ) (u : Up ι H ι' H') : RS K ι' H' ρ σ := ⟨S.1, fun i d g => let ⟨v, h1, h2⟩ := S.2 i d g; ⟨v, h1, h2.up u⟩⟩
theorem ext_in {ι2 ι5 : Ix} {Hc H4 : Hp} {p : Addr} {vs : List V} (x2 : Ext ι1 H1 ι2 Hc) (hD : H1 p = none) (hp : Hc p = some (.lst vs)) (x : Ext (ι2.with p) Hc (ι5.with p) H4) : Ext ι1 H1 ι5 H4 := by
  have z : Ext ι2 Hc ι5 H4 := ⟨x.pre, by have e : p :: ι5.rs = p :: ι2.rs := x.rs; exact List.tail_eq_of_cons_eq e, fun a o ha hn hr => x.keep a o ha hn fun m => (List.mem_cons.mp m).elim (fun z => by
    rw [z, hp] at ha
    cases ha
    exact fun _ y => nomatch y) hr, x.new, x.frz, x.dom⟩
  exact x2.trans z
/-- the turns of a comprehension -/
theorem w_lc {W : WX} {ci : Env → M ItD} {p : Pat} {own : List Nat} {ct : Env → M Bool} {ce : Env → M D} {Q : VK} (hp : ∀ i, i ∈ patIs p → i ∈ own) (q : wN K W (nLc ci p own ct ce) σ H Q) : tLc (wI K W ci) (gPat K p) (wT K NoW ct) (wE K NoW ce) own σ H Q := by
  obtain ⟨ι, h, ρ, R, S, q⟩ := q
  refine ⟨ι, h, ρ, R, S, Post.imp (PostN.bind q) fun J H1 ⟨ι1, h1, it, x1, R1, ⟨G, Y, w, st, yd⟩, q1⟩ => ?_⟩
  obtain ⟨gl, q1⟩ := q1.guard
  intro Dd hD
  have S1 := S.mono x1
  have oD := R1.out hD
  have hDH : H Dd = none := x1.back hD fun z => oD.1 (by
    obtain ⟨t, e1⟩ := x1.pre
    rw [e1]
    exact List.mem_append_left _ z)
  refine lc_it w (fun i Hc => ∃ ι2 h2 acc vs, Ext ι1 H1 ι2 Hc ∧ Rel K (ι2.with Dd) h2 Hc ∧ Hc Dd = some (.lst vs) ∧ RDs K (ι2.with Dd) Hc acc vs ∧ Dd ∉ ι2.os ∧ acc.length ≤ i ∧
    PostN K (fun x d H' => W x d σ H') ((lcF p ct ce it.gs (wipeD ρ own) (it.items.drop i) h2).bind fun ds h3 => .ok (acc ++ ds) h3) ι H Q) ?_ ?_ ?_ ?_
  · refine ⟨ι1, h1, [], [], .put hD, R1.with hD (upd_keep hD) (by rw [upd_same]; exact fun z => nomatch z), upd_same, .nil, oD.1, Nat.zero_le _, ?_⟩
    rw [List.drop_zero]
    have e : ((lcF p ct ce it.gs (wipeD ρ own) it.items h1).bind fun ds h3 => .ok ([] ++ ds) h3) = lcF p ct ce it.gs (wipeD ρ own) it.items h1 := by
      cases lcF p ct ce it.gs (wipeD ρ own) it.items h1 <;> rfl
    rw [e]
    exact q1
  · rintro i Hc hi ⟨ι2, h2, acc, vs, x2, R2, hv, rv, nD, la, q2⟩
    exact st _ Hc h2 ⟨up2 x2 hD, x2.frz⟩ R2 (lcF_ok q2)
  · rintro i x Hc H' hi ⟨ι2, h2, acc, vs, x2, R2, hv, rv, nD, la, q2⟩ y
    have og := lcF_ok q2
    obtain ⟨d, e, rd, x3, R3, k3⟩ := yd i Hc x H' _ h2 hi y ⟨up2 x2 hD, x2.frz⟩ R2 og
    have ed : it.items.drop i = d :: it.items.drop (i + 1) := by
      obtain ⟨hl, e1⟩ := List.getElem?_eq_some_iff.mp e
      rw [← e1]
      exact List.drop_eq_getElem_cons hl
    rw [ed] at q2
    unfold lcF at q2
    rw [if_pos og] at q2
    cases ep : patD p d (wipeD ρ own) with
    | none => rw [ep] at q2; exact (show False from q2).elim
    | some ρ3 =>
      rw [ep] at q2
      have Sw : RS K (ι2.with Dd) H' (wipeD ρ own) (L2.wipe σ own) := ((S1.wipe own).up' (up2 x2 hD)).mono x3
      refine gPat_ok (vs := own) p rd Sw ep hp fun σ3 S3 w3 => ⟨w3.trans wipe_wipe, ?_⟩
      simp only [bind_assoc] at q2
      refine ⟨ι2.with Dd, h2, ρ3, R3, S3, Post.imp (PostN.nox q2) fun b H3 ⟨ι3, h3, b', x4, R4, rb, q3⟩ => ?_⟩
      subst rb
      have x34 := x3.trans x4
      have hi' : i < 16777216 := Nat.lt_of_lt_of_le hi (of_decide_eq_true gl)
      cases b' with
      | false =>
        rw [if_neg Bool.false_ne_true] at q3 ⊢
        obtain ⟨ι5, e5, er, eo⟩ := Ext.inner (o := .lst []) x34
        subst e5
        refine ⟨ι5, h3, acc, vs, ?_, R4, x34.keep _ _ hv nD (fun _ _ z => nomatch z), rv.mono x34, ?_, by omega, q3⟩
        · exact ext_in x2 hD hv x34
        · intro m
          rcases x34.new Dd m with z | z
          · exact nD z
          · rw [hv] at z; cases z
      | true =>
        rw [if_pos rfl] at q3 ⊢
        simp only [bind_assoc] at q3
        refine ⟨ι3, h3, ρ3, R4, S3.mono x4, Post.imp (PostN.nox q3) fun v H4 ⟨ι4, h4, dv, x5, R5, rb, q4⟩ => ?_⟩
        have x35 := x34.trans x5
        obtain ⟨ι5, e5, er, eo⟩ := Ext.inner (o := .lst []) x35
        subst e5
        have nD5 : Dd ∉ ι5.os := fun m => by
          rcases x35.new Dd m with z | z
          · exact nD z
          · rw [hv] at z; cases z
        have hv4 := x35.keep _ _ hv nD (fun _ _ z => nomatch z)
        have rv4 := rv.mono x35
        refine ⟨vs, hv4, by rw [sizeLine_eq, ← rv.length]; omega, ι5, h4, acc ++ [dv], vs ++ [v], ?_, R5.chgr nD5 hv4, upd_same, (rv4.append (.cons rb .nil)).up Up.chgr, nD5, by rw [List.length_append, List.length_singleton]; omega, ?_⟩
        · have z := ext_in x2 hD hv x35
          exact ⟨z.pre, z.rs, fun a o ha hn => by rw [upd_ne fun e => by rw [e, hD] at ha; cases ha]; exact z.keep a o ha hn, z.new, fun a od u ha => by rw [upd_ne fun e => by rw [e, hD] at ha; cases ha]; exact z.frz a od u ha, fun a n => upd_dom a (z.dom a n)⟩
        · have e : ((lcF p ct ce it.gs (wipeD ρ own) (it.items.drop (i + 1)) h4).bind fun ds h5 => .ok (acc ++ [dv] ++ ds) h5) = (lcF p ct ce it.gs (wipeD ρ own) (it.items.drop (i + 1)) h4).bind fun ds h5 => .ok (acc ++ (dv :: ds)) h5 := by
            congr 1
            funext ds h5
            rw [List.append_assoc]
            rfl
          rw [e]
          simp only [bind_ok] at q4
          exact q4
  · rintro Hc ⟨ι2, h2, acc, vs, x2, R2, hv, rv, nD, la, q2⟩
    have og := lcF_ok q2
    rw [List.drop_length] at q2
    unfold lcF at q2
    rw [if_pos og, bind_ok, List.append_nil] at q2
    have n2 : Dd ∉ ι2.rs := by rw [x2.rs]; exact oD.2
    exact q2 ι2 Hc Dd vs (x1.trans x2) R2 rv hv nD n2 hDH
section
variable {X : Cx} {W : WX} {pos : Pos}
abbrev DTs (X : Cx) (W : WX) (ifs : List Expr) (c : Env → M Bool) : Prop := PTs X ifs (wT X.K W c)
theorem dts_nil : DTs X W [] tYes' := by
  refine ⟨fun pins s σ H Q I ⟨ι, h, ρ, R, S, p⟩ => pts_nil.run pins s σ H Q I ?_⟩
  exact p.ok R rfl
theorem dts_one {c : Expr} {ct : Env → M Bool} (h : DT X W c ct) : DTs X W [c] ct := pts_one h
theorem dn_lc {elt tg iter : Expr} {ifs : List Expr} {scope : Scope} {own : List (Str × Nat)} {ci : Env → M ItD} {p : Pat} {ct : Env → M Bool} {ce : Env → M D} (hc : X.calm = true) (hN : X.N.Nodup) (hi : DI X W tg iter ci) (ok : BlkOk X.N X.env.scope scope own)
    (hg : ∀ (s : Shared) (H : Hp) (C : Addr) (cl : List (Str × Addr)) (fp : List Addr), PG (X.blk s H scope (compEnvC scope cl C X.env) fp) tg (gPat X.K p)) (ht : ∀ (s : Shared) (H : Hp) (C : Addr) (cl : List (Str × Addr)) (fp : List Addr), DTs (X.blk s H scope (compEnvC scope cl C X.env) fp) NoW ifs ct)
    (he : ∀ (s : Shared) (H : Hp) (C : Addr) (cl : List (Str × Addr)) (fp : List Addr), DE (X.blk s H scope (compEnvC scope cl C X.env) fp) NoW elt ce) (hp : ∀ i, i ∈ patIs p → i ∈ own.map (·.2) := by decide) (hs : ∀ x, foldedSetIterable iter X.env x = pure x := by intro _; rfl) :
    DN X W (.ListComp elt [⟨tg, iter, ifs, 0⟩] scope pos) (nLc ci p (own.map (·.2)) ct ce) := pe_imp (pe_lc hc hN hi ok hg ht he hs) fun σ H Q q => w_lc hp q
theorem ds_setLc {f : (Env → M (List D)) → Env → M D} (hf : ∀ (cs : Env → M (List D)) σ H Q, wE X.K W (f cs) σ H Q → wN X.K W cs σ H Q) {i : Nat} {y : Str} {py spos : Pos} {elt tg iter : Expr} {ifs : List Expr} {scope : Scope} {own : List (Str × Nat)} {ci : Env → M ItD} {p : Pat} {ct : Env → M Bool} {ce : Env → M D} (hc : X.calm = true) (hN : X.N.Nodup) (hi : DI X W tg iter ci) (ok : BlkOk X.N X.env.scope scope own)
    (hg : ∀ (s : Shared) (H : Hp) (C : Addr) (cl : List (Str × Addr)) (fp : List Addr), PG (X.blk s H scope (compEnvC scope cl C X.env) fp) tg (gPat X.K p)) (ht : ∀ (s : Shared) (H : Hp) (C : Addr) (cl : List (Str × Addr)) (fp : List Addr), DTs (X.blk s H scope (compEnvC scope cl C X.env) fp) NoW ifs ct)
    (he : ∀ (s : Shared) (H : Hp) (C : Addr) (cl : List (Str × Addr)) (fp : List Addr), DE (X.blk s H scope (compEnvC scope cl C X.env) fp) NoW elt ce) (hy : X.N[i]? = some y := by rfl) (hyl : X.env.scope.names.lookup y = some .local := by rfl)
    (hk : X.env.scope.kind = .function := by rfl) (hl : (py.line == pos.line) = true := by rfl) (hl2 : (scope.names.any fun (n, k) => n == y && (k == .local || k == .cell)) = false := by rfl) (hp : ∀ i, i ∈ patIs p → i ∈ own.map (·.2) := by decide) (hs : ∀ x, foldedSetIterable iter X.env x = pure x := by intro _; rfl) :
    DS X W (.Assign [.Name y py] (.ListComp elt [⟨tg, iter, ifs, 0⟩] scope pos) spos) (sSet i (f (nLc ci p (own.map (·.2)) ct ce))) := ps_imp (ps_setLc hc hN hy hyl (sw_true hk hyl hl hl2) hi ok hg ht he hs) fun D σ H q => w_lc hp (hf _ _ _ _ (w_set q))
end
end
end Dl

/-! The D layer, 11: stores, methods of lists, {}. -/
namespace Dl
open PySem PySem.Spec PyProof.Rows L2
variable [Tb]

section
variable {X : Cx} {W : WX} {pos : Pos} {e o ix : Expr} {ce co cx : Env → M D} {cs : Env → M (List D)}
/-! ### a, b = x, y -/
def sPar2 (i j : Nat) (cs : Env → M (List D)) : SM := fun ρ h => (cs ρ h).then ρ fun xs h1 => match xs with
  | [x, y] => .nx ((ρ.set i (some x)).set j (some y)) h1
  | _ => .bad
def sPar3 (i j l : Nat) (cs : Env → M (List D)) : SM := fun ρ h => (cs ρ h).then ρ fun xs h1 => match xs with
  | [x, y, z] => .nx (((ρ.set i (some x)).set j (some y)).set l (some z)) h1
  | _ => .bad
theorem ds_par2 {i j : Nat} {x y : Str} {a b : Expr} {px py pt : Pos} {kt k2 pt2} (hc : X.calm = true) (hN : X.N.Nodup) (ha : DA X W [a, b] cs) (hi : X.N[i]? = some x := by rfl) (hj : X.N[j]? = some y := by rfl) (hij : i ≠ j := by decide)
    (hx : X.env.scope.names.lookup x = some .local := by rfl) (hy : X.env.scope.names.lookup y = some .local := by rfl)
    (hw : swappedStores [.Tuple [.Name x px, .Name y py] kt pt] (.Tuple [a, b] k2 pt2) X.env = pure (some [x, y]) := by rfl)
    (hs : swapsWithSole [.Tuple [.Name x px, .Name y py] kt pt] (.Tuple [a, b] k2 pt2) pos.line X.env = pure false := by rfl) :
    DS X W (.Assign [.Tuple [.Name x px, .Name y py] kt pt] (.Tuple [a, b] k2 pt2) pos) (sPar2 i j cs) := ps_imp (ps_par hc hN hi hj hij hx hy ha hw hs) fun D σ H ⟨ι, h, ρ, R, S, p⟩ => by
  refine ⟨ι, h, ρ, R, S, Post.imp (PostS.then p S) fun vs H1 ⟨ι1, h1, ds, x1, R1, r1, p1⟩ => ?_⟩
  split at p1
  · cases r1 with
    | cons r rr =>
      cases rr with
      | cons r' rr =>
        cases rr
        exact ⟨_, _, rfl, p1 ι1 H1 _ .refl R1 (((S.mono x1).set i r).set j r')⟩
  · exact p1.elim
/-! ### a, b = e -/
def sPat (p : Pat) (ce : Env → M D) : SM := fun ρ h => (ce ρ h).then ρ fun x h1 => match patD p x ρ with
  | some ρ1 => .nx ρ1 h1
  | none => .bad
theorem ds_pat {tg : Expr} {p : Pat} (he : DE X W e ce) (hg : PG X tg (gPat X.K p)) (hs : swapsWithSole [tg] e pos.line X.env = pure false := by rfl) (hw : swappedStores [tg] e X.env = pure none := by rfl)
    (h1 : (assignEach [tg] X.env).map (·.2) = [assign tg X.env] := by rfl) : DS X W (.Assign [tg] e pos) (sPat p ce) := ps_imp (ps_asg he hg hs hw h1) fun D σ H ⟨ι, h, ρ, R, S, p1⟩ => by
  refine ⟨ι, h, ρ, R, S, Post.imp (PostS.then p1 S) fun v H1 ⟨ι1, h1, d, x1, R1, r1, p1⟩ => ?_⟩
  split at p1
  · rename_i ρ1 ep
    exact gPat_ok (vs := patIs p) p r1 (S.mono x1) ep (fun _ z => z) fun σ' S' _ => p1 ι1 H1 σ' .refl R1 S'
  · exact p1.elim
/-! ### o[i] = e -/
def putKD (kvs : List (Key × D)) (k : Key) (d : D) : List (Key × D) := if (kvs.any fun kv => decide (kv.1 = k)) = true then kvs.map (fun kv => if kv.1 = k then (kv.1, d) else kv) else kvs ++ [(k, d)]
def setItemD (o i v : D) : Hs → Option Hs := fun h => match o with
  | .obj n => (match h[n]? with
    | some (.lst xs) => (match i with
      | .int k => (ixN xs.length k).map fun j => h.set n (.lst (xs.set j v))
      | _ => none)
    | some (.dI kvs) => (match keyOf i with
      | some k => if decide (kvs.length < 16777216) then some (h.set n (.dI (putKD kvs k v))) else none
      | none => none)
    | _ => none)
  | _ => none
def gSet : TSet := fun o i v H Q => rSetL o i v H Q ∨ rSetD o i v H Q
theorem set_all (hu : X.A.units + 1 < cLine) : PSet X gSet := by
  intro pins s σ H o i v ov iv u Q I ro ri rv h
  rcases h with h | h
  · exact set_list pins s σ H o i v ov iv u Q I ro ri rv h
  · exact set_dict hu pins s σ H o i v ov iv u Q I ro ri rv h
theorem rf_any {κ : Type} [DecidableEq κ] {K : PySem.W.Frag} {ι : Ix} {H : Hp} {k : κ} : ∀ {kvs : List (κ × D)} {us : List (κ × V)}, RF K ι H kvs us → (kvs.any fun kv => decide (kv.1 = k)) = us.any fun kv => decide (kv.1 = k)
  | _, _, .nil => rfl
  | _, _, .cons g r => by rw [List.any_cons, List.any_cons, rf_any r, g.1]
theorem rf_map {κ : Type} [DecidableEq κ] {K : PySem.W.Frag} {ι : Ix} {H : Hp} {k : κ} {d : D} {v : V} (rd : RD K ι H d v) : ∀ {kvs : List (κ × D)} {us : List (κ × V)}, RF K ι H kvs us → RF K ι H (kvs.map fun kv => if kv.1 = k then (kv.1, d) else kv) (us.map fun kv => if kv.1 = k then (kv.1, v) else kv)
  | _, _, .nil => .nil
  | p :: _, q :: _, .cons g r => by
    rw [List.map_cons, List.map_cons]
    refine .cons ?_ (rf_map rd r)
    by_cases e : p.1 = k
    · rw [if_pos e, if_pos (by rw [← g.1]; exact e)]
      exact ⟨g.1, rd⟩
    · rw [if_neg e, if_neg (by rw [← g.1]; exact e)]
      exact g
theorem rf_app {κ : Type} {K : PySem.W.Frag} {ι : Ix} {H : Hp} : ∀ {kvs kvs' : List (κ × D)} {us us' : List (κ × V)}, RF K ι H kvs us → RF K ι H kvs' us' → RF K ι H (kvs ++ kvs') (us ++ us')
  | _, _, _, _, .nil, s => s
  | _, _, _, _, .cons g r, s => .cons g (rf_app r s)
theorem rf_putK {K : PySem.W.Frag} {ι : Ix} {H : Hp} {k : Key} {d : D} {v : V} {kvs : List (Key × D)} {us : List (Key × V)} (r : RF K ι H kvs us) (rd : RD K ι H d v) : RF K ι H (putKD kvs k d) (putK us k v) := by
  unfold putKD putK
  rw [rf_any r]
  split
  · exact rf_map rd r
  · exact rf_app r (.cons ⟨rfl, rd⟩ .nil)
theorem setItem_ok {K : PySem.W.Frag} {ι : Ix} {H : Hp} {h h' : Hs} {x i d : D} {o j v : V} {Q : Hp → Prop} (R : Rel K ι h H) (rx : RD K ι H x o) (ri : RD K ι H i j) (rd : RD K ι H d v) (e : setItemD x i d h = some h')
    (q : ∀ H', Ext ι H ι H' → Rel K ι h' H' → Q H') : gSet o j v H Q := by
  unfold setItemD at e
  split at e
  · split at e
    · rename_i n xs en
      split at e
      · rename_i k
        obtain ⟨jj, e1, e2⟩ := Option.map_eq_some_iff.mp e
        subst e2
        cases rx with
        | @obj n a g =>
          obtain ⟨vs, h1, h2⟩ := R.at g en
          cases ri
          have m := List.mem_of_getElem? g
          refine .inl ⟨a, vs, k, jj, rfl, rfl, h1, by rw [← h2.length]; exact e1, q _ (.chg m (nfr h1)) (R.chg g ⟨_, upd_same, (RDs.set rd jj h2).mono (.chg m (nfr h1))⟩)⟩
      · cases e
    · rename_i n kvs en
      split at e
      · rename_i k ek
        split at e
        · rename_i hl
          cases e
          cases rx with
          | @obj n a g =>
            obtain ⟨us, h1, h2⟩ := R.at g en
            have m := List.mem_of_getElem? g
            refine .inr ⟨a, _, rfl, ?_, q _ (.chg m (nfr h1)) (R.chg g ⟨putK us k v, upd_same, (rf_putK h2 rd).mono (.chg m (nfr h1))⟩)⟩
            rw [keyOf_kV ri ek]
            exact DPut.k h1 (by rw [sizeLine_eq, ← rf_len h2]; exact of_decide_eq_true hl)
        · cases e
      · cases e
    · cases e
  · cases e
def sStore (ce co cx : Env → M D) : SM := fun ρ h => (ce ρ h).then ρ fun v h1 => (co ρ h1).then ρ fun o h2 => (cx ρ h2).then ρ fun i h3 => match setItemD o i v h3 with
  | some h4 => .nx ρ h4
  | none => .bad
theorem ds_store {p' : Pos} (hu : X.A.units + 1 < cLine) (he : DE X W e ce) (ho : DE X W o co) (hi : DE X W ix cx)
    (ha : ∀ v, assign (.Subscript o ix p') X.env v = (do
      let ov ← holding [v] (eval o X.env)
      let iv ← holding [v, ov] (eval ix X.env)
      standAt p'
      holding [v, ov, iv] (setItem ov iv v)
      release [v, ov, iv] []) := by intro _; rfl) (hs : swapsWithSole [.Subscript o ix p'] e pos.line X.env = pure false := by rfl) (hw : swappedStores [.Subscript o ix p'] e X.env = pure none := by rfl)
    (h1 : (assignEach [.Subscript o ix p'] X.env).map (·.2) = [assign (.Subscript o ix p') X.env] := by rfl) : DS X W (.Assign [.Subscript o ix p'] e pos) (sStore ce co cx) := ps_imp (ps_asg he (pg_sub ho hi (set_all hu) ha) hs hw h1) fun D σ H ⟨ι, h, ρ, R, S, p⟩ => by
  refine ⟨ι, h, ρ, R, S, Post.imp (PostS.then p S) fun v H1 ⟨ι1, h1, d, x1, R1, r1, p1⟩ => ?_⟩
  refine ⟨ι1, h1, ρ, R1, S.mono x1, Post.imp (PostS.then p1 (S.mono x1)) fun o H2 ⟨ι2, h2, od, x2, R2, r2, p2⟩ => ?_⟩
  have S2 := S.mono (x1.trans x2)
  refine ⟨ι2, h2, ρ, R2, S2, Post.imp (PostS.then p2 S2) fun j H3 ⟨ι3, h3, jd, x3, R3, r3, p3⟩ => ?_⟩
  split at p3
  · rename_i h4 e
    exact setItem_ok R3 (r2.mono x3) r3 (r1.mono (x2.trans x3)) e fun H' x4 R4 => p3 ι3 H' σ x4 R4 ((S2.mono x3).mono x4)
  · exact p3.elim
/-! ### o.f = e -/
def sFldD (C f : Str) (ce co : Env → M D) : SM := fun ρ h => (ce ρ h).then ρ fun v h1 => (co ρ h1).then ρ fun o h2 => match o, fieldsAt C h2 o with
  | .obj n, some fs => if decide (fs.length < 1000) then .nx ρ (h2.set n (.ins C (putFD f v fs))) else .bad
  | _, _ => .bad
theorem ds_fld {C f : Str} {p' : Pos} (c : Cls X.K (He.ga X.K C)) (nf : NoAttr X.K (He.ga X.K C) f) (he : DE X W e ce) (ho : DE X W o co) (hs : swapsWith e (some (.Attribute o f p')) pos.line X.env = pure false := by rfl) : DS X W (.Assign [.Attribute o f p'] e pos) (sFldD C f ce co) := ps_imp (ps_fld ho he hs) fun D σ H ⟨ι, h, ρ, R, S, p⟩ => by
  refine ⟨ι, h, ρ, R, S, Post.imp (PostS.then p S) fun v H1 ⟨ι1, h1, d, x1, R1, r1, p1⟩ => ?_⟩
  refine ⟨ι1, h1, ρ, R1, S.mono x1, Post.imp (PostS.then p1 (S.mono x1)) fun o H2 ⟨ι2, h2, od, x2, R2, r2, p2⟩ => ?_⟩
  split at p2
  · rename_i fs e1
    split at p2
    · rename_i hl
      obtain ⟨n, a, dx, us, e0, rfl, g, hn, hq, rf⟩ := fieldsAt_ok R2 r2 e1
      cases e0
      have m := List.mem_of_getElem? g
      refine ⟨a, _, dx, us, rfl, hq, c, nf, by rw [← rf_len rf]; exact of_decide_eq_true hl, p2 ι2 _ σ (.chg m (nfr hq)) (R2.chg g ⟨dx, _, upd_same, (rf_put (r1.mono x2) rf).mono (.chg m (nfr hq))⟩) ((S.mono (x1.trans x2)).mono (.chg m (nfr hq)))⟩
    · exact p2.elim
  · exact p2.elim
/-! ### {} -/
def eDct0 : Env → M D := fun _ h => .ok (.obj h.length) (h ++ [.dI []])
theorem de_dct0 : DE X W (.Dict [] [] pos) eDct0 := pe_imp pe_dnewK fun σ H Q ⟨ι, h, ρ, R, S, p⟩ a ha => by
  have x2 : Ext ι H (ι.push a) (upd H a (.dK [])) := .alloc ha (upd_keep ha)
  exact p (ι.push a) _ _ x2 (R.alloc (o := .dI []) ha (upd_keep ha) (by rw [upd_same]; exact fun z => nomatch z) ⟨[], upd_same, .nil⟩) (.obj (push_at R))
end
end Dl

/-! The D layer, 12: methods of lists; built-in functions. -/
namespace Dl
open PySem PySem.Spec PyProof.Rows L2
variable [Tb]

/-! ### methods of lists -/
def lstAt (h : Hs) : D → Option (Nat × List D)
  | .obj n => (match h[n]? with
    | some (.lst xs) => some (n, xs)
    | _ => none)
  | _ => none
def eLm (f : D → List D → M D) (ca : Env → M D) (cs : Env → M (List D)) : Env → M D := fun ρ h => (ca ρ h).bind fun x h1 => match lstAt h1 x with
  | some _ => (cs ρ h1).bind fun xs h2 => f x xs h2
  | none => .bad
def appD (x : D) (ys : List D) : M D := fun h => match lstAt h x, ys with
  | some (n, xs), [y] => if decide (xs.length < 16777216) then .ok .non (h.set n (.lst (xs ++ [y]))) else .bad
  | _, _ => .bad
def extD (x : D) (ys : List D) : M D := fun h => match lstAt h x, ys with
  | some (n, xs), [y] => (match items h y with
    | some zs => if okLen (xs.length + zs.length) then .ok .non (h.set n (.lst (xs ++ zs))) else .bad
    | none => .bad)
  | _, _ => .bad
abbrev OpM (X : Cx) (r : V → List V → Hp → VK → Prop) (f : D → List D → M D) : Prop := ∀ (ι : Ix) (h : Hs) (H : Hp) (x : D) (xs : List D) (v : V) (vs : List V) (W : XK) (Q : VK), Rel X.K ι h H → RD X.K ι H x v → RDs X.K ι H xs vs → Post X.K W (RD X.K) (f x xs h) ι H Q → r v vs H Q
section
variable {K : PySem.W.Frag} {ι : Ix} {H : Hp} {h : Hs}
theorem lstAt_ok (R : Rel K ι h H) {x : D} {v : V} {n : Nat} {xs : List D} (r : RD K ι H x v) (e : lstAt h x = some (n, xs)) : ∃ a vs, v = .ref a ∧ ι.os[n]? = some a ∧ H a = some (.lst vs) ∧ RDs K ι H xs vs := by
  cases r with
  | @obj m a g =>
    have e : (match h[m]? with
    | some (.lst xs) => some (m, xs)
    | _ => none) = some (n, xs) := e
    split at e
    · rename_i ys en
      cases e
      obtain ⟨vs, h1, h2⟩ := R.at g en
      exact ⟨a, vs, rfl, g, h1, h2⟩
    · cases e
  | _ => cases e
theorem RDs.erase : ∀ {xs : List D} {us : List V} (i : Nat), RDs K ι H xs us → RDs K ι H (xs.eraseIdx i) (us.eraseIdx i)
  | _, _, _, .nil => .nil
  | _, _, 0, .cons _ r => r
  | _, _, i + 1, .cons h r => .cons h (RDs.erase i r)
end
section
variable {X : Cx}
theorem m_app : OpM X rAppend appD := by
  intro ι h H x xs v vs W Q R rx rs p
  unfold appD at p
  split at p
  · rename_i n ys y e
    obtain ⟨c, p⟩ := p.guard
    obtain ⟨a, us, rfl, g, ha, ru⟩ := lstAt_ok R rx e
    cases rs with
    | cons r rr =>
      cases rr
      have m := List.mem_of_getElem? g
      exact ⟨a, us, _, rfl, rfl, ha, by rw [sizeLine_eq, ← ru.length]; exact of_decide_eq_true c, p ι _ _ (.chg m (nfr ha)) (R.chg g ⟨_, upd_same, (ru.append (.cons r .nil)).mono (.chg m (nfr ha))⟩) .non⟩
  · exact p.elim
theorem m_ext : OpM X rExtend extD := by
  intro ι h H x xs v vs W Q R rx rs p
  unfold extD at p
  split at p
  · rename_i n ys y e
    split at p
    · rename_i zs e2
      obtain ⟨c, p⟩ := p.guard
      obtain ⟨a, us, rfl, g, ha, ru⟩ := lstAt_ok R rx e
      cases rs with
      | cons r rr =>
        cases rr
        obtain ⟨b, ws, rfl, hb, rw'⟩ := items_ok R r e2
        have m := List.mem_of_getElem? g
        exact ⟨a, b, us, ws, rfl, rfl, ha, hb, by rw [← ru.length, ← rw'.length]; exact okLen_ok c, p ι _ _ (.chg m (nfr ha)) (R.chg g ⟨_, upd_same, (ru.append rw').mono (.chg m (nfr ha))⟩) .non⟩
    · exact p.elim
  · exact p.elim
variable {W : WX} {apos cpos : Pos} {o e : Expr} {es : List Expr} {ca : Env → M D} {cs : Env → M (List D)} {name : Str} {id : String} {r : V → List V → Hp → VK → Prop} {f : D → List D → M D}
theorem de_lm (slot : Slot "list" name id) (hty : typeOf (.builtin id) = pure (.type "method_descriptor")) (hm : MtR X id r) (om : OpM X r f) (ho : DE X W o ca) (ha : DA X W (e :: es) cs)
    (hbase : attributeBase o name X.env (eval o X.env) = eval o X.env := by rfl)
    (hfew : ((backTo cpos (starEach (e :: es) X.env)).all (fun x => !x.1) && (backToKw cpos (keywordEach [] X.env)).all (fun x => x.1.isSome)
      && decide ((e :: es).length + ([] : List Keyword).length + (if ([] : List Keyword).isEmpty then 0 else 1) < 30)) = true := by rfl)
    (hline : (apos.endLine == cpos.line) = true := by rfl) (hs : starEach (e :: es) X.env = (false, eval e X.env) :: starEach es X.env := by rfl) (hplain : (backTo cpos (starEach es X.env)).any (·.1) = false := by rfl) :
    DE X W (.Call (.Attribute o name apos) (e :: es) [] cpos) (eLm f ca cs) := pe_imp (pe_bm PySem.F.plainAttrs_list slot hty hm ho ha hbase hfew hline hs hplain) fun σ H Q ⟨ι, h, ρ, R, S, p⟩ => by
  refine ⟨ι, h, ρ, R, S, Post.imp (Post.bind p) fun v H1 ⟨ι1, h1, dx, x1, R1, r1, p1⟩ => ?_⟩
  split at p1
  · rename_i q e
    obtain ⟨a, us, rfl, g, ha, ru⟩ := lstAt_ok (n := q.1) (xs := q.2) R1 r1 e
    refine ⟨.inl ⟨rfl, us, SqL.of ha⟩, ι1, h1, ρ, R1, S.mono x1, Post.imp (Post.bind p1) fun vs H2 ⟨ι2, h2, ds, x2, R2, r2, p2⟩ => ?_⟩
    exact om ι2 h2 H2 dx ds _ vs _ Q R2 (r1.mono x2) r2 p2
  · exact p1.elim
section
variable (ho : DE X W o ca) (ha : DA X W (e :: es) cs)
    (hbase : attributeBase o name X.env (eval o X.env) = eval o X.env)
theorem de_app {es : List Expr} (ho : DE X W o ca) (ha : DA X W (e :: es) cs) (hbase : attributeBase o "append" X.env (eval o X.env) = eval o X.env := by rfl)
    (hfew : ((backTo cpos (starEach (e :: es) X.env)).all (fun x => !x.1) && (backToKw cpos (keywordEach [] X.env)).all (fun x => x.1.isSome)
      && decide ((e :: es).length + ([] : List Keyword).length + (if ([] : List Keyword).isEmpty then 0 else 1) < 30)) = true := by rfl)
    (hline : (apos.endLine == cpos.line) = true := by rfl) (hs : starEach (e :: es) X.env = (false, eval e X.env) :: starEach es X.env := by rfl) (hplain : (backTo cpos (starEach es X.env)).any (·.1) = false := by rfl) :
    DE X W (.Call (.Attribute o "append" apos) (e :: es) [] cpos) (eLm appD ca cs) := de_lm PySem.F.slot_list_append PySem.F.type_list_append mt_append m_app ho ha hbase hfew hline hs hplain
theorem de_ext {es : List Expr} (ho : DE X W o ca) (ha : DA X W (e :: es) cs) (hbase : attributeBase o "extend" X.env (eval o X.env) = eval o X.env := by rfl)
    (hfew : ((backTo cpos (starEach (e :: es) X.env)).all (fun x => !x.1) && (backToKw cpos (keywordEach [] X.env)).all (fun x => x.1.isSome)
      && decide ((e :: es).length + ([] : List Keyword).length + (if ([] : List Keyword).isEmpty then 0 else 1) < 30)) = true := by rfl)
    (hline : (apos.endLine == cpos.line) = true := by rfl) (hs : starEach (e :: es) X.env = (false, eval e X.env) :: starEach es X.env := by rfl) (hplain : (backTo cpos (starEach es X.env)).any (·.1) = false := by rfl) :
    DE X W (.Call (.Attribute o "extend" apos) (e :: es) [] cpos) (eLm extD ca cs) := de_lm PySem.F.slot_list_extend PySem.F.type_list_extend mt_extend m_ext ho ha hbase hfew hline hs hplain
end
end
end Dl

/-! The D layer, 13: built-in functions. -/
namespace Dl
open PySem PySem.Spec PyProof.Rows L2
variable [Tb]

def eBf (f : List D → M D) (cs : Env → M (List D)) : Env → M D := fun ρ h => (cs ρ h).bind f
def nBf (f : List D → M (List D)) (cs : Env → M (List D)) : Env → M (List D) := fun ρ h => (cs ρ h).bind f
abbrev OpA (X : Cx) (r : List V → Hp → VK → Prop) (f : List D → M D) : Prop := ∀ (ι : Ix) (h : Hs) (H : Hp) (xs : List D) (vs : List V) (W : XK) (Q : VK), Rel X.K ι h H → RDs X.K ι H xs vs → Post X.K W (RD X.K) (f xs h) ι H Q → r vs H Q
abbrev OpF (X : Cx) (r : List V → Hp → VK → Prop) (f : List D → M (List D)) : Prop := ∀ (ι : Ix) (h : Hs) (H : Hp) (xs : List D) (vs : List V) (ιb : Ix) (Hb : Hp) (W : XK) (Q : VK), Ext ιb Hb ι H → Rel X.K ι h H → RDs X.K ι H xs vs → PostN X.K W (f xs h) ιb Hb Q → r vs H Q
section
variable {X : Cx} {W : WX} {x : Str} {p pos : Pos} {e : Expr} {es : List Expr} {cs : Env → M (List D)} {id T : String} {r : List V → Hp → VK → Prop} {f : List D → M D} {g : List D → M (List D)}
theorem w_bf (o : OpA X r f) {σ : L2.St} {H : Hp} {Q : VK} (q : wE X.K W (eBf f cs) σ H Q) : tCB r (wA X.K W cs) σ H Q := by
  obtain ⟨ι, h, ρ, R, S, p⟩ := q
  exact ⟨ι, h, ρ, R, S, Post.imp (Post.bind p) fun vs H1 ⟨ι1, h1, ds, x1, R1, r1, p1⟩ => o ι1 h1 H1 ds vs _ Q R1 r1 p1⟩
theorem w_nf (o : OpF X r g) {σ : L2.St} {H : Hp} {Q : VK} (q : wN X.K W (nBf g cs) σ H Q) : tCB r (wA X.K W cs) σ H Q := by
  obtain ⟨ι, h, ρ, R, S, p⟩ := q
  exact ⟨ι, h, ρ, R, S, Post.imp (PostN.bind p) fun vs H1 ⟨ι1, h1, ds, x1, R1, r1, p1⟩ => o ι1 h1 H1 ds vs ι H _ Q x1 R1 r1 p1⟩
theorem de_bf (o : OpA X r f) (hc : CallR X (.builtin id) r) (hg : Gl X x) (hm : X.mg x = none) (hv : bootBuiltins x = some (.builtin id)) (ha : DA X W (e :: es) cs) (hn : x ≠ "__name__" := by decide) (hdb : (x == ("__debug__" : Str)) = false := by decide)
    (he : starEach (e :: es) X.env = (false, eval e X.env) :: starEach es X.env := by rfl) (hpl : (backTo pos (starEach es X.env)).any (·.1) = false := by rfl) : DE X W (.Call (.Name x p) (e :: es) [] pos) (eBf f cs) := pe_imp (pe_callB hc hg hm hv ha hn hdb he hpl) fun _ _ _ q => w_bf o q
theorem de_tf (o : OpA X r f) (hc : CallR X (.type T) r) (hg : Gl X x) (hm : X.mg x = none) (hv : bootBuiltins x = some (.type T)) (ha : DA X W (e :: es) cs) (hn : x ≠ "__name__" := by decide) (hdb : (x == ("__debug__" : Str)) = false := by decide)
    (he : starEach (e :: es) X.env = (false, eval e X.env) :: starEach es X.env := by rfl) (hpl : (backTo pos (starEach es X.env)).any (·.1) = false := by rfl) : DE X W (.Call (.Name x p) (e :: es) [] pos) (eBf f cs) := pe_imp (pe_callTy hc hg hm hv ha hn hdb he hpl) fun _ _ _ q => w_bf o q
theorem dn_bf (o : OpF X r g) (hc : CallR X (.builtin id) r) (hg : Gl X x) (hm : X.mg x = none) (hv : bootBuiltins x = some (.builtin id)) (ha : DA X W (e :: es) cs) (hn : x ≠ "__name__" := by decide) (hdb : (x == ("__debug__" : Str)) = false := by decide)
    (he : starEach (e :: es) X.env = (false, eval e X.env) :: starEach es X.env := by rfl) (hpl : (backTo pos (starEach es X.env)).any (·.1) = false := by rfl) : DN X W (.Call (.Name x p) (e :: es) [] pos) (nBf g cs) := pe_imp (pe_callB hc hg hm hv ha hn hdb he hpl) fun _ _ _ q => w_nf o q
end

/-! ### what they compute -/
def lenD (xs : List D) : M D := fun h => match xs with
  | [.str z] => if okLen z.length then .ok (.int z.length) h else .bad
  | [.scr ns] => .ok (.int ns.length) h
  | [x] => (match seqOf h x with
    | some ys => .ok (.int ys.length) h
    | none => (match x with
      | .obj n => (match h[n]? with
        | some (.dI kvs) => .ok (.int kvs.length) h
        | _ => .bad)
      | _ => .bad))
  | _ => .bad
def absD (xs : List D) : M D := fun h => match xs with
  | [.int i] => .ok (.int (if i < 0 then -i else i)) h
  | _ => .bad
def intD (xs : List D) : M D := fun h => match xs with
  | [.int i] => .ok (.int i) h
  | [.bl k] => .ok (.int (if k then 1 else 0)) h
  | _ => .bad
def allInt : List D → Option (List Int)
  | [] => some []
  | .int i :: xs => (allInt xs).map (i :: ·)
  | _ :: _ => none
def allBl : List D → Option (List Bool)
  | [] => some []
  | .bl i :: xs => (allBl xs).map (i :: ·)
  | _ :: _ => none
def maxI : Int → List Int → Int
  | m, [] => m
  | m, x :: xs => maxI (if x > m then x else m) xs
def maxD (xs : List D) : M D := fun h => match xs with
  | [.int i, .int j] => .ok (.int (if j > i then j else i)) h
  | [x] => (match (items h x).bind allInt with
    | some (n :: ns) => .ok (.int (maxI n ns)) h
    | _ => .bad)
  | _ => .bad
def allD (xs : List D) : M D := fun h => match xs with
  | [x] => (match (items h x).bind allBl with
    | some bs => .ok (.bl (bs.all id)) h
    | none => .bad)
  | _ => .bad
def anyD (xs : List D) : M D := fun h => match xs with
  | [x] => (match (items h x).bind allBl with
    | some bs => .ok (.bl (bs.any id)) h
    | none => .bad)
  | _ => .bad
def tupD (xs : List D) : M D := fun h => match xs with
  | [.tup ys] => .ok (.tup ys) h
  | [x] => (match items h x with
    | some ys => .ok (.tup ys) h
    | none => .bad)
  | _ => .bad
section
variable {K : PySem.W.Frag} {ι : Ix} {H : Hp} {h : Hs}
theorem RDs.one {x : D} {vs : List V} (r : RDs K ι H [x] vs) : ∃ v, vs = [v] ∧ RD K ι H x v := by
  cases r with
  | cons r rr => cases rr; exact ⟨_, rfl, r⟩
theorem RDs.two {x y : D} {vs : List V} (r : RDs K ι H [x, y] vs) : ∃ v u, vs = [v, u] ∧ RD K ι H x v ∧ RD K ι H y u := by
  cases r with
  | cons r rr => obtain ⟨u, rfl, r'⟩ := rr.one; exact ⟨_, _, rfl, r, r'⟩
theorem allInt_rd : ∀ {xs : List D} {vs : List V} {ns : List Int}, RDs K ι H xs vs → allInt xs = some ns → vs = ns.map V.int
  | [], _, _, .nil, e => by cases e; rfl
  | .int i :: xs, _, ns, .cons r rr, e => by
    obtain ⟨ms, e1, e2⟩ := Option.map_eq_some_iff.mp (show (allInt xs).map (i :: ·) = some ns from e)
    subst e2
    cases r
    rw [allInt_rd rr e1]
    rfl
  | .non :: _, _, _, _, e => by cases e
  | .bl _ :: _, _, _, _, e => by cases e
  | .str _ :: _, _, _, _, e => by cases e
  | .ty _ :: _, _, _, _, e => by cases e
  | .glo _ :: _, _, _, _, e => by cases e
  | .tup _ :: _, _, _, _, e => by cases e
  | .lst _ :: _, _, _, _, e => by cases e
  | .obj _ :: _, _, _, _, e => by cases e
  | .scr _ :: _, _, _, _, e => by cases e
theorem allBl_rd : ∀ {xs : List D} {vs : List V} {ns : List Bool}, RDs K ι H xs vs → allBl xs = some ns → vs = ns.map V.bl
  | [], _, _, .nil, e => by cases e; rfl
  | .bl i :: xs, _, ns, .cons r rr, e => by
    obtain ⟨ms, e1, e2⟩ := Option.map_eq_some_iff.mp (show (allBl xs).map (i :: ·) = some ns from e)
    subst e2
    cases r
    rw [allBl_rd rr e1]
    rfl
  | .non :: _, _, _, _, e => by cases e
  | .int _ :: _, _, _, _, e => by cases e
  | .str _ :: _, _, _, _, e => by cases e
  | .ty _ :: _, _, _, _, e => by cases e
  | .glo _ :: _, _, _, _, e => by cases e
  | .tup _ :: _, _, _, _, e => by cases e
  | .lst _ :: _, _, _, _, e => by cases e
  | .obj _ :: _, _, _, _, e => by cases e
  | .scr _ :: _, _, _, _, e => by cases e
theorem ints_of (R : Rel K ι h H) {x : D} {v : V} {ns : List Int} (r : RD K ι H x v) (e : (items h x).bind allInt = some ns) : ∃ a, v = .ref a ∧ SqL K H a (ns.map V.int) := by
  obtain ⟨xs, e1, e2⟩ := Option.bind_eq_some_iff.mp e
  obtain ⟨a, vs, rfl, ha, rv⟩ := items_ok R r e1
  rw [allInt_rd rv e2] at ha
  exact ⟨a, rfl, SqL.of ha⟩
theorem bls_of (R : Rel K ι h H) {x : D} {v : V} {ns : List Bool} (r : RD K ι H x v) (e : (items h x).bind allBl = some ns) : ∃ a, v = .ref a ∧ SqL K H a (ns.map V.bl) := by
  obtain ⟨xs, e1, e2⟩ := Option.bind_eq_some_iff.mp e
  obtain ⟨a, vs, rfl, ha, rv⟩ := items_ok R r e1
  rw [allBl_rd rv e2] at ha
  exact ⟨a, rfl, SqL.of ha⟩
theorem maxI_ge : ∀ (xs : List Int) (m : Int), m ≤ maxI m xs ∧ (∀ y ∈ xs, y ≤ maxI m xs) ∧ (maxI m xs = m ∨ maxI m xs ∈ xs)
  | [], m => ⟨Int.le_refl _, by simp, .inl rfl⟩
  | x :: xs, m => by
    obtain ⟨h1, h2, h3⟩ := maxI_ge xs (if x > m then x else m)
    show m ≤ maxI (if x > m then x else m) xs ∧ (∀ y ∈ x :: xs, y ≤ maxI (if x > m then x else m) xs) ∧ (maxI (if x > m then x else m) xs = m ∨ maxI (if x > m then x else m) xs ∈ x :: xs)
    generalize maxI (if x > m then x else m) xs = k at *
    refine ⟨?_, ?_, ?_⟩
    · split at h1 <;> omega
    · intro y hy
      rcases List.mem_cons.mp hy with e | e
      · subst e; split at h1 <;> omega
      · exact h2 y e
    · rcases h3 with e | e
      · rw [e]
        split
        · exact .inr List.mem_cons_self
        · exact .inl rfl
      · exact .inr (List.mem_cons_of_mem _ e)
end
section
variable {X : Cx}
abbrev rLen (K : PySem.W.Frag) : List V → Hp → VK → Prop := fun xs H Q => (∃ x n, xs = [x] ∧ LenV K x H n ∧ Q (.int n) H) ∨ (∃ a kvs, xs = [V.ref a] ∧ H a = some (.dK kvs) ∧ Q (.int kvs.length) H)
theorem c_len : CallR X (.builtin "len") (rLen X.K) := CallR.or call_len call_lenD
theorem o_len : OpA X (rLen X.K) lenD := by
  intro ι h H xs vs W Q R rs p
  unfold lenD at p
  split at p
  · obtain ⟨c, p⟩ := p.guard
    obtain ⟨v, rfl, r⟩ := rs.one
    cases r
    exact .inl ⟨_, _, rfl, ⟨okLen_ok c, rfl⟩, p.ok R (.int _)⟩
  · obtain ⟨v, rfl, r⟩ := rs.one
    cases r with
    | scr t => exact .inl ⟨_, _, rfl, .inl ⟨_, t.sq, rfl⟩, by rw [List.length_map]; exact p.ok R (.int _)⟩
  · obtain ⟨v, rfl, r⟩ := rs.one
    split at p
    · rename_i e
      obtain ⟨a, us, rfl, q, ru⟩ := seqOf_ok R r e
      rcases q with q | q
      · exact .inl ⟨_, _, rfl, .inl ⟨_, q, rfl⟩, by rw [← ru.length]; exact p.ok R (.int _)⟩
      · exact .inl ⟨_, _, rfl, .inr ⟨_, q, rfl⟩, by rw [← ru.length]; exact p.ok R (.int _)⟩
    · split at p
      · split at p
        · rename_i e
          cases r with
          | obj g =>
            obtain ⟨us, h1, h2⟩ := R.at g e
            exact .inr ⟨_, us, rfl, h1, by rw [← rf_len h2]; exact p.ok R (.int _)⟩
        · exact p.elim
      · exact p.elim
  · exact p.elim
abbrev rAbs : List V → Hp → VK → Prop := fun xs H Q => ∃ i, xs = [.int i] ∧ Q (.int (if i < 0 then -i else i)) H
theorem o_abs : OpA X rAbs absD := by
  intro ι h H xs vs W Q R rs p
  unfold absD at p
  split at p
  · obtain ⟨v, rfl, r⟩ := rs.one
    cases r
    exact ⟨_, rfl, p.ok R (.int _)⟩
  · exact p.elim
abbrev rInt : List V → Hp → VK → Prop := fun xs H Q => (∃ i, xs = [.int i] ∧ Q (.int i) H) ∨ ∃ k, xs = [.bl k] ∧ Q (.int (if k then 1 else 0)) H
theorem o_int : OpA X rInt intD := by
  intro ι h H xs vs W Q R rs p
  unfold intD at p
  split at p
  · obtain ⟨v, rfl, r⟩ := rs.one
    cases r
    exact .inl ⟨_, rfl, p.ok R (.int _)⟩
  · obtain ⟨v, rfl, r⟩ := rs.one
    cases r
    exact .inr ⟨_, rfl, p.ok R (.int _)⟩
  · exact p.elim
abbrev rMaxs (K : PySem.W.Frag) : List V → Hp → VK → Prop := fun xs H Q => (∃ i j, xs = [.int i, .int j] ∧ Q (.int (if j > i then j else i)) H) ∨ rMax K xs H Q
theorem c_max (hc : X.calm = true) : CallR X (.builtin "max") (rMaxs X.K) := CallR.or (call_max2 hc) (cr_max hc)
theorem o_max : OpA X (rMaxs X.K) maxD := by
  intro ι h H xs vs W Q R rs p
  unfold maxD at p
  split at p
  · obtain ⟨v, u, rfl, r, r'⟩ := rs.two
    cases r
    cases r'
    exact .inl ⟨_, _, rfl, p.ok R (.int _)⟩
  · obtain ⟨v, rfl, r⟩ := rs.one
    split at p
    · rename_i n ns e
      obtain ⟨a, rfl, q⟩ := ints_of R r e
      obtain ⟨g1, g2, g3⟩ := maxI_ge ns n
      refine .inr ⟨a, n :: ns, rfl, q, Nat.succ_pos _, fun m hm hy => ?_⟩
      have e1 : m = maxI n ns := by
        have z1 : maxI n ns ≤ m := by
          rcases g3 with z | z
          · rw [z]; exact hy n List.mem_cons_self
          · exact hy _ (List.mem_cons_of_mem _ z)
        have z2 : m ≤ maxI n ns := by
          rcases List.mem_cons.mp hm with z | z
          · rw [z]; exact g1
          · exact g2 m z
        omega
      rw [e1]
      exact p.ok R (.int _)
    · exact p.elim
  · exact p.elim
theorem o_all : OpA X (rAll X.K) allD := by
  intro ι h H xs vs W Q R rs p
  unfold allD at p
  split at p
  · obtain ⟨v, rfl, r⟩ := rs.one
    split at p
    · rename_i e
      obtain ⟨a, rfl, q⟩ := bls_of R r e
      exact ⟨a, _, rfl, q, p.ok R (.bl _)⟩
    · exact p.elim
  · exact p.elim
theorem o_any : OpA X (rAny X.K) anyD := by
  intro ι h H xs vs W Q R rs p
  unfold anyD at p
  split at p
  · obtain ⟨v, rfl, r⟩ := rs.one
    split at p
    · rename_i e
      obtain ⟨a, rfl, q⟩ := bls_of R r e
      exact ⟨a, _, rfl, q, p.ok R (.bl _)⟩
    · exact p.elim
  · exact p.elim
abbrev rTup (K : PySem.W.Frag) : List V → Hp → VK → Prop := fun xs H Q => ∃ p ys, xs = [.ref p] ∧ ((SqL K H p ys ∧ ∀ l, H l = none → Q (.ref l) (upd H l (.tup ys))) ∨ (SqT K H p ys ∧ Q (.ref p) H))
theorem o_tup : OpA X (rTup X.K) tupD := by
  intro ι h H xs vs W Q R rs p
  unfold tupD at p
  split at p
  · obtain ⟨v, rfl, r⟩ := rs.one
    cases r with
    | tup t q => exact ⟨_, _, rfl, .inr ⟨t.sq, p.ok R (.tup t q)⟩⟩
  · obtain ⟨v, rfl, r⟩ := rs.one
    split at p
    · rename_i e
      obtain ⟨a, us, rfl, ha, ru⟩ := items_ok R r e
      exact ⟨a, us, rfl, .inl ⟨SqL.of ha, fun l hl => p.tup R ru hl⟩⟩
    · exact p.elim
  · exact p.elim
end
end Dl

/-! The D layer, 14: a def by its body; a law's end; the head's hook. -/
namespace Dl
open PySem PySem.Spec PyProof.Rows L2
variable [Tb]

/-- a def: the slots at its entry, what its body gives -/
def ent (n : Nat) (ds : List D) : Env := ds.map some ++ List.replicate (n - ds.length) none
def mOf (r : SR) : R D := match r with
  | .ret d h => .ok d h
  | .nx _ h => .ok .non h
  | .exc _ C fs h => .exc C fs h
  | _ => .bad
def mDef (n : Nat) (body : SM) : List D → M D := fun ds h => mOf (body (ent n ds) h)
theorem ent_rs {K : PySem.W.Frag} {ι : Ix} {H : Hp} {N : List Str} {ds : List D} {vs : List V} (r : RDs K ι H ds vs) : RS K ι H (ent N.length ds) (start N vs) := by
  have hl := r.length
  refine ⟨?_, fun i d e => ?_⟩
  · unfold ent L2.start
    rw [List.length_append, List.length_append, List.length_map, List.length_map, List.length_replicate, List.length_replicate, hl]
  · unfold ent at e
    by_cases hi : i < ds.length
    · rw [List.getElem?_append_left (by rw [List.length_map]; exact hi), List.getElem?_map] at e
      obtain ⟨d', e1, e2⟩ := Option.map_eq_some_iff.mp e
      cases e2
      obtain ⟨v, h1, h2⟩ := r.get e1
      refine ⟨v, ?_, h2⟩
      unfold L2.start
      rw [List.getElem?_append_left (by rw [List.length_map, ← hl]; exact hi), List.getElem?_map, h1]
      rfl
    · rw [List.getElem?_append_right (by rw [List.length_map]; omega), List.getElem?_replicate] at e
      split at e <;> cases e
section
variable {P : Program} {w : World} {K : PySem.W.Frag} {mg : Str → Option Value} {base : Heap}
/-- a function's code object, its table of code objects -/
def codeA (K : PySem.W.Frag) (f : Addr) : Addr := match K.lookup f with
  | some ⟨_, _, .func fd, _⟩ => (match fd.code with
    | .ref c => c
    | _ => 0)
  | _ => 0
def tabA (K : PySem.W.Frag) (f : Addr) : Addr := match K.lookup (codeA K f) with
  | some ⟨_, _, .fields vs, _⟩ => (match (vs[11]? : Option Value) with
    | some (Value.ref P) => P
    | _ => 0)
  | _ => 0
theorem code_is {x qual : Str} {params : Arguments} {body : List Stmt} {scope : Scope} {f : Addr} {oc dV kV doc pm cdv ct : Value} {od an : Option Addr} {osl : Array (Option Value)} (lk : K.lookup f = some ⟨oc, od, .func (PySem.W.fnOf x qual params body scope dV kV doc pm an cdv ct), osl⟩) (hcd : PySem.W.codeIn K cdv qual = true) : cdv = .ref (codeA K f) := by
  unfold PySem.W.codeIn at hcd
  split at hcd
  · unfold codeA
    rw [lk]
  · cases hcd
/-- the rule for a def: the context is its body's, no repr is under way -/
theorem fnG_of {x qual : Str} {params : Arguments} {body : List Stmt} {scope : Scope} {f : Addr} {fd : FuncData} {N ps : List Str} {k : Nat} {sp : Sp} (F : FunD K x qual params body scope [] [] f fd) (S : FnScope N ps scope) (len : ∀ vs H Q E, sp vs H Q E → vs.length = ps.length)
    (hb : ∀ (cdv : Value) (A : Around) (outer : List PySem.Env) (s : Shared) (H : Hp) (vs : List V) (Q : VK) (E : XK), cdv = .ref (codeA K f) → Room k (A.deeper (envOfC qual scope s.heap.objs.size f cdv)) → A.guards = some [] → sp vs H Q E →
      ∃ t, PSs (cxOf (L2.CX P w) P w K mg base N qual scope f cdv A outer s H E) body t ∧ t { nx := fun _ H' => Q .non H', rt := Q } (start N vs) H) : FnG P w K mg base (L2.CX P w) (k + 1) f fd ps sp := by
  obtain ⟨oc, od, dV, kV, doc, pm, an, cdv, ct, osl, rfl, lk, hcd, _, _⟩ := F.ex
  refine ⟨len, fun A outer s H args us vs Q E hr gd e0 bt r hsp => ?_⟩
  have hl := len _ _ _ _ hsp
  have KX : K.In s.heap := e0.mod.kin.keeps fun b o e => (e0.bs b o e).1
  have lim : s.heap.NoLimit := e0.mod.nolimit.keeps fun b o e => (e0.bs b o e).1
  have hk : ∀ y ∈ ps.zip us, scope.names.lookup y.1 = some .local ∨ (scope.names.lookup y.1 = some .cell ∧ ((cellsFrom (s.heap.objs.size + 1) scope.names []).lookup y.1).isSome = true) := by
    rintro ⟨n, v⟩ hy
    have hp := S.par n (List.of_mem_zip hy).1
    exact hp.imp id fun q => ⟨q, PySem.W.cellsFrom_some _ _ _ (.inl q)⟩
  refine codeAny_call_function hr.depth (KX _ _ lk) rfl S.co S.gen rfl (PySem.W.codeRec_of KX hcd) (bt _ _ _ _ ?_)
  refine wpAny_newFunctionEnv_cells S.kind hk fun env he s1 ic => ?_
  subst he
  refine ⟨lim.keeps ic.toInCall.keep, codeAny_func ?_⟩
  obtain ⟨t, ht, hq⟩ := hb cdv A outer s H vs Q E (code_is lk hcd) (hr.deeper _) gd hsp
  have I := inv_start (CX := L2.CX P w) (E := E) S hr.hd e0 hl r ic
  refine wpAny_mono (ht.run [] s1 (start N vs) H _ I hq) (fun fl s' hs => ?_) fun _ _ hs => hs
  cases fl with
  | ret u =>
    obtain ⟨v, σ', H', J, rv, q⟩ := hs
    exact ⟨v, H', J.os, J.bare, J.base, J.hok, rv, q⟩
  | next =>
    obtain ⟨σ', H', J, q⟩ := hs
    exact ⟨.non, H', J.os, J.bare, J.base, J.hok, rfl, q⟩
  | brk => exact (show False from hs.elim fun _ z => z.elim fun _ z => z.2).elim
  | cont => exact (show False from hs.elim fun _ z => z.elim fun _ z => z.2).elim
/-- a def of the D layer -/
theorem fnD_ofC {x qual : Str} {params : Arguments} {body : List Stmt} {scope : Scope} {f : Addr} {fd : FuncData} {N ps : List Str} {k n : Nat} {c : SM} (F : FunD K x qual params body scope [] [] f fd) (S : FnScope N ps scope) (hn : ps.length = n) (b : Binds K fd ps [])
    (hb : ∀ (cdv : Value) (A : Around) (outer : List PySem.Env) (s : Shared) (H : Hp) (E : XK), cdv = .ref (codeA K f) → Room k (A.deeper (envOfC qual scope s.heap.objs.size f cdv)) → A.guards = some [] →
      DSs (cxOf (L2.CX P w) P w K mg base N qual scope f cdv A outer s H E) (fun cls d _ H => E cls d H) body c) : FnD P w K mg base (k + 1) f n (mDef N.length c) := by
  refine ⟨fd, ps, fnG_of F S (fun vs H Q E h => h.1.trans hn.symm) (fun cdv A outer s H vs Q E ec hr gd h => ⟨_, hb cdv A outer s H E ec hr gd, ?_⟩), b, F.kp⟩
  obtain ⟨_, ι, h0, ds, R, r, p⟩ := h
  refine ⟨ι, h0, ent N.length ds, R, ent_rs r, ?_⟩
  show PostS K _ (c (ent N.length ds) h0) ι H _
  unfold mDef at p
  cases q : c (ent N.length ds) h0 with
  | nx ρ h => rw [q] at p; exact fun ι' H' σ' e R' S' => p ι' H' .non e R' .non
  | ret d h => rw [q] at p; exact p
  | bk ρ h => rw [q] at p; exact p.elim
  | ct ρ h => rw [q] at p; exact p.elim
  | exc ρ C fs h => rw [q] at p; exact fun ι' H' od σ' e R' S' x => p ι' H' od e R' x
  | bad => rw [q] at p; exact p
theorem fnD_of {x qual : Str} {params : Arguments} {body : List Stmt} {scope : Scope} {f : Addr} {fd : FuncData} {N ps : List Str} {k n : Nat} {c : SM} (F : FunD K x qual params body scope [] [] f fd) (S : FnScope N ps scope) (hn : ps.length = n) (b : Binds K fd ps [])
    (hb : ∀ (cdv : Value) (A : Around) (outer : List PySem.Env) (s : Shared) (H : Hp) (E : XK), Room k (A.deeper (envOfC qual scope s.heap.objs.size f cdv)) → A.guards = some [] →
      DSs (cxOf (L2.CX P w) P w K mg base N qual scope f cdv A outer s H E) (fun cls d _ H => E cls d H) body c) : FnD P w K mg base (k + 1) f n (mDef N.length c) := fnD_ofC F S hn b fun cdv A outer s H E _ hr gd => hb cdv A outer s H E hr gd
end

/-! ### the law -/
theorem call_law {P : Program} {w : World} {K : PySem.W.Frag} {mg mb : Str → Option Value} {k : Nat} {fa a : Addr} {m : List D → M D} {s₁ : Shared} {vs : List Value} {ns : List Int}
    (KX : K.In s₁.heap) (hns : s₁.heap.Ns mainGlobals mg) (hb : s₁.heap.Ns builtinsNs mb) (hbb : ∀ x : Str, x ≠ "__name__" → mb x = bootBuiltins x) (hlim : s₁.heap.NoLimit) (hg : s₁.gens = #[])
    (ha : s₁.heap.get? a = some { cls := .type "list", data := .seq vs.toArray }) (hi : IntsAre vs ns) (hl : ns.length ≤ sizeLine) (hr : Room k callerA)
    (noT : Tb.ts K = []) (F : ∀ base : Heap, K.In base → base.Ns mainGlobals mg → FnD P w K mg base k fa 1 m) (hm : ∃ h', m [.scr ns] [] = .ok (.bl true) h') :
    codeAny (model P w) callerA (.call (.ref fa) ⟨[.ref a], []⟩) (fun r s' => r = .ok (.ret (.bool true)) ∧ OldK s₁.heap s'.heap ∧ s'.os = s₁.os ∧ AllBare s'.gens) s₁ := by
  have rv := vals_ints hi
  have lv := hi.length
  have core : ∀ H : Hp, Only H → SqL K H a (ns.map V.int) → HOk P w H s₁.heap → (∀ b, H b ≠ none → b = a) → (H a ≠ none → K.lookup a = none) →
      codeAny (model P w) callerA (.call (.ref fa) ⟨[.ref a], []⟩) (fun r s' => r = .ok (.ret (.bool true)) ∧ OldK s₁.heap s'.heap ∧ s'.os = s₁.os ∧ AllBare s'.gens) s₁ := by
    intro H hO hS hok hA hK
    have at0 : ∀ {b : Addr} {o : Obj}, s₁.heap.get? b = some o → H b = none → (hidT s₁.heap H).get? b = some o := fun e n => hidT_get e n
    have free : ∀ b, b ≠ a → H b = none := fun b n => by
      cases q : H b with
      | none => rfl
      | some u => exact absurd (hA b (by rw [q]; exact fun z => nomatch z)) n
    have noA : ∀ {b : Addr} {o : Obj} {es : Array DictEntry} {ep : Nat}, s₁.heap.get? b = some o → o.data = .dict es ep → H b = none := fun {b o es ep} e d => free b fun z => by
      rw [z, ha] at e
      cases e
      cases d
    have ns' : ∀ {b : Addr} {m : Str → Option Value}, s₁.heap.Ns b m → (hidT s₁.heap H).Ns b m := fun ⟨o, es, ep, e, d, r⟩ => ⟨o, es, ep, at0 e (noA e d), d, r⟩
    have hKb : K.In (hidT s₁.heap H) := fun b o e => at0 (KX b o e) (by
      by_cases z : b = a
      · subst z
        cases q : H b with
        | none => rfl
        | some u => rw [hK (by rw [q]; exact fun z => nomatch z)] at e; cases e
      · exact free b z)
    have hM : Mod K mg (hidT s₁.heap H) := ⟨hKb, ns' hns, ⟨mb, ns' hb, hbb⟩, hlim.imp fun mc z => ⟨ns' z.1, z.2⟩⟩
    have e0 : Env0 P w K mg (hidT s₁.heap H) callerA [] s₁ H := ⟨rfl, hM, fun b o e => of_hidT e, Nat.le_of_eq (hidT_size _ _), trivial, fun b hb => (List.not_mem_nil hb).elim, hok, .of_eq hg⟩
    obtain ⟨fd, ps, G, bd, _⟩ := F _ hKb (ns' hns)
    obtain ⟨h', em⟩ := hm
    have sp : spD K 1 m [.ref a] H (fun v _ => v = .bl true) fun _ _ _ => False := by
      refine ⟨rfl, ⟨[], []⟩, [], [.scr ns], ⟨rfl, List.nodup_nil, fun n b o e => (by cases e), fun b hb => (List.not_mem_nil hb).elim, fun q m => by rw [noT] at m; exact (List.not_mem_nil m).elim⟩, .cons (.scr ?_) .nil, ?_⟩
      · rcases hS with z | z
        · exact .inl ⟨⟨List.not_mem_nil, List.not_mem_nil⟩, z⟩
        · exact .inr z
      · rw [em]
        intro ι' H' b _ _ r
        cases r
        rfl
    have hlen : ps.length = 1 := (G.len _ _ _ _ sp).symm
    have bt : BindsTo s₁ fd ⟨[.ref a], []⟩ (ps.zip [.ref a]) := by
      have z := bd s₁ [.ref a] KX (by rw [List.append_nil]; exact hlen.symm)
      rwa [List.append_nil] at z
    refine codeAny_mono (G.run callerA [] s₁ H ⟨[.ref a], []⟩ [.ref a] [.ref a] _ _ hr rfl e0 bt (.cons rfl .nil) sp) fun r s' h => ?_
    cases r with
    | error e =>
      obtain ⟨_, _, _, _, _, _, _, _, _, _, _, _, z⟩ := h
      exact z.elim
    | ok fl =>
      cases fl with
      | next => exact False.elim h
      | brk => exact False.elim h
      | cont => exact False.elim h
      | ret u =>
        obtain ⟨v, H', os, bare, un, hok', r', q⟩ := h
        have q' : v = .bl true := q
        subst q'
        obtain rfl : u = Value.bool true := r'
        refine ⟨rfl, OldK.of_keep fun b o e => ?_, os, bare⟩
        cases q : H b with
        | none => exact un.keep b o e q List.not_mem_nil List.not_mem_nil
        | some u =>
          rcases hO b with z | ⟨ob, xs, z⟩
          · rw [q] at z; cases z
          · obtain ⟨e1, _⟩ := hok b _ z
            obtain ⟨e2, _⟩ := hok' b _ (un.frzs b ob _ z)
            rw [e] at e1; cases e1
            exact e2
  cases hk : K.lookup a with
  | some o =>
    have e := KX a o hk
    rw [ha] at e
    cases e
    exact core (fun _ => none) (fun _ => .inl rfl) (.inr ⟨_, vs.toArray, _, hk, rfl, rfl, rfl, by rw [List.size_toArray, lv]; exact hl, by simpa using rv⟩) (fun b u z => nomatch (show (none : Option HO) = some u from z)) (fun b z => absurd rfl z) fun z => absurd rfl z
  | none =>
    have at1 : ∀ b, b ≠ a → (if b = a then some (HO.frz { cls := .type "list", data := .seq vs.toArray } (.lst (ns.map V.int))) else none) = none := fun b n => if_neg n
    refine core (fun b => if b = a then some (.frz { cls := .type "list", data := .seq vs.toArray } (.lst (ns.map V.int))) else none) (fun b => ?_) (.inl (.inr ⟨{ cls := .type "list", data := .seq vs.toArray }, if_pos rfl⟩)) (fun b u z => ?_) (fun b z => ?_) fun _ => hk
    · by_cases n : b = a
      · exact .inr ⟨_, _, if_pos n⟩
      · exact .inl (at1 b n)
    · by_cases n : b = a
      · have z' := (if_pos n).symm.trans z
        cases z'
        subst n
        exact ⟨ha, by rw [List.length_map]; exact hl, vs, _, rv, ha⟩
      · have z' := (at1 b n).symm.trans z
        cases z'
    · by_cases n : b = a
      · exact n
      · exact absurd (at1 b n) z
/-- the end: the law's def keeps its promise over every base; its own computation answers true at every script -/
theorem walk_law {l : PySem.W.OpenLaw} {n k : Nat} {q : Program} {loose : List Str} {XP : (Str → Option Value) → Heap → Prop} {YP : World → Heap → Prop} {d : DefRec} {m : List D → M D}
    (noT : ∀ K, Tb.ts K = []) (hn : l.most = some n) (hn2 : n ≤ sizeLine) (hdf : d.params.defaults = []) (hr : Room k callerA)
    (F : ∀ (w : World) (mg : Str → Option Value) (fa : Addr) (h : Heap), YP w h → h.Ns mainGlobals mg → mg d.name = some (.ref fa) →
      ∃ K : PySem.W.Frag, K.In h ∧ ∀ base : Heap, K.In base → base.Ns mainGlobals mg → FnD l.prog w K mg base k fa 1 m)
    (hm : ∀ ns : List Int, ns.length ≤ n → (∀ z ∈ ns, Builtin.Int.intBits z ≤ 1048576) → ∃ h', m [.scr ns] [] = .ok (.bl true) h') :
    PySem.W.WalkO q loose XP YP l.row.toRowW d [] (fun f vs => PySem.call f vs) := by
  refine Att.attach_callB hn hdf fun w s₀ s₁ mg mb fa o pm cd doc a vs ns G Y ho hd hcd hmg hobj hints hlen hbits hg => ?_
  obtain ⟨K, KX, hF⟩ := F w mg fa _ Y G.T.g hmg
  exact call_law KX G.T.g G.T.b G.T.builtins G.T.nolimit hg hobj hints (Nat.le_trans hlen hn2) hr (noT K) hF (hm ns hlen hbits)

/-! ### the head's hook: defs, facts, one more -/
abbrev AlE : Type := He.AlD × Bool
def obsE (n : Nat) (fa : List He.Fa) (fn : List He.DefD) (ex : PySem.W.Frag → Bool) (g : Addr → Option Obj) : AlE := (He.obsD fa fn (He.frG g (He.asD g n)), ex (He.frG g (He.asD g n)))
def valE (fn : List He.DefD) : AlE := (He.valD fn, true)
structure SaysE (fa : List He.Fa) (fn : List He.DefD) (ex : PySem.W.Frag → Bool) (K : PySem.W.Frag) : Prop where
  d : He.SaysD fa fn K
  e : ex K = true
def hookE (n : Nat) (fa : List He.Fa) (fn : List He.DefD) (ex : PySem.W.Frag → Bool) : PySem.W.Hook where
  α := AlE
  obs := fun s => obsE n fa fn ex s.heap.get?
  val := fun _ => valE fn
  says := fun _ h => ∃ K : PySem.W.Frag, K.In h ∧ SaysE fa fn ex K
  of := fun _ _ e => ⟨_, He.frG_in, congrArg (fun z : AlE => z.1) e, congrArg (fun z : AlE => z.2) e⟩
  keeps := fun _ _ _ ⟨K, hK, c⟩ k => ⟨K, PySem.W.Frag.In.keeps hK k, c⟩
theorem obsE_eq {n : Nat} {fa : List He.Fa} {fn : List He.DefD} {ex : PySem.W.Frag → Bool} {g : Addr → Option Obj} {s : Shared} (h : ∀ a, g a = s.heap.get? a) : obsE n fa fn ex g = (hookE n fa fn ex).obs s := by
  have e : g = s.heap.get? := funext h
  rw [e] <;> rfl
/-- a def's parameters bind -/
theorem binds_of {K : PySem.W.Frag} {x qual : Str} {params : Arguments} {body : List Stmt} {scope : Scope} {f : Addr} {fd : FuncData} {ps : List Str} (F : FunD K x qual params body scope [] [] f fd)
    (h : ∀ (kV doc pm : Value) (an : Option Addr) (cdv ct : Value) (us : List Value), us.length = ps.length → bindArgs (PySem.W.fnOf x qual params body scope .none kV doc pm an cdv ct) ⟨us, []⟩ = pure (ps.zip us)) : Binds K fd ps [] := F.bindsN h
end Dl

/-! The D layer, 15: isinstance, truth. -/
namespace Dl
open PySem PySem.Spec PyProof.Rows L2
variable [Tb]

/-! ### isinstance -/
inductive Tg where
  | b (n : String) | o (C : Str)
deriving DecidableEq
def tgV (K : PySem.W.Frag) : Tg → Value
  | .b n => .type n
  | .o C => .ref (He.ga K C)
def tagOf (h : Hs) : D → Option Tg
  | .non => some (.b "NoneType")
  | .bl _ => some (.b "bool")
  | .int _ => some (.b "int")
  | .str _ => some (.b "str")
  | .tup _ => some (.b "tuple")
  | .lst _ => some (.b "list")
  | .scr _ => some (.b "list")
  | .obj n => (match h[n]? with
    | some (.lst _) => some (.b "list")
    | some (.dI _) => some (.b "dict")
    | some (.ins C _) => some (.o C)
    | _ => none)
  | _ => none
def clsOf : D → Option Tg
  | .ty n => some (.b n)
  | .glo C => some (.o C)
  | _ => none
def tyNames : List String := ["NoneType", "bool", "int", "str", "list", "tuple", "dict"]
/-- the built-in types among themselves; what involves an own class stands in a table -/
def kit (own : List (Tg × Tg × Bool)) (t u : Tg) : Option Bool := match t, u with
  | .b a, .b c => if tyNames.contains a && tyNames.contains c then some (a == c || (a == "bool" && c == "int")) else none
  | t, u => (own.find? fun p => decide (p.1 = t ∧ p.2.1 = u)).map (·.2.2)
/-- what the table needs of the module -/
structure InsF (K : PySem.W.Frag) (C : Str) : Prop where
  cl : Cls K (He.ga K C)
  ha : PySem.W.findIn K (.ref (He.ga K C)) "__class__" = some (some (.builtin "object.__class__"))
  hn : PySem.W.specialIn K (.builtin "object.__class__") "__get__" = some (some (.builtin "getset_descriptor.__get__"))
  ht : PySem.W.takesIn K (.builtin "object.__class__") = some true
  hm : PySem.W.mroIn K (He.ga K C) (.type "object") = some true
def tgIns (K : PySem.W.Frag) : Tg → Prop
  | .b _ => True
  | .o C => InsF K C
structure OwnF (K : PySem.W.Frag) (own : List (Tg × Tg × Bool)) : Prop where
  at_ : ∀ p ∈ own, PySem.W.kitOne K (tgV K p.1) (tgV K p.2.1) = some p.2.2 ∧ tgIns K p.1
theorem OwnF.nil {K : PySem.W.Frag} : OwnF K [] := ⟨fun p h => nomatch h⟩
theorem kit_tab : ∀ a ∈ tyNames, ∀ c ∈ tyNames, kitB a c = some (a == c || (a == "bool" && c == "int")) := by decide +kernel
theorem kit_ok {K : PySem.W.Frag} {own : List (Tg × Tg × Bool)} (F : OwnF K own) {t u : Tg} {b : Bool} (e : kit own t u = some b) : PySem.W.kitOne K (tgV K t) (tgV K u) = some b ∧ tgIns K t := by
  have fin : (own.find? fun p => decide (p.1 = t ∧ p.2.1 = u)).map (·.2.2) = some b → PySem.W.kitOne K (tgV K t) (tgV K u) = some b ∧ tgIns K t := fun z => by
    obtain ⟨p, h1, h2⟩ := Option.map_eq_some_iff.mp z
    have h0 : decide (p.1 = t ∧ p.2.1 = u) = true := List.find?_some (p := fun p : Tg × Tg × Bool => decide (p.1 = t ∧ p.2.1 = u)) h1
    obtain ⟨e1, e2⟩ := of_decide_eq_true h0
    have h3 := F.at_ p (List.mem_of_find?_eq_some h1)
    rw [e1, e2, h2] at h3
    exact h3
  cases t with
  | b a =>
    cases u with
    | b c =>
      have e : (if (tyNames.contains a && tyNames.contains c) = true then some (a == c || (a == "bool" && c == "int")) else none) = some b := e
      by_cases hc : (tyNames.contains a && tyNames.contains c) = true
      · rw [if_pos hc] at e
        obtain ⟨h1, h2⟩ := Bool.and_eq_true_iff.mp hc
        exact ⟨kit_ty ((kit_tab a (List.contains_iff_mem.mp h1) c (List.contains_iff_mem.mp h2)).trans e), trivial⟩
      · rw [if_neg hc] at e
        cases e
    | o C => exact fin e
  | o C =>
    cases u <;> exact fin e
def isiD (own : List (Tg × Tg × Bool)) (xs : List D) : M D := fun h => match xs with
  | [x, c] => (match tagOf h x, clsOf c with
    | some t, some u => (match kit own t u with
      | some b => .ok (.bl b) h
      | none => .bad)
    | _, _ => .bad)
  | _ => .bad
section
variable {K : PySem.W.Frag} {ι : Ix} {H : Hp} {h : Hs}
theorem tag_ok (R : Rel K ι h H) {x : D} {v : V} {t : Tg} (r : RD K ι H x v) (e : tagOf h x = some t) (ti : tgIns K t) : TyX K H v (tgV K t) := by
  have sl : ∀ {a : Addr} {vs : List V}, SqL K H a vs → TyX K H (.ref a) (.type "list") := fun {a vs} q => by
    rcases q with (q | ⟨o, q⟩) | ⟨o, its, n, q, c, _⟩
    · exact .base (.lst q)
    · exact .base (.frz q)
    · exact .kList q c
  cases r with
  | non => cases e; exact .base .non
  | bl b => cases e; exact .base (.bl b)
  | int i => cases e; exact .base (.int i)
  | str z => cases e; exact .base (.str z)
  | tup q rs =>
    cases e
    rcases q.sq with (q | ⟨o, q⟩) | ⟨o, its, n, q, c, _⟩
    · exact .base (.tup q)
    · exact .fTuple q
    · exact .kTuple q c
  | lst q rs => cases e; exact sl q.sq
  | scr q => cases e; exact sl q.sq
  | @obj n a g =>
    have e : (match h[n]? with
    | some (.lst _) => some (Tg.b "list")
    | some (.dI _) => some (.b "dict")
    | some (.ins C _) => some (.o C)
    | _ => none) = some t := e
    split at e
    · rename_i xs en
      cases e
      obtain ⟨vs, h1, _⟩ := R.at g en
      exact .base (.lst h1)
    · rename_i kvs en
      cases e
      obtain ⟨us, h1, _⟩ := R.at g en
      exact .base (.dK h1)
    · rename_i C fs en
      cases e
      obtain ⟨dx, us, h1, _⟩ := R.at g en
      have f : InsF K C := ti
      exact .base (.ins h1 f.cl f.ha f.hn f.ht f.hm)
    · cases e
  | _ => cases e
theorem cls_ok {x : D} {v : V} {u : Tg} (r : RD K ι H x v) (e : clsOf x = some u) : ClsV v (tgV K u) := by
  cases r with
  | ty n => cases e; exact .ty n
  | glo x => cases e; exact .own _
  | _ => cases e
variable {X : Cx}
theorem o_isi {own : List (Tg × Tg × Bool)} (F : OwnF X.K own) : OpA X (rIsi X.K) (isiD own) := by
  intro ι h H xs vs W Q R rs p
  unfold isiD at p
  split at p
  · obtain ⟨v, u, rfl, r, r'⟩ := rs.two
    split at p
    · rename_i e1 e2
      split at p
      · rename_i b e3
        obtain ⟨h1, h2⟩ := kit_ok F e3
        exact ⟨v, u, _, _, b, rfl, cls_ok r' e2, tag_ok R r e1 h2, h1, p.ok R (.bl _)⟩
      · exact p.elim
    · exact p.elim
  · exact p.elim
/-! ### truth -/
def truD (h : Hs) : D → Option Bool
  | .non => some false
  | .bl b => some b
  | .int i => some (i != 0)
  | .str z => if okLen z.length then some ((z.length : Int) != 0) else none
  | .tup xs => some (!xs.isEmpty)
  | .lst xs => some (!xs.isEmpty)
  | .obj n => (match h[n]? with
    | some (.lst xs) => some (!xs.isEmpty)
    | some (.dI kvs) => some (!kvs.isEmpty)
    | _ => none)
  | _ => none
theorem rds_empty {xs : List D} {vs : List V} (r : RDs K ι H xs vs) : (!vs.isEmpty) = !xs.isEmpty := by cases r <;> rfl
theorem rf_empty {κ : Type} {xs : List (κ × D)} {vs : List (κ × V)} (r : RF K ι H xs vs) : (!vs.isEmpty) = !xs.isEmpty := by cases r <;> rfl
theorem tru_rd (R : Rel K ι h H) {x : D} {v : V} {b : Bool} (r : RD K ι H x v) (e : truD h x = some b) : TruV K v H b := by
  cases r with
  | non => cases e; exact rfl
  | bl b => cases e; exact rfl
  | int i => cases e; exact rfl
  | str z =>
    have e : (if okLen z.length then some ((z.length : Int) != 0) else none) = some b := e
    split at e
    · rename_i c
      cases e
      exact ⟨okLen_ok c, rfl⟩
    · cases e
  | tup q rs => cases e; exact .inr (.inl ⟨_, q.sq, (rds_empty rs).symm⟩)
  | lst q rs => cases e; exact .inl ⟨_, q.sq, (rds_empty rs).symm⟩
  | @obj n a g =>
    have e : (match h[n]? with
    | some (.lst xs) => some (!xs.isEmpty)
    | some (.dI kvs) => some (!kvs.isEmpty)
    | _ => none) = some b := e
    split at e
    · rename_i xs en
      cases e
      obtain ⟨vs, h1, h2⟩ := R.at g en
      exact .inl ⟨_, SqL.of h1, (rds_empty h2).symm⟩
    · rename_i kvs en
      cases e
      obtain ⟨us, h1, h2⟩ := R.at g en
      exact .inr (.inr ⟨_, h1, (rf_empty h2).symm⟩)
    · cases e
  | _ => cases e
def andX (ca cb : Env → M D) : Env → M D := fun ρ h => (ca ρ h).bind fun x h1 => match truD h1 x with
  | some true => cb ρ h1
  | some false => .ok x h1
  | none => .bad
def notX (x : D) : M D := fun h => match truD h x with
  | some b => .ok (.bl (!b)) h
  | none => .bad
variable {W : WX} {pos : Pos} {a b : Expr} {ca cb : Env → M D} {rest : List Expr}
theorem de_andX (ha : DE X W a ca) (hb : DE X W (.BoolOp .And (b :: rest) pos) cb) : DE X W (.BoolOp .And (a :: b :: rest) pos) (andX ca cb) := pe_imp (pe_andT ha hb) fun σ H Q ⟨ι, h, ρ, R, S, p⟩ => by
  refine ⟨ι, h, ρ, R, S, Post.imp (Post.bind p) fun x H1 ⟨ι1, h1, dx, x1, R1, r1, p1⟩ => ?_⟩
  split at p1
  · rename_i e
    refine ⟨true, tru_rd R1 r1 e, ?_⟩
    rw [if_pos rfl]
    exact ⟨ι1, h1, ρ, R1, S.mono x1, p1⟩
  · rename_i e
    refine ⟨false, tru_rd R1 r1 e, ?_⟩
    rw [if_neg Bool.false_ne_true]
    exact p1.ok R1 r1
  · exact p1.elim
theorem de_notX (ha : DE X W a ca) : DE X W (.UnaryOp .Not a pos) (e1 notX ca) := pe_imp (pe_notT ha) fun σ H Q ⟨ι, h, ρ, R, S, p⟩ => by
  refine ⟨ι, h, ρ, R, S, Post.imp (Post.bind p) fun x H1 ⟨ι1, h1, dx, x1, R1, r1, p1⟩ => ?_⟩
  unfold notX at p1
  split at p1
  · rename_i b e
    exact ⟨b, tru_rd R1 r1 e, p1.ok R1 (.bl _)⟩
  · exact p1.elim
def tru (ca : Env → M D) : Env → M Bool := fun ρ h => (ca ρ h).bind fun x h1 => match truD h1 x with
  | some b => .ok b h1
  | none => .bad
theorem dt_tru (ha : DE X W a ca) (he : ∀ whole, isTrue a X.env whole = (do let v ← whole; standAt a.pos; holding [v] (truthy v)) := by intro _; rfl) : DT X W a (tru ca) := pt_imp (pt_truth ha he) fun σ H Q ⟨ι, h, ρ, R, S, p⟩ => by
  refine ⟨ι, h, ρ, R, S, Post.imp (Post.bind p) fun x H1 ⟨ι1, h1, dx, x1, R1, r1, p1⟩ => ?_⟩
  split at p1
  · rename_i b e
    exact ⟨b, tru_rd R1 r1 e, p1.ok R1 rfl⟩
  · exact p1.elim
variable {c : Expr} {cc : Env → M D}
end
end Dl

/-! The D layer, 16: what the printed texts name. -/
namespace Dl
open PySem PySem.Spec PyProof.Rows L2
variable [Tb]

theorem u1 {k : Nat} {A : Around} (hr : Room k A) : A.units + 1 < cLine := by have := hr.un; omega
theorem u64 {k : Nat} {A : Around} (hr : Room k A) : A.units + 64 < cLine := by have := hr.un; omega
theorem u65 {k : Nat} {A : Around} (hr : Room k A) : A.units + 65 < cLine := by have := hr.un; omega
/-- a while's limit: the number in a slot goes down at each turn -/
def limI (i : Nat) (ρ : Env) (_ : Hs) : Nat := match ρ[i]? with
  | some (some (.int k)) => k.natAbs + 2
  | _ => 1
/-! ### break, continue -/
/-! ### facts of the module -/
theorem tup_kt {K : PySem.W.Frag} {x : Str} {is : List Int} (h : He.tupB K x (is.map He.Dv.int) = true) : KT K (He.ga K x) (is.map V.int) := by
  have z := He.tupB_ok h (fun _ => none)
  rw [List.map_map] at z
  have e : is.map (He.Dv.v K ∘ He.Dv.int) = is.map V.int := rfl
  rw [e] at z
  rcases z with (z | ⟨o, z⟩) | z
  · cases z
  · cases z
  · exact z
def insB (K : PySem.W.Frag) (C : Str) : Bool := (He.Fa.cls C).ok K && (He.eqO (PySem.W.findIn K (.ref (He.ga K C)) "__class__") (some (some (.builtin "object.__class__"))) && (He.eqO (PySem.W.specialIn K (.builtin "object.__class__") "__get__") (some (some (.builtin "getset_descriptor.__get__"))) &&
  (decide (PySem.W.takesIn K (.builtin "object.__class__") = some true) && decide (PySem.W.mroIn K (He.ga K C) (.type "object") = some true))))
def ownB (own : List (Tg × Tg × Bool)) (K : PySem.W.Frag) : Bool := own.all fun p => decide (PySem.W.kitOne K (tgV K p.1) (tgV K p.2.1) = some p.2.2) && (match p.1 with
  | .b _ => true
  | .o C => insB K C)
theorem ownB_ok {K : PySem.W.Frag} {own : List (Tg × Tg × Bool)} (h : ownB own K = true) : OwnF K own := by
  refine ⟨fun p hp => ?_⟩
  obtain ⟨h1, h2⟩ := He.ba (List.all_eq_true.mp h p hp)
  refine ⟨of_decide_eq_true h1, ?_⟩
  obtain ⟨t, u, b⟩ := p
  cases t with
  | b n => trivial
  | o C =>
    obtain ⟨k1, k2⟩ := He.ba (show insB K C = true from h2)
    obtain ⟨k2, k3⟩ := He.ba k2
    obtain ⟨k3, k4⟩ := He.ba k3
    obtain ⟨k4, k5⟩ := He.ba k4
    exact ⟨He.cls_ok k1, He.eqO_ok k2, He.eqO_ok k3, of_decide_eq_true k4, of_decide_eq_true k5⟩
end Dl

/-! The D layer, 17: sorted. -/
namespace Dl
open PySem PySem.Spec PyProof.Rows L2
variable [Tb]

/-! ### tuples, an empty one among them -/
section
variable {prog : Program} {w : World} {A : Around} {E : Value → Shared → Prop} {s : Shared}
end
/-! ### sorted of a tuple: as of a list -/
section
variable {prog : Program} {w : World} {A : Around} {E : Value → Shared → Prop} {s : Shared}
end
/-! ### the rule -/
/-! ### what it computes -/
section
variable {K : PySem.W.Frag} {ι : Ix} {H : Hp} {h : Hs}
end
/-! ### by insertion -/
end Dl

/-! The D layer, 18: enumerate of a tuple or a list. -/
namespace PySem
open Sem (wp)
open AutoSeq1 (wpAny_loadPart')
set_option maxHeartbeats 1000000 in
theorem meets_enumerate_newB1 {v : Value} {o : Obj} {H : Heap → Prop} (B : Begins v o H) :
    Meets (Builtin.«enumerate.__new__» ⟨[.type "enumerate", v], []⟩) (fun _ R s => H s.heap ∧
      R (.ok (.ret (.ref (s.heap.push o).objs.size))) { s with heap := (s.heap.push o).push { cls := .type "enumerate", data := .fields #[.none, .bool false, .ref s.heap.objs.size, rawInt 0, .none, .none] } }) :=
  .of_wp fun prog w A R s h => by
    obtain ⟨hp, g, d, tk, os⟩ := s; obtain ⟨h1, h⟩ := h
    have hsub := sub_enumerate
    have q1 : ∀ {A' : Around} {E : Value → Shared → Prop} {Q : Value → Shared → Prop}, Q (.ref hp.objs.size) ⟨hp.push o, g, d, tk, os⟩ → wpAny (model prog w) A' (pyIter v) Q E ⟨hp, g, d, tk, os⟩ :=
      fun q => B.iter prog w _ _ ⟨hp, g, d, tk, os⟩ _ h1 q
    wp_walk using q1
    refine wpAny_stack_any fun st => wpAny_pure ?_
    split
    · rename_i c _ _ _ _ _
      cases (c == Value.type "enumerate")
      · wp_walk using q1
        exact ⟨_, rfl, h⟩
      · wp_walk using q1
        exact ⟨_, rfl, h⟩
    · wp_walk using q1
      exact ⟨_, rfl, h⟩
theorem call_enumerate_B {prog : Program} {w : World} {A : Around} {E : Value → Shared → Prop} {s : Shared} {v : Value} {o : Obj} {H : Heap → Prop} {Q : Value → Shared → Prop} (B : Begins v o H) (h1 : H s.heap)
    (h : ∀ h', IsEnum h' (s.heap.objs.size + 1) s.heap.objs.size 0 .none → h'.get? s.heap.objs.size = some o → h'.objs.size = s.heap.objs.size + 2 →
      (∀ b o, s.heap.get? b = some o → h'.get? b = some o) → Q (.ref (s.heap.objs.size + 1)) { s with heap := h' }) :
    wpAny (model prog w) A (call (.type "enumerate") [v]) Q E s := by
  refine callType_new F.called_enumerate (by decide) (F.typeCall_enumerate_1 _) (F.newCall_enumerate_1 _) (fun obj => F.args_object_init_2 obj _) F.entry_enumerate_new
    (meets_enumerate_newB1 B) ⟨h1, ?_⟩
  have hz : (s.heap.push o).objs.size = s.heap.objs.size + 1 := Heap.size_push ..
  show _ ∧ _
  rw [hz]
  have he : IsEnum ((s.heap.push o).push { cls := .type "enumerate", data := .fields #[.none, .bool false, .ref s.heap.objs.size, rawInt 0, .none, .none] }) (s.heap.objs.size + 1) s.heap.objs.size 0 .none := by
    have := Heap.get?_push_size (s.heap.push o) (o := { cls := .type "enumerate", data := .fields #[.none, .bool false, .ref s.heap.objs.size, rawInt 0, .none, .none] }) rfl
    rw [hz] at this; exact this
  refine ⟨⟨_, he, rfl⟩, h _ he (Heap.get?_push_of_some _ (Heap.get?_push_size _ B.free)) (by rw [Heap.size_push, hz]) fun b o x => Heap.get?_push_of_some _ (Heap.get?_push_of_some _ x)⟩
end PySem
namespace Dl
open PySem PySem.Spec PyProof.Rows L2
variable [Tb]
def IteT (K : PySem.W.Frag) (a : Addr) : It :=
  ⟨fun i H => ∃ (xs : List V) (x : V), SqT K H a xs ∧ xs[i]? = some x, fun i H v H' => ∃ T x, v = .ref T ∧ H T = none ∧ H' = upd H T (.tup [.int (i : Nat), x]) ∧ ∀ xs, SqT K H a xs → xs[i]? = some x, fun i H => ∃ xs : List V, SqT K H a xs ∧ xs.length ≤ i⟩
theorem turn_enumT {P : Program} {w : World} {K : PySem.W.Frag} {elts : List Expr} {kk : Nat} {tpos : Pos} (a e it : Addr) :
    Turn P w K (.Tuple elts kk tpos) (IteT K a) [e, it] e (fun i h => (∃ old, IsEnum h e it ((i : Nat) : Int) old) ∧ h.IsTupleIter it a i ∧ e ≠ it ∧ e ≠ a ∧ a ≠ it) where
  mem := by simp
  obj := fun i h st b hb => by
    obtain ⟨⟨old, he⟩, ⟨o, ho, hc, hd⟩, _⟩ := st
    have e' : b = e ∨ b = it := by simpa using hb
    rcases e' with z | z
    · rw [z]; exact ⟨_, he, fun v q => nomatch q⟩
    · rw [z]; exact ⟨o, ho, fun v q => by rw [hd] at q; cases q⟩
  keep := fun i h h' st k => let ⟨⟨old, he⟩, hi, hne⟩ := st; ⟨⟨old, k e (by simp) _ he⟩, hi.at fun o q => k it (by simp) o q, hne⟩
  item := by
    intro X hP hw hK hc i pins s σ H E I hf st hg
    subst hP hw hK
    obtain ⟨⟨old, he⟩, hit, hne, hea, hai⟩ := st
    obtain ⟨xs, x, hq, hx⟩ := hg
    obtain ⟨its, rv, p, hz⟩ := I.tuple hq
    obtain ⟨u, hu, ru⟩ := rv.get hx
    have hel : e < s.heap.objs.size := Heap.lt_size he
    have hil : it < s.heap.objs.size := by obtain ⟨_, q, _⟩ := hit; exact Heap.lt_size q
    have hlt : i < its.toArray.size := by
      rw [List.size_toArray]
      exact (List.getElem?_eq_some_iff.mp hu).1
    have pT : s.heap.IsTuple a its.toArray := p
    refine wpAny_pyNext_enum_itemC (fp := [it, a]) (c := ((i : Nat) : Int)) (Draws.tuple (A := X.A.in1) (show X.A.in1.handled = none from I.ok.hd hc) it a hai its.toArray) he ⟨hit, pT⟩ hlt hne (by simp [hne, hea]) fun x' h' tk hx' ho st' hT hsz hk => ?_
    obtain ⟨hit', _⟩ := st'
    have hxe : x' = u := by
      have : its.toArray[i]? = some u := by simpa using hu
      rw [this] at hx'
      exact (Option.some.inj hx').symm
    subst hxe
    refine ⟨_, rfl, wpAny_letOwnedTupleGo_enum (s := { s with heap := h', toks := tk + 1 }) ho fun h'' he' sb => ?_⟩
    have hT2 : h''.get? s.heap.objs.size = some { cls := .type "tuple", data := .seq #[.int i tk, x'] } := (sb.2 _ (Nat.ne_of_gt hel)).trans hT
    have new : ObjOk X.prog X.w (upd H s.heap.objs.size (.tup [.int (i : Nat), x])) h'' s.heap.objs.size (.tup [.int (i : Nat), x]) :=
      ⟨by show 2 ≤ sizeLine; decide, [.int i tk, x'], .cons ⟨_, rfl⟩ (.cons ru .nil), ⟨_, hT2, rfl, _, rfl⟩⟩
    have I1 : Inv X pins σ (upd H s.heap.objs.size (.tup [.int (i : Nat), x])) { s with heap := h'', toks := tk + 1 } :=
      I.turnedNew (ch := [e, it]) (fun b ob hb q => (sb.2 b (fun z => hb (by simp [z]))).trans (hk b ob (fun z => hb (by simp [z])) (fun z => hb (by simp [z])) q)) hf (Nat.le_refl _) new
    refine ⟨.ref s.heap.objs.size, _, I1, rfl, ⟨_, x, rfl, I.hok.fresh (Nat.le_refl _), rfl, fun ys hy => by rw [I.tuple_inj hy hq]; exact hx⟩, ⟨⟨x', ?_⟩, hit'.at fun o q => (sb.2 it (Ne.symm hne)).trans q, hne, hea, hai⟩, fun b hb => ?_⟩
    · have e1 : ((i + 1 : Nat) : Int) = (i : Int) + 1 := by omega
      rw [e1]; exact he'
    · have hb' : b < s.heap.objs.size := by
        have e' : b = e ∨ b = it := by simpa using hb
        rcases e' with z | z
        · rw [z]; exact hel
        · rw [z]; exact hil
      rw [upd_ne (Nat.ne_of_lt hb')]
      exact (hf b hb).1
  done := by
    intro X hP hw hK hc i pins s σ H E I hf st hg
    subst hP hw hK
    obtain ⟨⟨old, he⟩, hit, hne, hea, hai⟩ := st
    obtain ⟨xs, hq, hx⟩ := hg
    obtain ⟨its, rv, p, hz⟩ := I.tuple hq
    obtain ⟨f0, f1, f2, f3, f4, f5⟩ := hf it (by simp)
    have hl := rv.length
    have pT : s.heap.IsTuple a its.toArray := p
    have hT : s.TypeIs (.ref e) "enumerate" := ⟨_, he, rfl⟩
    unfold pyNext
    refine wpAny_bind (wpAny_attempt (wpAny_callSpecial?_slot (name := Str.ofString "__next__") hT F.slot_enumerate_next
      (wpAny_call_entry F.slot_enumerate_next hT F.entry_enumerate_next ?_ (F.args_enumerate_next_1 _))))
    show wpAny _ _ (field (.ref e) 2 >>= _) _ _ _
    refine wpAny_bind (wpAny_field he rfl (x := .ref it) rfl ?_)
    refine wpAny_bind (wpAny_nextOf_tuple_end (I.ok.hd hc) hit pT (by simp; omega) fun h' x he' hx' => ?_)
    obtain ⟨o, ho, hc'⟩ := hx'
    refine wpAny_bind (wpAny_isInstance (T := "StopIteration") (b := true) ⟨o, ho, hc'⟩ isSubtype_stop ?_)
    exact wpAny_pure ⟨rfl, I.turned (t' := s.toks) (fun b o hb q => he' b o hb q) f0 f1 f3 f4 f5⟩
  self := fun A i s Q E st h => let ⟨⟨_, he⟩, _⟩ := st; wpAny_pyIter_enum he h
def iEnumA (K : PySem.W.Frag) (ta : TA) : TI := fun σ H R => ta σ H fun vs H1 => ∃ a, vs = [.ref a] ∧ (((∃ xs, SqL K H1 a xs) ∧ R (Ite K a) H1) ∨ ((∃ xs, SqT K H1 a xs) ∧ R (IteT K a) H1))
theorem pi_enumA {X : Cx} {e : Expr} {ta : TA} {p pos tpos : Pos} {elts : List Expr} {kk : Nat} (hg : Gl X "enumerate") (hm : X.mg "enumerate" = none) (ha : PA X [e] ta) (hs : starEach [e] X.env = [(false, eval e X.env)] := by rfl) :
    PI X (.Tuple elts kk tpos) (.Call (.Name "enumerate" p) [e] [] pos) (iEnumA X.K ta) := by
  refine ⟨fun pins s σ H R I h => ?_⟩
  refine Call_ (ld_blt I hg hm boot_enumerate (PyProof.Rows.callWith_type1 (thn (ha.run pos pins s σ H _ I h) fun us s1 ⟨vs, H1, I1, r1, q1⟩ => ?_) hs rfl))
  obtain ⟨a, ex, q⟩ := q1
  subst ex
  cases r1 with
  | cons r rr =>
    cases rr
    cases r
    have fpn : ∀ b ∈ [s1.heap.objs.size + 1, s1.heap.objs.size], FpOk X pins H1 b := fun b hb => by
      have e' : b = s1.heap.objs.size + 1 ∨ b = s1.heap.objs.size := by simpa using hb
      have hle : s1.heap.objs.size ≤ b := by
        rcases e' with z | z
        · rw [z]; exact Nat.le_add_right _ _
        · rw [z]; exact Nat.le_refl _
      exact I1.fpOk hle (I1.hok.fresh hle)
    rcases q with ⟨⟨xs, hq⟩, q⟩ | ⟨⟨xs, hq⟩, q⟩
    · obtain ⟨its, rv, p', hz⟩ := I1.list hq
      refine call_enumerate_list p'.isList fun h' he hit hsz hk => wpAny_pyIter_enum he ?_
      have I2 : Inv X pins σ H1 { s1 with heap := h' } := I1.kept (t' := s1.toks) hk
      exact ⟨s1.heap.objs.size + 1, [s1.heap.objs.size + 1, s1.heap.objs.size], _, _, H1, rfl, I2, turn_enum a (s1.heap.objs.size + 1) s1.heap.objs.size, ⟨⟨.none, he⟩, hit, Nat.succ_ne_self _⟩, fpn, q⟩
    · obtain ⟨its, rv, p', hz⟩ := I1.tuple hq
      have pT : s1.heap.IsTuple a its.toArray := p'
      have hal : a < s1.heap.objs.size := by obtain ⟨_, q, _⟩ := pT; exact Heap.lt_size q
      refine call_enumerate_B (begins_tuple a its.toArray) pT fun h' he hit hsz hk => wpAny_pyIter_enum he ?_
      have I2 : Inv X pins σ H1 { s1 with heap := h' } := I1.kept (t' := s1.toks) hk
      exact ⟨s1.heap.objs.size + 1, [s1.heap.objs.size + 1, s1.heap.objs.size], _, _, H1, rfl, I2, turn_enumT a (s1.heap.objs.size + 1) s1.heap.objs.size, ⟨⟨.none, he⟩, ⟨_, hit, rfl, rfl⟩, Nat.succ_ne_self _, fun z => absurd (z ▸ hal) (Nat.not_lt.mpr (Nat.le_add_right _ _)), fun z => absurd (z ▸ hal) (Nat.lt_irrefl _)⟩, fpn, q⟩
section
variable {K : PySem.W.Frag} {ι : Ix} {H : Hp} {h : Hs}
theorem walk_enumTN {a : Addr} {n : Nat} : Walk (IteT K a) n (fun H => ∃ vs, SqT K H a vs ∧ vs.length = n) (fun i H v H' => ∃ T x y, v = .ref T ∧ H T = none ∧ H' = upd H T (.tup [x, y]) ∧ x = .int (i : Nat) ∧ ∀ ys, SqT K H a ys → ys[i]? = some y) := by
  refine ⟨fun i _ hi ⟨vs, q, e⟩ => ⟨vs, vs[i], q, by simp [e, hi]⟩, fun _ ⟨vs, q, e⟩ => ⟨vs, q, by omega⟩, fun i H v H' _ _ y => ?_⟩
  obtain ⟨T, x, h1, h2, h3, h4⟩ := y
  exact ⟨T, .int (i : Nat), x, h1, h2, h3, rfl, h4⟩
def iEnumD (cs : Env → M (List D)) : Env → M ItD := fun ρ h => (cs ρ h).bind fun ds h1 => match ds with
  | [x] => (match itOf h1 x with
    | some it => if okG it.gs h1 then .ok ⟨enumD 0 it.items, it.gs⟩ h1 else .bad
    | none => .bad)
  | _ => .bad
variable {X : Cx} {W : WX} {pos : Pos} {cs : Env → M (List D)}
theorem di_enumA {a : Expr} {p tpos : Pos} {elts : List Expr} {kk : Nat} (hg : Gl X "enumerate") (hm : X.mg "enumerate" = none) (ha : DA X W [a] cs) (hs : starEach [a] X.env = [(false, eval a X.env)] := by rfl) : DI X W (.Tuple elts kk tpos) (.Call (.Name "enumerate" p) [a] [] pos) (iEnumD cs) := pi_imp (pi_enumA hg hm ha hs) fun σ H Q ⟨ι, h, ρ, R, S, p⟩ => by
  refine ⟨ι, h, ρ, R, S, Post.imp (Post.bind p) fun vs H1 ⟨ι1, h1, ds, x1, R1, r1, p1⟩ => ?_⟩
  split at p1
  · rename_i x
    split at p1
    · rename_i it e
      obtain ⟨g, p1⟩ := p1.guard
      cases r1 with
      | cons r rr =>
        cases rr
        cases ex : isT x with
        | false =>
          obtain ⟨a, rfl, f⟩ := itOf_L r e ex
          obtain ⟨vs, q, _⟩ := f ι1 H1 h1 (Ext.refl.up) R1 g
          refine ⟨a, rfl, .inl ⟨⟨vs, q⟩, p1.ok R1 (ri_pair (walk_enumN (n := (enumD 0 it.items).length)) (fun ι' H' h' u R g => ?_) fun i ι' H' h' y z hi u R g hy hz => ?_)⟩⟩
          · obtain ⟨vs, q, r⟩ := f ι' H' h' u R g
            exact ⟨vs, q, by rw [enumD_len]; exact r.length.symm⟩
          · obtain ⟨vs, q, r⟩ := f ι' H' h' u R g
            obtain ⟨d, e1, e2⟩ := r.getV (hz vs q)
            refine ⟨_, d, enumD_at _ _ _ _ e1, ?_, e2⟩
            rw [hy, Nat.zero_add]
            exact .int _
        | true =>
          obtain ⟨a, rfl, f⟩ := itOf_T r e ex
          obtain ⟨vs, q, _⟩ := f ι1 H1 h1 (Ext.refl.up) R1 g
          refine ⟨a, rfl, .inr ⟨⟨vs, q⟩, p1.ok R1 (ri_pair (walk_enumTN (n := (enumD 0 it.items).length)) (fun ι' H' h' u R g => ?_) fun i ι' H' h' y z hi u R g hy hz => ?_)⟩⟩
          · obtain ⟨vs, q, r⟩ := f ι' H' h' u R g
            exact ⟨vs, q, by rw [enumD_len]; exact r.length.symm⟩
          · obtain ⟨vs, q, r⟩ := f ι' H' h' u R g
            obtain ⟨d, e1, e2⟩ := r.getV (hz vs q)
            refine ⟨_, d, enumD_at _ _ _ _ e1, ?_, e2⟩
            rw [hy, Nat.zero_add]
            exact .int _
    · exact p1.elim
  · exact p1.elim
end
end Dl

/-! The D layer, 19: sorted(set(a list of ints)). -/
namespace Dl
open PySem PySem.Spec PyProof.Rows L2
variable [Tb]

/-! ### the ints of a list, each once, rising -/
def insU (x : Int) : List Int → List Int
  | [] => [x]
  | y :: ys => if x < y then x :: y :: ys else if x = y then y :: ys else y :: insU x ys
def usort : List Int → List Int
  | [] => []
  | x :: xs => insU x (usort xs)
theorem insU_mem {x z : Int} : ∀ {ys : List Int}, z ∈ insU x ys ↔ z = x ∨ z ∈ ys
  | [] => by simp [insU]
  | y :: ys => by
    unfold insU
    split
    · simp
    · split
      · rename_i e
        subst e
        simp
      · rw [List.mem_cons, insU_mem (ys := ys), List.mem_cons]
        constructor
        · rintro (h | h | h)
          · exact .inr (.inl h)
          · exact .inl h
          · exact .inr (.inr h)
        · rintro (h | h | h)
          · exact .inr (.inl h)
          · exact .inl h
          · exact .inr (.inr h)
theorem insU_up {x : Int} : ∀ {ys : List Int}, ys.Pairwise (· < ·) → (insU x ys).Pairwise (· < ·)
  | [], _ => by simp [insU]
  | y :: ys, h => by
    obtain ⟨h1, h2⟩ := List.pairwise_cons.mp h
    unfold insU
    split
    · rename_i l
      refine List.pairwise_cons.mpr ⟨fun z hz => ?_, h⟩
      rcases List.mem_cons.mp hz with e | e
      · rw [e]; exact l
      · exact Int.lt_trans l (h1 z e)
    · split
      · exact h
      · rename_i l n
        refine List.pairwise_cons.mpr ⟨fun z hz => ?_, insU_up h2⟩
        rcases insU_mem.mp hz with e | e
        · rw [e]; omega
        · exact h1 z e
theorem usort_mem {z : Int} : ∀ {xs : List Int}, z ∈ usort xs ↔ z ∈ xs
  | [] => Iff.rfl
  | x :: xs => by
    unfold usort
    rw [insU_mem, usort_mem (xs := xs), List.mem_cons]
theorem usort_up : ∀ xs : List Int, (usort xs).Pairwise (· < ·)
  | [] => .nil
  | x :: xs => insU_up (usort_up xs)
/-- rising ones with the same members are one -/
theorem up_eq : ∀ {xs ys : List Int}, xs.Pairwise (· < ·) → ys.Pairwise (· < ·) → (∀ z, z ∈ xs ↔ z ∈ ys) → xs = ys
  | [], [], _, _, _ => rfl
  | [], y :: ys, _, _, h => by have := (h y).mpr List.mem_cons_self; simp at this
  | x :: xs, [], _, _, h => by have := (h x).mp List.mem_cons_self; simp at this
  | x :: xs, y :: ys, hx, hy, h => by
    obtain ⟨x1, x2⟩ := List.pairwise_cons.mp hx
    obtain ⟨y1, y2⟩ := List.pairwise_cons.mp hy
    have e : x = y := by
      rcases List.mem_cons.mp ((h x).mp List.mem_cons_self) with a | a
      · exact a
      · rcases List.mem_cons.mp ((h y).mpr List.mem_cons_self) with b | b
        · exact b.symm
        · have := y1 x a
          have := x1 y b
          omega
    subst e
    rw [up_eq x2 y2 fun z => ⟨fun m => ?_, fun m => ?_⟩]
    · rcases List.mem_cons.mp ((h z).mp (List.mem_cons_of_mem _ m)) with b | b
      · have := x1 z m; omega
      · exact b
    · rcases List.mem_cons.mp ((h z).mpr (List.mem_cons_of_mem _ m)) with b | b
      · have := y1 z m; omega
      · exact b

/-! ### set(a list of ints) -/
section
variable {P : Program} {w : World} {A : Around} {E : Value → Shared → Prop} {s : Shared}
end

/-! ### sorted(set(e)) -/
section
variable {X : Cx} {W : WX} {a : Expr} {ca : Env → M D} {p p2 q pos : Pos}
end
end Dl

/-! The D layer, 20: recursion; sorted(a dict); tuple(range(..)), list(range(..)); d.get(k, x); lists by an operator that may change. -/
namespace Dl
open PySem PySem.Spec PyProof.Rows L2
variable [Tb]

/-! ### what is never called -/
theorem fnD_bad {P : Program} {w : World} {K : PySem.W.Frag} {mg : Str → Option Value} {base : Heap} {x qual : Str} {params : Arguments} {body : List Stmt} {scope : Scope} {f : Addr} {fd : FuncData} {ps : List Str} {k n : Nat}
    (F : FunD K x qual params body scope [] [] f fd) (hn : ps.length = n) (b : Binds K fd ps []) : FnD P w K mg base k f n (fun _ _ => .bad) :=
  ⟨fd, ps, ⟨fun vs H Q E h => h.1.trans hn.symm, fun A outer s H args us vs Q E hr gd e0 bt r h => by
    obtain ⟨_, ι, h0, ds, R, r, p⟩ := h
    exact p.elim⟩, b, F.kp⟩

/-! ### sorted(d) of a dict whose keys are ints -/
def intKeys : List (Key × D) → Option (List Int)
  | [] => some []
  | (.inl i, _) :: r => (intKeys r).map (i :: ·)
  | (.inr _, _) :: _ => none
theorem intKeys_ok : ∀ {kvs : List (Key × D)} {ks : List Int}, intKeys kvs = some ks → kvs.map (·.1) = ks.map Sum.inl
  | [], ks, e => by cases e; rfl
  | (.inl i, d) :: r, ks, e => by
    obtain ⟨l, e1, e2⟩ := Option.map_eq_some_iff.mp (show (intKeys r).map (i :: ·) = some ks from e)
    subst e2
    rw [List.map_cons, List.map_cons, intKeys_ok e1]
  | (.inr _, _) :: _, ks, e => by cases e
def dctAt (h : Hs) : D → Option (List (Key × D))
  | .obj n => (match h[n]? with
    | some (.dI kvs) => some kvs
    | _ => none)
  | _ => none
section
variable {K : PySem.W.Frag} {ι : Ix} {H : Hp} {h : Hs}
theorem dctAt_ok (R : Rel K ι h H) {x : D} {v : V} {kvs : List (Key × D)} (r : RD K ι H x v) (e : dctAt h x = some kvs) : ∃ n a us, x = .obj n ∧ v = .ref a ∧ ι.os[n]? = some a ∧ H a = some (.dK us) ∧ RF K ι H kvs us := by
  cases r with
  | @obj n a g =>
    have e : (match h[n]? with
    | some (.dI kvs) => some kvs
    | _ => none) = some kvs := e
    cases hn : h[n]? with
    | none => rw [hn] at e; cases e
    | some o =>
      rw [hn] at e
      cases o with
      | dI ks =>
        cases e
        obtain ⟨us, h1, h2⟩ := R.at g hn
        exact ⟨n, a, us, rfl, rfl, g, h1, h2⟩
      | _ => cases e
  | _ => cases e
theorem rf_keys {κ : Type} : ∀ {kvs : List (κ × D)} {us : List (κ × V)}, RF K ι H kvs us → us.map (·.1) = kvs.map (·.1)
  | _, _, .nil => rfl
  | _, _, .cons g r => by rw [List.map_cons, List.map_cons, rf_keys r, g.1]
end
def sortDF (xs : List D) : M (List D) := fun h => match xs with
  | [x] => (match (dctAt h x).bind intKeys with
    | some ks => if decide (ks.Nodup ∧ ks.length < 64) then .ok ((usort ks).map .int) h else .bad
    | none => .bad)
  | _ => .bad
abbrev rSortD : List V → Hp → VK → Prop := fun xs H Q => ∃ (a : Addr) (kvs : List (Key × V)) (ks : List Int), xs = [.ref a] ∧ Rd H a (.dK kvs) ∧ kvs.map (·.1) = ks.map Sum.inl ∧ ks.length < 64 ∧
    ∀ (ys : List Int) (p : Addr), ys.Perm ks → ys.Pairwise (· ≤ ·) → H p = none → Q (.ref p) (upd H p (.lst (ys.map V.int)))
theorem up_of_le : ∀ {xs : List Int}, xs.Pairwise (· ≤ ·) → xs.Nodup → xs.Pairwise (· < ·)
  | [], _, _ => .nil
  | x :: xs, h, n => by
    obtain ⟨h1, h2⟩ := List.pairwise_cons.mp h
    obtain ⟨n1, n2⟩ := List.nodup_cons.mp n
    refine List.pairwise_cons.mpr ⟨fun y hy => ?_, up_of_le h2 n2⟩
    have := h1 y hy
    have : x ≠ y := fun e => n1 (e ▸ hy)
    omega
section
variable {X : Cx}
theorem o_sortD : OpF X rSortD sortDF := by
  intro ι h H xs vs ιb Hb W Q e R r p
  unfold sortDF at p
  split at p
  · obtain ⟨v, rfl, rx⟩ := r.one
    split at p
    · rename_i ks e1
      obtain ⟨c, p⟩ := p.guard
      obtain ⟨c1, c2⟩ := of_decide_eq_true c
      obtain ⟨kvs, e2, e3⟩ := Option.bind_eq_some_iff.mp e1
      obtain ⟨n, a, us, rfl, rfl, g, ha, rf⟩ := dctAt_ok R rx e2
      refine ⟨a, us, ks, rfl, .inl ha, (rf_keys rf).trans (intKeys_ok e3), c2, fun ys q pm pw hq => ?_⟩
      have eq : ys = usort ks := up_eq (up_of_le pw (pm.nodup_iff.mpr c1)) (usort_up ks) fun z => by rw [pm.mem_iff, usort_mem]
      subst eq
      exact p.new e R RDs.ofInts hq
    · exact p.elim
  · exact p.elim
end

/-! ### tuple(range(..)), list(range(..)) -/
section
variable {X : Cx} {W : WX} {a b : Expr} {ca cb : Env → M D} {p p2 q pos : Pos}
theorem rng_rds {K : PySem.W.Frag} {ι : Ix} {H : Hp} : ∀ (n : Nat) (i : Int), RDs K ι H (rng i 1 n) ((List.range n).map fun j => V.int (i + (j : Nat)))
  | 0, _ => .nil
  | n + 1, i => by
    rw [List.range_succ_eq_map, List.map_cons, List.map_map]
    refine .cons (by simpa using RD.int i) ?_
    have e : (List.range n).map ((fun j => V.int (i + (j : Nat))) ∘ Nat.succ) = (List.range n).map fun j => V.int (i + 1 + (j : Nat)) := List.map_congr_left fun j _ => by
      show V.int (i + ((j + 1 : Nat) : Int)) = V.int (i + 1 + (j : Int))
      congr 1
      omega
    rw [e]
    exact rng_rds n (i + 1)
def okRg (i j : Int) : Bool := okI i && okI j && decide ((j - i).toNat ≤ 16777216)
theorem okRg_ok {i j : Int} (h : okRg i j = true) : RgOk i j := by
  obtain ⟨h1, h2⟩ := Bool.and_eq_true_iff.mp h
  obtain ⟨h3, h4⟩ := Bool.and_eq_true_iff.mp h1
  have a1 := okI_ok h3
  have a2 := okI_ok h4
  exact ⟨a1.1, a1.2, a2.1, a2.2, of_decide_eq_true h2⟩
def rgN (i j : Int) : M (List D) := fun h => if okRg i j then .ok (rng i 1 (j - i).toNat) h else .bad
def nR2 (ca cb : Env → M D) : Env → M (List D) := fun ρ h => (ca ρ h).bind fun x h1 => (cb ρ h1).bind fun y h2 => match x, y with
  | .int i, .int j => rgN i j h2
  | _, _ => .bad
def eTupN (cs : Env → M (List D)) : Env → M D := fun ρ h => (cs ρ h).bind fun xs h1 => .ok (.tup xs) h1
def wR (K : PySem.W.Frag) (W : WX) (c : Env → M (List D)) : L2.St → Hp → (Int → Int → Hp → Prop) → Prop := fun σ H Q => ∃ ι h ρ, Rel K ι h H ∧ RS K ι H ρ σ ∧ Post K (fun x d H' => W x d σ H') (fun _ _ (xs : List D) (p : Int × Int) => okRg p.1 p.2 = true ∧ xs = rng p.1 1 (p.2 - p.1).toNat) (c ρ h) ι H (fun p H' => Q p.1 p.2 H')
abbrev DR (X : Cx) (W : WX) (e : Expr) (c : Env → M (List D)) : Prop := PRg X e (wR X.K W c)
theorem prg_imp {e : Expr} {t t' : L2.St → Hp → (Int → Int → Hp → Prop) → Prop} (h : PRg X e t) (w : ∀ σ H Q, t' σ H Q → t σ H Q) : PRg X e t' := fun pins s σ H Q I z => h pins s σ H Q I (w σ H Q z)
theorem dr_2 (hg : Gl X "range") (hm : X.mg "range" = none) (ha : DE X W a ca) (hb : DE X W b cb) (na : starEach [a, b] X.env = (false, eval a X.env) :: starEach [b] X.env := by rfl) (nb : starEach [b] X.env = (false, eval b X.env) :: starEach [] X.env := by rfl) (hp : (backTo pos (starEach [b] X.env)).any (·.1) = false := by rfl) : DR X W (.Call (.Name "range" p) [a, b] [] pos) (nR2 ca cb) := prg_imp (prg_2 hg hm ha hb na nb hp) fun σ H Q ⟨ι, h, ρ, R, S, p⟩ => by
  refine ⟨ι, h, ρ, R, S, Post.imp (Post.bind p) fun x H1 ⟨ι1, h1, dx, x1, R1, r1, p1⟩ => ?_⟩
  refine ⟨ι1, h1, ρ, R1, S.mono x1, Post.imp (Post.bind p1) fun y H2 ⟨ι2, h2, dy, x2, R2, r2, p2⟩ => ?_⟩
  split at p2
  · obtain ⟨c, p2⟩ := p2.guard
    cases r1
    cases r2
    exact ⟨_, _, rfl, rfl, p2.ok (b := (_, _)) R2 ⟨c, rfl⟩⟩
  · exact p2.elim
theorem de_tupRg {e : Expr} {cs : Env → M (List D)} (hc : X.calm = true) (hg : Gl X "tuple") (hm : X.mg "tuple" = none) (he : DR X W e cs) (na : starEach [e] X.env = (false, eval e X.env) :: starEach [] X.env := by rfl) : DE X W (.Call (.Name "tuple" p) [e] [] pos) (eTupN cs) := pe_imp (pe_tupRg hc hg hm he na) fun σ H Q ⟨ι, h, ρ, R, S, p⟩ => by
  refine ⟨ι, h, ρ, R, S, Post.imp (Post.bind p) fun ij H1 ⟨ι1, h1, xs, x1, R1, ⟨c, e⟩, p1⟩ => ?_⟩
  subst e
  exact ⟨okRg_ok c, fun l hl => p1.tup R1 (rng_rds _ _) hl⟩

/-! ### d.get(k, x) -/
variable {co ck cx : Env → M D} {o k x : Expr} {apos cpos : Pos}
/-! ### [x] * n, a + b: a new list that may change -/
def nRep (ca cb : Env → M D) : Env → M (List D) := fun ρ h => (ca ρ h).bind fun x h1 => (cb ρ h1).bind fun y h2 => match items h2 x, y with
  | some xs, .int k => if okRep xs.length k then .ok (List.replicate k.toNat xs).flatten h2 else .bad
  | _, _ => .bad
theorem dn_rep (ha : DE X W a ca) (hb : DE X W b cb) : DN X W (.BinOp a .Mult b pos) (nRep ca cb) := pe_imp (pe_op op_rep ha hb) fun σ H Q ⟨ι, h, ρ, R, S, p⟩ => by
  refine ⟨ι, h, ρ, R, S, Post.imp (PostN.bind p) fun x H1 ⟨ι1, h1, dx, x1, R1, r1, p1⟩ => ?_⟩
  refine ⟨ι1, h1, ρ, R1, S.mono x1, Post.imp (PostN.bindAt x1 p1) fun y H2 ⟨ι2, h2, dy, x2, R2, r2, p2⟩ => ?_⟩
  split at p2
  · rename_i xs k e1
    obtain ⟨c, p2⟩ := p2.guard
    obtain ⟨c1, c2, c3⟩ := of_decide_eq_true c
    obtain ⟨l, vs, rfl, hl, rv⟩ := items_ok R2 (r1.mono x2) e1
    cases r2
    exact ⟨l, _, vs, rfl, rfl, hl, by omega, by omega, by rw [← rv.length, sizeLine_eq]; exact c3, fun q hq => p2.new (x1.trans x2) R2 (rv.rep _) hq⟩
  · exact p2.elim
end
end Dl

/-! The D layer, 21: a dict that is walked: locked meanwhile. -/
namespace Dl
open PySem PySem.Spec PyProof.Rows L2
variable [Tb]

/-! ### the lock -/
section
variable {K : PySem.W.Frag} {ι ι' : Ix} {H H' : Hp} {h h' : Hs} {a : Addr} {n : Nat} {od : Obj} {us : List (Key × V)} {kvs kvs' : List (Key × D)}
end
section
variable {X : Cx} {W : WX} {pos : Pos}
theorem RS.up2 {K : PySem.W.Frag} {ι ι' : Ix} {H H' : Hp} {ρ : Env} {σ : L2.St} (S : RS K ι H ρ σ) (u : Up ι H ι' H') : RS K ι' H' ρ σ := ⟨S.1, fun i d g => let ⟨v, h1, h2⟩ := S.2 i d g; ⟨v, h1, h2.up u⟩⟩
/-! ### its keys -/
end
end Dl

/-! The D layer, 22: own exceptions whose __init__ says super().__init__(): made, raised. -/
namespace Dl
open PySem PySem.Spec PyProof.Rows L2
variable [Tb]

def veB : List Value := [.type "ValueError", .type "Exception", .type "BaseException", .type "object"]
/-- the text of such an __init__ -/
def SupBody (body : List Stmt) : Prop := ∃ p0 p1 p2 p3 p4, body = [.Expr (.Call (.Attribute (.Call (.Name "super" p0) [] [] p1) "__init__" p2) [] [] p3) p4] ∧ (p2.endLine == p3.line) = true
/-- the function of such an __init__ -/
def SupF (P : Program) (K : PySem.W.Frag) (C f : Addr) : Prop :=
  ∃ oc od osl name qual params body scope doc pm an cda ct cc ar ccl cdd vs ccs file tf cl cld csl, K.lookup f = some ⟨oc, od, .func (PySem.W.fnX name qual params body scope [("__class__", cc)] .none .none doc pm an (.ref cda) ct), osl⟩ ∧
    params = ⟨[], [ar], none, [], [], none, []⟩ ∧ ar.arg = ("self" : Str) ∧ SupBody body ∧ scope.names.lookup ("super" : Str) = some .globalImplicit ∧ scope.names.lookup ("__class__" : Str) = some .free ∧ scope.names.lookup ar.arg = some .local ∧ (∀ x ∈ scope.names, x.2 ≠ .cell) ∧
    scope.isCoroutine = false ∧ scope.isGenerator = false ∧ scope.kind = .function ∧ PySem.W.codeIn K (.ref cda) qual = true ∧ K.lookup cda = some ⟨ccl, cdd, .fields vs, ccs⟩ ∧ vs[2]? = some (.str file tf) ∧ ((P.main.file : Str) == file) = true ∧ K.lookup cc = some ⟨cl, cld, .cell (some (.ref C)), csl⟩
/-- the facts of such a class C, its __init__ f -/
structure SupC (P : Program) (K : PySem.W.Frag) (C f : Addr) : Prop where
  made : PySem.W.excInitIn K C veB "ValueError.__new__" = true
  ini : PySem.W.findIn K (.ref C) "__init__" = some (some (.ref f))
  typ : PySem.W.typeIn K (.ref f) = some (.type "function")
  kC : PySem.W.keepIn K (.ref C) = true
  exC : PySem.W.subIn K (.ref C) (.type "BaseException") = some true
  tyC : PySem.W.typeIn K (.ref C) = some (.type "type")
  veC : PySem.W.subIn K (.ref C) (.type "ValueError") = some true
  slf : PySem.W.mroIn K C (.ref C) = some true
  sup : PySem.W.ks_superIn K C C "__init__" = some (some (.builtin "ValueError.__init__"))
  opq : PySem.W.nsIn K cStatics "thirdparty.any" = some none
  fn : SupF P K C f
  noSup : (P.main.scope.names.lookup ("super" : Str)).isSome = false

section
open PySem.W PySem.Calls
variable {prog : Program} {w : World} {K : PySem.W.Frag} {C f : Addr}
end

/-! ### C() -/
section
variable {X : Cx} {x : Str} {C f : Addr} {p pos : Pos} {k : Nat}
/-- raise C() -/
def sRaise (x : Str) : SM := fun ρ h => .exc ρ x [] h
end
end Dl

/-! The D layer, 23: try .. except: what the suite does, by the class of the error. -/
namespace Dl
open PySem PySem.Spec PyProof.Rows L2
variable [Tb]

/-- what a suite does -/
inductive Eff where
  | ret (d : D) | set (j : Nat) (d : D) | pass
def Eff.run : Eff → SM
  | .ret d => fun _ h => .ret d h
  | .set j d => fun ρ h => .nx (ρ.set j (some d)) h
  | .pass => fun ρ h => .nx ρ h
section
variable {K : PySem.W.Frag} {ι : Ix} {H : Hp}
theorem RS.drop {ρ : Env} {σ : L2.St} {i j : Nat} {d : D} {x : Option D} (S : RS K ι H ((ρ.set i x).set j (some d)) σ) (ne : j ≠ i) : RS K ι H ((ρ.set i none).set j (some d)) (σ.set i none) := by
  refine ⟨by simpa using S.1, fun k d' g => ?_⟩
  by_cases ek : k = i
  · subst ek
    rw [List.getElem?_set_ne ne] at g
    by_cases hl : k < ρ.length
    · rw [List.getElem?_set_self hl] at g
      cases g
    · rw [List.getElem?_eq_none (by rw [List.length_set]; omega)] at g
      cases g
  · have g2 : ((ρ.set i x).set j (some d))[k]? = some (some d') := by
      by_cases ej : j = k
      · subst ej
        have hl : j < ρ.length := by
          rcases Nat.lt_or_ge j ρ.length with z | z
          · exact z
          · rw [List.getElem?_eq_none (by rw [List.length_set, List.length_set]; omega)] at g
            cases g
        rw [List.getElem?_set_self (by rw [List.length_set]; exact hl)] at g ⊢
        exact g
      · rw [List.getElem?_set_ne ej, List.getElem?_set_ne (Ne.symm ek)] at g ⊢
        exact g
    obtain ⟨v, h1, h2⟩ := S.2 k d' g2
    exact ⟨v, by rw [List.getElem?_set_ne (Ne.symm ek)]; exact h1, h2⟩
end
/-- the suite with the error in slot i does e -/
def Does (n i : Nat) (a : Ed) (cs : SM) (e : Eff) : Prop := ∀ (ρ : Env) (h : Hs), ρ.length = n → match e with
  | .ret d => cs (ρ.set i (some (.exn a))) h = .ret d h
  | .set j d => j ≠ i ∧ cs (ρ.set i (some (.exn a))) h = .nx ((ρ.set i (some (.exn a))).set j (some d)) h
  | .pass => cs (ρ.set i (some (.exn a))) h = .nx (ρ.set i (some (.exn a))) h
/-- a class that the clause takes, what its suite does -/
def HdN (X : Cx) (n i : Nat) (c : Value) (suite : List Stmt) (C : Str) (e : Eff) : Prop := PySem.W.exmOne X.K (.ref (He.ga X.K C)) c = some true ∧ ∃ cs : Ed → SM,
  (∀ (a : Ed) (oe : Obj) (pn : List (Addr × Obj)), Zc (.ref (He.ga X.K C)) (a.2.map (·.1)) oe → (∃ vs, oe.data = .fields vs) → DSs (X.suite a.1 ((a.1, oe) :: pn)) NoW suite (cs a)) ∧ ∀ a, Does n i a (cs a) e

section
variable {X : Cx} {Wout : WX} {x nm : Str} {c : Value} {i n : Nat} {body suite : List Stmt} {b₀ : Stmt} {np pos pos' : Pos} {cb : SM} {tbl : List (Str × Eff)}
/-- isinstance of the error that the suite has -/
noncomputable def eIsE (a : Ed) (i : Nat) (b : Bool) : Env → M D := fun ρ h => (Classical.propDecidable (ρ[i]? = some (some (.exn a)))).casesOn (fun _ => .bad) fun _ => .ok (.bl b) h
end
end Dl

/-! The D layer, 24: o.f, o.g = e. -/
namespace Dl
open PySem PySem.Spec PyProof.Rows L2
variable [Tb]

section
variable {X : Cx} {W : WX} {pos p' p'' : Pos} {o o2 e : Expr} {f g : Str} {to : TE}
end
end Dl

/-! The D layer, 25: == and != of two instances by their own __eq__. -/
namespace Dl
open PySem PySem.Spec PyProof.Rows L2
variable [Tb]

section
variable {X : Cx} {C : Str} {mf : List D → M D} {k : Nat} {W : WX}
/-- the facts of a class with an own __eq__ -/
structure OwnC (K : PySem.W.Frag) (C f : Addr) : Prop where
  eq : PySem.W.findIn K (.ref C) "__eq__" = some (some (.ref f))
  fn : PySem.W.isFn K (.ref f) = true
  ne : PySem.W.findIn K (.ref C) "__ne__" = some (some (.builtin "object.__ne__"))
  ob : PySem.W.subIn K (.ref C) (.type "object") = some true

variable {a b : Expr} {ca cb : Env → M D} {pos : Pos}
theorem own_nil {K : PySem.W.Frag} : OwnF K [] := OwnF.nil
end
end Dl

/-! The D layer, 26: dicts whose keys are tuples of ints and tuples. -/
namespace Dl
open PySem PySem.Spec PyProof.Rows L2
variable [Tb]

/-! ### keys -/
theorem optAll_nk {n : Nat} (ih : ∀ d k, nkOf n d = some k → (∀ w w' : World, k.hash w = k.hash w') ∧ k.depth ≤ n) : ∀ {xs : List D} {ks : List NestedKey}, optAll (nkOf n) xs = some ks → (∀ w w' : World, NestedKey.hashes w ks = NestedKey.hashes w' ks) ∧ NestedKey.depthAll ks ≤ n
  | [], ks, e => by
    cases e
    exact ⟨fun _ _ => rfl, Nat.zero_le _⟩
  | x :: xs, ks, e => by
    unfold optAll at e
    split at e
    · rename_i y ys h1 h2
      cases e
      obtain ⟨a1, a2⟩ := ih _ _ h1
      obtain ⟨b1, b2⟩ := optAll_nk ih h2
      refine ⟨fun w w' => ?_, ?_⟩
      · show y.hash w :: NestedKey.hashes w ys = y.hash w' :: NestedKey.hashes w' ys
        rw [a1 w w', b1 w w']
      · show max y.depth (NestedKey.depthAll ys) ≤ n
        omega
    · cases e
theorem nk_hash : ∀ (n : Nat) (d : D) (k : NestedKey), nkOf n d = some k → (∀ w w' : World, k.hash w = k.hash w') ∧ k.depth ≤ n
  | 0, d, k, e => by
    unfold nkOf at e
    split at e
    · cases e
      exact ⟨fun _ _ => rfl, Nat.le_refl _⟩
    · cases e
  | n + 1, d, k, e => by
    unfold nkOf at e
    split at e
    · cases e
      exact ⟨fun _ _ => rfl, Nat.zero_le _⟩
    · obtain ⟨ks, e1, e2⟩ := Option.map_eq_some_iff.mp e
      subst e2
      obtain ⟨a1, a2⟩ := optAll_nk (nk_hash n) e1
      refine ⟨fun w w' => ?_, ?_⟩
      · show reduceHash (Builtin.Tuple.tupleHashOf (NestedKey.hashes w ks)) = reduceHash (Builtin.Tuple.tupleHashOf (NestedKey.hashes w' ks))
        rw [a1 w w']
      · show NestedKey.depthAll ks + 1 ≤ n + 1
        omega
    · cases e
section
variable {X : Cx} {pins : List (Addr × Obj)} {σ : L2.St} {H : Hp} {s : Shared} {ι : Ix} {h : Hs}
theorem nks_all {n : Nat} (ih : ∀ (d : D) (k : NestedKey) (v : V) (u : Value), RD X.K ι H d v → nkOf n d = some k → RelV v u → NestedIs s.heap k u) : ∀ {xs : List D} {vs : List V} {its : List Value} {ks : List NestedKey}, RDs X.K ι H xs vs → Vals vs its → optAll (nkOf n) xs = some ks → NestedAll s.heap ks its
  | [], _, _, ks, .nil, r, e => by
    cases e
    cases r
    exact .nil
  | x :: xs, _, _, ks, .cons q qs, r, e => by
    unfold optAll at e
    split at e
    · rename_i y ys h1 h2
      cases e
      cases r with
      | cons r1 r2 => exact .cons (ih _ _ _ _ q h1 r1) (nks_all ih qs r2 h2)
    · cases e
theorem nk_is (I : Inv X pins σ H s) : ∀ (n : Nat) (d : D) (k : NestedKey) (v : V) (u : Value), RD X.K ι H d v → nkOf n d = some k → RelV v u → NestedIs s.heap k u
  | 0, d, k, v, u, r, e, q => by
    unfold nkOf at e
    split at e
    · cases e
      cases r
      obtain ⟨t, rfl⟩ := (show ∃ t, u = Value.int _ t from q)
      exact .int _ _
    · cases e
  | n + 1, d, k, v, u, r, e, q => by
    unfold nkOf at e
    split at e
    · cases e
      cases r
      obtain ⟨t, rfl⟩ := (show ∃ t, u = Value.int _ t from q)
      exact .int _ _
    · obtain ⟨ks, e1, e2⟩ := Option.map_eq_some_iff.mp e
      subst e2
      cases r with
      | tup t rs =>
        cases (show u = Value.ref _ from q)
        obtain ⟨its, rv, ⟨o, ho, hc, m, hd⟩, hz⟩ := I.tuple t.sq
        exact .tup ho hc hd (by simpa using nks_all (nk_is I n) rs rv e1)
    · cases e
/-- a tuple as a key -/
def nkT : D → Option NestedKey
  | .tup xs => nkOf 4 (.tup xs)
  | _ => none
theorem nkT_is (I : Inv X pins σ H s) {d : D} {k : NestedKey} {v : V} {u : Value} (r : RD X.K ι H d v) (e : nkT d = some k) (q : RelV v u) : nkOf 4 d = some k ∧ ∃ a, v = .ref a ∧ u = .ref a ∧ (nestedKind X.prog X.w).is s.heap k a := by
  unfold nkT at e
  split at e
  · refine ⟨e, ?_⟩
    have is := nk_is I _ _ _ _ _ r e q
    cases r with
    | tup t rs =>
      cases (show u = Value.ref _ from q)
      have dp := (nk_hash _ _ _ e).2
      exact ⟨_, rfl, rfl, is, by omega⟩
  · cases e
/-! ### the dict -/
def nAt (h : Hs) : D → Option (List (NestedKey × D))
  | .obj n => (match h[n]? with
    | some (.dN kvs) => some kvs
    | some (.dI []) => some []
    | _ => none)
  | _ => none
theorem rn_is (I : Inv X pins σ H s) : ∀ {kvs : List (NestedKey × D)} {xs : List (NestedKey × Addr × Value)}, RN X.K ι H kvs xs → ∀ x ∈ xs, (nestedKind X.prog X.w).is s.heap x.1 x.2.1
  | _, _, .nil, x, m => nomatch m
  | _, _, .cons g r, x, m => by
    rcases List.mem_cons.mp m with e | m
    · subst e
      obtain ⟨e1, ⟨kd, e2, e3⟩, _⟩ := g
      rw [e1] at e2
      exact ⟨nk_is I _ _ _ _ _ e3 e2 rfl, by have := (nk_hash _ _ _ e2).2; omega⟩
    · exact rn_is I r x m
theorem nAt_ok (I : Inv X pins σ H s) (R : Rel X.K ι h H) {y : D} {u : V} {kvs : List (NestedKey × D)} (r : RD X.K ι H y u) (e : nAt h y = some kvs) :
    ∃ n a xs, y = .obj n ∧ u = .ref a ∧ ι.os[n]? = some a ∧ (a == sysModules) = false ∧ xs.length ≤ sizeLine ∧ s.heap.DictOfH (nestedKind X.prog X.w) a xs ∧ RN X.K ι H kvs xs ∧ L2.Mut (H a) ∧ ∀ od u, H a ≠ some (.frz od u) := by
  unfold nAt at e
  split at e
  · rename_i n
    cases r with
    | @obj _ a g =>
      split at e
      · rename_i ks en
        cases e
        obtain ⟨xs, h1, rn⟩ := R.at g en
        obtain ⟨⟨z1, z2, z3, o, es, ep, z4, z5, z6, z7⟩, _, _⟩ := (show ObjOk X.prog X.w H s.heap a (.ext (NDict a xs)) from I.hok a _ h1)
        exact ⟨n, a, xs, rfl, rfl, g, z1, z2, ⟨o, es, ep, z4, z5, z6, z7 X.w, rn_is I rn, z3⟩, rn, by rw [h1]; exact True.intro, nfr h1⟩
      · rename_i en
        cases e
        obtain ⟨us, h1, rf⟩ := R.at g en
        cases rf
        obtain ⟨z1, z2, vs, z3, o, es, ep, z4, z5, z6, z7, z8, z9⟩ := (show ObjOk X.prog X.w H s.heap a (.dK []) from I.hok a _ h1)
        cases z3
        refine ⟨n, a, [], rfl, rfl, g, z2, Nat.zero_le _, ⟨o, es, ep, z4, z5, z6, (by
          have q : es.toList = [] := by
            generalize es.toList = l at z8
            cases l with
            | nil => rfl
            | cons _ _ => cases z8
          rw [q] <;> rfl), (fun x m => nomatch m), List.nodup_nil⟩, .nil, by rw [h1]; exact True.intro, nfr h1⟩
      · cases e
  · cases e
theorem rn_look {K : PySem.W.Frag} {k : NestedKey} : ∀ {kvs : List (NestedKey × D)} {xs : List (NestedKey × Addr × Value)}, RN K ι H kvs xs → (∀ d, look kvs k = some d → ∃ b v u, atKey xs k = some (b, u) ∧ RelV v u ∧ RD K ι H d v) ∧ (look kvs k).isSome = (atKey xs k).isSome
  | _, _, .nil => ⟨(fun d e => nomatch (show (none : Option D) = some d from e)), rfl⟩
  | p :: ps, q :: qs, .cons g r => by
    obtain ⟨e1, e2, v, e3, e4⟩ := g
    have i12 := rn_look (k := k) r
    by_cases e : p.1 = k
    · have a1 : look (p :: ps) k = some p.2 := by simp [look, List.find?_cons, e]
      have a2 : atKey (q :: qs) k = some q.2 := by simp [atKey, List.find?_cons, e1.symm.trans e]
      rw [a1, a2]
      refine ⟨fun d z => ?_, rfl⟩
      cases z
      exact ⟨q.2.1, v, q.2.2, rfl, e3, e4⟩
    · have e' : ¬ q.1 = k := fun z => e (e1.trans z)
      have a1 : look (p :: ps) k = look ps k := by simp [look, List.find?_cons, e]
      have a2 : atKey (q :: qs) k = atKey qs k := by simp [atKey, List.find?_cons, e']
      rw [a1, a2]
      exact i12
def putN (kvs : List (NestedKey × D)) (k : NestedKey) (d : D) : List (NestedKey × D) := if (look kvs k).isSome = true then kvs.map (fun kv => if kv.1 = k then (kv.1, d) else kv) else kvs ++ [(k, d)]
theorem rn_map {K : PySem.W.Frag} {k : NestedKey} {d : D} {v : V} {u : Value} (rd : RD K ι H d v) (q : RelV v u) : ∀ {kvs : List (NestedKey × D)} {xs : List (NestedKey × Addr × Value)}, RN K ι H kvs xs → RN K ι H (kvs.map fun kv => if kv.1 = k then (kv.1, d) else kv) (xs.map (putAt k u))
  | _, _, .nil => .nil
  | p :: _, x :: _, .cons g r => by
    rw [List.map_cons, List.map_cons]
    refine .cons ?_ (rn_map rd q r)
    unfold putAt
    by_cases e : p.1 = k
    · rw [if_pos e, if_pos (g.1.symm.trans e)]
      exact ⟨g.1, g.2.1, v, q, rd⟩
    · rw [if_neg e, if_neg (fun z => e (g.1.trans z))]
      exact g
theorem rn_app {K : PySem.W.Frag} : ∀ {kvs kvs' : List (NestedKey × D)} {xs xs' : List (NestedKey × Addr × Value)}, RN K ι H kvs xs → RN K ι H kvs' xs' → RN K ι H (kvs ++ kvs') (xs ++ xs')
  | _, _, _, _, .nil, s => s
  | _, _, _, _, .cons g r, s => .cons g (rn_app r s)
theorem rn_put {K : PySem.W.Frag} {k : NestedKey} {kd d : D} {b : Addr} {v : V} {u : Value} {kvs : List (NestedKey × D)} {xs : List (NestedKey × Addr × Value)} (r : RN K ι H kvs xs) (ek : nkOf 4 kd = some k) (rk : RD K ι H kd (.ref b)) (rd : RD K ι H d v) (q : RelV v u) : RN K ι H (putN kvs k d) (storedH xs k b u) := by
  unfold putN storedH
  rw [(rn_look r).2]
  split
  · exact rn_map rd q r
  · exact rn_app r (.cons ⟨rfl, ⟨kd, ek, rk⟩, v, q, rd⟩ .nil)
theorem putN_len (kvs : List (NestedKey × D)) (k : NestedKey) (d : D) : (putN kvs k d).length ≤ kvs.length + 1 := by
  unfold putN
  split
  · rw [List.length_map]; omega
  · rw [List.length_append, List.length_cons, List.length_nil]; omega
theorem rn_len {K : PySem.W.Frag} {kvs : List (NestedKey × D)} {xs : List (NestedKey × Addr × Value)} (r : RN K ι H kvs xs) : kvs.length = xs.length := Paired.length r
theorem rn_hash {K : PySem.W.Frag} : ∀ {kvs : List (NestedKey × D)} {xs : List (NestedKey × Addr × Value)}, RN K ι H kvs xs → ∀ w w' : World, (xs.map fun x => (⟨x.1.hash w, .ref x.2.1, x.2.2⟩ : DictEntry)) = xs.map fun x => (⟨x.1.hash w', .ref x.2.1, x.2.2⟩ : DictEntry)
  | _, _, .nil, _, _ => rfl
  | _, _, .cons g r, w, w' => by
    obtain ⟨e1, ⟨kd, e2, e3⟩, _⟩ := g
    rw [e1] at e2
    rw [List.map_cons, List.map_cons, rn_hash r w w', (nk_hash _ _ _ e2).1 w w']
end

/-! ### k in d, d[k], d[k] = v -/
section
variable {X : Cx}
def rInN (K : PySem.W.Frag) (neg : Bool) : R2 := fun x y H Q => ∃ ι h dx dy k kvs, Rel K ι h H ∧ RD K ι H dx x ∧ RD K ι H dy y ∧ nkT dx = some k ∧ nAt h dy = some kvs ∧ Q (.bl (if neg then !(look kvs k).isSome else (look kvs k).isSome)) H
theorem room9 (hu : X.A.units + 64 < cLine) : (nestedKind X.prog X.w).room X.A.in1 := by
  show X.A.units + 1 + 8 < cLine
  omega
theorem op_ninN (hu : X.A.units + 64 < cLine) : OpR X (compareOp .NotIn) (rInN X.K true) := by
  intro pins s σ H x y v u Q I rx ry ⟨ι, h, dx, dy, k, kvs, R, r1, r2, e1, e2, q⟩
  obtain ⟨ek, b, rfl, rfl, hk⟩ := nkT_is I r1 e1 rx
  obtain ⟨n, a, xs, rfl, rfl, g, hd, hz, dd, rn, _, _⟩ := nAt_ok I R r2 e2
  cases (show u = Value.ref a from ry)
  have q' : Q (.bl (!(atKey xs k).isSome)) H := by
    rw [← (rn_look rn).2]
    exact q
  show wpAny _ _ (do return Value.bool (!(← contains (.ref a) (.ref b)))) _ _ s
  exact wpAny_bind (wpAny_contains_heap (room9 hu) hk hd dd (wpAny_pure ⟨.bl _, H, I.tok _, rfl, q'⟩))
def inNG (neg : Bool) (x y : D) : M D := fun h => match nkT x, nAt h y with
  | some k, some kvs => .ok (.bl (if neg then !(look kvs k).isSome else (look kvs k).isSome)) h
  | _, _ => .bad
def ninN := inNG true
theorem o_inN {neg : Bool} : Op2 X (rInN X.K neg) (inNG neg) := by
  intro ι h H x y v u W Q R rx ry p
  unfold inNG at p
  split at p
  · rename_i k kvs e1 e2
    exact ⟨ι, h, x, y, k, kvs, R, rx, ry, e1, e2, p.ok R (.bl _)⟩
  · exact p.elim
def rIxN (K : PySem.W.Frag) : R2 := fun x y H Q => ∃ ι h dx dy k kvs d, Rel K ι h H ∧ RD K ι H dx x ∧ RD K ι H dy y ∧ nkT dy = some k ∧ nAt h dx = some kvs ∧ look kvs k = some d ∧ ∀ v, RD K ι H d v → Q v H
theorem ix_N (hu : X.A.units + 64 < cLine) : IxR X (rIxN X.K) := by
  intro value slice pins s σ H x y v u Q I rx ry ⟨ι, h, dx, dy, k, kvs, d, R, r1, r2, e1, e2, e3, q⟩ hs
  obtain ⟨ek, b, rfl, rfl, hk⟩ := nkT_is I r2 e1 ry
  obtain ⟨n, a, xs, rfl, rfl, g, hd, hz, dd, rn, _, _⟩ := nAt_ok I R r1 e2
  cases (show v = Value.ref a from rx)
  obtain ⟨c, w, t, hw, rw', rd⟩ := (rn_look rn).1 d e3
  exact tail_any dd.typeIs PySem.F.slot_dict_getitem.lookup (wpAny_getItem_heap (room9 hu) hk dd hw ⟨w, H, I.tok _, rw', q w rd⟩) hs
def itemN (x y : D) : M D := fun h => match nkT y, nAt h x with
  | some k, some kvs => (match look kvs k with
    | some d => .ok d h
    | none => .bad)
  | _, _ => .bad
theorem o_itemN : Op2 X (rIxN X.K) itemN := by
  intro ι h H x y v u W Q R rx ry p
  unfold itemN at p
  split at p
  · rename_i k kvs e1 e2
    split at p
    · rename_i d e3
      exact ⟨ι, h, x, y, k, kvs, d, R, rx, ry, e1, e2, e3, fun w rw' => p.ok R rw'⟩
    · exact p.elim
  · exact p.elim
def rSetN (K : PySem.W.Frag) : TSet := fun o i v H Q => ∃ ι h dx dy dv n k kvs, Rel K ι h H ∧ RD K ι H dx o ∧ RD K ι H dy i ∧ RD K ι H dv v ∧ dx = .obj n ∧ nkT dy = some k ∧ nAt h dx = some kvs ∧ kvs.length < 16777216 ∧
  ∀ H', Ext ι H ι H' → Rel K ι (h.set n (.dN (putN kvs k dv))) H' → Q H'
theorem set_N (hu : X.A.units + 64 < cLine) : PSet X (rSetN X.K) := by
  intro pins s σ H o i v ov iv u Q I ro ri rv ⟨ι, h, dx, dy, dv, n, k, kvs, R, r1, r2, r3, ex, e1, e2, hl, q⟩
  obtain ⟨ek, b, rfl, rfl, hk⟩ := nkT_is I r2 e1 ri
  obtain ⟨n', a, xs, ex', rfl, g, hd, hz, dd, rn, mu, nf⟩ := nAt_ok I R r1 e2
  have en : n' = n := by rw [ex] at ex'; cases ex'; rfl
  subst en
  cases (show ov = Value.ref a from ro)
  have m := List.mem_of_getElem? g
  refine wpAny_setItem_heap (hsz := hz) (room9 hu) hk dd fun h' dd' hs => ?_
  obtain ⟨o', es, ep, ho, h2, h3, h4, _, h5⟩ := dd'
  have rn' := rn_put rn ek r2 r3 rv
  have nl : (storedH xs k b u).length ≤ sizeLine := by
    rw [← rn_len rn', sizeLine_eq]
    have := putN_len kvs k dv
    omega
  have nd : NDict a (storedH xs k b u) h' := ⟨hd, nl, h5, o', es, ep, ho, h2, h3, fun w => by rw [rn_hash rn' w X.w]; exact h4⟩
  refine ⟨upd H a (.ext (NDict a (storedH xs k b u))), d_write I mu hs ⟨o', ho⟩ ⟨nd, ⟨o', ho⟩, fun g1 g2 z st => ?_⟩, q _ (.chg m nf) (R.chg g ⟨_, upd_same, rn'.up (Up.chg m)⟩)⟩
  obtain ⟨z1, z2, z3, oz, ez, pz, z4, z5⟩ := z
  exact ⟨z1, z2, z3, oz, ez, pz, st _ z4, z5⟩
variable {W : WX} {pos : Pos} {a b e o ix : Expr} {ca cb ce co cx : Env → M D}
theorem dt_ninN (hu : X.A.units + 64 < cLine) (ha : DE X W a ca) (hb : DE X W b cb) (hm : behindInMarks .NotIn b = false := by with_unfolding_all rfl) : DT X W (.Compare a [.NotIn] [b] pos) (tst (e2 ninN ca cb)) := w_cmp (op_ninN hu) o_inN ha hb hm
theorem de_itemN (hu : X.A.units + 64 < cLine) (ha : DE X W a ca) (hb : DE X W b cb) (hs : PlainIx b := by intro _ _; rfl) : DE X W (.Subscript a b pos) (e2 itemN ca cb) := de_ix (ix_N hu) o_itemN ha hb hs
def sStoreN (ce co cx : Env → M D) : SM := fun ρ h => (ce ρ h).then ρ fun v h1 => (co ρ h1).then ρ fun o h2 => (cx ρ h2).then ρ fun i h3 => match o, nkT i, nAt h3 o with
  | .obj n, some k, some kvs => if decide (kvs.length < 16777216) then .nx ρ (h3.set n (.dN (putN kvs k v))) else .bad
  | _, _, _ => .bad
theorem ds_storeN {p' : Pos} (hu : X.A.units + 64 < cLine) (he : DE X W e ce) (ho : DE X W o co) (hi : DE X W ix cx)
    (ha : ∀ v, assign (.Subscript o ix p') X.env v = (do
      let ov ← holding [v] (eval o X.env)
      let iv ← holding [v, ov] (eval ix X.env)
      standAt p'
      holding [v, ov, iv] (setItem ov iv v)
      release [v, ov, iv] []) := by intro _; rfl) (hs : swapsWithSole [.Subscript o ix p'] e pos.line X.env = pure false := by rfl) (hw : swappedStores [.Subscript o ix p'] e X.env = pure none := by rfl)
    (h1 : (assignEach [.Subscript o ix p'] X.env).map (·.2) = [assign (.Subscript o ix p') X.env] := by rfl) : DS X W (.Assign [.Subscript o ix p'] e pos) (sStoreN ce co cx) := ps_imp (ps_asg he (pg_sub ho hi (set_N hu) ha) hs hw h1) fun D σ H ⟨ι, h, ρ, R, S, p⟩ => by
  refine ⟨ι, h, ρ, R, S, Post.imp (PostS.then p S) fun v H1 ⟨ι1, h1, d, x1, R1, r1, p1⟩ => ?_⟩
  refine ⟨ι1, h1, ρ, R1, S.mono x1, Post.imp (PostS.then p1 (S.mono x1)) fun o H2 ⟨ι2, h2, od, x2, R2, r2, p2⟩ => ?_⟩
  have S2 := S.mono (x1.trans x2)
  refine ⟨ι2, h2, ρ, R2, S2, Post.imp (PostS.then p2 S2) fun j H3 ⟨ι3, h3, jd, x3, R3, r3, p3⟩ => ?_⟩
  split at p3
  · rename_i z1 z2
    split at p3
    · rename_i hl
      exact ⟨ι3, h3, _, jd, d, _, _, _, R3, r2.mono x3, r3, r1.mono (x2.trans x3), rfl, by assumption, by assumption, of_decide_eq_true hl, fun H' x4 R4 => p3 ι3 H' σ x4 R4 ((S2.mono x3).mono x4)⟩
    · exact p3.elim
  · exact p3.elim
end
end Dl

/-! The D layer, 27: dict(list of pairs). -/
namespace Dl
open PySem PySem.Spec PyProof.Rows L2
variable [Tb]

section
variable {K : PySem.W.Frag} {ι : Ix} {H : Hp}
end
section
variable {X : Cx}
end
end Dl

/-! The D layer, 28: tuple * 1 is that tuple. -/
namespace Dl
open PySem PySem.Spec PyProof.Rows L2
variable [Tb]

section
variable {X : Cx}
variable {W : WX} {pos : Pos} {a b : Expr} {ca cb : Env → M D}
end
end Dl

/-! The D layer, 29: zip of a tuple and a list, by cursors: whatever iterators two cursors stand for, zip takes a step of each. -/
namespace Dl
open PySem PySem.Spec PyProof.Rows L2 RZ
variable [Tb]

/-- an iterator, the thing it walks, one step of it, its end -/
structure Cur (it l : Addr) (items : Array Value) (pos : Nat → Heap → Prop) (src : Heap → Prop) : Prop where
  obj : ∀ {i h}, pos i h → ∃ o, h.get? it = some o ∧ ∀ v, o.data ≠ .cell v
  kept : ∀ {i h h'}, (∀ o, h.get? it = some o → h'.get? it = some o) → pos i h → pos i h'
  same : ∀ {h h'}, (∀ o, h.get? l = some o → h'.get? l = some o) → src h → src h'
  step : ∀ {prog : Program} {w : World} {A : Around} {E : Value → Shared → Prop} {s : Shared} {i : Nat} {x : Value} {Q : Value → Shared → Prop}, pos i s.heap → src s.heap → items[i]? = some x →
    (∀ h', pos (i + 1) h' → Heap.SameBut it s.heap h' → Q x { s with heap := h' }) → wpAny (model prog w) A (Builtin.SmallTypes.nextOf (.ref it)) Q E s
  last : ∀ {prog : Program} {w : World} {A : Around} {E : Value → Shared → Prop} {s : Shared} {i : Nat} {Q : Value → Shared → Prop}, A.handled = none → pos i s.heap → src s.heap → items[i]? = none →
    (∀ h' e, Heap.ExtBut it s.heap h' → (∃ o, h'.get? e = some o ∧ o.cls = .type "StopIteration") → E (.ref e) { s with heap := h' }) → wpAny (model prog w) A (Builtin.SmallTypes.nextOf (.ref it)) Q E s
section
variable {prog : Program} {w : World} {A : Around} {E : Value → Shared → Prop} {s : Shared} {z TI TO i1 i2 l1 l2 : Addr} {xs ys : Array Value} {pos1 pos2 : Nat → Heap → Prop} {src1 src2 : Heap → Prop} (C1 : Cur i1 l1 xs pos1 src1) (C2 : Cur i2 l2 ys pos2 src2) (D : ZipApart z TI TO i1 i2 l1 l2)
include C1 C2 D
end
/-! ### a new zip of a tuple and a list -/
/-! ### walked -/
end Dl

/-! The D layer, 30: the facts of an own exception class, looked at by a test. -/
namespace Dl
open PySem PySem.Spec PyProof.Rows L2
variable [Tb]

/-! ### the head's hook, that looks at the statics, too -/
/-! ### what an except clause looks at -/
def kitB (K : PySem.W.Frag) (C B : Str) (b : Bool) : Bool := decide (PySem.W.kitOne K (.ref (He.ga K C)) (.ref (He.ga K B)) = some b)
end Dl

/-! The D layer, 31: an own __eq__ against what is no instance of the class. -/
namespace Dl
open PySem PySem.Spec PyProof.Rows L2
variable [Tb]

/-- the facts: neither tuples nor ints nor None come ahead of the class -/
structure OwnX (K : PySem.W.Frag) (C : Addr) : Prop where
  tup : PySem.W.notFirst K C (.type "tuple") = true
  int : PySem.W.notFirst K C (.type "int") = true
  non : PySem.W.notFirst K C (.type "NoneType") = true
section
variable {X : Cx} {C : Str} {mf : List D → M D} {k : Nat} {W : WX}
variable {a b : Expr} {ca cb : Env → M D} {pos : Pos}
end
/-! ### except without a name -/
section
variable {X : Cx} {Wout : WX} {x : Str} {c : Value} {n : Nat} {body suite : List Stmt} {b₀ : Stmt} {np pos pos' : Pos} {cb : SM} {tbl : List (Str × Eff)}
end
end Dl

/-! The D layer, 32: count and index of a list. -/
namespace Dl
open PySem PySem.Spec PyProof.Rows L2
variable [Tb]

section
variable {X : Cx}
variable {W : WX} {apos cpos : Pos} {o e : Expr} {es : List Expr} {ca : Env → M D} {cs : Env → M (List D)} {name : Str} {id : String} {r : V → List V → Hp → VK → Prop} {f : D → List D → M D}
end
end Dl

/-! The D layer, 33: a lambda without parameters, handed to a def that calls it, where no repr is under way. -/
namespace Dl
open PySem PySem.Spec PyProof.Rows L2
open LamX (CodeO TabS Tabs ExtN LamS lamEnv lamCx lam_start2 lam_make2 run_ofS TabB tLam GivesTo)
variable [Tb]

section
variable {X : Cx} {pins : List (Addr × Obj)} {σ : L2.St} {H HZ : Hp} {s s1 : Shared}
/-- the table's next state: as it was, or longer by a new code object -/
def TabStep (H H1 : Hp) (P : Addr) (q : Str) (c' : Addr) : Prop := (H1 = H ∧ H c' = some (CodeO c' q)) ∨
  ∃ (ps : Array Value) (l : Pos), H P = some (.tbl ps) ∧ TriplesOk ps.toList ∧ H c' = none ∧ H1 = upd (upd H P (.tbl (ps ++ #[rawInt l.line, rawInt l.col, .ref c']))) c' (CodeO c' q)
theorem TabStep.code {P c' : Addr} {q : Str} {H1 : Hp} (t : TabStep H H1 P q c') : H1 c' = some (CodeO c' q) := by
  rcases t with ⟨rfl, e⟩ | ⟨ps, l, _, _, _, rfl⟩
  · exact e
  · exact upd_same
end
end Dl

/-! The D layer, 34: the word of a call's error: x(lambda: ..), x a def with a try. -/
namespace Dl
open PySem PySem.Spec PyProof.Rows L2
open LamX (CodeO TabS LamS lamEnv lamCx TabB GivesTo)
variable [Tb]

section
variable {K : PySem.W.Frag} {ι : Ix} {h : Hs} {H H1 : Hp} {P c' : Addr} {q : Str}
theorem TabStep.keep (st : TabStep H H1 P q c') : ∀ b o, b ≠ P → H b = some o → H1 b = some o := by
  intro b o n e
  rcases st with ⟨rfl, _⟩ | ⟨ps, l, _, _, hc, rfl⟩
  · exact e
  · rw [upd_ne (ne_of_none e hc), upd_ne n]
    exact e
theorem TabStep.ext (R : Rel K ι h H) (m : (P, q) ∈ Tb.ts K) (st : TabStep H H1 P q c') : Ext ι H ι H1 := by
  obtain ⟨rs, t⟩ := R.tab _ m
  obtain ⟨ps0, hP, _⟩ := id t
  have hP1 : H1 P ≠ none := by
    rcases st with ⟨rfl, _⟩ | ⟨ps, l, _, _, hc, rfl⟩
    · rw [hP]; exact fun z => nomatch z
    · exact upd_dom _ (upd_dom _ (by rw [hP]; exact fun z => nomatch z))
  refine ⟨⟨[], by simp⟩, rfl, fun a o e n r => ?_, fun _ m => .inl m, fun a od u e => ?_, fun a n => ?_⟩
  · refine st.keep a o (fun z => ?_) e
    subst z
    rw [hP] at e
    exact r rs ps0 (Option.some.inj e).symm
  · refine st.keep a _ (fun z => ?_) e
    subst z
    rw [hP] at e
    cases e
  · by_cases z : a = P
    · rw [z]; exact hP1
    · cases e : H a with
      | none => exact absurd e n
      | some o => rw [st.keep a o z e]; exact fun y => nomatch y
end
section
variable {X : Cx} {W : WX} {tbl : List (Str × Str)} {cb : Env → M D} {P : Addr} {q lw : Str}
end
end Dl

/-! The D layer, 35: the def that gets the lambda, by its text. -/
namespace Dl
open PySem PySem.Spec PyProof.Rows L2
open LamX (CodeO TabS LamS lamEnv lamCx TabB GivesTo)
variable [Tb]

/-- the context of the def that got the lambda -/
abbrev cxW (X : Cx) (Ng : List Str) (x : Str) (sg : Scope) (g : Addr) (cdg : Value) (s : Shared) (H : Hp) : Cx := (cxOf C8.CX0 X.prog X.w X.K X.mg X.base Ng x sg g cdg X.A X.stack s H C8.E0).nox
section
variable {X : Cx} {tbl : List (Str × Str)} {Ng : List Str} {x a e nm q lw : Str} {sg : Scope} {g : Addr} {cdg c : Value} {i j : Nat} {b0 : Stmt} {suite : List Stmt} {p1 p2 p3 p4 p5 p6 p7 p8 : Pos}
variable (hN : Ng.Nodup) (hi : Ng[i]? = some nm) (hln : ∀ (s : Shared) (H : Hp), (cxW X Ng x sg g cdg s H).env.kindOf nm = some .local) (hc : ∀ (s : Shared) (H : Hp), Names (cxW X Ng x sg g cdg s H) e c) (h0 : ∀ f : Addr, (L2.start Ng [V.ref f])[0]? = some (some (V.ref f)))
    (hsu : ∀ (s : Shared) (H : Hp) (C w : Str), tbl.lookup C = some w → HdN (cxW X Ng x sg g cdg s H) Ng.length i c (b0 :: suite) C (.ret (.str w)))
include hN hi hln hc h0 hsu
end
end Dl

/-! The D layer, 36: x(lambda: ..) as one computation. -/
namespace Dl
open PySem PySem.Spec PyProof.Rows L2
open LamX (CodeO TabS LamS lamSB lamEnv lamCx TabB GivesTo)
variable [Tb]

/-- what the def that makes a lambda must know of its own code object -/
structure LamM (X : Cx) (c P : Addr) : Prop where
  tb : TabB X.base X.mg c P
  code : X.env.code = .ref c
  ts : Tb.ts X.K = [(P, X.env.qual ++ "<lambda>")]
section
variable {X : Cx} {W : WX} {tbl : List (Str × Str)} {cb : Env → M D} {c P : Addr} {x a : Str} {k : Nat} {pg params : Arguments} {bg : List Stmt} {sg scope : Scope} {Ng : List Str} {body : Expr} {p lpos pos : Pos}
theorem LamM.mem (M : LamM X c P) : (P, X.env.qual ++ "<lambda>") ∈ Tb.ts X.K := by rw [M.ts]; exact List.mem_cons_self
theorem LamM.one (M : LamM X c P) : ∀ p ∈ Tb.ts X.K, p = (P, X.env.qual ++ "<lambda>") := fun p hp => by rw [M.ts] at hp; exact List.mem_singleton.mp hp
variable {e nm lw : Str} {cl : Value} {i j : Nat} {b0 : Stmt} {suite : List Stmt} {p1 p2 p3 p4 p5 p6 p7 p8 : Pos}
end
end Dl

/-! The D layer, 37: a law's end with one table of code objects; the head's hook that sees it. -/
namespace Dl
open PySem PySem.Spec PyProof.Rows L2
open LamX (TabB)
variable [Tb]

abbrev tab0 : Obj := { cls := .none, data := .fields #[] }
/-! ### the hook -/
/-- what the code object must be -/
def codeB (K : PySem.W.Frag) (c P : Addr) : Bool := match K.lookup c with
  | some ⟨.type "code", _, .fields vs, _⟩ => (match (vs[11]? : Option Value), vs.getD 11 .none, vs.getD 18 .none, vs.getD 7 .none, vs.getD 9 .none, vs.getD 10 .none with
    | some (.ref p1), .ref p2, .str _ _, .int _ _, .bool _, .int _ _ => decide (p1 = P) && (decide (p2 = P) && decide (c ≠ P))
    | _, _, _, _, _, _ => false)
  | _ => false
end Dl

/-! The D layer, 38: the head's hook that sees the law's code object and its table. -/
namespace Dl
open PySem PySem.Spec PyProof.Rows L2
variable [Tb]

def lawC (K : PySem.W.Frag) : Addr := codeA K (He.ga K "law")
def lawP (K : PySem.W.Frag) : Addr := tabA K (He.ga K "law")
structure SaysT (fa : List He.Fa) (fn : List He.DefD) (ex : PySem.W.Frag → Bool) (h : Heap) (K : PySem.W.Frag) : Prop where
  says : SaysE fa fn ex K
  code : codeB K (lawC K) (lawP K) = true
  out : K.lookup (lawP K) = none
  tab : h.get? (lawP K) = some tab0
end Dl

/-! The D layer, 39: a def picked out of a list, called. -/
namespace Dl
open PySem PySem.Spec PyProof.Rows L2
variable [Tb]

section
variable {X : Cx} {W : WX} {pos p2 : Pos} {a b e : Expr} {es : List Expr} {cf : Env → M D} {cs : Env → M (List D)} {k n : Nat} {tbl : List (Str × (List D → M D))}
end
end Dl

/-! The D layer, 40: what a suite looks at. -/
namespace Dl
open PySem PySem.Spec PyProof.Rows L2
variable [Tb]

section
variable {X : Cx} {W : WX} {a : Ed} {oe : Obj} {pn : List (Addr × Obj)} {i : Nat} {C B nm : Str} {b : Bool} {n : String} {p1 p2 p3 pos : Pos}
end
end Dl

/-! The D layer, 41: the end's looks in parts. -/
namespace Dl
open PySem PySem.Spec PyProof.Rows L2
variable [Tb]
variable {σ : Type} {x : Option σ}
end Dl

/-! The D layer, 42: sorted(d.items()) of a dict of ints and texts. -/
namespace Dl
open PySem PySem.Spec PyProof.Rows L2 L2.DX
variable [Tb]

section
variable {X : Cx}
end
theorem sqT_grow {K : PySem.W.Frag} {H H' : Hp} (g : ∀ b o, H b = some o → H' b = some o) {a : Addr} {xs : List V} (h : SqT K H a xs) : SqT K H' a xs := by
  rcases h with (h | ⟨o, h⟩) | h
  · exact .inl (.inl (g _ _ h))
  · exact .inl (.inr ⟨o, g _ _ h⟩)
  · exact .inr h
theorem sqL_grow {K : PySem.W.Frag} {H H' : Hp} (g : ∀ b o, H b = some o → H' b = some o) {a : Addr} {xs : List V} (h : SqL K H a xs) : SqL K H' a xs := by
  rcases h with (h | ⟨o, h⟩) | h
  · exact .inl (.inl (g _ _ h))
  · exact .inl (.inr ⟨o, g _ _ h⟩)
  · exact .inr h
mutual
theorem Dp.grow {K : PySem.W.Frag} {H H' : Hp} (g : ∀ b o, H b = some o → H' b = some o) : ∀ {v : V} {d : PyData}, Dp K H v d → Dp K H' v d
  | _, _, .non => .non
  | _, _, .bl b => .bl b
  | _, _, .int i => .int i
  | _, _, .str x => .str x
  | _, _, .lst q r => .lst (sqL_grow g q) (DpAll.grow g r)
  | _, _, .tup q r => .tup (sqT_grow g q) (DpAll.grow g r)
theorem DpAll.grow {K : PySem.W.Frag} {H H' : Hp} (g : ∀ b o, H b = some o → H' b = some o) : ∀ {v : List V} {d : List PyData}, DpAll K H v d → DpAll K H' v d
  | _, _, .nil => .nil
  | _, _, .cons h r => .cons (Dp.grow g h) (DpAll.grow g r)
end
theorem Ext.sub {ι : Ix} {H H' : Hp} (g : ∀ b o, H b = some o → H' b = some o) : Ext ι H ι H' := ⟨⟨[], by simp⟩, rfl, fun a o h _ _ => g a o h, fun _ h => .inl h, fun a od u h => g a _ h, fun a n z => by
  cases e : H a with
  | none => exact n e
  | some o => rw [g a o e] at z; cases z⟩
/-! ### the rule -/
section
variable {K : PySem.W.Frag} {ι : Ix} {H : Hp} {h : Hs}
end
section
variable {X : Cx} {W : WX} {o : Expr} {co : Env → M D} {p apos cpos pos : Pos}
end
end Dl

/-! The D layer, 43: the head's hook, over the objects that are met on short ways alone. -/
namespace Dl
open PySem PySem.Spec PyProof.Rows L2
variable [Tb]
end Dl

/-! The D layer, 44: list(zip(..)) of a tuple and a list: the pairs stay out. -/
namespace Dl
open PySem PySem.Spec PyProof.Rows L2 RZ
variable [Tb]

section
variable {prog : Program} {w : World} {A : Around} {E : Value → Shared → Prop} {s : Shared} {z TI TO T i1 i2 l1 l2 : Addr} {f : Bool} {oT : Obj} {k : Nat} {xs ys : Array Value} {pos1 pos2 : Nat → Heap → Prop} {src1 src2 : Heap → Prop} (C1 : Cur i1 l1 xs pos1 src1) (C2 : Cur i2 l2 ys pos2 src2) (D : ZipApart z TI TO i1 i2 l1 l2)
include C1 C2 D
/-- how the zip stands when k pairs are out -/
def ZSt (h : Heap) (z TI TO i1 i2 : Addr) (pos1 pos2 : Nat → Heap → Prop) (lo : Addr) (k : Nat) : Prop :=
  IsPair h TI (.ref i1) (.ref i2) ∧ pos1 k h ∧ pos2 k h ∧ ((IsZip h z TI TO .none ∧ ∃ a b, IsPair h TO a b) ∨ ∃ (T : Addr) (f : Bool) (oT : Obj), IsZipHeld h z TI TO T f ∧ h.get? T = some oT ∧ lo < T)
end
end Dl

/-! The D layer, 45: list(zip(..)) of a tuple and a list: the loop, the call, the rule. -/
namespace Dl
open PySem PySem.Spec PyProof.Rows L2 L2.DX RZ
variable [Tb]

theorem ZSt.up {h h' : Heap} {z TI TO i1 i2 l1 l2 : Addr} {xs ys : Array Value} {pos1 pos2 : Nat → Heap → Prop} {src1 src2 : Heap → Prop} (C1 : Cur i1 l1 xs pos1 src1) (C2 : Cur i2 l2 ys pos2 src2) {S : Addr} {k : Nat} (hst : ZSt h z TI TO i1 i2 pos1 pos2 S k)
    (u : ∀ b o, b ≠ S → h.get? b = some o → h'.get? b = some o) (lz : z < S) (lTI : TI < S) (lTO : TO < S) (l1 : i1 < S) (l2 : i2 < S) : ZSt h' z TI TO i1 i2 pos1 pos2 S k := by
  obtain ⟨hTI, p1, p2, hz⟩ := hst
  refine ⟨u _ _ (Nat.ne_of_lt lTI) hTI, C1.kept (fun o => u _ o (Nat.ne_of_lt l1)) p1, C2.kept (fun o => u _ o (Nat.ne_of_lt l2)) p2, ?_⟩
  rcases hz with ⟨hz, a, b, hTO⟩ | ⟨T, f, oT, hz, hT, lT⟩
  · exact .inl ⟨u _ _ (Nat.ne_of_lt lz) hz, a, b, u _ _ (Nat.ne_of_lt lTO) hTO⟩
  · exact .inr ⟨T, f, oT, u _ _ (Nat.ne_of_lt lz) hz, u _ _ (Nat.ne_of_gt lT) hT, lT⟩
structure MadeZ (xs ys : Array Value) (lo : Addr) (h : Heap) (as : List Addr) : Prop where
  rise : as.Pairwise (· < ·)
  above : ∀ a ∈ as, lo < a
  pairs : ∀ (j : Nat) (a : Addr), as[j]? = some a → ∃ x y, xs[j]? = some x ∧ ys[j]? = some y ∧ h.get? a = some { cls := .type "tuple", data := .seq #[x, y] }
section
variable {prog : Program} {w : World} {A : Around} {s : Shared} {R : Result → Shared → Prop} {z TI TO i1 i2 l1 l2 : Addr} {xs ys : Array Value} {pos1 pos2 : Nat → Heap → Prop} {src1 src2 : Heap → Prop}
end
/-! ### the rule -/
section
variable {X : Cx} {W : WX}
end
end Dl

/-! The D layer, 46: d.setdefault(k, x). -/
namespace Dl
open PySem PySem.Spec PyProof.Rows L2
variable [Tb]
section
variable {X : Cx} {W : WX} {co ck cx : Env → M D} {o k x : Expr} {apos cpos : Pos}
def setdD (o k x : D) : M D := fun h => match o, dctAt h o, keyOf k with
  | .obj n, some kvs, some kk => if decide (kvs.length < 16777216) then (match look kvs kk with
    | some d => .ok d h
    | none => .ok x (h.set n (.dI (putKD kvs kk x)))) else .bad
  | _, _, _ => .bad
def eSetd (co ck cx : Env → M D) : Env → M D := fun ρ h => (co ρ h).bind fun o h1 => match dctAt h1 o with
  | some _ => (ck ρ h1).bind fun k h2 => (cx ρ h2).bind fun x h3 => setdD o k x h3
  | none => .bad
theorem de_setd (ho : DE X W o co) (hk : DE X W k ck) (hx : DE X W x cx) (m : M2 X o "setdefault" apos k x cpos := by exact ⟨rfl, rfl, rfl, rfl⟩) : DE X W (.Call (.Attribute o "setdefault" apos) [k, x] [] cpos) (eSetd co ck cx) := pe_imp (pe_dsetd ho hk hx m) fun σ H Q ⟨ι, h, ρ, R, S, p⟩ => by
  refine ⟨ι, h, ρ, R, S, Post.imp (Post.bind p) fun v H1 ⟨ι1, h1, dx, x1, R1, r1, p1⟩ => ?_⟩
  split at p1
  · rename_i kvs e
    obtain ⟨n, a, us, rfl, rfl, g, ha, rf⟩ := dctAt_ok R1 r1 e
    refine ⟨a, rfl, .inl ⟨us, .inl ha⟩, ι1, h1, ρ, R1, S.mono x1, Post.imp (Post.bind p1) fun y H2 ⟨ι2, h2, dy, x2, R2, r2, p2⟩ => ?_⟩
    refine ⟨ι2, h2, ρ, R2, S.mono (x1.trans x2), Post.imp (Post.bind p2) fun z H3 ⟨ι3, h3, dz, x3, R3, r3, p3⟩ => ?_⟩
    unfold setdD at p3
    split at p3
    · rename_i n' kvs' kk en e1 e2
      cases en
      obtain ⟨c, p3⟩ := p3.guard
      have g3 := x3.get (x2.get g)
      obtain ⟨n', a', us', en, ea, g', ha', rf'⟩ := dctAt_ok R3 (.obj g3) e1
      cases ea
      cases en
      refine ⟨us', kk, ha', keyOf_kV r2 e2, by rw [sizeLine_eq, ← rf_len rf']; exact of_decide_eq_true c, fun v hv => ?_, fun hn => ?_⟩
      · obtain ⟨i1, i2⟩ := look_rf (k := kk) rf'
        cases l : look kvs' kk with
        | none => rw [i2 l] at hv; cases hv
        | some d =>
          rw [l] at p3
          obtain ⟨v', z1, z2⟩ := i1 d l
          rw [z1] at hv
          cases hv
          exact p3.ok R3 z2
      · obtain ⟨i1, i2⟩ := look_rf (k := kk) rf'
        cases l : look kvs' kk with
        | some d =>
          obtain ⟨v', z1, z2⟩ := i1 d l
          rw [z1] at hn
          cases hn
        | none =>
          rw [l] at p3
          have m := List.mem_of_getElem? g3
          have ext := Ext.chg (o := .dK (putK us' kk z)) m (nfr ha')
          exact p3 _ _ _ ext (R3.chg g3 ⟨putK us' kk z, upd_same, (rf_putK rf' r3).mono ext⟩) (r3.mono ext)
    · exact p3.elim
  · exact p1.elim
end
end Dl

/-! The D layer, 47: own exceptions whose __init__ says super().__init__(x), self.x = x. -/
namespace Dl
open PySem PySem.Spec PyProof.Rows L2
variable [Tb]

def Sup1Body (x : Str) (body : List Stmt) : Prop := ∃ p0 p1 p2 p3 p4 p5 p6 p7 p8 p9, body = [.Expr (.Call (.Attribute (.Call (.Name "super" p0) [] [] p1) "__init__" p2) [.Name x p5] [] p3) p4, .Assign [.Attribute (.Name "self" p6) x p7] (.Name x p8) p9] ∧ (p2.endLine == p3.line) = true
def Sup1F (P : Program) (K : PySem.W.Frag) (C f : Addr) (x : Str) : Prop :=
  ∃ oc od osl name qual params body scope doc pm an cda ct cc ar ar2 ccl cdd vs ccs file tf cl cld csl, K.lookup f = some ⟨oc, od, .func (PySem.W.fnX name qual params body scope [("__class__", cc)] .none .none doc pm an (.ref cda) ct), osl⟩ ∧
    params = ⟨[], [ar, ar2], none, [], [], none, []⟩ ∧ ar.arg = ("self" : Str) ∧ ar2.arg = x ∧ (x == ("self" : Str)) = false ∧ Sup1Body x body ∧ scope.names.lookup ("super" : Str) = some .globalImplicit ∧ scope.names.lookup ("__class__" : Str) = some .free ∧ scope.names.lookup ar.arg = some .local ∧ scope.names.lookup ar2.arg = some .local ∧ (∀ x ∈ scope.names, x.2 ≠ .cell) ∧
    scope.isCoroutine = false ∧ scope.isGenerator = false ∧ scope.kind = .function ∧ PySem.W.codeIn K (.ref cda) qual = true ∧ K.lookup cda = some ⟨ccl, cdd, .fields vs, ccs⟩ ∧ vs[2]? = some (.str file tf) ∧ ((P.main.file : Str) == file) = true ∧ K.lookup cc = some ⟨cl, cld, .cell (some (.ref C)), csl⟩
structure Sup1 (P : Program) (K : PySem.W.Frag) (C f : Addr) (x : Str) : Prop where
  made : PySem.W.excInitIn K C veB "ValueError.__new__" = true
  ini : PySem.W.findIn K (.ref C) "__init__" = some (some (.ref f))
  typ : PySem.W.typeIn K (.ref f) = some (.type "function")
  kC : PySem.W.keepIn K (.ref C) = true
  exC : PySem.W.subIn K (.ref C) (.type "BaseException") = some true
  tyC : PySem.W.typeIn K (.ref C) = some (.type "type")
  veC : PySem.W.subIn K (.ref C) (.type "ValueError") = some true
  slf : PySem.W.mroIn K C (.ref C) = some true
  sup : PySem.W.ks_superIn K C C "__init__" = some (some (.builtin "ValueError.__init__"))
  opq : PySem.W.nsIn K cStatics "thirdparty.any" = some none
  cd : ∃ cd, PySem.W.clsIn K C = some cd ∧ PySem.HandSPX.refsVE cd.mro = true ∧ cd.hasDict = true
  sa : PySem.W.findIn K (.ref C) "__setattr__" = some (some (.builtin "object.__setattr__"))
  no : PySem.W.findIn K (.ref C) x = some none
  fn : Sup1F P K C f x
  noSup : (P.main.scope.names.lookup ("super" : Str)).isSome = false
  ndb : (x == ("__debug__" : Str)) = false
  fld : x = ("most" : Str) ∨ x = ("line" : Str) ∨ x = ("name" : Str)

section
open PySem.W PySem.Calls
variable {prog : Program} {w : World} {K : PySem.W.Frag} {C f : Addr} {x : Str}
end

/-! ### C(e), raised -/
section
variable {X : Cx} {x fi : Str} {C f : Addr} {p pos : Pos} {k : Nat} {e : Expr} {ta : TA}
end
/-! ### the facts, looked at by a test -/
end Dl

/-! The D layer, 48: texts: split, join, int. -/
namespace Dl
open PySem PySem.Spec PyProof.Rows L2
variable [Tb]
section
variable {K : PySem.W.Frag} {ι : Ix} {H : Hp}
end
section
variable {X : Cx} {W : WX} {co ce cf : Env → M D} {o e f : Expr} {apos pos : Pos}
end
end Dl

/-! The D layer, 49: lambdas in a def other than law: its code object, its table. -/
namespace Dl
open PySem PySem.Spec PyProof.Rows L2
variable [Tb]

def fC (x : Str) (K : PySem.W.Frag) : Addr := codeA K (He.ga K x)
def fP (x : Str) (K : PySem.W.Frag) : Addr := tabA K (He.ga K x)
structure SaysX (x : Str) (fa : List He.Fa) (fn : List He.DefD) (ex : PySem.W.Frag → Bool) (h : Heap) (K : PySem.W.Frag) : Prop where
  says : SaysE fa fn ex K
  code : codeB K (fC x K) (fP x K) = true
  out : K.lookup (fP x K) = none
  tab : h.get? (fP x K) = some tab0
end Dl

/-! The D layer, 50: repr of data with empty dicts. -/
namespace Dl
open PySem PySem.Spec PyProof.Rows L2
variable [Tb]

mutual
inductive DpE (K : PySem.W.Frag) (H : Hp) : V → PyData → Prop
  | non : DpE K H .non .none
  | bl (b : Bool) : DpE K H (.bl b) (.bool b)
  | int (i : Int) : DpE K H (.int i) (.int i)
  | str (x : Str) : DpE K H (.str x) (.str x)
  | lst {a : Addr} {xs : List V} {ds : List PyData} : SqL K H a xs → DpEs K H xs ds → DpE K H (.ref a) (.list ds)
  | tup {a : Addr} {xs : List V} {ds : List PyData} : SqT K H a xs → DpEs K H xs ds → DpE K H (.ref a) (.tuple ds)
  | dct {a : Addr} : H a = some (.dK []) → DpE K H (.ref a) (.dict [])
inductive DpEs (K : PySem.W.Frag) (H : Hp) : List V → List PyData → Prop
  | nil : DpEs K H [] []
  | cons {v : V} {vs : List V} {d : PyData} {ds : List PyData} : DpE K H v d → DpEs K H vs ds → DpEs K H (v :: vs) (d :: ds)
end
section
variable {X : Cx} {pins : List (Addr × Obj)} {σ : L2.St} {H : Hp} {s : Shared}
theorem empty_reads (I : Inv X pins σ H s) {a : Addr} (e : H a = some (.dK [])) : ∃ as, Reads s.heap (.ref a) (.dict []) as := by
  obtain ⟨_, _, vs, kv, o, es, ep, eo, ex, ed, r⟩ := I.hok a _ e
  have hv : vs = [] := by cases kv; rfl
  subst hv
  have he : es.toList = [] := by
    have pr := r.2.1
    revert pr
    generalize es.toList = l
    intro pr
    cases pr
    rfl
  have r0 : ReadsAll s.heap (es.toList.map (·.key)) (([] : List (PyData × PyData)).map (·.1)) [] := by rw [he]; exact .nil
  have r1 : ReadsAll s.heap (es.toList.map (·.val)) (([] : List (PyData × PyData)).map (·.2)) [] := by rw [he]; exact .nil
  exact ⟨_, Reads.dict eo ex.1 ed r0 r1⟩
mutual
theorem DpE.reads (I : Inv X pins σ H s) : ∀ (d : PyData) (v : V) (u : Value), DpE X.K H v d → RelV v u → ∃ as, Reads s.heap u d as
  | .none, _, _, h, r => by
    cases h; cases r; exact ⟨_, Reads.none⟩
  | .bool b, _, _, h, r => by
    cases h; cases r; exact ⟨_, Reads.bool b⟩
  | .int i, _, _, h, r => by
    cases h
    obtain ⟨t, e⟩ := r
    subst e
    exact ⟨_, Reads.int i t⟩
  | .str x, _, _, h, r => by
    cases h
    obtain ⟨t, e⟩ := r
    subst e
    exact ⟨_, Reads.str x t⟩
  | .list ds, _, _, h, r => by
    cases h with
    | lst hs ha =>
      cases r
      obtain ⟨its, rv, ⟨o, n, ho, hc, _, hd⟩, _⟩ := I.list hs
      obtain ⟨as, hr⟩ := DpEs.reads I ds _ its ha rv
      exact ⟨_, Reads.list ho hc hd hr⟩
  | .tuple ds, _, _, h, r => by
    cases h with
    | tup hs ha =>
      cases r
      obtain ⟨its, rv, ⟨o, ho, hc, n, hd⟩, _⟩ := I.tuple hs
      obtain ⟨as, hr⟩ := DpEs.reads I ds _ its ha rv
      exact ⟨_, Reads.tuple ho hc hd hr⟩
  | .dict [], _, _, h, r => by
    cases h with
    | dct e =>
      cases r
      exact empty_reads I e
  | .dict (_ :: _), _, _, h, _ => by cases h
theorem DpEs.reads (I : Inv X pins σ H s) : ∀ (ds : List PyData) (vs : List V) (us : List Value), DpEs X.K H vs ds → Vals vs us → ∃ as, ReadsAll s.heap us ds as
  | [], _, _, h, r => by
    cases h; cases r; exact ⟨_, ReadsAll.nil⟩
  | d :: ds, _, _, h, r => by
    cases h with
    | cons h1 h2 =>
      cases r with
      | cons r1 r2 =>
        obtain ⟨as, q1⟩ := DpE.reads I d _ _ h1 r1
        obtain ⟨bs, q2⟩ := DpEs.reads I ds _ _ h2 r2
        exact ⟨_, ReadsAll.cons q1 q2⟩
end
end
section
variable {K : PySem.W.Frag} {ι : Ix} {H : Hp} {h : Hs}
end
section
variable {X : Cx}
end
end Dl

/-! The D layer, 51: an own == and != against things of any kind of a list. -/
namespace Dl
open PySem PySem.Spec PyProof.Rows L2
variable [Tb]

structure OwnT (K : PySem.W.Frag) (C : Str) (tys : List Tg) : Prop where
  at_ : ∀ t ∈ tys, PySem.W.notFirst K (He.ga K C) (tgV K t) = true ∧ tgIns K t
section
variable {X : Cx} {C : Str} {tys : List Tg} {mf : List D → M D} {k : Nat} {W : WX}
variable {a b : Expr} {ca cb : Env → M D} {pos : Pos}
end
end Dl

/-! The D layer, 52: a word kept in a name: word = .. / try: call() / except .. as e: suite / return word. -/
namespace Dl
open PySem PySem.Spec PyProof.Rows L2
open LamX (CodeO TabS LamS lamSB lamEnv lamCx TabB GivesTo)
variable [Tb]

section
variable {X : Cx} {W : WX} {tbl : List (Str × Str)} {cb : Env → M D} {P : Addr} {q lw : Str}
end
def Does4 (n i jw : Nat) (a : Ed) (cs : SM) (w : Str) : Prop := ∀ (ρ : Env) (h : Hs), ρ.length = n → ∃ ρ', cs (ρ.set i (some (.exn a))) h = .nx ρ' h ∧ ρ'[jw]? = some (some (.str w))
def HdW (X : Cx) (n i jw : Nat) (c : Value) (suite : List Stmt) (C w : Str) : Prop := PySem.W.exmOne X.K (.ref (He.ga X.K C)) c = some true ∧ ∃ cs : Ed → SM,
  (∀ (a : Ed) (oe : Obj) (pn : List (Addr × Obj)), Zc (.ref (He.ga X.K C)) (a.2.map (·.1)) oe → (∃ vs, oe.data = .fields vs) → DSs (X.suite a.1 ((a.1, oe) :: pn)) NoW suite (cs a)) ∧ ∀ a, Does4 n i jw a (cs a) w
section
variable {X : Cx} {tbl : List (Str × Str)} {Ng : List Str} {x a e nm q lw wn : Str} {sg : Scope} {g : Addr} {cdg c : Value} {i j jw : Nat} {b0 : Stmt} {suite : List Stmt} {p1 p2 p3 p4 p5 p6 p7 p8 p9 p10 p11 : Pos}
variable (hN : Ng.Nodup) (hi : Ng[i]? = some nm) (hln : ∀ (s : Shared) (H : Hp), (cxW X Ng x sg g cdg s H).env.kindOf nm = some .local) (hc : ∀ (s : Shared) (H : Hp), Names (cxW X Ng x sg g cdg s H) e c) (h0 : ∀ f : Addr, ((L2.start Ng [V.ref f]).set jw (some (.str lw)))[0]? = some (some (V.ref f)))
    (hj : ∀ f : Addr, ((L2.start Ng [V.ref f]).set jw (some (.str lw)))[jw]? = some (some (.str lw))) (ne : jw ≠ i) (hw : Ng[jw]? = some wn) (hx : Loc sg wn) (hfn : sg.names.lookup wn = some .local) (hvw : Vis sg wn) (hdw : (wn == ("__debug__" : Str)) = false) (hcw : (wn == ("__classdict__" : Str)) = false)
    (hsu : ∀ (s : Shared) (H : Hp) (C w : Str), tbl.lookup C = some w → HdW (cxW X Ng x sg g cdg s H) Ng.length i jw c (b0 :: suite) C w)
    (hsw : ∀ (s : Shared) (H : Hp), swapsWith (.Constant (.str lw) j p5) (some (.Name wn p9)) p6.line (cxW X Ng x sg g cdg s H).env = pure false)
include hN hi hln hc h0 hj ne hw hx hfn hvw hdw hcw hsu hsw
end
section
variable {X : Cx} {W : WX} {tbl : List (Str × Str)} {cb : Env → M D} {c P : Addr} {x a : Str} {k : Nat} {pg params : Arguments} {bg : List Stmt} {sg scope : Scope} {Ng : List Str} {body : Expr} {p lpos pos : Pos}
variable {e nm lw wn : Str} {cl : Value} {i j jw : Nat} {b0 : Stmt} {suite : List Stmt} {p1 p2 p3 p4 p5 p6 p7 p8 p9 p10 p11 : Pos}
end
end Dl

/-! The D layer, 53: dict displays {k: v, ..}. -/
namespace Dl
open PySem PySem.Spec PyProof.Rows L2
variable [Tb]

section
variable {K : PySem.W.Frag} {ι ι' : Ix} {H H' : Hp} {h : Hs} {W : WX}
theorem XD.done {p : Addr} {fs : List (Str × D)} {od : Option Addr} (x : XD K (ι.with p) H fs od) : XD K ι H fs od := by
  rcases x with ⟨a, b⟩ | ⟨d, us, h1, h2, h3, h4, h5⟩
  · exact .inl ⟨a, b⟩
  · exact .inr ⟨d, us, h1, h2, h3, ⟨h4.1, fun z => h4.2 (List.mem_cons_of_mem _ z)⟩, h5.up Up.done⟩
end
section
variable {X : Cx} {W : WX} {pos : Pos} {keys : List (Option Expr)} {values : List Expr} {cs : List ((Env → M D) × (Env → M D))}
structure DPs (X : Cx) (W : WX) (pos : Pos) (keys : List (Option Expr)) (values : List Expr) (cs : List ((Env → M D) × (Env → M D))) : Prop where
  ps : PPs X pos keys values (cs.map fun c => (wE X.K W c.1, wE X.K W c.2))
end
end Dl

/-! The D layer, 54: min of a tuple of ints. -/
namespace Dl
open PySem PySem.Spec PyProof.Rows L2
variable [Tb]

section
variable {prog : Program} {w : World} {A : Around} {E : Value → Shared → Prop} {s : Shared} {l : Addr} {its : List Value} {ns : List Int} {Q : Value → Shared → Prop}
end
section
variable {X : Cx}
end
end Dl

namespace Sh
open PySem PySem.Spec L2 Dl
/-! ### what the defs compute -/
/-- is_tuple -/
def c_is_tuple : SM := sRet (andX (eBf (isiD []) (aC (eV 0) (aC (eC (.ty "tuple")) aN))) (eCh leD leD (eV 1) (eBf lenD (aC (eV 0) aN)) (eV 2)))
def m_is_tuple : List D → M D := mDef 3 c_is_tuple

/-- is_integer -/
def c_is_integer : SM := sRet (andX (eBf (isiD []) (aC (eV 0) (aC (eC (.ty "int")) aN))) (e1 notX (eBf (isiD []) (aC (eV 0) (aC (eC (.ty "bool")) aN)))))
def m_is_integer : List D → M D := mDef 1 c_is_integer

/-- common -/
def c_common : SM := sSeq (sPar2 0 1 (aC (eBf absD (aC (eV 0) aN)) (aC (eBf absD (aC (eV 1) aN)) aN))) (sSeq (sWhile (limI 1) (tst (e2 gtD (eV 1) (eC (.int 0)))) (sPar2 0 1 (aC (eV 1) (aC (e2 modD (eV 0) (eV 1)) aN)))) (sRet (eV 0)))
def m_common : List D → M D := mDef 2 c_common

/-- is_fraction -/
def c_is_fraction : SM := sSeq (sIf (orT (notT (tru (eCall 3 m_is_tuple (aC (eV 0) (aC (eC (.int 2)) (aC (eC (.int 2)) aN)))))) (orT (notT (tru (eBf allD (aC (frz (nLc (iSeq (eV 0)) (.nm 1) [1] (tYes') (eCall 1 m_is_integer (aC (eV 1) aN)))) aN)))) (tst (e2 ltD (e2 itemD (eV 0) (eC (.int 1))) (eC (.int 1)))))) (sRet (eC (.bl false))) (sPass)) (sRet (e2 eqD (eCall 2 m_common (aC (e2 itemD (eV 0) (eC (.int 0))) (aC (e2 itemD (eV 0) (eC (.int 1))) aN))) (eC (.int 1))))
def m_is_fraction : List D → M D := mDef 2 c_is_fraction

/-- is_share -/
def c_is_share : SM := sRet (andX (eCall 1 m_is_fraction (aC (eV 0) aN)) (eCh leD leD (eC (.int 0)) (e2 itemD (eV 0) (eC (.int 0))) (e2 itemD (eV 0) (eC (.int 1)))))
def m_is_share : List D → M D := mDef 1 c_is_share

/-- Trials.__init__ -/
def c_Trials___init__ : SM := sSeq (sIf (orT (notT (tru (eCall 3 m_is_tuple (aC (eV 1) (aC (eC (.int 1)) (aC (eC (.int 12)) aN)))))) (notT (tru (eBf allD (aC (frz (nLc (iSeq (eV 1)) (.nm 2) [2] (tYes') (eCall 1 m_is_share (aC (eV 2) aN)))) aN))))) (sBad) (sPass)) (sSeq (sFldD "Trials" "chances" (eV 1) (eV 0)) (sFldD "Trials" "looked" (eDct0) (eV 0)))
def m_Trials___init__ : List D → M D := mDef 3 c_Trials___init__

/-- is_within -/
def c_is_within : SM := sRet (andX (eCall 1 m_is_integer (aC (eV 0) aN)) (eCh leD leD (eV 1) (eV 0) (eV 2)))
def m_is_within : List D → M D := mDef 3 c_is_within

/-- lowest -/
def c_lowest : SM := sSeq (sIf (tst (e2 ltD (eV 1) (eC (.int 0)))) (sPar2 0 1 (aC (e1 negD (eV 0)) (aC (e1 negD (eV 1)) aN))) (sPass)) (sSeq (sSet 2 (eCall 2 m_common (aC (eV 0) (aC (eV 1) aN)))) (sRet (eTup (aC (e2 divD (eV 0) (eV 2)) (aC (e2 divD (eV 1) (eV 2)) aN)))))
def m_lowest : List D → M D := mDef 3 c_lowest

/-- quotient -/
def c_quotient : SM := sRet (eCall 2 m_lowest (aC (e2 mulD (e2 itemD (eV 0) (eC (.int 0))) (e2 itemD (eV 1) (eC (.int 1)))) (aC (e2 mulD (e2 itemD (eV 0) (eC (.int 1))) (e2 itemD (eV 1) (eC (.int 0)))) aN)))
def m_quotient : List D → M D := mDef 2 c_quotient

/-- minus -/
def c_minus : SM := sRet (eCall 2 m_lowest (aC (e2 subD (e2 mulD (e2 itemD (eV 0) (eC (.int 0))) (e2 itemD (eV 1) (eC (.int 1)))) (e2 mulD (e2 itemD (eV 1) (eC (.int 0))) (e2 itemD (eV 0) (eC (.int 1))))) (aC (e2 mulD (e2 itemD (eV 0) (eC (.int 1))) (e2 itemD (eV 1) (eC (.int 1)))) aN)))
def m_minus : List D → M D := mDef 2 c_minus

/-- odds_of -/
def c_odds_of : SM := sRet (ifV (tst (e2 eqD (eV 0) (eC (.tup [.int 1, .int 1])))) (eC .non) (eCall 2 m_quotient (aC (eV 0) (aC (eCall 2 m_minus (aC (eC (.tup [.int 1, .int 1])) (aC (eV 0) aN))) aN))))
def m_odds_of : List D → M D := mDef 1 c_odds_of

/-- is_less -/
def c_is_less : SM := sRet (e2 ltD (e2 mulD (e2 itemD (eV 0) (eC (.int 0))) (e2 itemD (eV 1) (eC (.int 1)))) (e2 mulD (e2 itemD (eV 1) (eC (.int 0))) (e2 itemD (eV 0) (eC (.int 1)))))
def m_is_less : List D → M D := mDef 2 c_is_less

/-- plus -/
def c_plus : SM := sRet (eCall 2 m_lowest (aC (e2 addD (e2 mulD (e2 itemD (eV 0) (eC (.int 0))) (e2 itemD (eV 1) (eC (.int 1)))) (e2 mulD (e2 itemD (eV 1) (eC (.int 0))) (e2 itemD (eV 0) (eC (.int 1))))) (aC (e2 mulD (e2 itemD (eV 0) (eC (.int 1))) (e2 itemD (eV 1) (eC (.int 1)))) aN)))
def m_plus : List D → M D := mDef 2 c_plus

/-- whole_sum -/
def c_whole_sum : SM := sSeq (sSet 1 (eC (.tup [.int 0, .int 1]))) (sSeq (sFor (iSeq (eV 0)) (.nm 2) (sSet 1 (eCall 2 m_plus (aC (eV 1) (aC (eV 2) aN))))) (sRet (eV 1)))
def m_whole_sum : List D → M D := mDef 3 c_whole_sum

/-- first_from -/
def c_first_from : SM := sSeq (sFor (iR3 (aC (e2 subD (eBf lenD (aC (eFld "Trials" "chances" (eV 0)) aN)) (eC (.int 1))) (aC (e1 negD (eC (.int 1))) (aC (e1 negD (eC (.int 1))) aN)))) (.nm 1) (sSeq (sSet 2 (frz (nLc (iSeq (eSl (eFld "Trials" "chances" (eV 0)) (pS (eV 1)) pN)) (.nm 3) [3] (tYes') (eCall 1 m_odds_of (aC (eV 3) aN))))) (sIf (orT (tst (e2 inD (eC .non) (eV 2))) (notT (tru (eCall 2 m_is_less (aC (eCall 1 m_whole_sum (aC (eV 2) aN)) (aC (eC (.tup [.int 1, .int 1])) aN)))))) (sRet (eV 1)) (sPass)))) (sRet (eC (.int 0)))
def m_first_from : List D → M D := mDef 4 c_first_from

/-- from_which -/
def c_from_which : SM := sRet (eCall 1 m_first_from (aC (eV 0) aN))
def m_from_which : List D → M D := mDef 1 c_from_which

/-- _law_draw -/
def c__law_draw_v3 : SM := sSeq (sIf (andT (tst (e2 eqD (e2 itemD (eV 0) (eC (.int 2))) (eC (.int 0)))) (tst (e2 ltD (e2 itemD (eV 0) (eC (.int 1))) (eBf lenD (aC (e2 itemD (eV 0) (eC (.int 0))) aN))))) (sSeq (sSet 2 (e2 itemD (e2 itemD (eV 0) (eC (.int 0))) (e2 itemD (eV 0) (eC (.int 1))))) (sSeq (sStore (e2 addD (e2 itemD (eV 0) (eC (.int 1))) (eC (.int 1))) (eV 0) (eC (.int 1))) (sSeq (sStore (e2 modD (eBf intD (aC (e2 addD (e2 addD (e2 mulD (e2 itemD (eV 0) (eC (.int 3))) (eC (.int 69621))) (eV 2)) (eC (.int 29))) aN)) (eC (.int 2147483629))) (eV 0) (eC (.int 3))) (sIf (tst (e2 geD (eV 2) (e2 powD (eC (.int 10)) (eC (.int 18))))) (sStore (eV 2) (eV 0) (eC (.int 2))) (sPass))))) (sPass)) (sSeq (sIf (tst (e2 gtD (e2 itemD (eV 0) (eC (.int 2))) (eC (.int 0)))) (sSeq (sSet 3 (e2 modD (eBf intD (aC (e2 itemD (eV 0) (eC (.int 2))) aN)) (eV 1))) (sSeq (sStore (e2 divD (e2 itemD (eV 0) (eC (.int 2))) (eV 1)) (eV 0) (eC (.int 2))) (sRet (eV 3)))) (sPass)) (sSeq (sStore (e2 addD (e2 itemD (eV 0) (eC (.int 4))) (eC (.int 1))) (eV 0) (eC (.int 4))) (sSeq (sSet 4 (e2 modD (eBf intD (aC (e2 mulD (eBf intD (aC (e2 addD (e2 itemD (eV 0) (eC (.int 3))) (e2 mulD (eC (.int 7919)) (e2 itemD (eV 0) (eC (.int 4))))) aN)) (eC (.int 48271))) aN)) (eC (.int 2147483647)))) (sSeq (sSet 4 (e2 modD (eBf intD (aC (e2 mulD (eV 4) (e2 addD (e2 divD (eV 4) (eC (.int 1009))) (eC (.int 69621)))) aN)) (eC (.int 2147483647)))) (sSeq (sSet 4 (e2 modD (eBf intD (aC (e2 mulD (eV 4) (e2 addD (e2 divD (eV 4) (eC (.int 2003))) (eC (.int 40692)))) aN)) (eC (.int 2147483399)))) (sRet (e2 modD (eBf intD (aC (e2 divD (eV 4) (eC (.int 16))) aN)) (eV 1))))))))
def m__law_draw_v3 : List D → M D := mDef 5 c__law_draw_v3

/-- _law_low -/
def c__law_low : SM := sSeq (sPar2 2 3 (aC (eBf absD (aC (eV 0) aN)) (aC (eV 1) aN))) (sSeq (sWhile (limI 3) (tst (e2 gtD (eV 3) (eC (.int 0)))) (sPar2 2 3 (aC (eV 3) (aC (e2 modD (eBf intD (aC (eV 2) aN)) (eV 3)) aN)))) (sRet (eTup (aC (e2 divD (eV 0) (eV 2)) (aC (e2 divD (eV 1) (eV 2)) aN)))))
def m__law_low : List D → M D := mDef 4 c__law_low

/-- _law_less -/
def c__law_less : SM := sRet (e2 ltD (e2 mulD (e2 itemD (eV 0) (eC (.int 0))) (e2 itemD (eV 1) (eC (.int 1)))) (e2 mulD (e2 itemD (eV 1) (eC (.int 0))) (e2 itemD (eV 0) (eC (.int 1)))))
def m__law_less : List D → M D := mDef 2 c__law_less

/-- _law_parted -/
def c__law_parted : SM := sSeq (sSet 2 (eDct0)) (sSeq (sFor (iSeq (eV 0)) (.nm 3) (sSeq (sSet 4 (e2 addD (eC (.int 1)) (eBf lenD (aC (frz (nLc (iSeq (eSl (eV 3) pN (pS (eV 1)))) (.nm 5) [5] (tst (e2 ltD (eV 5) (e2 itemD (eV 3) (eV 1)))) (eV 5))) aN)))) (sExp (eLm appD (eSetd (eV 2) (eV 4) (thaw (nLst aN))) (aC (eV 3) aN))))) (sRet (frz (nLc (iSeq (frz (nBf sortDF (aC (eV 2) aN)))) (.nm 4) [4] (tYes') (eTup (aC (eV 4) (aC (e2 itemD (eV 2) (eV 4)) aN)))))))
def m__law_parted : List D → M D := mDef 6 c__law_parted

/-- _law_taken -/
def c__law_taken (rec : List D → M D) : SM := sRet (e2 addD (eBf lenD (aC (frz (nLc (iSeq (eV 0)) (.nm 4) [4] (tst (e2 eqD (e2 itemD (eV 4) (eV 1)) (eC (.int 0)))) (eV 4))) aN)) (eCall 4 rec (aC (eV 0) (aC (e2 addD (eV 1) (eC (.int 1))) (aC (e2 subD (eV 2) (eC (.int 1))) (aC (eV 3) aN))))))
def m__law_taken (rec : List D → M D) : List D → M D := mDef 5 (c__law_taken rec)

/-- _law_wins -/
def c__law_wins_v2 (rec : List D → M D) : SM := sSeq (sIf (orT (tst (e2 eqD (eV 1) (eBf lenD (aC (e2 itemD (eV 0) (eC (.int 0))) aN)))) (tst (e2 eqD (eV 2) (eC (.int 0))))) (sRet (eC (.int 0))) (sPass)) (sSeq (sSet 4 (eTup (aC (e2 itemD (eV 0) (eC (.int 0))) (aC (eV 1) (aC (eV 2) aN))))) (sSeq (sIf (tst (e2 ninN (eV 4) (eV 3))) (sSeq (sSet 5 (eC (.int 0))) (sSeq (sFor (iSeq (eCall 2 m__law_parted (aC (eV 0) (aC (eV 1) aN)))) (.tp [.nm 6, .nm 7]) (sSeq (sSet 8 (eCall 4 rec (aC (eV 7) (aC (e2 addD (eV 1) (eC (.int 1))) (aC (eV 2) (aC (eV 3) aN)))))) (sSet 5 (e2 addD (eV 5) (ifV (tst (e2 eqD (eV 6) (eC (.int 1)))) (eBf maxD (aC (eV 8) (aC (eCall 4 (m__law_taken rec) (aC (eV 7) (aC (eV 1) (aC (eV 2) (aC (eV 3) aN))))) aN))) (eV 8)))))) (sStoreN (eV 5) (eV 3) (eV 4)))) (sPass)) (sRet (e2 itemN (eV 3) (eV 4)))))
def r__law_wins_v2 : Nat → List D → M D
  | 0 => fun _ _ => .bad
  | j + 1 => mDef 9 (c__law_wins_v2 (r__law_wins_v2 j))
def m__law_wins_v2 : List D → M D := r__law_wins_v2 8

/-- _law_from -/
def c__law_from_v4 : SM := sSeq (sFor (iR1 (aC (eBf lenD (aC (e2 itemD (eV 0) (eC (.int 0))) aN)) aN)) (.nm 3) (sSeq (sSet 4 (frz (nLst (aC (eV 0) aN)))) (sSeq (sFor (iR1 (aC (e2 addD (eV 3) (eC (.int 1))) aN)) (.nm 5) (sSeq (sSet 6 (thaw (nLst aN))) (sSeq (sFor (iSeq (eV 4)) (.nm 7) (sExp (eLm extD (eV 6) (aC (frz (nLc (iSeq (eCall 2 m__law_parted (aC (eV 7) (aC (eV 5) aN)))) (.tp [.nm 8, .nm 9]) [8, 9] (orT (tst (e2 ltD (eV 5) (eV 3))) (tst (e2 eqD (eV 8) (eC (.int 1))))) (eV 9))) aN)))) (sSet 4 (eV 6))))) (sIf (tru (eBf allD (aC (frz (nLc (iSeq (eV 4)) (.nm 7) [7] (tYes') (e2 geD (eCall 4 (m__law_taken m__law_wins_v2) (aC (eV 7) (aC (eV 3) (aC (eV 1) (aC (eV 2) aN))))) (eCall 4 m__law_wins_v2 (aC (eV 7) (aC (e2 addD (eV 3) (eC (.int 1))) (aC (eV 1) (aC (eV 2) aN)))))))) aN))) (sRet (eV 3)) (sPass))))) (sRet (eC .non))
def m__law_from_v4 : List D → M D := mDef 10 c__law_from_v4

/-- _law_hand -/
def c__law_hand_v2 : SM := sSeq (sSet 1 (frz (nLc (iSeq (eSl (eV 0) pN (pS (eC (.int 63))))) (.nm 2) [2] (tYes') (eBf absD (aC (eBf intD (aC (eV 2) aN)) aN))))) (sRet (thaw (nLst (aC (eV 1) (aC (eC (.int 0)) (aC (eC (.int 0)) (aC (e2 addD (eC (.int 251)) (e2 mulD (eC (.int 37)) (eBf lenD (aC (eV 1) aN)))) (aC (eC (.int 0)) aN))))))))
def m__law_hand_v2 : List D → M D := mDef 3 c__law_hand_v2

/-- product -/
def c_product : SM := sRet (eCall 2 m_lowest (aC (e2 mulD (e2 itemD (eV 0) (eC (.int 0))) (e2 itemD (eV 1) (eC (.int 0)))) (aC (e2 mulD (e2 itemD (eV 0) (eC (.int 1))) (e2 itemD (eV 1) (eC (.int 1)))) aN)))
def m_product : List D → M D := mDef 2 c_product

/-- none_from -/
def c_none_from : SM := sSeq (sSet 2 (eC (.tup [.int 1, .int 1]))) (sSeq (sFor (iSeq (eSl (eFld "Trials" "chances" (eV 0)) (pS (eV 1)) pN)) (.nm 3) (sSet 2 (eCall 2 m_product (aC (eV 2) (aC (eCall 2 m_minus (aC (eC (.tup [.int 1, .int 1])) (aC (eV 3) aN))) aN))))) (sRet (eV 2)))
def m_none_from : List D → M D := mDef 4 c_none_from

/-- _law_below -/
def c__law_below : SM := sRet (e2 ltD (e2 mulD (e2 itemD (eV 0) (eC (.int 0))) (e2 itemD (eV 1) (eC (.int 1)))) (e2 mulD (e2 itemD (eV 1) (eC (.int 0))) (e2 itemD (eV 0) (eC (.int 1)))))
def m__law_below : List D → M D := mDef 2 c__law_below

/-- greatest -/
def c_greatest : SM := sRet (ifV (tru (eCall 2 m_is_less (aC (eV 0) (aC (eV 1) aN)))) (eV 1) (eV 0))
def m_greatest : List D → M D := mDef 2 c_greatest

/-- last_shares -/
def c_last_shares : SM := sRet (frz (nLc (iEnumD (aC (eFld "Trials" "chances" (eV 0)) aN)) (.tp [.nm 1, .nm 2]) [1, 2] (tYes') (eCall 2 m_product (aC (eV 2) (aC (eCall 2 m_none_from (aC (eV 0) (aC (e2 addD (eV 1) (eC (.int 1))) aN))) aN)))))
def m_last_shares : List D → M D := mDef 3 c_last_shares

/-- won -/
def c_won : SM := sSeq (sPar2 2 3 (aC (eC (.tup [.int 0, .int 1])) (aC (eCall 1 m_last_shares (aC (eV 0) aN)) aN))) (sSeq (sSet 4 (eC (.tup [.int 1, .int 1]))) (sSeq (sFor (iSeq (eV 1)) (.nm 5) (sSeq (sSet 2 (eCall 2 m_plus (aC (eV 2) (aC (eCall 2 m_product (aC (eV 4) (aC (e2 itemD (eV 3) (eV 5)) aN))) aN)))) (sSet 4 (eCall 2 m_product (aC (eV 4) (aC (eCall 2 m_minus (aC (eC (.tup [.int 1, .int 1])) (aC (e2 itemD (eFld "Trials" "chances" (eV 0)) (eV 5)) aN))) aN)))))) (sRet (eV 2))))
def m_won : List D → M D := mDef 6 c_won

/-- _law_is -/
def c__law_is (rec : List D → M D) : SM := sSeq (sIf (orT (tru (eBf (isiD []) (aC (eV 0) (aC (eC (.ty "bool")) aN)))) (tru (eBf (isiD []) (aC (eV 1) (aC (eC (.ty "bool")) aN))))) (sRet (andX (eBf (isiD []) (aC (eV 0) (aC (eC (.ty "bool")) aN))) (andX (eBf (isiD []) (aC (eV 1) (aC (eC (.ty "bool")) aN))) (e2 eqD (eV 0) (eV 1))))) (sPass)) (sSeq (sIf (orT (tru (eBf (isiD []) (aC (eV 0) (aC (eC (.ty "tuple")) aN)))) (tru (eBf (isiD []) (aC (eV 0) (aC (eC (.ty "list")) aN))))) (sSeq (sIf (orT (tst (e2 neD (eBf (isiD []) (aC (eV 0) (aC (eC (.ty "tuple")) aN))) (eBf (isiD []) (aC (eV 1) (aC (eC (.ty "tuple")) aN))))) (tst (e2 neD (eBf (isiD []) (aC (eV 0) (aC (eC (.ty "list")) aN))) (eBf (isiD []) (aC (eV 1) (aC (eC (.ty "list")) aN)))))) (sRet (eC (.bl false))) (sPass)) (sRet (andX (e2 eqD (eBf lenD (aC (eV 0) aN)) (eBf lenD (aC (eV 1) aN))) (eBf allD (aC (frz (nLc (iZip (aC (eV 0) (aC (eV 1) aN))) (.tp [.nm 2, .nm 3]) [2, 3] (tYes') (eCall 2 rec (aC (eV 2) (aC (eV 3) aN))))) aN))))) (sPass)) (sSeq (sIf (tru (eBf (isiD []) (aC (eV 0) (aC (eC (.ty "dict")) aN)))) (sSeq (sIf (orT (notT (tru (eBf (isiD []) (aC (eV 1) (aC (eC (.ty "dict")) aN))))) (tst (e2 neD (eBf lenD (aC (eV 0) aN)) (eBf lenD (aC (eV 1) aN))))) (sRet (eC (.bl false))) (sPass)) (sRet (eBf allD (aC (frz (nLc (iSeq (eV 0)) (.nm 4) [4] (tYes') (andX (e2 inD (eV 4) (eV 1)) (eCall 2 rec (aC (e2 itemD (eV 0) (eV 4)) (aC (e2 itemD (eV 1) (eV 4)) aN)))))) aN)))) (sPass)) (sRet (andX (e2 eqD (eBf (isiD []) (aC (eV 0) (aC (eC (.ty "int")) aN))) (eBf (isiD []) (aC (eV 1) (aC (eC (.ty "int")) aN)))) (e2 eqD (eV 0) (eV 1))))))
def r__law_is : Nat → List D → M D
  | 0 => fun _ _ => .bad
  | j + 1 => mDef 5 (c__law_is (r__law_is j))
def m__law_is : List D → M D := r__law_is 12

/-- _law_orders -/
def c__law_orders : SM := sSeq (sSet 1 (frz (nLst (aC (eTup aN) aN)))) (sSeq (sFor (iR1 (aC (eV 0) aN)) (.nm 2) (sSeq (sSet 3 (thaw (nLst aN))) (sSeq (sFor (iSeq (eV 1)) (.nm 4) (sExp (eLm extD (eV 3) (aC (frz (nLc (iR1 (aC (eV 0) aN)) (.nm 5) [5] (tst (e2 ninD (eV 5) (eV 4))) (e2 addD (eV 4) (eTup (aC (eV 5) aN))))) aN)))) (sSet 1 (eV 3))))) (sRet (eV 1)))
def m__law_orders : List D → M D := mDef 6 c__law_orders

/-- all_orders -/
def c_all_orders : SM := sSeq (sSet 1 (frz (nLst (aC (eTup aN) aN)))) (sSeq (sFor (iR1 (aC (eV 0) aN)) (.nm 2) (sSeq (sSet 3 (thaw (nLst aN))) (sSeq (sFor (iSeq (eV 1)) (.nm 4) (sExp (eLm extD (eV 3) (aC (frz (nLc (iR1 (aC (eV 0) aN)) (.nm 5) [5] (tst (e2 ninD (eV 5) (eV 4))) (e2 addD (eV 4) (eTup (aC (eV 5) aN))))) aN)))) (sSet 1 (eV 3))))) (sRet (eV 1)))
def m_all_orders : List D → M D := mDef 6 c_all_orders

/-- check_n -/
def c_check_n : SM := sIf (notT (tru (eCall 3 m_is_within (aC (eV 0) (aC (eC (.int 1)) (aC (eC (.int 12)) aN)))))) (sBad) (sPass)
def m_check_n : List D → M D := mDef 1 c_check_n

/-- ones_of -/
def c_ones_of : SM := sRet (eMake "Trials" 2 m_Trials___init__ (aC (eBf tupD (aC (frz (nLc (iR1 (aC (eV 0) aN)) (.nm 1) [1] (tYes') (eTup (aC (eC (.int 1)) (aC (e2 addD (eV 1) (eC (.int 1))) aN))))) aN)) aN))
def m_ones_of : List D → M D := mDef 2 c_ones_of

/-- best_chance -/
def c_best_chance : SM := sSeq (sExp (eCall 1 m_check_n (aC (eV 0) aN))) (sSeq (sSet 1 (eCall 1 m_ones_of (aC (eV 0) aN))) (sRet (eCall 2 m_won (aC (eV 1) (aC (eTupN (nR2 (eCall 1 m_first_from (aC (eV 1) aN)) (eV 0))) aN)))))
def m_best_chance : List D → M D := mDef 2 c_best_chance

/-- check_picks -/
def c_check_picks : SM := sSeq (sExp (eCall 1 m_check_n (aC (eV 0) aN))) (sIf (notT (tru (eCall 3 m_is_within (aC (eV 1) (aC (eC (.int 1)) (aC (eV 0) aN)))))) (sBad) (sPass))
def m_check_picks : List D → M D := mDef 2 c_check_picks

/-- hopes -/
def c_hopes : SM := sSeq (sSet 2 (thaw (nLst (aC (e2 mulD (frz (nLst (aC (eC (.tup [.int 0, .int 1])) aN))) (e2 addD (eV 0) (eC (.int 1)))) aN)))) (sSeq (sFor (iR1 (aC (eV 1) aN)) (.nm 3) (sSeq (sSet 4 (thaw (nRep (frz (nLst (aC (eC (.tup [.int 0, .int 1])) aN))) (e2 addD (eV 0) (eC (.int 1)))))) (sSeq (sFor (iR3 (aC (e2 subD (eV 0) (eC (.int 1))) (aC (e1 negD (eC (.int 1))) (aC (e1 negD (eC (.int 1))) aN)))) (.nm 5) (sSeq (sSet 6 (eCall 2 m_plus (aC (eCall 2 m_lowest (aC (e2 addD (eV 5) (eC (.int 1))) (aC (eV 0) aN))) (aC (e2 itemD (e2 itemD (eV 2) (eV 3)) (e2 addD (eV 5) (eC (.int 1)))) aN)))) (sSeq (sSet 7 (eCall 2 m_greatest (aC (e2 itemD (eV 4) (e2 addD (eV 5) (eC (.int 1)))) (aC (eV 6) aN)))) (sStore (eCall 2 m_plus (aC (eCall 2 m_product (aC (eTup (aC (eC (.int 1)) (aC (e2 addD (eV 5) (eC (.int 1))) aN))) (aC (eV 7) aN))) (aC (eCall 2 m_product (aC (eCall 2 m_lowest (aC (eV 5) (aC (e2 addD (eV 5) (eC (.int 1))) aN))) (aC (e2 itemD (eV 4) (e2 addD (eV 5) (eC (.int 1)))) aN))) aN))) (eV 4) (eV 5))))) (sExp (eLm appD (eV 2) (aC (eV 4) aN)))))) (sRet (eV 2)))
def m_hopes : List D → M D := mDef 8 c_hopes

/-- chance_with -/
def c_chance_with : SM := sSeq (sExp (eCall 2 m_check_picks (aC (eV 0) (aC (eV 1) aN)))) (sRet (e2 itemD (e2 itemD (eCall 2 m_hopes (aC (eV 0) (aC (eV 1) aN))) (eV 1)) (eC (.int 0))))
def m_chance_with : List D → M D := mDef 2 c_chance_with

/-- check_n -/
def c_check_n_v2 : SM := sIf (notT (tru (eCall 3 m_is_within (aC (eV 0) (aC (eC (.int 1)) (aC (eC (.int 12)) aN)))))) (sRaise "NoNumber") (sPass)
def m_check_n_v2 : List D → M D := mDef 1 c_check_n_v2

/-- check_picks -/
def c_check_picks_v2 : SM := sSeq (sExp (eCall 1 m_check_n_v2 (aC (eV 0) aN))) (sIf (notT (tru (eCall 3 m_is_within (aC (eV 1) (aC (eC (.int 1)) (aC (eV 0) aN)))))) (sRaise "NoNumber") (sPass))
def m_check_picks_v2 : List D → M D := mDef 2 c_check_picks_v2

/-- pick_from -/
def c_pick_from_v2 : SM := sSeq (sExp (eCall 2 m_check_picks_v2 (aC (eV 0) (aC (eV 1) aN)))) (sSeq (sPar2 2 3 (aC (eCall 2 m_hopes (aC (eV 0) (aC (eV 1) aN))) (aC (thaw (nLst aN)) aN))) (sSeq (sFor (iR2 (aC (eC (.int 1)) (aC (e2 addD (eV 1) (eC (.int 1))) aN))) (.nm 4) (sSeq (sPat (.tp [.nm 5, .nm 6]) (eTup (aC (e2 itemD (eV 2) (eV 4)) (aC (e2 itemD (eV 2) (e2 subD (eV 4) (eC (.int 1)))) aN)))) (sSeq (sSet 7 (frz (nLc (iR1 (aC (eV 0) aN)) (.nm 8) [8] (notT (tru (eCall 2 m_is_less (aC (eCall 2 m_plus (aC (eCall 2 m_lowest (aC (e2 addD (eV 8) (eC (.int 1))) (aC (eV 0) aN))) (aC (e2 itemD (eV 6) (e2 addD (eV 8) (eC (.int 1)))) aN))) (aC (e2 itemD (eV 5) (e2 addD (eV 8) (eC (.int 1)))) aN))))) (eV 8)))) (sExp (eLm appD (eV 3) (aC (e2 itemD (eV 7) (eC (.int 0))) aN)))))) (sRet (eBf tupD (aC (eV 3) aN)))))
def m_pick_from_v2 : List D → M D := mDef 9 c_pick_from_v2

/-- pick_from -/
def c_pick_from : SM := sSeq (sExp (eCall 2 m_check_picks (aC (eV 0) (aC (eV 1) aN)))) (sSeq (sPar2 2 3 (aC (eCall 2 m_hopes (aC (eV 0) (aC (eV 1) aN))) (aC (thaw (nLst aN)) aN))) (sSeq (sFor (iR2 (aC (eC (.int 1)) (aC (e2 addD (eV 1) (eC (.int 1))) aN))) (.nm 4) (sSeq (sPat (.tp [.nm 5, .nm 6]) (eTup (aC (e2 itemD (eV 2) (eV 4)) (aC (e2 itemD (eV 2) (e2 subD (eV 4) (eC (.int 1)))) aN)))) (sSeq (sSet 7 (frz (nLc (iR1 (aC (eV 0) aN)) (.nm 8) [8] (notT (tru (eCall 2 m_is_less (aC (eCall 2 m_plus (aC (eCall 2 m_lowest (aC (e2 addD (eV 8) (eC (.int 1))) (aC (eV 0) aN))) (aC (e2 itemD (eV 6) (e2 addD (eV 8) (eC (.int 1)))) aN))) (aC (e2 itemD (eV 5) (e2 addD (eV 8) (eC (.int 1)))) aN))))) (eV 8)))) (sExp (eLm appD (eV 3) (aC (e2 itemD (eV 7) (eC (.int 0))) aN)))))) (sRet (eBf tupD (aC (eV 3) aN)))))
def m_pick_from : List D → M D := mDef 9 c_pick_from

/-- law -/
def c_law_k08 : SM := sSeq (sSet 1 (eCall 1 m__law_hand_v2 (aC (eV 0) aN))) (sSeq (sSet 2 (e2 addD (eC (.int 1)) (eCall 2 m__law_draw_v3 (aC (eV 1) (aC (eC (.int 5)) aN))))) (sSeq (sPat (.tp [.nm 3, .nm 4, .nm 5]) (eTup (aC (eCall 1 m__law_orders (aC (eV 2) aN)) (aC (eDct0) (aC (thaw (nLst aN)) aN))))) (sSeq (sFor (iR2 (aC (eC (.int 1)) (aC (e2 addD (eV 2) (eC (.int 1))) aN))) (.nm 6) (sSeq (sSet 7 (eCall 2 m__law_low (aC (eCall 4 m__law_wins_v2 (aC (eV 3) (aC (eC (.int 0)) (aC (eV 6) (aC (eV 4) aN))))) (aC (eBf lenD (aC (eV 3) aN)) aN)))) (sSeq (sExp (eLm appD (eV 5) (aC (eCall 2 m_chance_with (aC (eV 2) (aC (eV 6) aN))) aN))) (sSeq (sIf (notT (tru (eCall 2 m__law_is (aC (e2 itemD (eV 5) (e1 negD (eC (.int 1)))) (aC (eV 7) aN))))) (sRet (eC (.bl false))) (sPass)) (sSeq (sSet 8 (eBf tupD (aC (frz (nLc (iR2 (aC (eC (.int 1)) (aC (e2 addD (eV 6) (eC (.int 1))) aN))) (.nm 9) [9] (tYes') (eCall 3 m__law_from_v4 (aC (eV 3) (aC (eV 9) (aC (eV 4) aN)))))) aN))) (sIf (notT (tru (eCall 2 m__law_is (aC (eCall 2 m_pick_from (aC (eV 2) (aC (eV 6) aN))) (aC (eV 8) aN))))) (sRet (eC (.bl false))) (sPass))))))) (sSeq (sIf (orT (tst (e2 neD (e2 itemD (eV 5) (eC (.int 0))) (eCall 1 m_best_chance (aC (eV 2) aN)))) (tst (e2 neD (e2 itemD (eV 5) (e1 negD (eC (.int 1)))) (eTup (aC (eC (.int 1)) (aC (eC (.int 1)) aN)))))) (sRet (eC (.bl false))) (sPass)) (sRet (e1 notX (eBf anyD (aC (frz (nLc (iZip (aC (eV 5) (aC (eSl (eV 5) (pS (eC (.int 1))) pN) aN))) (.tp [.nm 10, .nm 11]) [10, 11] (tYes') (eCall 2 m__law_less (aC (eV 11) (aC (eV 10) aN))))) aN))))))))
def m_law_k08 : List D → M D := mDef 12 c_law_k08

end Sh

/-! Plain laws, 1: what a computation gives; the greatest common divisor; fractions in lowest terms. -/
namespace Pl
open Dl Sh
local instance : Dl.Tb := ⟨fun _ => []⟩

theorem nr {α : Sort _} {a b : α} (h : a = b) : a = b := h
def Wp {α : Type} (r : R α) (Q : α → Hs → Prop) : Prop := match r with
  | .ok a h => Q a h
  | _ => False
def WpS (r : SR) (N : Env → Hs → Prop) (T : D → Hs → Prop) : Prop := match r with
  | .nx ρ h => N ρ h
  | .ret d h => T d h
  | _ => False
section
variable {α β : Type}
theorem wp_ok {a : α} {h : Hs} {Q : α → Hs → Prop} : Wp (.ok a h) Q = Q a h := nr rfl
theorem wp_bad {Q : α → Hs → Prop} : Wp (.bad) Q = False := nr rfl
theorem wp_bind {r : R α} {f : α → M β} {Q : β → Hs → Prop} : Wp (r.bind f) Q = Wp r fun a h => Wp (f a h) Q := by cases r <;> rfl
theorem wp_mono {r : R α} {Q Q' : α → Hs → Prop} (p : Wp r Q) (k : ∀ a h, Q a h → Q' a h) : Wp r Q' := by
  cases r with
  | ok a h => exact k _ _ p
  | exc C fs h => exact p
  | bad => exact p
theorem wp_ex {r : R α} {Q : α → Hs → Prop} (p : Wp r Q) : ∃ a h, r = .ok a h ∧ Q a h := by
  cases r with
  | ok a h => exact ⟨a, h, rfl, p⟩
  | exc C fs h => exact p.elim
  | bad => exact p.elim
theorem wp_nox {r : R α} {Q : α → Hs → Prop} : Wp r.nox Q = Wp r Q := by cases r <;> rfl
theorem wps_then {r : R α} {ρ : Env} {f : α → Hs → SR} {N : Env → Hs → Prop} {T : D → Hs → Prop} : WpS (r.then ρ f) N T = Wp r fun a h => WpS (f a h) N T := by cases r <;> rfl
theorem wps_seq {a b : SM} {ρ : Env} {h : Hs} {N : Env → Hs → Prop} {T : D → Hs → Prop} : WpS (sSeq a b ρ h) N T = WpS (a ρ h) (fun ρ1 h1 => WpS (b ρ1 h1) N T) T := by
  unfold sSeq
  cases a ρ h <;> rfl
theorem wps_nx {ρ : Env} {h : Hs} {N : Env → Hs → Prop} {T : D → Hs → Prop} : WpS (.nx ρ h) N T = N ρ h := nr rfl
theorem wps_ret {d : D} {h : Hs} {N : Env → Hs → Prop} {T : D → Hs → Prop} : WpS (.ret d h) N T = T d h := nr rfl
theorem wps_mono {r : SR} {N N' : Env → Hs → Prop} {T T' : D → Hs → Prop} (p : WpS r N T) (k : ∀ ρ h, N ρ h → N' ρ h) (t : ∀ d h, T d h → T' d h) : WpS r N' T' := by
  cases r with
  | nx ρ h => exact k _ _ p
  | ret d h => exact t _ _ p
  | _ => exact p
theorem wp_def {n : Nat} {c : SM} {ds : List D} {h : Hs} {Q : D → Hs → Prop} : Wp (mDef n c ds h) Q = WpS (c (ent n ds) h) (fun _ h => Q .non h) Q := by
  unfold mDef
  cases c (ent n ds) h <;> rfl
theorem mdef_ret {n : Nat} {c : SM} {ds : List D} {h h' : Hs} {d : D} (e : c (ent n ds) h = .ret d h') : mDef n c ds h = .ok d h' := by
  unfold mDef
  rw [e]
  rfl
theorem seq_nx {a b : SM} {ρ ρ1 : Env} {h h1 : Hs} (e : a ρ h = .nx ρ1 h1) : sSeq a b ρ h = b ρ1 h1 := by
  unfold sSeq
  rw [e]
end
/-QBEGIN-/
theorem q_e2 {f : D → D → M D} {ca cb : Env → M D} {ρ : Env} {h : Hs} : e2 f ca cb ρ h = (ca ρ h).bind fun x h1 => (cb ρ h1).bind fun y h2 => f x y h2 := nr rfl
theorem q_e1 {f : D → M D} {ca : Env → M D} {ρ : Env} {h : Hs} : e1 f ca ρ h = (ca ρ h).bind fun x h1 => f x h1 := nr rfl
theorem q_eC {d : D} {ρ : Env} {h : Hs} : eC d ρ h = .ok d h := nr rfl
theorem q_aC {ca : Env → M D} {cs : Env → M (List D)} {ρ : Env} {h : Hs} : aC ca cs ρ h = (ca ρ h).bind fun x h1 => (cs ρ h1).bind fun xs h2 => .ok (x :: xs) h2 := nr rfl
theorem q_aN {ρ : Env} {h : Hs} : aN  ρ h = .ok [] h := nr rfl
theorem q_sPar2 {i j : Nat} {cs : Env → M (List D)} {ρ : Env} {h : Hs} : sPar2 i j cs ρ h = (cs ρ h).then ρ fun xs h1 => match xs with
    | [x, y] => .nx ((ρ.set i (some x)).set j (some y)) h1
    | _ => .bad := nr rfl
theorem q_sPar3 {i j l : Nat} {cs : Env → M (List D)} {ρ : Env} {h : Hs} : sPar3 i j l cs ρ h = (cs ρ h).then ρ fun xs h1 => match xs with
    | [x, y, z] => .nx (((ρ.set i (some x)).set j (some y)).set l (some z)) h1
    | _ => .bad := nr rfl
theorem q_sSet {i : Nat} {ce : Env → M D} {ρ : Env} {h : Hs} : sSet i ce ρ h = (ce ρ h).then ρ fun d h1 => .nx (ρ.set i (some d)) h1 := nr rfl
theorem q_sRet {ce : Env → M D} {ρ : Env} {h : Hs} : sRet ce ρ h = (ce ρ h).then ρ fun d h1 => .ret d h1 := nr rfl
theorem q_eBf {f : List D → M D} {cs : Env → M (List D)} {ρ : Env} {h : Hs} : eBf f cs ρ h = (cs ρ h).bind f := nr rfl
theorem q_nBf {f : List D → M (List D)} {cs : Env → M (List D)} {ρ : Env} {h : Hs} : nBf f cs ρ h = (cs ρ h).bind f := nr rfl
theorem q_eCall {n : Nat} {m : List D → M D} {cs : Env → M (List D)} {ρ : Env} {h : Hs} : eCall n m cs ρ h = (cs ρ h).bind fun xs h1 => if decide (xs.length = n) then m xs h1 else .bad := nr rfl
theorem q_tst {ca : Env → M D} {ρ : Env} {h : Hs} : tst ca ρ h = (ca ρ h).bind fun x h1 => match x with
    | .bl b => .ok b h1
    | _ => .bad := nr rfl
theorem q_tru {ca : Env → M D} {ρ : Env} {h : Hs} : tru ca ρ h = (ca ρ h).bind fun x h1 => match truD h1 x with
    | some b => .ok b h1
    | none => .bad := nr rfl
theorem q_ifV {ct : Env → M Bool} {ca cb : Env → M D} {ρ : Env} {h : Hs} : ifV ct ca cb ρ h = (ct ρ h).bind fun x h1 => if x = true then ca ρ h1 else cb ρ h1 := nr rfl
theorem q_sIf {ct : Env → M Bool} {c1 c2 : SM} {ρ : Env} {h : Hs} : sIf ct c1 c2 ρ h = (ct ρ h).then ρ fun b h1 => if b = true then c1 ρ h1 else c2 ρ h1 := nr rfl
theorem q_eTup {cs : Env → M (List D)} {ρ : Env} {h : Hs} : eTup cs ρ h = (cs ρ h).bind fun xs h1 => if okLen xs.length then .ok (.tup xs) h1 else .bad := nr rfl
theorem q_sPass {ρ : Env} {h : Hs} : sPass  ρ h = .nx ρ h := nr rfl
theorem q_sExp {ce : Env → M D} {ρ : Env} {h : Hs} : sExp ce ρ h = (ce ρ h).then ρ fun _ h1 => .nx ρ h1 := nr rfl
theorem q_eLm {f : D → List D → M D} {ca : Env → M D} {cs : Env → M (List D)} {ρ : Env} {h : Hs} : eLm f ca cs ρ h = (ca ρ h).bind fun x h1 => match lstAt h1 x with
    | some _ => (cs ρ h1).bind fun xs h2 => f x xs h2
    | none => .bad := nr rfl
theorem q_nLst {cs : Env → M (List D)} {ρ : Env} {h : Hs} : nLst cs ρ h = (cs ρ h).bind fun xs h1 => if okLen xs.length then .ok xs h1 else .bad := nr rfl
theorem q_frz {cs : Env → M (List D)} {ρ : Env} {h : Hs} : frz cs ρ h = (cs ρ h).bind fun xs h1 => .ok (.lst xs) h1 := nr rfl
theorem q_thaw {cs : Env → M (List D)} {ρ : Env} {h : Hs} : thaw cs ρ h = (cs ρ h).bind fun xs h1 => .ok (.obj h1.length) (h1 ++ [.lst xs]) := nr rfl
theorem q_iSeq {ce : Env → M D} {ρ : Env} {h : Hs} : iSeq ce ρ h = (ce ρ h).bind fun x h1 => match itOf h1 x with
    | some it => if okG it.gs h1 then .ok it h1 else .bad
    | none => .bad := nr rfl
theorem q_iR1 {cs : Env → M (List D)} {ρ : Env} {h : Hs} : iR1 cs ρ h = (cs ρ h).bind fun ds h1 => match ds with
    | [.int j] => if okI j then .ok ⟨rng 0 1 j.toNat, []⟩ h1 else .bad
    | _ => .bad := nr rfl
theorem q_iR2 {cs : Env → M (List D)} {ρ : Env} {h : Hs} : iR2 cs ρ h = (cs ρ h).bind fun ds h1 => match ds with
    | [.int i, .int j] => if okI i && okI j then .ok ⟨rng i 1 (j - i).toNat, []⟩ h1 else .bad
    | _ => .bad := nr rfl
theorem q_iR3 {cs : Env → M (List D)} {ρ : Env} {h : Hs} : iR3 cs ρ h = (cs ρ h).bind fun ds h1 => match ds with
    | [.int i, .int j, .int k] => if okI i && okI j && decide (k = -1) then .ok ⟨rng i (-1) (i - j).toNat, []⟩ h1 else .bad
    | _ => .bad := nr rfl
theorem q_iEnumD {cs : Env → M (List D)} {ρ : Env} {h : Hs} : iEnumD cs ρ h = (cs ρ h).bind fun ds h1 => match ds with
    | [x] => (match itOf h1 x with
      | some it => if okG it.gs h1 then .ok ⟨enumD 0 it.items, it.gs⟩ h1 else .bad
      | none => .bad)
    | _ => .bad := nr rfl
theorem q_iZip {cs : Env → M (List D)} {ρ : Env} {h : Hs} : iZip cs ρ h = (cs ρ h).bind fun ds h1 => match ds with
    | [x, y] => if isT x == isT y then (match itOf h1 x, itOf h1 y with
      | some it, some jt => if okG it.gs h1 && okG jt.gs h1 then .ok ⟨zipD it.items jt.items, it.gs ++ jt.gs⟩ h1 else .bad
      | _, _ => .bad) else .bad
    | _ => .bad := nr rfl
theorem q_andX {ca cb : Env → M D} {ρ : Env} {h : Hs} : andX ca cb ρ h = (ca ρ h).bind fun x h1 => match truD h1 x with
    | some true => cb ρ h1
    | some false => .ok x h1
    | none => .bad := nr rfl
theorem q_andT {ca cb : Env → M Bool} {ρ : Env} {h : Hs} : andT ca cb ρ h = (ca ρ h).bind fun x h1 => if x = true then cb ρ h1 else .ok false h1 := nr rfl
theorem q_orT {ca cb : Env → M Bool} {ρ : Env} {h : Hs} : orT ca cb ρ h = (ca ρ h).bind fun x h1 => if x = true then .ok true h1 else cb ρ h1 := nr rfl
theorem q_notT {ca : Env → M Bool} {ρ : Env} {h : Hs} : notT ca ρ h = (ca ρ h).bind fun x h1 => .ok (!x) h1 := nr rfl
theorem q_eCh {f g : D → D → M D} {ca cb cc : Env → M D} {ρ : Env} {h : Hs} : eCh f g ca cb cc ρ h = (ca ρ h).bind fun x h1 => (cb ρ h1).bind fun y h2 => (f x y h2).bind fun z h3 => match z with
    | .bl true => (cc ρ h3).bind fun w h4 => g y w h4
    | .bl false => .ok (.bl false) h3
    | _ => .bad := nr rfl
theorem q_eFld {C f : PySem.Str} {ca : Env → M D} {ρ : Env} {h : Hs} : eFld C f ca ρ h = (ca ρ h).bind fun x h1 => match (fieldsAt C h1 x).bind (·.lookup f) with
    | some d => .ok d h1
    | none => .bad := nr rfl
theorem q_eMake {C : PySem.Str} {n : Nat} {mf : List D → M D} {cs : Env → M (List D)} {ρ : Env} {h : Hs} : eMake C n mf cs ρ h = (cs ρ h).bind fun xs h1 => if decide (xs.length + 1 = n) then
    (mf (.obj h1.length :: xs) (h1 ++ [.ins C []])).bind fun r h2 => match r with
    | .non => .ok (.obj h1.length) h2
    | _ => .bad
    else .bad := nr rfl
theorem q_eMeth {C m : PySem.Str} {n : Nat} {mf : List D → M D} {ca : Env → M D} {cs : Env → M (List D)} {ρ : Env} {h : Hs} : eMeth C m n mf ca cs ρ h = (ca ρ h).bind fun x h1 => match (fieldsAt C h1 x).map (·.lookup m) with
    | some none => (cs ρ h1).bind fun xs h2 => if decide (xs.length + 1 = n) then mf (x :: xs) h2 else .bad
    | _ => .bad := nr rfl
theorem q_sFldD {C f : PySem.Str} {ce co : Env → M D} {ρ : Env} {h : Hs} : sFldD C f ce co ρ h = (ce ρ h).then ρ fun v h1 => (co ρ h1).then ρ fun o h2 => match o, fieldsAt C h2 o with
    | .obj n, some fs => if decide (fs.length < 1000) then .nx ρ (h2.set n (.ins C (putFD f v fs))) else .bad
    | _, _ => .bad := nr rfl
theorem q_sPat {p : Pat} {ce : Env → M D} {ρ : Env} {h : Hs} : sPat p ce ρ h = (ce ρ h).then ρ fun x h1 => match patD p x ρ with
    | some ρ1 => .nx ρ1 h1
    | none => .bad := nr rfl
theorem q_eSl {ca : Env → M D} {cl cu : Env → M (Option Int)} {ρ : Env} {h : Hs} : eSl ca cl cu ρ h = (ca ρ h).bind fun x h1 => (cl ρ h1).bind fun lo h2 => (cu ρ h2).bind fun hi h3 => sliceD x lo hi h3 := nr rfl
theorem q_nSl {ca : Env → M D} {cl cu : Env → M (Option Int)} {ρ : Env} {h : Hs} : nSl ca cl cu ρ h = (ca ρ h).bind fun x h1 => (cl ρ h1).bind fun lo h2 => (cu ρ h2).bind fun hi h3 => sliceN x lo hi h3 := nr rfl
theorem q_pS {ca : Env → M D} {ρ : Env} {h : Hs} : pS ca ρ h = (ca ρ h).bind fun x h1 => match x with
    | .int i => .ok (some i) h1
    | _ => .bad := nr rfl
theorem q_pN {ρ : Env} {h : Hs} : pN  ρ h = .ok none h := nr rfl
theorem q_sRetN {ρ : Env} {h : Hs} : sRetN  ρ h = .ret .non h := nr rfl
theorem q_sFor {ci : Env → M ItD} {p : Pat} {body : SM} {ρ : Env} {h : Hs} : sFor ci p body ρ h = (ci ρ h).then ρ fun it h1 => loopF p body it.gs it.items ρ h1 := nr rfl
theorem q_tYes {ρ : Env} {h : Hs} : tYes'  ρ h = .ok true h := nr rfl
theorem q_eDct0 {ρ : Env} {h : Hs} : eDct0  ρ h = .ok (.obj h.length) (h ++ [.dI []]) := nr rfl
/-QEND-/
/-! ### sizes -/
theorem bits_le {i : Int} {n : Nat} (h : i.natAbs < 2 ^ n) : PySem.Builtin.Int.intBits i ≤ n := by
  unfold PySem.Builtin.Int.intBits
  split
  · exact Nat.zero_le _
  · rename_i z
    have z1 : i.natAbs ≠ 0 := fun e => z (by simp; omega)
    exact (Nat.log2_lt z1).mpr h
theorem okMul_of {i j : Int} {a b : Nat} (hi : i.natAbs < 2 ^ a) (hj : j.natAbs < 2 ^ b) (h : a + b ≤ 134217728) : okMul i j = true := by
  have h1 := bits_le hi
  have h2 := bits_le hj
  exact decide_eq_true (by omega)
theorem okDiv_of {i j : Int} (hj : 0 < j) (hs : j.natAbs < 2 ^ 9000) : okDiv i j = true := by
  refine decide_eq_true ⟨hj, .inl ?_⟩
  exact (Nat.log2_lt (by omega)).mpr hs
/-! ### the greatest common divisor -/
theorem gcd_step (a b : Int) : Int.gcd b (a % b) = Int.gcd a b := by
  have e := Int.gcd_add_mul_left_right b (a % b) (a / b)
  rw [Int.emod_add_mul_ediv] at e
  rw [← e, Int.gcd_comm]
theorem gcd_while {ct : Env → M Bool} {body : SM} {mk : Int → Int → Env} (hct : ∀ a b h, ct (mk a b) h = .ok (decide (0 < b)) h) (hb : ∀ a b h, 0 ≤ a → 0 < b → body (mk a b) h = .nx (mk b (a % b)) h) (h : Hs) :
    ∀ (n : Nat) (a b : Int), 0 ≤ a → 0 ≤ b → b < n → whileF ct body n (mk a b) h = .nx (mk (Int.gcd a b) 0) h
  | 0, a, b, _, hb0, hn => by omega
  | n + 1, a, b, ha, hb0, hn => by
    show (ct (mk a b) h).then (mk a b) _ = _
    rw [hct]
    show (if decide (0 < b) = true then _ else _) = _
    by_cases z : 0 < b
    · rw [if_pos (decide_eq_true z)]
      simp only [hb a b h ha z]
      have m0 := Int.emod_nonneg a (show b ≠ 0 by omega)
      have m1 := Int.emod_lt_of_pos a z
      rw [gcd_while hct hb h n b (a % b) hb0 m0 (by omega), gcd_step]
    · rw [if_neg (by simpa using z)]
      have e : b = 0 := by omega
      subst e
      rw [Int.gcd_zero_right, Int.natAbs_of_nonneg ha]
theorem modD_ii {a b : Int} (hb : 0 < b) (h : Hs) : modD (.int a) (.int b) h = .ok (.int (a % b)) h := if_pos (decide_eq_true hb)
theorem divD_ii {a b : Int} (hb : okDiv a b = true) (h : Hs) : divD (.int a) (.int b) h = .ok (.int (a / b)) h := if_pos hb
theorem mulD_ii {a b : Int} (hb : okMul a b = true) (h : Hs) : mulD (.int a) (.int b) h = .ok (.int (a * b)) h := if_pos hb
theorem addD_ii {a b : Int} (h : Hs) : addD (.int a) (.int b) h = .ok (.int (a + b)) h := nr rfl
theorem subD_ii {a b : Int} (h : Hs) : subD (.int a) (.int b) h = .ok (.int (a - b)) h := nr rfl
theorem negD_i {a : Int} (h : Hs) : negD (.int a) h = .ok (.int (-a)) h := nr rfl
theorem absD_i {a : Int} (h : Hs) : absD [.int a] h = .ok (.int a.natAbs) h := by
  show Dl.R.ok (D.int (if a < 0 then -a else a)) h = _
  congr 2
  split <;> omega
theorem bind_ok' {α β : Type} (a : α) (h : Hs) (f : α → M β) : (Dl.R.ok a h).bind f = f a h := nr rfl
theorem then_ok {α : Type} (a : α) (h : Hs) (ρ : Env) (f : α → Hs → SR) : (Dl.R.ok a h).then ρ f = f a h := nr rfl
theorem eV0 {d : D} {ρ : Env} {h : Hs} : eV 0 (some d :: ρ) h = .ok d h := nr rfl
theorem eVs {n : Nat} {x : Option D} {ρ : Env} {h : Hs} : eV (n + 1) (x :: ρ) h = eV n ρ h := nr rfl
theorem zero_add' {n : Nat} : 0 + n = n := Nat.zero_add n
theorem okL0 : okLen 0 = true := nr rfl
theorem okL1 : okLen 1 = true := nr rfl
theorem okL2 : okLen 2 = true := nr rfl
theorem okL3 : okLen 3 = true := nr rfl
theorem okL4 : okLen 4 = true := nr rfl
theorem okL5 : okLen 5 = true := nr rfl
theorem okL6 : okLen 6 = true := nr rfl
theorem item_at {xs : List D} {i : Nat} {d : D} {h : Hs} (e : xs[i]? = some d) : itemD (.tup xs) (.int i) h = .ok d h := by
  have hl := (List.getElem?_eq_some_iff.mp e).1
  have z : L2.atI xs i = some d := by
    unfold L2.atI L2.ixN
    rw [if_pos (by omega), if_pos (by omega)]
    exact e
  show (match L2.atI xs i with
      | some d => Dl.R.ok d h
      | none => .bad) = _
  rw [z]
theorem item0 {a : D} {xs : List D} {h : Hs} : itemD (.tup (a :: xs)) (.int 0) h = .ok a h := item_at (i := 0) rfl
theorem item1 {a b : D} {xs : List D} {h : Hs} : itemD (.tup (a :: b :: xs)) (.int 1) h = .ok b h := item_at (i := 1) rfl
theorem ltD_ii {a b : Int} {h : Hs} : ltD (.int a) (.int b) h = .ok (.bl (decide (a < b))) h := nr rfl
theorem leD_ii {a b : Int} {h : Hs} : leD (.int a) (.int b) h = .ok (.bl (decide (a ≤ b))) h := nr rfl
theorem gtD_ii {a b : Int} {h : Hs} : gtD (.int a) (.int b) h = .ok (.bl (decide (b < a))) h := nr rfl
theorem geD_ii {a b : Int} {h : Hs} : geD (.int a) (.int b) h = .ok (.bl (decide (b ≤ a))) h := nr rfl
theorem truD_bl {b : Bool} {h : Hs} : truD h (.bl b) = some b := nr rfl
theorem wp_ite {α : Type} {c : Prop} [Decidable c] {a b : R α} {Q : α → Hs → Prop} : Wp (if c then a else b) Q = if c then Wp a Q else Wp b Q := by split <;> rfl
theorem wps_ite {c : Prop} [Decidable c] {a b : SR} {N : Env → Hs → Prop} {T : D → Hs → Prop} : WpS (if c then a else b) N T = if c then WpS a N T else WpS b N T := by split <;> rfl
theorem common_eq (a b : Int) (h : Hs) : m_common [.int a, .int b] h = .ok (.int (Int.gcd a b)) h := by
  refine mdef_ret (h' := h) ?_
  have w := gcd_while (ct := tst (e2 gtD (eV 1) (eC (.int 0)))) (body := sPar2 0 1 (aC (eV 1) (aC (e2 modD (eV 0) (eV 1)) aN))) (mk := fun a b => [some (.int a), some (.int b)]) (fun a b h => rfl) (fun a b h _ hb => ?_) h
    (b.natAbs + 2) a.natAbs b.natAbs (by omega) (by omega) (by omega)
  · unfold c_common
    rw [seq_nx (ρ1 := [some (.int a.natAbs), some (.int b.natAbs)]) (h1 := h), seq_nx (ρ1 := [some (.int (Int.gcd a.natAbs b.natAbs)), some (.int 0)]) (h1 := h)]
    · show SR.ret (.int (Int.gcd (a.natAbs : Int) b.natAbs)) h = _
      simp [Int.gcd]
    · exact w
    · simp only [eV0, eVs, bind_ok', then_ok, q_e2, q_e1, q_eC, q_aC, q_aN, q_sPar2, q_sPar3, q_sSet, q_sRet, q_eBf, q_nBf, q_eCall, q_tst, q_tru, q_ifV, q_sIf, q_eTup, q_sPass, q_sExp, q_eLm, q_nLst, q_frz, q_thaw, q_iSeq, q_iR2, q_iR3, q_iEnumD, q_iZip, q_andX, q_andT, q_orT, q_notT, q_eCh, q_sPat, q_eSl, q_nSl, q_pS, q_pN, q_sRetN, q_tYes, q_eDct0, okL0, okL1, okL2, okL3, okL4, okL5, okL6, ent, List.map_cons, List.map_nil, List.length_cons, List.length_nil, List.set_cons_zero, List.set_cons_succ, List.replicate, List.cons_append, List.nil_append, Nat.reduceAdd, Nat.reduceSub, Nat.sub_self, Nat.sub_zero, zero_add', ↓reduceIte, Bool.false_eq_true, item0, item1, addD_ii, subD_ii, negD_i, absD_i, ltD_ii, leD_ii, gtD_ii, geD_ii, truD_bl, decide_true, decide_false]
  · simp only [eV0, eVs, bind_ok', then_ok, q_e2, q_e1, q_eC, q_aC, q_aN, q_sPar2, q_sPar3, q_sSet, q_sRet, q_eBf, q_nBf, q_eCall, q_tst, q_tru, q_ifV, q_sIf, q_eTup, q_sPass, q_sExp, q_eLm, q_nLst, q_frz, q_thaw, q_iSeq, q_iR2, q_iR3, q_iEnumD, q_iZip, q_andX, q_andT, q_orT, q_notT, q_eCh, q_sPat, q_eSl, q_nSl, q_pS, q_pN, q_sRetN, q_tYes, q_eDct0, okL0, okL1, okL2, okL3, okL4, okL5, okL6, ent, List.map_cons, List.map_nil, List.length_cons, List.length_nil, List.set_cons_zero, List.set_cons_succ, List.replicate, List.cons_append, List.nil_append, Nat.reduceAdd, Nat.reduceSub, Nat.sub_self, Nat.sub_zero, zero_add', ↓reduceIte, Bool.false_eq_true, item0, item1, addD_ii, subD_ii, negD_i, absD_i, ltD_ii, leD_ii, gtD_ii, geD_ii, truD_bl, decide_true, decide_false, modD_ii hb]
/-! ### fractions -/
def fr (q : Rat) : D := .tup [.int q.num, .int q.den]
def Sz (n : Nat) (q : Rat) : Prop := q.num.natAbs < 2 ^ n ∧ q.den < 2 ^ n
theorem Sz.mono {m n : Nat} {q : Rat} (h : Sz m q) (l : m ≤ n) : Sz n q := ⟨Nat.lt_of_lt_of_le h.1 (Nat.pow_le_pow_right (by decide) l), Nat.lt_of_lt_of_le h.2 (Nat.pow_le_pow_right (by decide) l)⟩
theorem lowest_eq (n d : Int) (h : Hs) (hd : d ≠ 0) (hs : d.natAbs < 2 ^ 9000) : m_lowest [.int n, .int d] h = .ok (fr (Rat.divInt n d)) h := by
  have gpos : ∀ a b : Int, 0 < b → (0 : Int) < (Int.gcd a b : Int) := fun a b hb => by
    have := Int.gcd_pos_of_ne_zero_right a (show b ≠ 0 by omega)
    omega
  have gle : ∀ a b : Int, 0 < b → (Int.gcd a b) ≤ b.natAbs := fun a b hb => Nat.le_of_dvd (by omega) (Int.gcd_dvd_natAbs_right a b)
  have fin : ∀ a b : Int, 0 < b → b.natAbs < 2 ^ 9000 → okDiv a (Int.gcd a b : Int) = true ∧ okDiv b (Int.gcd a b : Int) = true ∧ (Rat.divInt a b).num = a / (Int.gcd a b : Int) ∧ ((Rat.divInt a b).den : Int) = b / (Int.gcd a b : Int) := fun a b hb hs => by
    have g1 := gpos a b hb
    have g2 := gle a b hb
    have g3 : ((Int.gcd a b : Int)).natAbs < 2 ^ 9000 := by rw [Int.natAbs_natCast]; omega
    refine ⟨okDiv_of g1 g3, okDiv_of g1 g3, ?_, ?_⟩
    · rw [Rat.num_divInt, Int.sign_eq_one_of_pos hb, Int.one_mul, Int.gcd_comm]
    · rw [Rat.den_divInt, if_neg (by omega), Int.gcd_comm]
      have e : (b.natAbs : Int) = b := by omega
      rw [Int.natCast_ediv, e]
  refine mdef_ret (h' := h) ?_
  unfold c_lowest
  by_cases z : d < 0
  · obtain ⟨k1, k2, k3, k4⟩ := fin (-n) (-d) (by omega) (by omega)
    rw [seq_nx (ρ1 := [some (.int (-n)), some (.int (-d)), none]) (h1 := h), seq_nx (ρ1 := [some (.int (-n)), some (.int (-d)), some (.int (Int.gcd (-n) (-d)))]) (h1 := h)]
    · simp only [eV0, eVs, bind_ok', then_ok, q_e2, q_e1, q_eC, q_aC, q_aN, q_sPar2, q_sPar3, q_sSet, q_sRet, q_eBf, q_nBf, q_eCall, q_tst, q_tru, q_ifV, q_sIf, q_eTup, q_sPass, q_sExp, q_eLm, q_nLst, q_frz, q_thaw, q_iSeq, q_iR2, q_iR3, q_iEnumD, q_iZip, q_andX, q_andT, q_orT, q_notT, q_eCh, q_sPat, q_eSl, q_nSl, q_pS, q_pN, q_sRetN, q_tYes, q_eDct0, okL0, okL1, okL2, okL3, okL4, okL5, okL6, ent, List.map_cons, List.map_nil, List.length_cons, List.length_nil, List.set_cons_zero, List.set_cons_succ, List.replicate, List.cons_append, List.nil_append, Nat.reduceAdd, Nat.reduceSub, Nat.sub_self, Nat.sub_zero, zero_add', ↓reduceIte, Bool.false_eq_true, item0, item1, addD_ii, subD_ii, negD_i, absD_i, ltD_ii, leD_ii, gtD_ii, geD_ii, truD_bl, decide_true, decide_false, divD_ii k1, divD_ii k2]
      unfold fr
      rw [← Rat.neg_divInt_neg n d, k3, k4]
    · simp only [eV0, eVs, bind_ok', then_ok, q_e2, q_e1, q_eC, q_aC, q_aN, q_sPar2, q_sPar3, q_sSet, q_sRet, q_eBf, q_nBf, q_eCall, q_tst, q_tru, q_ifV, q_sIf, q_eTup, q_sPass, q_sExp, q_eLm, q_nLst, q_frz, q_thaw, q_iSeq, q_iR2, q_iR3, q_iEnumD, q_iZip, q_andX, q_andT, q_orT, q_notT, q_eCh, q_sPat, q_eSl, q_nSl, q_pS, q_pN, q_sRetN, q_tYes, q_eDct0, okL0, okL1, okL2, okL3, okL4, okL5, okL6, ent, List.map_cons, List.map_nil, List.length_cons, List.length_nil, List.set_cons_zero, List.set_cons_succ, List.replicate, List.cons_append, List.nil_append, Nat.reduceAdd, Nat.reduceSub, Nat.sub_self, Nat.sub_zero, zero_add', ↓reduceIte, Bool.false_eq_true, item0, item1, addD_ii, subD_ii, negD_i, absD_i, ltD_ii, leD_ii, gtD_ii, geD_ii, truD_bl, decide_true, decide_false, common_eq]
    · simp only [eV0, eVs, bind_ok', then_ok, q_e2, q_e1, q_eC, q_aC, q_aN, q_sPar2, q_sPar3, q_sSet, q_sRet, q_eBf, q_nBf, q_eCall, q_tst, q_tru, q_ifV, q_sIf, q_eTup, q_sPass, q_sExp, q_eLm, q_nLst, q_frz, q_thaw, q_iSeq, q_iR2, q_iR3, q_iEnumD, q_iZip, q_andX, q_andT, q_orT, q_notT, q_eCh, q_sPat, q_eSl, q_nSl, q_pS, q_pN, q_sRetN, q_tYes, q_eDct0, okL0, okL1, okL2, okL3, okL4, okL5, okL6, ent, List.map_cons, List.map_nil, List.length_cons, List.length_nil, List.set_cons_zero, List.set_cons_succ, List.replicate, List.cons_append, List.nil_append, Nat.reduceAdd, Nat.reduceSub, Nat.sub_self, Nat.sub_zero, zero_add', ↓reduceIte, Bool.false_eq_true, item0, item1, addD_ii, subD_ii, negD_i, absD_i, ltD_ii, leD_ii, gtD_ii, geD_ii, truD_bl, decide_true, decide_false, decide_eq_true z]
  · obtain ⟨k1, k2, k3, k4⟩ := fin n d (by omega) hs
    rw [seq_nx (ρ1 := [some (.int n), some (.int d), none]) (h1 := h), seq_nx (ρ1 := [some (.int n), some (.int d), some (.int (Int.gcd n d))]) (h1 := h)]
    · simp only [eV0, eVs, bind_ok', then_ok, q_e2, q_e1, q_eC, q_aC, q_aN, q_sPar2, q_sPar3, q_sSet, q_sRet, q_eBf, q_nBf, q_eCall, q_tst, q_tru, q_ifV, q_sIf, q_eTup, q_sPass, q_sExp, q_eLm, q_nLst, q_frz, q_thaw, q_iSeq, q_iR2, q_iR3, q_iEnumD, q_iZip, q_andX, q_andT, q_orT, q_notT, q_eCh, q_sPat, q_eSl, q_nSl, q_pS, q_pN, q_sRetN, q_tYes, q_eDct0, okL0, okL1, okL2, okL3, okL4, okL5, okL6, ent, List.map_cons, List.map_nil, List.length_cons, List.length_nil, List.set_cons_zero, List.set_cons_succ, List.replicate, List.cons_append, List.nil_append, Nat.reduceAdd, Nat.reduceSub, Nat.sub_self, Nat.sub_zero, zero_add', ↓reduceIte, Bool.false_eq_true, item0, item1, addD_ii, subD_ii, negD_i, absD_i, ltD_ii, leD_ii, gtD_ii, geD_ii, truD_bl, decide_true, decide_false, divD_ii k1, divD_ii k2]
      unfold fr
      rw [k3, k4]
    · simp only [eV0, eVs, bind_ok', then_ok, q_e2, q_e1, q_eC, q_aC, q_aN, q_sPar2, q_sPar3, q_sSet, q_sRet, q_eBf, q_nBf, q_eCall, q_tst, q_tru, q_ifV, q_sIf, q_eTup, q_sPass, q_sExp, q_eLm, q_nLst, q_frz, q_thaw, q_iSeq, q_iR2, q_iR3, q_iEnumD, q_iZip, q_andX, q_andT, q_orT, q_notT, q_eCh, q_sPat, q_eSl, q_nSl, q_pS, q_pN, q_sRetN, q_tYes, q_eDct0, okL0, okL1, okL2, okL3, okL4, okL5, okL6, ent, List.map_cons, List.map_nil, List.length_cons, List.length_nil, List.set_cons_zero, List.set_cons_succ, List.replicate, List.cons_append, List.nil_append, Nat.reduceAdd, Nat.reduceSub, Nat.sub_self, Nat.sub_zero, zero_add', ↓reduceIte, Bool.false_eq_true, item0, item1, addD_ii, subD_ii, negD_i, absD_i, ltD_ii, leD_ii, gtD_ii, geD_ii, truD_bl, decide_true, decide_false, common_eq]
    · simp only [eV0, eVs, bind_ok', then_ok, q_e2, q_e1, q_eC, q_aC, q_aN, q_sPar2, q_sPar3, q_sSet, q_sRet, q_eBf, q_nBf, q_eCall, q_tst, q_tru, q_ifV, q_sIf, q_eTup, q_sPass, q_sExp, q_eLm, q_nLst, q_frz, q_thaw, q_iSeq, q_iR2, q_iR3, q_iEnumD, q_iZip, q_andX, q_andT, q_orT, q_notT, q_eCh, q_sPat, q_eSl, q_nSl, q_pS, q_pN, q_sRetN, q_tYes, q_eDct0, okL0, okL1, okL2, okL3, okL4, okL5, okL6, ent, List.map_cons, List.map_nil, List.length_cons, List.length_nil, List.set_cons_zero, List.set_cons_succ, List.replicate, List.cons_append, List.nil_append, Nat.reduceAdd, Nat.reduceSub, Nat.sub_self, Nat.sub_zero, zero_add', ↓reduceIte, Bool.false_eq_true, item0, item1, addD_ii, subD_ii, negD_i, absD_i, ltD_ii, leD_ii, gtD_ii, geD_ii, truD_bl, decide_true, decide_false, decide_eq_false z]
end Pl

/-! Plain laws, 2: fractions. -/
namespace Pl
open Dl Sh
local instance : Dl.Tb := ⟨fun _ => []⟩

theorem sz_divInt {k : Nat} {n d : Int} (hn : n.natAbs < 2 ^ k) (hd : d.natAbs < 2 ^ k) (h0 : d ≠ 0) : Sz k (Rat.divInt n d) := by
  refine ⟨?_, ?_⟩
  · rw [Rat.num_divInt]
    have e : (d.sign * n / (Int.gcd d n : Int)).natAbs ≤ n.natAbs := by
      refine Nat.le_trans (Int.natAbs_ediv_le_natAbs _ _) ?_
      rw [Int.natAbs_mul]
      have : d.sign.natAbs ≤ 1 := by
        rcases Int.lt_trichotomy d 0 with z | z | z
        · rw [Int.sign_eq_neg_one_of_neg z]; decide
        · exact absurd z h0
        · rw [Int.sign_eq_one_of_pos z]; decide
      calc d.sign.natAbs * n.natAbs ≤ 1 * n.natAbs := Nat.mul_le_mul_right _ this
        _ = n.natAbs := Nat.one_mul _
    exact Nat.lt_of_le_of_lt e hn
  · rw [Rat.den_divInt, if_neg h0]
    exact Nat.lt_of_le_of_lt (Nat.div_le_self _ _) hd
theorem pow_mul_lt {a b x y : Nat} (hx : x < 2 ^ a) (hy : y < 2 ^ b) : x * y < 2 ^ (a + b) := by
  rw [Nat.pow_add]
  exact Nat.mul_lt_mul'' hx hy
theorem den_pos (q : Rat) : 0 < q.den := Nat.pos_of_ne_zero q.den_nz
theorem fr_num {q : Rat} {h : Hs} : itemD (fr q) (.int 0) h = .ok (.int q.num) h := item0
theorem fr_den {q : Rat} {h : Hs} : itemD (fr q) (.int 1) h = .ok (.int q.den) h := item1
theorem fr_inj {p q : Rat} : fr p = fr q ↔ p = q := by
  refine ⟨fun e => ?_, fun e => by rw [e]⟩
  unfold fr at e
  simp only [D.tup.injEq, List.cons.injEq, D.int.injEq, and_true] at e
  exact Rat.ext e.1 (by omega)
section
variable {p q : Rat} {a b : Nat} (hp : Sz a p) (hq : Sz b q) (hab : a + b ≤ 8000)
include hp hq
theorem mul_nn : (p.num * q.num).natAbs < 2 ^ (a + b) := by rw [Int.natAbs_mul]; exact pow_mul_lt hp.1 hq.1
theorem mul_nd : (p.num * (q.den : Int)).natAbs < 2 ^ (a + b) := by rw [Int.natAbs_mul]; exact pow_mul_lt hp.1 hq.2
theorem mul_dn : (q.num * (p.den : Int)).natAbs < 2 ^ (a + b) := by rw [Int.natAbs_mul, Nat.mul_comm]; exact pow_mul_lt hp.2 hq.1
theorem mul_dd : ((p.den : Int) * (q.den : Int)).natAbs < 2 ^ (a + b) := by rw [Int.natAbs_mul]; exact pow_mul_lt hp.2 hq.2
omit hp hq in
theorem dd_ne : ((p.den : Int) * (q.den : Int)) ≠ 0 := by
  have h1 := den_pos p
  have h2 := den_pos q
  have := Nat.mul_pos h1 h2
  intro z
  have e : ((p.den * q.den : Nat) : Int) = 0 := by rw [Int.natCast_mul]; exact z
  omega
include hab
theorem ok_nd : okMul p.num (q.den : Int) = true := okMul_of hp.1 (show ((q.den : Int)).natAbs < 2 ^ b from hq.2) (by omega)
theorem ok_dn : okMul q.num (p.den : Int) = true := okMul_of hq.1 (show ((p.den : Int)).natAbs < 2 ^ a from hp.2) (by omega)
theorem ok_dd : okMul (p.den : Int) (q.den : Int) = true := okMul_of (show ((p.den : Int)).natAbs < 2 ^ a from hp.2) (show ((q.den : Int)).natAbs < 2 ^ b from hq.2) (by omega)
theorem lt9000 {x : Nat} (h : x < 2 ^ (a + b)) : x < 2 ^ 9000 := Nat.lt_of_lt_of_le h (Nat.pow_le_pow_right (by decide) (by omega))
theorem ok_dp : okMul (p.den : Int) q.num = true := okMul_of (show ((p.den : Int)).natAbs < 2 ^ a from hp.2) hq.1 (by omega)
theorem plus_eq (h : Hs) : m_plus [fr p, fr q] h = .ok (fr (p + q)) h := by
  refine mdef_ret (h' := h) ?_
  unfold c_plus
  simp only [eV0, eVs, bind_ok', then_ok, q_e2, q_e1, q_eC, q_aC, q_aN, q_sPar2, q_sPar3, q_sSet, q_sRet, q_eBf, q_nBf, q_eCall, q_tst, q_tru, q_ifV, q_sIf, q_eTup, q_sPass, q_sExp, q_eLm, q_nLst, q_frz, q_thaw, q_iSeq, q_iR2, q_iR3, q_iEnumD, q_iZip, q_andX, q_andT, q_orT, q_notT, q_eCh, q_sPat, q_eSl, q_nSl, q_pS, q_pN, q_sRetN, q_tYes, q_eDct0, okL0, okL1, okL2, okL3, okL4, okL5, okL6, ent, List.map_cons, List.map_nil, List.length_cons, List.length_nil, List.set_cons_zero, List.set_cons_succ, List.replicate, List.cons_append, List.nil_append, Nat.reduceAdd, Nat.reduceSub, Nat.sub_self, Nat.sub_zero, zero_add', ↓reduceIte, Bool.false_eq_true, item0, item1, addD_ii, subD_ii, negD_i, absD_i, ltD_ii, leD_ii, gtD_ii, geD_ii, truD_bl, decide_true, decide_false, fr_num, fr_den, mulD_ii (ok_nd hp hq hab), mulD_ii (ok_dn hp hq hab), mulD_ii (ok_dd hp hq hab), lowest_eq _ _ h (dd_ne (p := p) (q := q)) (lt9000 hp hq hab (mul_dd hp hq))]
  rw [Rat.add_def', ← Int.natCast_mul, Rat.divInt_ofNat]
theorem minus_eq (h : Hs) : m_minus [fr p, fr q] h = .ok (fr (p - q)) h := by
  refine mdef_ret (h' := h) ?_
  unfold c_minus
  simp only [eV0, eVs, bind_ok', then_ok, q_e2, q_e1, q_eC, q_aC, q_aN, q_sPar2, q_sPar3, q_sSet, q_sRet, q_eBf, q_nBf, q_eCall, q_tst, q_tru, q_ifV, q_sIf, q_eTup, q_sPass, q_sExp, q_eLm, q_nLst, q_frz, q_thaw, q_iSeq, q_iR2, q_iR3, q_iEnumD, q_iZip, q_andX, q_andT, q_orT, q_notT, q_eCh, q_sPat, q_eSl, q_nSl, q_pS, q_pN, q_sRetN, q_tYes, q_eDct0, okL0, okL1, okL2, okL3, okL4, okL5, okL6, ent, List.map_cons, List.map_nil, List.length_cons, List.length_nil, List.set_cons_zero, List.set_cons_succ, List.replicate, List.cons_append, List.nil_append, Nat.reduceAdd, Nat.reduceSub, Nat.sub_self, Nat.sub_zero, zero_add', ↓reduceIte, Bool.false_eq_true, item0, item1, addD_ii, subD_ii, negD_i, absD_i, ltD_ii, leD_ii, gtD_ii, geD_ii, truD_bl, decide_true, decide_false, fr_num, fr_den, mulD_ii (ok_nd hp hq hab), mulD_ii (ok_dn hp hq hab), mulD_ii (ok_dd hp hq hab), lowest_eq _ _ h (dd_ne (p := p) (q := q)) (lt9000 hp hq hab (mul_dd hp hq))]
  rw [Rat.sub_def', ← Int.natCast_mul, Rat.divInt_ofNat]
theorem less_eq (h : Hs) : m_is_less [fr p, fr q] h = .ok (.bl (decide (p < q))) h := by
  refine mdef_ret (h' := h) ?_
  unfold c_is_less
  simp only [eV0, eVs, bind_ok', then_ok, q_e2, q_e1, q_eC, q_aC, q_aN, q_sPar2, q_sPar3, q_sSet, q_sRet, q_eBf, q_nBf, q_eCall, q_tst, q_tru, q_ifV, q_sIf, q_eTup, q_sPass, q_sExp, q_eLm, q_nLst, q_frz, q_thaw, q_iSeq, q_iR2, q_iR3, q_iEnumD, q_iZip, q_andX, q_andT, q_orT, q_notT, q_eCh, q_sPat, q_eSl, q_nSl, q_pS, q_pN, q_sRetN, q_tYes, q_eDct0, okL0, okL1, okL2, okL3, okL4, okL5, okL6, ent, List.map_cons, List.map_nil, List.length_cons, List.length_nil, List.set_cons_zero, List.set_cons_succ, List.replicate, List.cons_append, List.nil_append, Nat.reduceAdd, Nat.reduceSub, Nat.sub_self, Nat.sub_zero, zero_add', ↓reduceIte, Bool.false_eq_true, item0, item1, addD_ii, subD_ii, negD_i, absD_i, ltD_ii, leD_ii, gtD_ii, geD_ii, truD_bl, decide_true, decide_false, fr_num, fr_den, mulD_ii (ok_nd hp hq hab), mulD_ii (ok_dn hp hq hab)]
  congr 2
  exact decide_eq_decide.mpr (Rat.lt_iff p q).symm
theorem quot_eq (h : Hs) (h0 : q ≠ 0) : m_quotient [fr p, fr q] h = .ok (fr (p / q)) h := by
  have n0 : q.num ≠ 0 := fun z => h0 (Rat.num_eq_zero.mp z)
  have e0 : (p.den : Int) * q.num ≠ 0 := Int.mul_ne_zero (by have := den_pos p; omega) n0
  refine mdef_ret (h' := h) ?_
  unfold c_quotient
  simp only [eV0, eVs, bind_ok', then_ok, q_e2, q_e1, q_eC, q_aC, q_aN, q_sPar2, q_sPar3, q_sSet, q_sRet, q_eBf, q_nBf, q_eCall, q_tst, q_tru, q_ifV, q_sIf, q_eTup, q_sPass, q_sExp, q_eLm, q_nLst, q_frz, q_thaw, q_iSeq, q_iR2, q_iR3, q_iEnumD, q_iZip, q_andX, q_andT, q_orT, q_notT, q_eCh, q_sPat, q_eSl, q_nSl, q_pS, q_pN, q_sRetN, q_tYes, q_eDct0, okL0, okL1, okL2, okL3, okL4, okL5, okL6, ent, List.map_cons, List.map_nil, List.length_cons, List.length_nil, List.set_cons_zero, List.set_cons_succ, List.replicate, List.cons_append, List.nil_append, Nat.reduceAdd, Nat.reduceSub, Nat.sub_self, Nat.sub_zero, zero_add', ↓reduceIte, Bool.false_eq_true, item0, item1, addD_ii, subD_ii, negD_i, absD_i, ltD_ii, leD_ii, gtD_ii, geD_ii, truD_bl, decide_true, decide_false, fr_num, fr_den, mulD_ii (ok_nd hp hq hab), mulD_ii (ok_dp hp hq hab), lowest_eq _ _ h e0 (lt9000 hp hq hab (by rw [Int.natAbs_mul]; exact pow_mul_lt hp.2 hq.1))]
  have e1 : p / q = Rat.divInt (p.num * q.den) (p.den * q.num) := by
    rw [Rat.div_def, Rat.inv_def]
    conv => lhs; rw [← Rat.num_divInt_den p]
    rw [Rat.divInt_mul_divInt]
  rw [e1]
end
section
variable {p q : Rat} {a b : Nat} (hp : Sz a p) (hq : Sz b q)
include hp hq
theorem Sz.mul : Sz (a + b) (p * q) := by
  rw [Rat.mul_def', ← Rat.divInt_ofNat, Int.natCast_mul]
  exact sz_divInt (mul_nn hp hq) (mul_dd hp hq) dd_ne
theorem Sz.add : Sz (a + b + 1) (p + q) := by
  rw [Rat.add_def', ← Rat.divInt_ofNat, Int.natCast_mul]
  have h1 := mul_nd hp hq
  have h2 := mul_dn hp hq
  have h3 := mul_dd hp hq
  have e : 2 ^ (a + b + 1) = 2 * 2 ^ (a + b) := by rw [Nat.pow_succ, Nat.mul_comm]
  refine sz_divInt ?_ (by omega) dd_ne
  have := Int.natAbs_add_le (p.num * (q.den : Int)) (q.num * (p.den : Int))
  omega
theorem Sz.sub : Sz (a + b + 1) (p - q) := by
  rw [Rat.sub_def', ← Rat.divInt_ofNat, Int.natCast_mul]
  have h1 := mul_nd hp hq
  have h2 := mul_dn hp hq
  have h3 := mul_dd hp hq
  have e : 2 ^ (a + b + 1) = 2 * 2 ^ (a + b) := by rw [Nat.pow_succ, Nat.mul_comm]
  refine sz_divInt ?_ (by omega) dd_ne
  have := Int.natAbs_sub_le (p.num * (q.den : Int)) (q.num * (p.den : Int))
  omega
theorem Sz.div : Sz (a + b) (p / q) := by
  by_cases h0 : q = 0
  · subst h0
    rw [Rat.div_def, Rat.inv_zero, Rat.mul_zero]
    exact ⟨Nat.pow_pos (by decide), by
      have := hp.2
      have h1 := den_pos p
      have : 1 < 2 ^ a := by omega
      have h2 : 2 ^ a ≤ 2 ^ (a + b) := Nat.pow_le_pow_right (by decide) (by omega)
      show 1 < _
      omega⟩
  have n0 : q.num ≠ 0 := fun z => h0 (Rat.num_eq_zero.mp z)
  have e1 : p / q = Rat.divInt (p.num * q.den) (p.den * q.num) := by
    rw [Rat.div_def, Rat.inv_def]
    conv => lhs; rw [← Rat.num_divInt_den p]
    rw [Rat.divInt_mul_divInt]
  rw [e1]
  exact sz_divInt (mul_nd hp hq) (by rw [Int.natAbs_mul]; exact pow_mul_lt hp.2 hq.1) (Int.mul_ne_zero (by have := den_pos p; omega) n0)
end
theorem sz0 : Sz 1 0 := ⟨by decide, by decide⟩
theorem sz1 : Sz 1 1 := ⟨by decide, by decide⟩
theorem fr0 : fr 0 = .tup [.int 0, .int 1] := rfl
theorem fr1 : fr 1 = .tup [.int 1, .int 1] := rfl
end Pl

/-! Plain laws, 0: == and repr of data that stay. -/
namespace Pl
open Dl
local instance : Dl.Tb := ⟨fun _ => []⟩

instance : DecidableEq D := fun x y => if h : D.beq x y = true then .isTrue (D.beq_eq x y h) else .isFalse fun e => h (by rw [e]; exact D.beq_refl y)
mutual
def pyF : D → PySem.PyData
  | .int i => .int i
  | .str x => .str x
  | .tup xs => .tuple (pyFs xs)
  | .lst xs => .list (pyFs xs)
  | .bl b => .bool b
  | _ => .none
def pyFs : List D → List PySem.PyData
  | [] => []
  | x :: xs => pyF x :: pyFs xs
end
/-- data of None, ints, tuples, lists that stay; n its depth at most -/
inductive Fz : Nat → D → Prop
  | non {n : Nat} : Fz n .non
  | int {n : Nat} (i : Int) : Fz n (.int i)
  | tup {n : Nat} {xs : List D} : (∀ x ∈ xs, Fz n x) → Fz (n + 1) (.tup xs)
  | lst {n : Nat} {xs : List D} : (∀ x ∈ xs, Fz n x) → Fz (n + 1) (.lst xs)
theorem Fz.mono {n : Nat} {d : D} (h : Fz n d) : ∀ {m : Nat}, n ≤ m → Fz m d := by
  induction h with
  | non => exact fun _ => .non
  | int i => exact fun _ => .int i
  | tup _ ih => exact fun {m} l => match m, l with
    | m + 1, l => .tup fun x hx => ih x hx (by omega)
  | lst _ ih => exact fun {m} l => match m, l with
    | m + 1, l => .lst fun x hx => ih x hx (by omega)
theorem optAll_eq {f : D → Option PySem.PyData} : ∀ {xs : List D}, (∀ x ∈ xs, f x = some (pyF x)) → optAll f xs = some (pyFs xs)
  | [], _ => rfl
  | x :: xs, h => by
    unfold optAll
    rw [h x List.mem_cons_self, optAll_eq fun y hy => h y (List.mem_cons_of_mem _ hy)]
    simp only [pyFs]
theorem toPy_fz {h : Hs} {n : Nat} {d : D} (f : Fz n d) : toPy h n d = some (pyF d) := by
  induction f with
  | @non n => cases n <;> simp only [pyF] <;> rfl
  | @int n i => cases n <;> simp only [pyF] <;> rfl
  | @tup n xs _ ih =>
    show (optAll (toPy h n) xs).map PySem.PyData.tuple = _
    rw [optAll_eq ih]
    simp only [pyF]
    rfl
  | @lst n xs _ ih =>
    show (optAll (toPy h n) xs).map PySem.PyData.list = _
    rw [optAll_eq ih]
    simp only [pyF]
    rfl
theorem lays_fz : ∀ {xs : List D}, (∀ x ∈ xs, (pyF x).canLay0 = true) → PySem.PyData.canLayAll0 (pyFs xs) = true
  | [], _ => by simp only [pyFs, PySem.PyData.canLayAll0]
  | x :: xs, h => by
    simp only [pyFs, PySem.PyData.canLayAll0]
    rw [h x List.mem_cons_self, lays_fz fun y hy => h y (List.mem_cons_of_mem _ hy)]
    rfl
theorem depths_fz {n : Nat} : ∀ {xs : List D}, (∀ x ∈ xs, (pyF x).depth ≤ n) → PySem.PyData.depthAll (pyFs xs) ≤ n
  | [], _ => by simp only [pyFs, PySem.PyData.depthAll]; exact Nat.zero_le _
  | x :: xs, h => by
    simp only [pyFs, PySem.PyData.depthAll]
    have h1 := h x List.mem_cons_self
    have h2 := depths_fz (n := n) fun y hy => h y (List.mem_cons_of_mem _ hy)
    omega
theorem lay_fz {n : Nat} {d : D} (f : Fz n d) : (pyF d).canLay0 = true ∧ (pyF d).depth ≤ n := by
  induction f with
  | non => simp only [pyF, PySem.PyData.canLay0, PySem.PyData.depth]; exact ⟨trivial, Nat.zero_le _⟩
  | int i => simp only [pyF, PySem.PyData.canLay0, PySem.PyData.depth]; exact ⟨trivial, Nat.zero_le _⟩
  | @tup n xs _ ih =>
    simp only [pyF, PySem.PyData.canLay0, PySem.PyData.depth]
    exact ⟨lays_fz fun x hx => (ih x hx).1, Nat.succ_le_succ (depths_fz fun x hx => (ih x hx).2)⟩
  | @lst n xs _ ih =>
    simp only [pyF, PySem.PyData.canLay0, PySem.PyData.depth]
    exact ⟨lays_fz fun x hx => (ih x hx).1, Nat.succ_le_succ (depths_fz fun x hx => (ih x hx).2)⟩
theorem shaped_fz {n : Nat} {d : D} (f : Fz n d) (l : n ≤ 64) : PySem.SeqAt.shaped (pyF d) = true := by
  obtain ⟨h1, h2⟩ := lay_fz f
  unfold PySem.SeqAt.shaped
  rw [h1, decide_eq_true (by omega)]
  rfl
theorem eqvs_fz : ∀ {xs ys : List D}, (∀ x ∈ xs, ∀ y ∈ ys, (PySem.PyData.eqv (pyF x) (pyF y) = true ↔ x = y)) → (PySem.PyData.eqvAll (pyFs xs) (pyFs ys) = true ↔ xs = ys)
  | [], [], _ => by simp [pyFs, PySem.PyData.eqvAll]
  | [], _ :: _, _ => by simp [pyFs, PySem.PyData.eqvAll]
  | _ :: _, [], _ => by simp [pyFs, PySem.PyData.eqvAll]
  | x :: xs, y :: ys, h => by
    simp only [pyFs, PySem.PyData.eqvAll, Bool.and_eq_true, List.cons.injEq]
    rw [h x List.mem_cons_self y List.mem_cons_self, eqvs_fz fun a ha b hb => h a (List.mem_cons_of_mem _ ha) b (List.mem_cons_of_mem _ hb)]
theorem eqv_fz {n : Nat} {x : D} (f : Fz n x) : ∀ {m : Nat} {y : D}, Fz m y → (PySem.PyData.eqv (pyF x) (pyF y) = true ↔ x = y) := by
  induction f with
  | non => intro m y g; cases g <;> simp [pyF, PySem.PyData.eqv]
  | int i => intro m y g; cases g <;> simp [pyF, PySem.PyData.eqv]
  | @tup n xs _ ih =>
    intro m y g
    cases g with
    | tup g =>
      simp only [pyF, PySem.PyData.eqv, D.tup.injEq]
      exact eqvs_fz fun a ha b hb => ih a ha (g b hb)
    | _ => simp [pyF, PySem.PyData.eqv]
  | @lst n xs _ ih =>
    intro m y g
    cases g with
    | lst g =>
      simp only [pyF, PySem.PyData.eqv, D.lst.injEq]
      exact eqvs_fz fun a ha b hb => ih a ha (g b hb)
    | _ => simp [pyF, PySem.PyData.eqv]
theorem eqvB_fz {n m : Nat} {x y : D} (f : Fz n x) (g : Fz m y) : PySem.PyData.eqv (pyF x) (pyF y) = decide (x = y) := by
  have e := eqv_fz f g
  cases z : PySem.PyData.eqv (pyF x) (pyF y) with
  | true => exact (decide_eq_true (e.mp z)).symm
  | false => exact (decide_eq_false fun h => by rw [e.mpr h] at z; cases z).symm
section
variable {x y : D} {h : Hs} (f : Fz 8 x) (g : Fz 8 y)
include f g
theorem eqD_fz : eqD x y h = .ok (.bl (decide (x = y))) h := by
  unfold eqD eqPy
  rw [toPy_fz (f.mono (show 8 ≤ pyDepth by decide)), toPy_fz (g.mono (show 8 ≤ pyDepth by decide))]
  show (if (PySem.SeqAt.shaped (pyF x) && PySem.SeqAt.shaped (pyF y)) = true then _ else _) = _
  rw [shaped_fz f (by decide), shaped_fz g (by decide), eqvB_fz f g]
  rfl
theorem neD_fz : neD x y h = .ok (.bl (!decide (x = y))) h := by
  unfold neD eqPy
  rw [toPy_fz (f.mono (show 8 ≤ pyDepth by decide)), toPy_fz (g.mono (show 8 ≤ pyDepth by decide))]
  show (if (PySem.SeqAt.shaped (pyF x) && PySem.SeqAt.shaped (pyF y)) = true then _ else _) = _
  rw [shaped_fz f (by decide), shaped_fz g (by decide), eqvB_fz f g]
  rfl
end
theorem any_fz {x : D} {n : Nat} (f : Fz n x) : ∀ {ys : List D}, (∀ y ∈ ys, Fz n y) → ((pyFs ys).any fun z => PySem.PyData.eqv z (pyF x)) = decide (x ∈ ys)
  | [], _ => rfl
  | y :: ys, h => by
    simp only [pyFs, List.any_cons, eqvB_fz (h y List.mem_cons_self) f, any_fz f fun z hz => h z (List.mem_cons_of_mem _ hz)]
    by_cases e : y = x
    · subst e; simp
    · have e' : x ≠ y := fun z => e z.symm
      simp [e, e']
theorem inD_fz {x : D} {ys : List D} {h : Hs} (f : Fz 8 x) (g : ∀ y ∈ ys, Fz 8 y) : inD x (.tup ys) h = .ok (.bl (decide (x ∈ ys))) h ∧ inD x (.lst ys) h = .ok (.bl (decide (x ∈ ys))) h := by
  have e1 : optAll (toPy h pyDepth) ys = some (pyFs ys) := optAll_eq fun y hy => toPy_fz ((g y hy).mono (show 8 ≤ pyDepth by decide))
  have e2 := toPy_fz (h := h) (f.mono (show 8 ≤ pyDepth by decide))
  have e3 : PySem.SeqAt.shaped (.tuple (pyFs ys)) = true := by
    have z := shaped_fz (.tup g) (show 8 + 1 ≤ 64 by decide)
    simpa only [pyF] using z
  have e4 := shaped_fz f (by decide)
  constructor
  · show (match toPy h pyDepth x, optAll (toPy h pyDepth) ys with
      | some p, some ps => if PySem.SeqAt.shaped p && PySem.SeqAt.shaped (.tuple ps) then Dl.R.ok (D.bl (if false = true then _ else ps.any fun z => PySem.PyData.eqv z p)) h else .bad
      | _, _ => .bad) = _
    rw [e1, e2]
    show (if (PySem.SeqAt.shaped (pyF x) && PySem.SeqAt.shaped (.tuple (pyFs ys))) = true then _ else _) = _
    rw [e3, e4, any_fz f g]
    rfl
  · show (match toPy h pyDepth x, optAll (toPy h pyDepth) ys with
      | some p, some ps => if PySem.SeqAt.shaped p && PySem.SeqAt.shaped (.tuple ps) then Dl.R.ok (D.bl (if false = true then _ else ps.any fun z => PySem.PyData.eqv z p)) h else .bad
      | _, _ => .bad) = _
    rw [e1, e2]
    show (if (PySem.SeqAt.shaped (pyF x) && PySem.SeqAt.shaped (.tuple (pyFs ys))) = true then _ else _) = _
    rw [e3, e4, any_fz f g]
    rfl
theorem eqD_ii {a b : Int} {h : Hs} : eqD (.int a) (.int b) h = .ok (.bl (decide (a = b))) h := by
  rw [eqD_fz (.int a) (.int b)]
  simp
theorem fz_fr (q : Rat) : Fz 1 (fr q) := .tup fun x hx => by
  rcases List.mem_cons.mp hx with e | hx
  · subst e; exact .int _
  · rw [List.mem_singleton.mp hx]; exact .int _
/-! ### what is shown -/
inductive Sh' : Nat → D → Prop
  | non {w : Nat} : 4 ≤ w → Sh' w .non
  | int {w : Nat} {i : Int} : i.natAbs < 2 ^ 1900 → 1921 ≤ w → Sh' w (.int i)
  | tup {w u : Nat} {xs : List D} : (∀ x ∈ xs, Sh' u x) → (u + 2) * xs.length + 3 ≤ w → Sh' w (.tup xs)
  | lst {w u : Nat} {xs : List D} : (∀ x ∈ xs, Sh' u x) → (u + 2) * xs.length + 3 ≤ w → Sh' w (.lst xs)
theorem Sh'.mono {w v : Nat} {d : D} (h : Sh' w d) (l : w ≤ v) : Sh' v d := by
  cases h with
  | non a => exact .non (by omega)
  | int a b => exact .int a (by omega)
  | tup a b => exact .tup a (by omega)
  | lst a b => exact .lst a (by omega)
end Pl

/-! Plain laws, 3: the tape. -/
namespace Pl
open Dl Sh
local instance : Dl.Tb := ⟨fun _ => []⟩

theorem items_obj {h : Hs} {n : Nat} {xs : List D} (e : h[n]? = some (.lst xs)) : items h (.obj n) = some xs := by
  show (match h[n]? with
    | some (.lst xs) => some xs
    | _ => none) = some xs
  rw [e]
theorem item_obj {h : Hs} {n : Nat} {xs : List D} {i : Nat} {d : D} (e : h[n]? = some (.lst xs)) (e2 : xs[i]? = some d) : itemD (.obj n) (.int i) h = .ok d h := by
  have hl := (List.getElem?_eq_some_iff.mp e2).1
  have z : L2.atI xs i = some d := by
    unfold L2.atI L2.ixN
    rw [if_pos (by omega), if_pos (by omega)]
    exact e2
  have s : seqOf h (.obj n) = some xs := by
    exact items_obj e
  show (match seqOf h (.obj n) with
    | some xs => (match L2.atI xs i with
        | some d => Dl.R.ok d h
        | none => .bad)
    | none => _) = _
  rw [s]
  show (match L2.atI xs i with
        | some d => Dl.R.ok d h
        | none => .bad) = _
  rw [z]
theorem set_obj {h : Hs} {n : Nat} {xs : List D} {i : Nat} {v : D} (e : h[n]? = some (.lst xs)) (hl : i < xs.length) : setItemD (.obj n) (.int i) v h = some (h.set n (.lst (xs.set i v))) := by
  show (match h[n]? with
    | some (.lst xs) => (L2.ixN xs.length i).map fun j => h.set n (.lst (xs.set j v))
    | some (.dI kvs) => _
    | _ => none) = _
  rw [e]
  show (L2.ixN xs.length i).map _ = _
  unfold L2.ixN
  rw [if_pos (by omega), if_pos (by omega)]
  rfl
theorem wps_store {ce co cx : Env → M D} {ρ : Env} {h : Hs} {N : Env → Hs → Prop} {T : D → Hs → Prop} : WpS (sStore ce co cx ρ h) N T = Wp (ce ρ h) fun v h1 => Wp (co ρ h1) fun o h2 => Wp (cx ρ h2) fun i h3 => WpS (match setItemD o i v h3 with
  | some h4 => .nx ρ h4
  | none => .bad) N T := by
  unfold sStore
  cases ce ρ h with
  | ok v h1 =>
    show WpS ((co ρ h1).then ρ _) N T = Wp (co ρ h1) _
    rw [wps_then]
    cases co ρ h1 with
    | ok o h2 =>
      show WpS ((cx ρ h2).then ρ _) N T = Wp (cx ρ h2) _
      rw [wps_then]
      try rfl
    | _ => rfl
  | _ => rfl
/-- the tape stands at 1, its cells at 0; N bounds the draws so far -/
structure Tp (h : Hs) (N : Nat) : Prop where
  ex : ∃ (s n : Int) (cs : List Int), h[1]? = some (.lst [.int s, .int n, .obj 0]) ∧ h[0]? = some (.lst (cs.map D.int)) ∧ 0 ≤ s ∧ s < 4294967296 ∧ 0 ≤ n ∧ n ≤ N
/-- what stood behind the tape stands -/
structure Ge (h h' : Hs) : Prop where
  len : h.length ≤ h'.length
  keep : ∀ j, 2 ≤ j → j < h.length → h'[j]? = h[j]?
theorem Ge.refl {h : Hs} : Ge h h := ⟨Nat.le_refl _, fun _ _ _ => rfl⟩
theorem Ge.trans {a b c : Hs} (x : Ge a b) (y : Ge b c) : Ge a c := ⟨Nat.le_trans x.len y.len, fun j h1 h2 => (y.keep j h1 (Nat.lt_of_lt_of_le h2 x.len)).trans (x.keep j h1 h2)⟩
theorem Ge.set {h : Hs} {i : Nat} {o : DO} (hi : i < 2) : Ge h (h.set i o) := ⟨by rw [List.length_set]; exact Nat.le_refl _, fun j h1 _ => List.getElem?_set_ne (by omega)⟩
theorem Ge.app {h : Hs} {l : List DO} (hl : 2 ≤ h.length) : Ge h (h ++ l) := ⟨by rw [List.length_append]; omega, fun j _ h2 => List.getElem?_append_left h2⟩
theorem Ge.at {h h' : Hs} (g : Ge h h') {j : Nat} {o : DO} (hj : 2 ≤ j) (e : h[j]? = some o) : h'[j]? = some o := (g.keep j hj (List.getElem?_eq_some_iff.mp e).1).trans e
theorem Tp.mono {h : Hs} {N M : Nat} (t : Tp h N) (l : N ≤ M) : Tp h M := by
  obtain ⟨s, n, cs, h1, h2, h3, h4, h5, h6⟩ := t.ex
  exact ⟨s, n, cs, h1, h2, h3, h4, h5, by omega⟩
theorem Tp.two {h : Hs} {N : Nat} (t : Tp h N) : 2 ≤ h.length := by
  obtain ⟨s, n, cs, h1, _⟩ := t.ex
  exact (List.getElem?_eq_some_iff.mp h1).1
theorem Tp.app {h : Hs} {N : Nat} {l : List DO} (t : Tp h N) : Tp (h ++ l) N := by
  have h2 := t.two
  obtain ⟨s, n, cs, h1, h2', r⟩ := t.ex
  exact ⟨s, n, cs, by rw [List.getElem?_append_left (by omega)]; exact h1, by rw [List.getElem?_append_left (by omega)]; exact h2', r⟩
theorem Tp.set {h : Hs} {N i : Nat} {o : DO} (t : Tp h N) (hi : 2 ≤ i) : Tp (h.set i o) N := by
  obtain ⟨s, n, cs, h1, h2', r⟩ := t.ex
  exact ⟨s, n, cs, by rw [List.getElem?_set_ne (by omega)]; exact h1, by rw [List.getElem?_set_ne (by omega)]; exact h2', r⟩
theorem okMul_small {i j : Int} (hi : i.natAbs < 2 ^ 1000) (hj : j.natAbs < 2 ^ 1000) : okMul i j = true := okMul_of hi hj (by decide)
theorem pow18 : 2 ^ 64 ≤ 2 ^ 9000 := Nat.pow_le_pow_right (by decide) (by decide)
theorem small_lt {i : Int} (h : i.natAbs < 18446744073709551616) : i.natAbs < 2 ^ 1000 := Nat.lt_of_lt_of_le h (show (2 ^ 64 : Nat) ≤ 2 ^ 1000 from Nat.pow_le_pow_right (by decide) (by decide))
theorem okDiv_small {i j : Int} (h0 : 0 < j) (h : j.natAbs < 18446744073709551616) : okDiv i j = true := okDiv_of h0 (Nat.lt_of_lt_of_le h pow18)
theorem intD_i {i : Int} {h : Hs} : intD [.int i] h = .ok (.int i) h := rfl
theorem lenD_obj {h : Hs} {n : Nat} {xs : List D} (e : h[n]? = some (.lst xs)) : lenD [.obj n] h = .ok (.int xs.length) h := by
  show (match seqOf h (.obj n) with
    | some ys => Dl.R.ok (D.int ys.length) h
    | none => _) = _
  have s : seqOf h (.obj n) = some xs := by
    exact items_obj e
  rw [s]
theorem mixed_le {x : Int} (h0 : 0 ≤ x) (h1 : x < 2147483647) : okMul x (x / 1009 + 69621) = true ∧ okMul x (x / 2003 + 40692) = true := by
  have e1 : 0 ≤ x / 1009 := Int.ediv_nonneg h0 (by decide)
  have e2 : x / 1009 ≤ x := Int.ediv_le_self _ h0
  have e3 : 0 ≤ x / 2003 := Int.ediv_nonneg h0 (by decide)
  have e4 : x / 2003 ≤ x := Int.ediv_le_self _ h0
  exact ⟨okMul_small (small_lt (by omega)) (small_lt (by omega)), okMul_small (small_lt (by omega)) (small_lt (by omega))⟩
end Pl

/-! Plain laws, 4: loops, comprehensions, small equations. -/
namespace Pl
open Dl Sh
local instance : Dl.Tb := ⟨fun _ => []⟩

theorem okG_nil {h : Hs} : okG [] h = true := rfl
/-- a for: I by the turn -/
theorem wps_loop {p : Pat} {body : SM} {gs : List (Nat × List D)} {N : Env → Hs → Prop} {T : D → Hs → Prop} (I : Nat → Env → Hs → Prop) : ∀ (xs : List D) (i : Nat) (ρ : Env) (h : Hs),
    (∀ j x ρ h, xs[j]? = some x → I (i + j) ρ h → okG gs h = true ∧ ∃ ρ1, patD p x ρ = some ρ1 ∧ WpS (body ρ1 h) (fun ρ' h' => I (i + j + 1) ρ' h') T) →
    (∀ ρ h, I (i + xs.length) ρ h → okG gs h = true ∧ N ρ h) → I i ρ h → WpS (loopF p body gs xs ρ h) N T
  | [], i, ρ, h, _, fin, st => by
    obtain ⟨g, n⟩ := fin ρ h st
    unfold loopF
    rw [if_pos g]
    exact n
  | x :: xs, i, ρ, h, step, fin, st => by
    obtain ⟨g, ρ1, e, b⟩ := step 0 x ρ h rfl st
    unfold loopF
    rw [if_pos g, e]
    have ih := fun ρ' h' => wps_loop I xs (i + 1) ρ' h' (fun j x ρ h hx hI => by
      have z := step (j + 1) x ρ h (by simpa using hx) (by rw [show i + (j + 1) = i + 1 + j by omega]; exact hI)
      rw [show i + (j + 1) + 1 = i + 1 + j + 1 by omega] at z
      exact z) (fun ρ h hI => fin ρ h (by rw [List.length_cons, show i + (xs.length + 1) = i + 1 + xs.length by omega]; exact hI)) 
    cases q : body ρ1 h with
    | nx ρ2 h2 =>
      rw [q] at b
      simp only [q]
      exact ih ρ2 h2 b
    | ret d h2 => rw [q] at b; simp only [q]; exact b
    | bk ρ2 h2 => rw [q] at b; exact b.elim
    | ct ρ2 h2 => rw [q] at b; exact b.elim
    | exc ρ2 C fs h2 => rw [q] at b; exact b.elim
    | bad => rw [q] at b; exact b.elim
theorem wps_for {ci : Env → M ItD} {p : Pat} {body : SM} {ρ : Env} {h : Hs} {N : Env → Hs → Prop} {T : D → Hs → Prop} : WpS (sFor ci p body ρ h) N T = Wp (ci ρ h) fun it h1 => WpS (loopF p body it.gs it.items ρ h1) N T := by
  unfold sFor
  rw [wps_then]
/-- a comprehension without effects -/
theorem lcF_pure {p : Pat} {ce : Env → M D} {gs : List (Nat × List D)} {ρ : Env} {h : Hs} {f : D → D} (g : okG gs h = true) : ∀ {xs : List D}, (∀ x ∈ xs, ∃ ρ1, patD p x ρ = some ρ1 ∧ ce ρ1 h = .ok (f x) h) → lcF p tYes' ce gs ρ xs h = .ok (xs.map f) h
  | [], _ => by
    unfold lcF
    rw [if_pos g]
    rfl
  | x :: xs, k => by
    obtain ⟨ρ1, e, c⟩ := k x List.mem_cons_self
    unfold lcF
    rw [if_pos g, e]
    show ((ce ρ1 h).nox.bind fun d h2 => (lcF p tYes' ce gs ρ xs h2).bind fun ds h3 => .ok (d :: ds) h3) = _
    rw [c]
    show ((lcF p tYes' ce gs ρ xs h).bind fun ds h3 => .ok (f x :: ds) h3) = _
    rw [lcF_pure g fun y hy => k y (List.mem_cons_of_mem _ hy)]
    rfl
theorem nLc_eq {ci : Env → M ItD} {p : Pat} {own : List Nat} {ct : Env → M Bool} {ce : Env → M D} {ρ : Env} {h : Hs} : nLc ci p own ct ce ρ h = (ci ρ h).bind fun it h1 => if okLen it.items.length then lcF p ct ce it.gs (wipeD ρ own) it.items h1 else .bad := nr rfl
theorem okLen_of {n : Nat} (h : n ≤ 16777216) : okLen n = true := decide_eq_true h
theorem okI_of {i : Int} (h : -4611686018427387904 ≤ i) (h2 : i < 4611686018427387904) : okI i = true := decide_eq_true ⟨h, h2⟩
/-! ### small equations -/
theorem lenD_tup {xs : List D} {h : Hs} : lenD [.tup xs] h = .ok (.int xs.length) h := nr rfl
theorem lenD_lst {xs : List D} {h : Hs} : lenD [.lst xs] h = .ok (.int xs.length) h := nr rfl
theorem tupD_lst {xs : List D} {h : Hs} : tupD [.lst xs] h = .ok (.tup xs) h := nr rfl
theorem tupD_obj {n : Nat} {xs : List D} {h : Hs} (e : h[n]? = some (.lst xs)) : tupD [.obj n] h = .ok (.tup xs) h := by
  show (match items h (.obj n) with
    | some ys => Dl.R.ok (D.tup ys) h
    | none => .bad) = _
  rw [items_obj e]
theorem item_lst {xs : List D} {i : Nat} {d : D} {h : Hs} (e : xs[i]? = some d) : itemD (.lst xs) (.int i) h = .ok d h := by
  have hl := (List.getElem?_eq_some_iff.mp e).1
  have z : L2.atI xs i = some d := by
    unfold L2.atI L2.ixN
    rw [if_pos (by omega), if_pos (by omega)]
    exact e
  show (match L2.atI xs i with
      | some d => Dl.R.ok d h
      | none => .bad) = _
  rw [z]
theorem app_obj {h : Hs} {n : Nat} {xs : List D} {y : D} (e : h[n]? = some (.lst xs)) (hl : xs.length < 16777216) : appD (.obj n) [y] h = .ok .non (h.set n (.lst (xs ++ [y]))) := by
  unfold appD
  have l : lstAt h (.obj n) = some (n, xs) := by
    show (match h[n]? with
    | some (.lst xs) => some (n, xs)
    | _ => none) = _
    rw [e]
  rw [l]
  exact if_pos (decide_eq_true hl)
theorem lstAt_obj {h : Hs} {n : Nat} {xs : List D} (e : h[n]? = some (.lst xs)) : lstAt h (.obj n) = some (n, xs) := by
  show (match h[n]? with
    | some (.lst xs) => some (n, xs)
    | _ => none) = _
  rw [e]
theorem itOf_tup {xs : List D} {h : Hs} : itOf h (.tup xs) = some ⟨xs, []⟩ := nr rfl
theorem itOf_lst {xs : List D} {h : Hs} : itOf h (.lst xs) = some ⟨xs, []⟩ := nr rfl
theorem addD_tt {xs ys : List D} {h : Hs} (l : xs.length + ys.length ≤ 16777216) : addD (.tup xs) (.tup ys) h = .ok (.tup (xs ++ ys)) h := if_pos (okLen_of l)
theorem rng_succ {n : Nat} {a c : Int} : rng a c (n + 1) = .int a :: rng (a + c) c n := rfl
/-! ### any of some things -/
end Pl

/-! Plain laws, 5: shares, trials. -/
namespace Pl
open Dl Sh
local instance : Dl.Tb := ⟨fun _ => []⟩

theorem comp_eq {ci : Env → M ItD} {p : Pat} {own : List Nat} {ce : Env → M D} {ρ : Env} {h : Hs} {xs : List D} {f : D → D} (e : ci ρ h = .ok ⟨xs, []⟩ h) (l : xs.length ≤ 16777216) (k : ∀ x ∈ xs, ∃ ρ1, patD p x (wipeD ρ own) = some ρ1 ∧ ce ρ1 h = .ok (f x) h) :
    nLc ci p own tYes' ce ρ h = .ok (xs.map f) h := by
  rw [nLc_eq, e]
  show (if okLen xs.length = true then _ else _) = _
  rw [if_pos (okLen_of l)]
  exact lcF_pure rfl k
theorem allBl_map {α : Type} (t : α → Bool) : ∀ xs : List α, allBl (xs.map fun x => D.bl (t x)) = some (xs.map t)
  | [] => rfl
  | x :: xs => by
    show (allBl (xs.map fun x => D.bl (t x))).map (t x :: ·) = _
    rw [allBl_map t xs]
    rfl
theorem allD_map {α : Type} (t : α → Bool) (xs : List α) (h : Hs) : allD [.lst (xs.map fun x => D.bl (t x))] h = .ok (.bl (xs.all t)) h := by
  show (match (some (xs.map fun x => D.bl (t x))).bind allBl with
    | some bs => Dl.R.ok (D.bl (bs.all id)) h
    | none => .bad) = _
  rw [Option.bind_some, allBl_map]
  show Dl.R.ok (D.bl ((xs.map t).all id)) h = _
  rw [List.all_map]
  rfl
theorem isi_int {i : Int} {h : Hs} : isiD [] [.int i, .ty "int"] h = .ok (.bl true) h := nr rfl
theorem isi_bool {i : Int} {h : Hs} : isiD [] [.int i, .ty "bool"] h = .ok (.bl false) h := nr rfl
theorem isi_tup {xs : List D} {h : Hs} : isiD [] [.tup xs, .ty "tuple"] h = .ok (.bl true) h := nr rfl
theorem notX_b {b : Bool} {h : Hs} : notX (.bl b) h = .ok (.bl (!b)) h := nr rfl
theorem isint_eq {i : Int} {h : Hs} : m_is_integer [.int i] h = .ok (.bl true) h := by
  refine mdef_ret (h' := h) ?_
  unfold c_is_integer
  simp only [eV0, eVs, bind_ok', then_ok, q_e2, q_e1, q_eC, q_aC, q_aN, q_sPar2, q_sPar3, q_sSet, q_sRet, q_eBf, q_nBf, q_eCall, q_tst, q_tru, q_ifV, q_sIf, q_eTup, q_sPass, q_sExp, q_eLm, q_nLst, q_frz, q_thaw, q_iSeq, q_iR2, q_iR3, q_iEnumD, q_iZip, q_andX, q_andT, q_orT, q_notT, q_eCh, q_sPat, q_eSl, q_nSl, q_pS, q_pN, q_sRetN, q_tYes, q_eDct0, okL0, okL1, okL2, okL3, okL4, okL5, okL6, ent, List.map_cons, List.map_nil, List.length_cons, List.length_nil, List.set_cons_zero, List.set_cons_succ, List.replicate, List.cons_append, List.nil_append, Nat.reduceAdd, Nat.reduceSub, Nat.sub_self, Nat.sub_zero, zero_add', ↓reduceIte, Bool.false_eq_true, item0, item1, addD_ii, subD_ii, negD_i, absD_i, ltD_ii, leD_ii, gtD_ii, geD_ii, truD_bl, decide_true, decide_false, isi_int, isi_bool, notX_b, Bool.not_false]
theorem istup_eq {xs : List D} {lo hi : Int} {h : Hs} (h1 : lo ≤ xs.length) (h2 : (xs.length : Int) ≤ hi) : m_is_tuple [.tup xs, .int lo, .int hi] h = .ok (.bl true) h := by
  refine mdef_ret (h' := h) ?_
  unfold c_is_tuple
  simp only [eV0, eVs, bind_ok', then_ok, q_e2, q_e1, q_eC, q_aC, q_aN, q_sPar2, q_sPar3, q_sSet, q_sRet, q_eBf, q_nBf, q_eCall, q_tst, q_tru, q_ifV, q_sIf, q_eTup, q_sPass, q_sExp, q_eLm, q_nLst, q_frz, q_thaw, q_iSeq, q_iR2, q_iR3, q_iEnumD, q_iZip, q_andX, q_andT, q_orT, q_notT, q_eCh, q_sPat, q_eSl, q_nSl, q_pS, q_pN, q_sRetN, q_tYes, q_eDct0, okL0, okL1, okL2, okL3, okL4, okL5, okL6, ent, List.map_cons, List.map_nil, List.length_cons, List.length_nil, List.set_cons_zero, List.set_cons_succ, List.replicate, List.cons_append, List.nil_append, Nat.reduceAdd, Nat.reduceSub, Nat.sub_self, Nat.sub_zero, zero_add', ↓reduceIte, Bool.false_eq_true, item0, item1, addD_ii, subD_ii, negD_i, absD_i, ltD_ii, leD_ii, gtD_ii, geD_ii, truD_bl, decide_true, decide_false, isi_tup, lenD_tup, decide_eq_true h1, decide_eq_true h2]
theorem iswithin_eq {i lo hi : Int} {h : Hs} (h1 : lo ≤ i) (h2 : i ≤ hi) : m_is_within [.int i, .int lo, .int hi] h = .ok (.bl true) h := by
  refine mdef_ret (h' := h) ?_
  unfold c_is_within
  simp only [eV0, eVs, bind_ok', then_ok, q_e2, q_e1, q_eC, q_aC, q_aN, q_sPar2, q_sPar3, q_sSet, q_sRet, q_eBf, q_nBf, q_eCall, q_tst, q_tru, q_ifV, q_sIf, q_eTup, q_sPass, q_sExp, q_eLm, q_nLst, q_frz, q_thaw, q_iSeq, q_iR2, q_iR3, q_iEnumD, q_iZip, q_andX, q_andT, q_orT, q_notT, q_eCh, q_sPat, q_eSl, q_nSl, q_pS, q_pN, q_sRetN, q_tYes, q_eDct0, okL0, okL1, okL2, okL3, okL4, okL5, okL6, ent, List.map_cons, List.map_nil, List.length_cons, List.length_nil, List.set_cons_zero, List.set_cons_succ, List.replicate, List.cons_append, List.nil_append, Nat.reduceAdd, Nat.reduceSub, Nat.sub_self, Nat.sub_zero, zero_add', ↓reduceIte, Bool.false_eq_true, item0, item1, addD_ii, subD_ii, negD_i, absD_i, ltD_ii, leD_ii, gtD_ii, geD_ii, truD_bl, decide_true, decide_false, isint_eq, decide_eq_true h1, decide_eq_true h2]
theorem seq_tup {ce : Env → M D} {ρ : Env} {h : Hs} {xs : List D} (e : ce ρ h = .ok (.tup xs) h) : iSeq ce ρ h = .ok ⟨xs, []⟩ h := by
  rw [q_iSeq, e]
  rfl
theorem seq_lst {ce : Env → M D} {ρ : Env} {h : Hs} {xs : List D} (e : ce ρ h = .ok (.lst xs) h) : iSeq ce ρ h = .ok ⟨xs, []⟩ h := by
  rw [q_iSeq, e]
  rfl
theorem isfrac_eq {q : Rat} {h : Hs} : m_is_fraction [fr q] h = .ok (.bl true) h := by
  refine mdef_ret (h' := h) ?_
  unfold c_is_fraction
  have c := comp_eq (ci := iSeq (eV 0)) (p := .nm 1) (own := [1]) (ce := eCall 1 m_is_integer (aC (eV 1) aN)) (ρ := [some (fr q), none]) (h := h) (xs := [.int q.num, .int q.den]) (f := fun _ => .bl true)
    (seq_tup eV0) (by simp) fun x hx => ⟨[some (fr q), some x], rfl, by
      obtain ⟨i, rfl⟩ : ∃ i, x = .int i := by
        rcases List.mem_cons.mp hx with e | hx
        · exact ⟨_, e⟩
        · exact ⟨_, List.mem_singleton.mp hx⟩
      simp only [eV0, eVs, bind_ok', then_ok, q_e2, q_e1, q_eC, q_aC, q_aN, q_sPar2, q_sPar3, q_sSet, q_sRet, q_eBf, q_nBf, q_eCall, q_tst, q_tru, q_ifV, q_sIf, q_eTup, q_sPass, q_sExp, q_eLm, q_nLst, q_frz, q_thaw, q_iSeq, q_iR2, q_iR3, q_iEnumD, q_iZip, q_andX, q_andT, q_orT, q_notT, q_eCh, q_sPat, q_eSl, q_nSl, q_pS, q_pN, q_sRetN, q_tYes, q_eDct0, okL0, okL1, okL2, okL3, okL4, okL5, okL6, ent, List.map_cons, List.map_nil, List.length_cons, List.length_nil, List.set_cons_zero, List.set_cons_succ, List.replicate, List.cons_append, List.nil_append, Nat.reduceAdd, Nat.reduceSub, Nat.sub_self, Nat.sub_zero, zero_add', ↓reduceIte, Bool.false_eq_true, item0, item1, addD_ii, subD_ii, negD_i, absD_i, ltD_ii, leD_ii, gtD_ii, geD_ii, truD_bl, decide_true, decide_false, isint_eq]⟩
  have a : allD [.lst [.bl true, .bl true]] h = .ok (.bl true) h := nr rfl
  have d0 : ¬ ((q.den : Int) < 1) := by have := den_pos q; omega
  have t2 : m_is_tuple [fr q, .int 2, .int 2] h = .ok (.bl true) h := istup_eq (by simp) (by simp)
  have g1 : ((Int.gcd q.num q.den : Nat) : Int) = 1 := by
    have z := q.reduced
    have e : Int.gcd q.num q.den = q.num.natAbs.gcd q.den := rfl
    rw [e, z]
    rfl
  simp only [eV0, eVs, bind_ok', then_ok, q_e2, q_e1, q_eC, q_aC, q_aN, q_sPar2, q_sPar3, q_sSet, q_sRet, q_eBf, q_nBf, q_eCall, q_tst, q_tru, q_ifV, q_sIf, q_eTup, q_sPass, q_sExp, q_eLm, q_nLst, q_frz, q_thaw, q_iSeq, q_iR2, q_iR3, q_iEnumD, q_iZip, q_andX, q_andT, q_orT, q_notT, q_eCh, q_sPat, q_eSl, q_nSl, q_pS, q_pN, q_sRetN, q_tYes, q_eDct0, okL0, okL1, okL2, okL3, okL4, okL5, okL6, ent, List.map_cons, List.map_nil, List.length_cons, List.length_nil, List.set_cons_zero, List.set_cons_succ, List.replicate, List.cons_append, List.nil_append, Nat.reduceAdd, Nat.reduceSub, Nat.sub_self, Nat.sub_zero, zero_add', ↓reduceIte, Bool.false_eq_true, item0, item1, addD_ii, subD_ii, negD_i, absD_i, ltD_ii, leD_ii, gtD_ii, geD_ii, truD_bl, decide_true, decide_false, t2, c, a, fr_num, fr_den, decide_eq_false d0, Bool.not_true, wps_ite, sPass, common_eq, g1, eqD_ii, List.all_cons, List.all_nil, Bool.and_true, sSeq]
theorem isshare_eq {q : Rat} {h : Hs} (h0 : 0 ≤ q) (h1 : q ≤ 1) : m_is_share [fr q] h = .ok (.bl true) h := by
  have n0 : (0 : Int) ≤ q.num := Rat.num_nonneg.mpr h0
  have n1 : q.num ≤ q.den := by
    have z := (Rat.le_iff q 1).mp h1
    simpa using z
  refine mdef_ret (h' := h) ?_
  unfold c_is_share
  simp only [eV0, eVs, bind_ok', then_ok, q_e2, q_e1, q_eC, q_aC, q_aN, q_sPar2, q_sPar3, q_sSet, q_sRet, q_eBf, q_nBf, q_eCall, q_tst, q_tru, q_ifV, q_sIf, q_eTup, q_sPass, q_sExp, q_eLm, q_nLst, q_frz, q_thaw, q_iSeq, q_iR2, q_iR3, q_iEnumD, q_iZip, q_andX, q_andT, q_orT, q_notT, q_eCh, q_sPat, q_eSl, q_nSl, q_pS, q_pN, q_sRetN, q_tYes, q_eDct0, okL0, okL1, okL2, okL3, okL4, okL5, okL6, ent, List.map_cons, List.map_nil, List.length_cons, List.length_nil, List.set_cons_zero, List.set_cons_succ, List.replicate, List.cons_append, List.nil_append, Nat.reduceAdd, Nat.reduceSub, Nat.sub_self, Nat.sub_zero, zero_add', ↓reduceIte, Bool.false_eq_true, item0, item1, addD_ii, subD_ii, negD_i, absD_i, ltD_ii, leD_ii, gtD_ii, geD_ii, truD_bl, decide_true, decide_false, isfrac_eq, fr_num, fr_den, decide_eq_true n0, decide_eq_true n1]
theorem low_eq (n d : Int) (h : Hs) (hd : 0 < d) (hs : d.natAbs < 2 ^ 9000) : m__law_low [.int n, .int d] h = .ok (fr (Rat.divInt n d)) h := by
  have g1 : (0 : Int) < (Int.gcd n d : Int) := by
    have := Int.gcd_pos_of_ne_zero_right n (show d ≠ 0 by omega)
    omega
  have g2 : Int.gcd n d ≤ d.natAbs := Nat.le_of_dvd (by omega) (Int.gcd_dvd_natAbs_right n d)
  have g3 : ((Int.gcd n d : Int)).natAbs < 2 ^ 9000 := by rw [Int.natAbs_natCast]; exact Nat.lt_of_le_of_lt g2 hs
  have k3 : (Rat.divInt n d).num = n / (Int.gcd n d : Int) := by rw [Rat.num_divInt, Int.sign_eq_one_of_pos hd, Int.one_mul, Int.gcd_comm]
  have k4 : ((Rat.divInt n d).den : Int) = d / (Int.gcd n d : Int) := by
    rw [Rat.den_divInt, if_neg (by omega), Int.gcd_comm]
    have e : (d.natAbs : Int) = d := by omega
    rw [Int.natCast_ediv, e]
  refine mdef_ret (h' := h) ?_
  have w := gcd_while (ct := tst (e2 gtD (eV 3) (eC (.int 0)))) (body := sPar2 2 3 (aC (eV 3) (aC (e2 modD (eBf intD (aC (eV 2) aN)) (eV 3)) aN))) (mk := fun a b => [some (.int n), some (.int d), some (.int a), some (.int b)]) (fun a b h => rfl) (fun a b h _ hb => ?_) h
    (d.natAbs + 2) n.natAbs d (by omega) (by omega) (by omega)
  · unfold c__law_low
    rw [seq_nx (ρ1 := [some (.int n), some (.int d), some (.int n.natAbs), some (.int d)]) (h1 := h), seq_nx (ρ1 := [some (.int n), some (.int d), some (.int (Int.gcd n d)), some (.int 0)]) (h1 := h)]
    · simp only [eV0, eVs, bind_ok', then_ok, q_e2, q_e1, q_eC, q_aC, q_aN, q_sPar2, q_sPar3, q_sSet, q_sRet, q_eBf, q_nBf, q_eCall, q_tst, q_tru, q_ifV, q_sIf, q_eTup, q_sPass, q_sExp, q_eLm, q_nLst, q_frz, q_thaw, q_iSeq, q_iR2, q_iR3, q_iEnumD, q_iZip, q_andX, q_andT, q_orT, q_notT, q_eCh, q_sPat, q_eSl, q_nSl, q_pS, q_pN, q_sRetN, q_tYes, q_eDct0, okL0, okL1, okL2, okL3, okL4, okL5, okL6, ent, List.map_cons, List.map_nil, List.length_cons, List.length_nil, List.set_cons_zero, List.set_cons_succ, List.replicate, List.cons_append, List.nil_append, Nat.reduceAdd, Nat.reduceSub, Nat.sub_self, Nat.sub_zero, zero_add', ↓reduceIte, Bool.false_eq_true, item0, item1, addD_ii, subD_ii, negD_i, absD_i, ltD_ii, leD_ii, gtD_ii, geD_ii, truD_bl, decide_true, decide_false, divD_ii (okDiv_of (i := n) g1 g3), divD_ii (okDiv_of (i := d) g1 g3)]
      unfold fr
      rw [k3, k4]
    · rw [show Int.gcd n d = Int.gcd (n.natAbs : Int) d by simp [Int.gcd]]
      exact w
    · simp only [eV0, eVs, bind_ok', then_ok, q_e2, q_e1, q_eC, q_aC, q_aN, q_sPar2, q_sPar3, q_sSet, q_sRet, q_eBf, q_nBf, q_eCall, q_tst, q_tru, q_ifV, q_sIf, q_eTup, q_sPass, q_sExp, q_eLm, q_nLst, q_frz, q_thaw, q_iSeq, q_iR2, q_iR3, q_iEnumD, q_iZip, q_andX, q_andT, q_orT, q_notT, q_eCh, q_sPat, q_eSl, q_nSl, q_pS, q_pN, q_sRetN, q_tYes, q_eDct0, okL0, okL1, okL2, okL3, okL4, okL5, okL6, ent, List.map_cons, List.map_nil, List.length_cons, List.length_nil, List.set_cons_zero, List.set_cons_succ, List.replicate, List.cons_append, List.nil_append, Nat.reduceAdd, Nat.reduceSub, Nat.sub_self, Nat.sub_zero, zero_add', ↓reduceIte, Bool.false_eq_true, item0, item1, addD_ii, subD_ii, negD_i, absD_i, ltD_ii, leD_ii, gtD_ii, geD_ii, truD_bl, decide_true, decide_false]
  · simp only [eV0, eVs, bind_ok', then_ok, q_e2, q_e1, q_eC, q_aC, q_aN, q_sPar2, q_sPar3, q_sSet, q_sRet, q_eBf, q_nBf, q_eCall, q_tst, q_tru, q_ifV, q_sIf, q_eTup, q_sPass, q_sExp, q_eLm, q_nLst, q_frz, q_thaw, q_iSeq, q_iR2, q_iR3, q_iEnumD, q_iZip, q_andX, q_andT, q_orT, q_notT, q_eCh, q_sPat, q_eSl, q_nSl, q_pS, q_pN, q_sRetN, q_tYes, q_eDct0, okL0, okL1, okL2, okL3, okL4, okL5, okL6, ent, List.map_cons, List.map_nil, List.length_cons, List.length_nil, List.set_cons_zero, List.set_cons_succ, List.replicate, List.cons_append, List.nil_append, Nat.reduceAdd, Nat.reduceSub, Nat.sub_self, Nat.sub_zero, zero_add', ↓reduceIte, Bool.false_eq_true, item0, item1, addD_ii, subD_ii, negD_i, absD_i, ltD_ii, leD_ii, gtD_ii, geD_ii, truD_bl, decide_true, decide_false, intD_i, modD_ii hb]
/-! ### odds -/
def od (q : Rat) : Option Rat := if q = 1 then none else some (q / (1 - q))
def fo : Option Rat → D
  | none => .non
  | some q => fr q
theorem odds_eq {q : Rat} {a : Nat} (hq : Sz a q) (ha : a ≤ 2000) (h : Hs) : m_odds_of [fr q] h = .ok (fo (od q)) h := by
  refine mdef_ret (h' := h) ?_
  unfold c_odds_of
  have e1 : (.tup [.int 1, .int 1] : D) = fr 1 := fr1.symm
  rw [e1]
  have m := minus_eq sz1 hq (by omega) h
  have s := Sz.sub sz1 hq
  simp only [eV0, eVs, bind_ok', then_ok, q_e2, q_e1, q_eC, q_aC, q_aN, q_sPar2, q_sPar3, q_sSet, q_sRet, q_eBf, q_nBf, q_eCall, q_tst, q_tru, q_ifV, q_sIf, q_eTup, q_sPass, q_sExp, q_eLm, q_nLst, q_frz, q_thaw, q_iSeq, q_iR2, q_iR3, q_iEnumD, q_iZip, q_andX, q_andT, q_orT, q_notT, q_eCh, q_sPat, q_eSl, q_nSl, q_pS, q_pN, q_sRetN, q_tYes, q_eDct0, okL0, okL1, okL2, okL3, okL4, okL5, okL6, ent, List.map_cons, List.map_nil, List.length_cons, List.length_nil, List.set_cons_zero, List.set_cons_succ, List.replicate, List.cons_append, List.nil_append, Nat.reduceAdd, Nat.reduceSub, Nat.sub_self, Nat.sub_zero, zero_add', ↓reduceIte, Bool.false_eq_true, item0, item1, addD_ii, subD_ii, negD_i, absD_i, ltD_ii, leD_ii, gtD_ii, geD_ii, truD_bl, decide_true, decide_false, eqD_fz ((fz_fr q).mono (by decide)) ((fz_fr 1).mono (by decide)), fr_inj]
  by_cases z : q = 1
  · simp only [decide_eq_true z, eV0, eVs, bind_ok', then_ok, q_e2, q_e1, q_eC, q_aC, q_aN, q_sPar2, q_sPar3, q_sSet, q_sRet, q_eBf, q_nBf, q_eCall, q_tst, q_tru, q_ifV, q_sIf, q_eTup, q_sPass, q_sExp, q_eLm, q_nLst, q_frz, q_thaw, q_iSeq, q_iR2, q_iR3, q_iEnumD, q_iZip, q_andX, q_andT, q_orT, q_notT, q_eCh, q_sPat, q_eSl, q_nSl, q_pS, q_pN, q_sRetN, q_tYes, q_eDct0, okL0, okL1, okL2, okL3, okL4, okL5, okL6, ent, List.map_cons, List.map_nil, List.length_cons, List.length_nil, List.set_cons_zero, List.set_cons_succ, List.replicate, List.cons_append, List.nil_append, Nat.reduceAdd, Nat.reduceSub, Nat.sub_self, Nat.sub_zero, zero_add', ↓reduceIte, Bool.false_eq_true, item0, item1, addD_ii, subD_ii, negD_i, absD_i, ltD_ii, leD_ii, gtD_ii, geD_ii, truD_bl, decide_true, decide_false]
    unfold od
    rw [if_pos z]
    rfl
  · have n0 : 1 - q ≠ 0 := by grind
    simp only [decide_eq_false z, eV0, eVs, bind_ok', then_ok, q_e2, q_e1, q_eC, q_aC, q_aN, q_sPar2, q_sPar3, q_sSet, q_sRet, q_eBf, q_nBf, q_eCall, q_tst, q_tru, q_ifV, q_sIf, q_eTup, q_sPass, q_sExp, q_eLm, q_nLst, q_frz, q_thaw, q_iSeq, q_iR2, q_iR3, q_iEnumD, q_iZip, q_andX, q_andT, q_orT, q_notT, q_eCh, q_sPat, q_eSl, q_nSl, q_pS, q_pN, q_sRetN, q_tYes, q_eDct0, okL0, okL1, okL2, okL3, okL4, okL5, okL6, ent, List.map_cons, List.map_nil, List.length_cons, List.length_nil, List.set_cons_zero, List.set_cons_succ, List.replicate, List.cons_append, List.nil_append, Nat.reduceAdd, Nat.reduceSub, Nat.sub_self, Nat.sub_zero, zero_add', ↓reduceIte, Bool.false_eq_true, item0, item1, addD_ii, subD_ii, negD_i, absD_i, ltD_ii, leD_ii, gtD_ii, geD_ii, truD_bl, decide_true, decide_false, m, quot_eq hq s (by omega) h n0]
    unfold od
    rw [if_neg z]
    rfl
theorem Sz.od {q r : Rat} {a : Nat} (hq : Sz a q) (e : od q = some r) : Sz (2 * a + 2) r := by
  unfold Pl.od at e
  split at e
  · cases e
  · cases e
    exact (hq.div (sz1.sub hq)).mono (by omega)
end Pl

/-! Plain laws, 6: a Trials object; from which trial on. -/
namespace Pl
open Dl Sh
local instance : Dl.Tb := ⟨fun _ => []⟩

theorem eq_of_wp {α : Type} {r : Dl.R α} {a : α} {h : Hs} (w : Wp r fun d h' => d = a ∧ h' = h) : r = .ok a h := by
  obtain ⟨d, h', e, rfl, rfl⟩ := wp_ex w
  exact e
theorem fields_at {h : Hs} {n : Nat} {C : PySem.Str} {fs : List (PySem.Str × D)} (e : h[n]? = some (.ins C fs)) : fieldsAt C h (.obj n) = some fs := by
  show (match h[n]? with
    | some (.ins C' fs) => if decide (C' = C) then some fs else none
    | _ => none) = _
  rw [e]
  exact if_pos (decide_eq_true rfl)
theorem wps_fld {C f : PySem.Str} {ce co : Env → M D} {ρ : Env} {h : Hs} {N : Env → Hs → Prop} {T : D → Hs → Prop} {v : D} {n : Nat} {fs : List (PySem.Str × D)} {h1 : Hs} (e1 : ce ρ h = .ok v h1) (e2 : co ρ h1 = .ok (.obj n) h1) (e : h1[n]? = some (.ins C fs)) (hl : fs.length < 1000) (k : N ρ (h1.set n (.ins C (putFD f v fs)))) : WpS (sFldD C f ce co ρ h) N T := by
  rw [q_sFldD, e1, then_ok, e2, then_ok, fields_at e]
  show WpS (if decide (fs.length < 1000) = true then _ else _) N T
  rw [if_pos (decide_eq_true hl)]
  exact k
theorem set_last {α : Type} {l : List α} {x y : α} : (l ++ [x]).set l.length y = l ++ [y] := by
  rw [List.set_append_right _ _ (Nat.le_refl _)]
  simp
theorem get_last {α : Type} {l t : List α} {x : α} : (l ++ x :: t)[l.length]? = some x := by
  rw [List.getElem?_append_right (Nat.le_refl _)]
  simp
/-- chances, each of 0 to 1 -/
def Okc (cs : List Rat) : Prop := 1 ≤ cs.length ∧ cs.length ≤ 12 ∧ ∀ q ∈ cs, 0 ≤ q ∧ q ≤ 1
/-- a Trials object -/
def TrAt (h : Hs) (i : Nat) (cs : List Rat) : Prop := ∃ fs, h[i]? = some (.ins "Trials" fs) ∧ fs.lookup ("chances" : PySem.Str) = some (.tup (cs.map fr)) ∧ fs.lookup ("looked" : PySem.Str) = some (.obj (i + 1)) ∧ fs.length < 10
theorem init_eq {cs : List Rat} {h : Hs} (o : Okc cs) : m_Trials___init__ [.obj h.length, .tup (cs.map fr)] (h ++ [.ins "Trials" []]) = .ok .non (h ++ [.ins "Trials" [("chances", .tup (cs.map fr)), ("looked", .obj (h.length + 1))], .dI []]) := by
  obtain ⟨o1, o2, o3⟩ := o
  generalize hg : (h ++ [DO.ins "Trials" []]) = g
  have c := comp_eq (ci := iSeq (eV 1)) (p := .nm 2) (own := [2]) (ce := eCall 1 m_is_share (aC (eV 2) aN)) (ρ := [some (.obj h.length), some (.tup (cs.map fr)), none]) (h := g) (xs := cs.map fr) (f := fun _ => .bl true)
    (seq_tup (by simp only [eV0, eVs, bind_ok', then_ok, q_e2, q_e1, q_eC, q_aC, q_aN, q_sPar2, q_sPar3, q_sSet, q_sRet, q_eBf, q_nBf, q_eCall, q_tst, q_tru, q_ifV, q_sIf, q_eTup, q_sPass, q_sExp, q_eLm, q_nLst, q_frz, q_thaw, q_iSeq, q_iR2, q_iR3, q_iEnumD, q_iZip, q_andX, q_andT, q_orT, q_notT, q_eCh, q_sPat, q_eSl, q_nSl, q_pS, q_pN, q_sRetN, q_tYes, q_eDct0, okL0, okL1, okL2, okL3, okL4, okL5, okL6, ent, List.map_cons, List.map_nil, List.length_cons, List.length_nil, List.set_cons_zero, List.set_cons_succ, List.replicate, List.cons_append, List.nil_append, Nat.reduceAdd, Nat.reduceSub, Nat.sub_self, Nat.sub_zero, zero_add', ↓reduceIte, Bool.false_eq_true, item0, item1, addD_ii, subD_ii, negD_i, absD_i, ltD_ii, leD_ii, gtD_ii, geD_ii, truD_bl, decide_true, decide_false])) (by rw [List.length_map]; omega) fun x hx => ⟨[some (.obj h.length), some (.tup (cs.map fr)), some x], rfl, by
      obtain ⟨q, hq, rfl⟩ := List.mem_map.mp hx
      simp only [eV0, eVs, bind_ok', then_ok, q_e2, q_e1, q_eC, q_aC, q_aN, q_sPar2, q_sPar3, q_sSet, q_sRet, q_eBf, q_nBf, q_eCall, q_tst, q_tru, q_ifV, q_sIf, q_eTup, q_sPass, q_sExp, q_eLm, q_nLst, q_frz, q_thaw, q_iSeq, q_iR2, q_iR3, q_iEnumD, q_iZip, q_andX, q_andT, q_orT, q_notT, q_eCh, q_sPat, q_eSl, q_nSl, q_pS, q_pN, q_sRetN, q_tYes, q_eDct0, okL0, okL1, okL2, okL3, okL4, okL5, okL6, ent, List.map_cons, List.map_nil, List.length_cons, List.length_nil, List.set_cons_zero, List.set_cons_succ, List.replicate, List.cons_append, List.nil_append, Nat.reduceAdd, Nat.reduceSub, Nat.sub_self, Nat.sub_zero, zero_add', ↓reduceIte, Bool.false_eq_true, item0, item1, addD_ii, subD_ii, negD_i, absD_i, ltD_ii, leD_ii, gtD_ii, geD_ii, truD_bl, decide_true, decide_false, isshare_eq (o3 q hq).1 (o3 q hq).2]⟩
  have a : allD [.lst ((cs.map fr).map fun _ => D.bl true)] g = .ok (.bl true) g := by
    rw [allD_map (fun _ => true) (cs.map fr) g]
    simp
  have t := istup_eq (xs := cs.map fr) (lo := 1) (hi := 12) (h := g) (by rw [List.length_map]; omega) (by rw [List.length_map]; omega)
  have w : Wp (m_Trials___init__ [.obj h.length, .tup (cs.map fr)] g) fun d h' => d = .non ∧ h' = h ++ [.ins "Trials" [("chances", .tup (cs.map fr)), ("looked", .obj (h.length + 1))], .dI []] := by
    unfold m_Trials___init__ c_Trials___init__
    simp only [eV0, eVs, bind_ok', then_ok, q_e2, q_e1, q_eC, q_aC, q_aN, q_sPar2, q_sPar3, q_sSet, q_sRet, q_eBf, q_nBf, q_eCall, q_tst, q_tru, q_ifV, q_sIf, q_eTup, q_sPass, q_sExp, q_eLm, q_nLst, q_frz, q_thaw, q_iSeq, q_iR2, q_iR3, q_iEnumD, q_iZip, q_andX, q_andT, q_orT, q_notT, q_eCh, q_sPat, q_eSl, q_nSl, q_pS, q_pN, q_sRetN, q_tYes, q_eDct0, okL0, okL1, okL2, okL3, okL4, okL5, okL6, ent, List.map_cons, List.map_nil, List.length_cons, List.length_nil, List.set_cons_zero, List.set_cons_succ, List.replicate, List.cons_append, List.nil_append, Nat.reduceAdd, Nat.reduceSub, Nat.sub_self, Nat.sub_zero, zero_add', ↓reduceIte, Bool.false_eq_true, item0, item1, addD_ii, subD_ii, negD_i, absD_i, ltD_ii, leD_ii, gtD_ii, geD_ii, truD_bl, decide_true, decide_false, wp_ok, wp_bad, wp_bind, wp_nox, wp_def, wps_then, wps_seq, wps_nx, wps_ret, wp_ite, wps_ite, t, c, a, Bool.not_true, sPass]
    refine wps_fld (v := .tup (cs.map fr)) (n := h.length) (fs := []) (h1 := g) (by simp only [eV0, eVs, bind_ok', then_ok, q_e2, q_e1, q_eC, q_aC, q_aN, q_sPar2, q_sPar3, q_sSet, q_sRet, q_eBf, q_nBf, q_eCall, q_tst, q_tru, q_ifV, q_sIf, q_eTup, q_sPass, q_sExp, q_eLm, q_nLst, q_frz, q_thaw, q_iSeq, q_iR2, q_iR3, q_iEnumD, q_iZip, q_andX, q_andT, q_orT, q_notT, q_eCh, q_sPat, q_eSl, q_nSl, q_pS, q_pN, q_sRetN, q_tYes, q_eDct0, okL0, okL1, okL2, okL3, okL4, okL5, okL6, ent, List.map_cons, List.map_nil, List.length_cons, List.length_nil, List.set_cons_zero, List.set_cons_succ, List.replicate, List.cons_append, List.nil_append, Nat.reduceAdd, Nat.reduceSub, Nat.sub_self, Nat.sub_zero, zero_add', ↓reduceIte, Bool.false_eq_true, item0, item1, addD_ii, subD_ii, negD_i, absD_i, ltD_ii, leD_ii, gtD_ii, geD_ii, truD_bl, decide_true, decide_false]) (by simp only [eV0, eVs, bind_ok', then_ok, q_e2, q_e1, q_eC, q_aC, q_aN, q_sPar2, q_sPar3, q_sSet, q_sRet, q_eBf, q_nBf, q_eCall, q_tst, q_tru, q_ifV, q_sIf, q_eTup, q_sPass, q_sExp, q_eLm, q_nLst, q_frz, q_thaw, q_iSeq, q_iR2, q_iR3, q_iEnumD, q_iZip, q_andX, q_andT, q_orT, q_notT, q_eCh, q_sPat, q_eSl, q_nSl, q_pS, q_pN, q_sRetN, q_tYes, q_eDct0, okL0, okL1, okL2, okL3, okL4, okL5, okL6, ent, List.map_cons, List.map_nil, List.length_cons, List.length_nil, List.set_cons_zero, List.set_cons_succ, List.replicate, List.cons_append, List.nil_append, Nat.reduceAdd, Nat.reduceSub, Nat.sub_self, Nat.sub_zero, zero_add', ↓reduceIte, Bool.false_eq_true, item0, item1, addD_ii, subD_ii, negD_i, absD_i, ltD_ii, leD_ii, gtD_ii, geD_ii, truD_bl, decide_true, decide_false]) (by rw [← hg]; exact get_last) (by decide) ?_
    rw [← hg, set_last]
    refine wps_fld (v := .obj (h.length + 1)) (n := h.length) (fs := [("chances", .tup (cs.map fr))]) (h1 := (h ++ [.ins "Trials" (putFD "chances" (.tup (cs.map fr)) [])]) ++ [.dI []]) (by simp only [eV0, eVs, bind_ok', then_ok, q_e2, q_e1, q_eC, q_aC, q_aN, q_sPar2, q_sPar3, q_sSet, q_sRet, q_eBf, q_nBf, q_eCall, q_tst, q_tru, q_ifV, q_sIf, q_eTup, q_sPass, q_sExp, q_eLm, q_nLst, q_frz, q_thaw, q_iSeq, q_iR2, q_iR3, q_iEnumD, q_iZip, q_andX, q_andT, q_orT, q_notT, q_eCh, q_sPat, q_eSl, q_nSl, q_pS, q_pN, q_sRetN, q_tYes, q_eDct0, okL0, okL1, okL2, okL3, okL4, okL5, okL6, ent, List.map_cons, List.map_nil, List.length_cons, List.length_nil, List.set_cons_zero, List.set_cons_succ, List.replicate, List.cons_append, List.nil_append, Nat.reduceAdd, Nat.reduceSub, Nat.sub_self, Nat.sub_zero, zero_add', ↓reduceIte, Bool.false_eq_true, item0, item1, addD_ii, subD_ii, negD_i, absD_i, ltD_ii, leD_ii, gtD_ii, geD_ii, truD_bl, decide_true, decide_false, List.length_append]) (by simp only [eV0, eVs, bind_ok', then_ok, q_e2, q_e1, q_eC, q_aC, q_aN, q_sPar2, q_sPar3, q_sSet, q_sRet, q_eBf, q_nBf, q_eCall, q_tst, q_tru, q_ifV, q_sIf, q_eTup, q_sPass, q_sExp, q_eLm, q_nLst, q_frz, q_thaw, q_iSeq, q_iR2, q_iR3, q_iEnumD, q_iZip, q_andX, q_andT, q_orT, q_notT, q_eCh, q_sPat, q_eSl, q_nSl, q_pS, q_pN, q_sRetN, q_tYes, q_eDct0, okL0, okL1, okL2, okL3, okL4, okL5, okL6, ent, List.map_cons, List.map_nil, List.length_cons, List.length_nil, List.set_cons_zero, List.set_cons_succ, List.replicate, List.cons_append, List.nil_append, Nat.reduceAdd, Nat.reduceSub, Nat.sub_self, Nat.sub_zero, zero_add', ↓reduceIte, Bool.false_eq_true, item0, item1, addD_ii, subD_ii, negD_i, absD_i, ltD_ii, leD_ii, gtD_ii, geD_ii, truD_bl, decide_true, decide_false]) (by rw [List.append_assoc]; exact get_last) (by simp) ?_
    refine ⟨trivial, ?_⟩
    rw [List.append_assoc, List.set_append_right _ _ (Nat.le_refl _)]
    simp
    rfl
  obtain ⟨d, h', e, rfl, rfl⟩ := wp_ex w
  exact e
/-- Trials(..) -/
theorem make_eq {cs : List Rat} {ca : Env → M (List D)} {ρ : Env} {h h0 : Hs} (o : Okc cs) (e : ca ρ h0 = .ok [.tup (cs.map fr)] h) : eMake "Trials" 2 m_Trials___init__ ca ρ h0 = .ok (.obj h.length) (h ++ [.ins "Trials" [("chances", .tup (cs.map fr)), ("looked", .obj (h.length + 1))], .dI []]) := by
  rw [q_eMake, e, bind_ok']
  show (if decide (1 + 1 = 2) = true then _ else _) = _
  rw [if_pos (show decide (1 + 1 = 2) = true from rfl), init_eq o, bind_ok']
theorem tr_new {cs : List Rat} {h : Hs} : TrAt (h ++ [.ins "Trials" [("chances", .tup (cs.map fr)), ("looked", .obj (h.length + 1))], .dI []]) h.length cs := by
  exact ⟨[("chances", .tup (cs.map fr)), ("looked", .obj (h.length + 1))], get_last, rfl, rfl, by simp⟩
theorem fld_ch {h : Hs} {i : Nat} {cs : List Rat} (t : TrAt h i cs) {ca : Env → M D} {ρ : Env} (e : ca ρ h = .ok (.obj i) h) : eFld "Trials" "chances" ca ρ h = .ok (.tup (cs.map fr)) h := by
  obtain ⟨fs, h1, h2, _⟩ := t
  rw [q_eFld, e, bind_ok', fields_at h1, Option.bind_some, h2]
end Pl

/-! Plain laws, 7: the trial from which to take, the program's way and the law's. -/
namespace Pl
open Dl Sh
local instance : Dl.Tb := ⟨fun _ => []⟩

theorem cutL_from {α : Type} (xs : List α) (m : Nat) : cutL xs (some (m : Int)) none = xs.drop m := by
  unfold cutL
  rw [HT.sIx_nat, HT.sIx_none]
  by_cases h : m ≤ xs.length
  · rw [Nat.min_eq_left h]
    exact List.take_of_length_le (by rw [List.length_drop]; omega)
  · rw [Nat.min_eq_right (by omega), List.drop_of_length_le (Nat.le_refl _), List.drop_of_length_le (by omega)]
    simp
theorem cutL_to {α : Type} (xs : List α) (m : Nat) : cutL xs none (some (m : Int)) = xs.take m := by
  unfold cutL
  rw [HT.sIx_nat, HT.sIx_none, List.drop_zero]
  by_cases h : m ≤ xs.length
  · rw [Nat.min_eq_left h, Nat.sub_zero]
  · rw [Nat.min_eq_right (by omega), Nat.sub_zero, List.take_of_length_le (Nat.le_refl _), List.take_of_length_le (by omega)]
theorem slD_tup_from {xs : List D} {m : Nat} {h : Hs} : sliceD (.tup xs) (some (m : Int)) none h = .ok (.tup (xs.drop m)) h := by
  show Dl.R.ok (D.tup (cutL xs (some (m : Int)) none)) h = _
  rw [cutL_from]
def so : List Rat → Rat
  | [] => 0
  | q :: cs => q / (1 - q) + so cs
def good (cs : List Rat) : Bool := decide ((1 : Rat) ∉ cs ∧ so cs < 1)
def Ff : List Rat → Option Nat
  | [] => none
  | c :: cs => match Ff cs with
    | some k => some (k + 1)
    | none => if good (c :: cs) then none else some 0
/-! ### a sum of fractions -/
theorem sum_loop {a : Nat} {h : Hs} {N : Env → Hs → Prop} {T : D → Hs → Prop} {d0 : D} : ∀ (rs : List Rat) (x : Rat) (b : Nat) (d2 : Option D), (∀ r ∈ rs, Sz a r) → Sz b x → b + rs.length * (a + 1) ≤ 4000 → a ≤ 2000 → (∀ d2, N [some d0, some (fr (rs.foldl (· + ·) x)), d2] h) →
    WpS (loopF (.nm 2) (sSet 1 (eCall 2 m_plus (aC (eV 1) (aC (eV 2) aN)))) [] (rs.map fr) [some d0, some (fr x), d2] h) N T
  | [], x, b, d2, _, _, _, _, k => by
    unfold loopF
    exact k d2
  | r :: rs, x, b, d2, hr, hx, hb, ha, k => by
    rw [List.map_cons]
    unfold loopF
    rw [if_pos okG_nil]
    have hl : b + (rs.length + 1) * (a + 1) ≤ 4000 := hb
    rw [Nat.succ_mul] at hl
    have r1 := hr r List.mem_cons_self
    have e : sSet 1 (eCall 2 m_plus (aC (eV 1) (aC (eV 2) aN))) [some d0, some (fr x), some (fr r)] h = .nx [some d0, some (fr (x + r)), some (fr r)] h := by
      simp only [eV0, eVs, bind_ok', then_ok, q_e2, q_e1, q_eC, q_aC, q_aN, q_sPar2, q_sPar3, q_sSet, q_sRet, q_eBf, q_nBf, q_eCall, q_tst, q_tru, q_ifV, q_sIf, q_eTup, q_sPass, q_sExp, q_eLm, q_nLst, q_frz, q_thaw, q_iSeq, q_iR2, q_iR3, q_iEnumD, q_iZip, q_andX, q_andT, q_orT, q_notT, q_eCh, q_sPat, q_eSl, q_nSl, q_pS, q_pN, q_sRetN, q_tYes, q_eDct0, okL0, okL1, okL2, okL3, okL4, okL5, okL6, ent, List.map_cons, List.map_nil, List.length_cons, List.length_nil, List.set_cons_zero, List.set_cons_succ, List.replicate, List.cons_append, List.nil_append, Nat.reduceAdd, Nat.reduceSub, Nat.sub_self, Nat.sub_zero, zero_add', ↓reduceIte, Bool.false_eq_true, item0, item1, addD_ii, subD_ii, negD_i, absD_i, ltD_ii, leD_ii, gtD_ii, geD_ii, truD_bl, decide_true, decide_false, plus_eq hx r1 (by omega)]
    show WpS (match sSet 1 (eCall 2 m_plus (aC (eV 1) (aC (eV 2) aN))) [some d0, some (fr x), some (fr r)] h with
      | .nx ρ2 h2 => loopF _ _ _ _ ρ2 h2
      | .ct ρ2 h2 => loopF _ _ _ _ ρ2 h2
      | .bk ρ2 h2 => .nx ρ2 h2
      | r => r) N T
    rw [e]
    exact sum_loop rs (x + r) (b + a + 1) _ (fun r hr' => hr r (List.mem_cons_of_mem _ hr')) (Sz.add hx r1) (by omega) ha k
theorem sum_eq {a : Nat} {rs : List Rat} (hr : ∀ r ∈ rs, Sz a r) (hl : 1 + rs.length * (a + 1) ≤ 4000) (ha : a ≤ 2000) (h : Hs) : m_whole_sum [.lst (rs.map fr)] h = .ok (fr (rs.foldl (· + ·) 0)) h := by
  refine eq_of_wp ?_
  unfold m_whole_sum c_whole_sum
  simp only [eV0, eVs, bind_ok', then_ok, q_e2, q_e1, q_eC, q_aC, q_aN, q_sPar2, q_sPar3, q_sSet, q_sRet, q_eBf, q_nBf, q_eCall, q_tst, q_tru, q_ifV, q_sIf, q_eTup, q_sPass, q_sExp, q_eLm, q_nLst, q_frz, q_thaw, q_iSeq, q_iR2, q_iR3, q_iEnumD, q_iZip, q_andX, q_andT, q_orT, q_notT, q_eCh, q_sPat, q_eSl, q_nSl, q_pS, q_pN, q_sRetN, q_tYes, q_eDct0, okL0, okL1, okL2, okL3, okL4, okL5, okL6, ent, List.map_cons, List.map_nil, List.length_cons, List.length_nil, List.set_cons_zero, List.set_cons_succ, List.replicate, List.cons_append, List.nil_append, Nat.reduceAdd, Nat.reduceSub, Nat.sub_self, Nat.sub_zero, zero_add', ↓reduceIte, Bool.false_eq_true, item0, item1, addD_ii, subD_ii, negD_i, absD_i, ltD_ii, leD_ii, gtD_ii, geD_ii, truD_bl, decide_true, decide_false, wp_ok, wp_bad, wp_bind, wp_nox, wp_def, wps_then, wps_seq, wps_nx, wps_ret, wp_ite, wps_ite, wps_for, itOf_lst, okG_nil, ← fr0]
  exact sum_loop rs 0 1 none hr sz0 hl ha fun d2 => by simp only [eV0, eVs, bind_ok', then_ok, q_e2, q_e1, q_eC, q_aC, q_aN, q_sPar2, q_sPar3, q_sSet, q_sRet, q_eBf, q_nBf, q_eCall, q_tst, q_tru, q_ifV, q_sIf, q_eTup, q_sPass, q_sExp, q_eLm, q_nLst, q_frz, q_thaw, q_iSeq, q_iR2, q_iR3, q_iEnumD, q_iZip, q_andX, q_andT, q_orT, q_notT, q_eCh, q_sPat, q_eSl, q_nSl, q_pS, q_pN, q_sRetN, q_tYes, q_eDct0, okL0, okL1, okL2, okL3, okL4, okL5, okL6, ent, List.map_cons, List.map_nil, List.length_cons, List.length_nil, List.set_cons_zero, List.set_cons_succ, List.replicate, List.cons_append, List.nil_append, Nat.reduceAdd, Nat.reduceSub, Nat.sub_self, Nat.sub_zero, zero_add', ↓reduceIte, Bool.false_eq_true, item0, item1, addD_ii, subD_ii, negD_i, absD_i, ltD_ii, leD_ii, gtD_ii, geD_ii, truD_bl, decide_true, decide_false, wp_ok, wp_bad, wp_bind, wp_nox, wp_def, wps_then, wps_seq, wps_nx, wps_ret, wp_ite, wps_ite]; exact ⟨trivial, trivial⟩
theorem foldl_so : ∀ (cs : List Rat) (x : Rat), (cs.map fun q => q / (1 - q)).foldl (· + ·) x = x + so cs
  | [], x => by
    show x = x + 0
    grind
  | q :: cs, x => by
    show (cs.map fun q => q / (1 - q)).foldl (· + ·) (x + q / (1 - q)) = x + (q / (1 - q) + so cs)
    rw [foldl_so cs]
    grind
theorem fz_fo (o : Option Rat) : Fz 8 (fo o) := by
  cases o with
  | none => exact .non
  | some q => exact (fz_fr q).mono (by decide)
/-- the program's test at one trial -/
theorem test_eq {cs : List Rat} {a : Nat} (hs : ∀ q ∈ cs, Sz a q) (hl : 1 + cs.length * (2 * a + 3) ≤ 4000) (ha : a ≤ 900) {ρ : Env} {h : Hs} {x y z : Option D} :
    orT (tst (e2 inD (eC .non) (eV 2))) (notT (tru (eCall 2 m_is_less (aC (eCall 1 m_whole_sum (aC (eV 2) aN)) (aC (eC (.tup [.int 1, .int 1])) aN))))) [x, y, some (.lst (cs.map fun q => fo (od q))), z] h = .ok (!good cs) h := by
  have i := (inD_fz (x := .non) (ys := cs.map fun q => fo (od q)) (h := h) .non fun d hd => by
    obtain ⟨q, _, rfl⟩ := List.mem_map.mp hd
    exact fz_fo _).2
  simp only [eV0, eVs, bind_ok', then_ok, q_e2, q_e1, q_eC, q_aC, q_aN, q_sPar2, q_sPar3, q_sSet, q_sRet, q_eBf, q_nBf, q_eCall, q_tst, q_tru, q_ifV, q_sIf, q_eTup, q_sPass, q_sExp, q_eLm, q_nLst, q_frz, q_thaw, q_iSeq, q_iR2, q_iR3, q_iEnumD, q_iZip, q_andX, q_andT, q_orT, q_notT, q_eCh, q_sPat, q_eSl, q_nSl, q_pS, q_pN, q_sRetN, q_tYes, q_eDct0, okL0, okL1, okL2, okL3, okL4, okL5, okL6, ent, List.map_cons, List.map_nil, List.length_cons, List.length_nil, List.set_cons_zero, List.set_cons_succ, List.replicate, List.cons_append, List.nil_append, Nat.reduceAdd, Nat.reduceSub, Nat.sub_self, Nat.sub_zero, zero_add', ↓reduceIte, Bool.false_eq_true, item0, item1, addD_ii, subD_ii, negD_i, absD_i, ltD_ii, leD_ii, gtD_ii, geD_ii, truD_bl, decide_true, decide_false, i]
  by_cases one : (1 : Rat) ∈ cs
  · have m : (D.non) ∈ cs.map fun q => fo (od q) := List.mem_map.mpr ⟨1, one, rfl⟩
    have g : good cs = false := decide_eq_false fun z => z.1 one
    simp only [decide_eq_true m, eV0, eVs, bind_ok', then_ok, q_e2, q_e1, q_eC, q_aC, q_aN, q_sPar2, q_sPar3, q_sSet, q_sRet, q_eBf, q_nBf, q_eCall, q_tst, q_tru, q_ifV, q_sIf, q_eTup, q_sPass, q_sExp, q_eLm, q_nLst, q_frz, q_thaw, q_iSeq, q_iR2, q_iR3, q_iEnumD, q_iZip, q_andX, q_andT, q_orT, q_notT, q_eCh, q_sPat, q_eSl, q_nSl, q_pS, q_pN, q_sRetN, q_tYes, q_eDct0, okL0, okL1, okL2, okL3, okL4, okL5, okL6, ent, List.map_cons, List.map_nil, List.length_cons, List.length_nil, List.set_cons_zero, List.set_cons_succ, List.replicate, List.cons_append, List.nil_append, Nat.reduceAdd, Nat.reduceSub, Nat.sub_self, Nat.sub_zero, zero_add', ↓reduceIte, Bool.false_eq_true, item0, item1, addD_ii, subD_ii, negD_i, absD_i, ltD_ii, leD_ii, gtD_ii, geD_ii, truD_bl, decide_true, decide_false, g, Bool.not_false]
  · have m : ¬ (D.non) ∈ cs.map fun q => fo (od q) := fun z => by
      obtain ⟨q, hq, e⟩ := List.mem_map.mp z
      unfold od at e
      split at e
      · rename_i q1
        rw [q1] at hq
        exact one hq
      · cases e
    have e : (cs.map fun q => fo (od q)) = (cs.map fun q => q / (1 - q)).map fr := by
      rw [List.map_map]
      refine List.map_congr_left fun q hq => ?_
      have n1 : ¬ q = 1 := fun y => one (y ▸ hq)
      show fo (od q) = fr (q / (1 - q))
      unfold od
      rw [if_neg n1]
      rfl
    have sz : ∀ r ∈ (cs.map fun q => q / (1 - q)), Sz (2 * a + 2) r := fun r hr => by
      obtain ⟨q, hq, rfl⟩ := List.mem_map.mp hr
      have n1 : ¬ q = 1 := fun y => one (y ▸ hq)
      exact (hs q hq).od (by unfold od; rw [if_neg n1])
    have s := sum_eq sz (by rw [List.length_map]; exact hl) (by omega) h
    rw [← e, foldl_so] at s
    have s0 : (0 : Rat) + so cs = so cs := by grind
    rw [s0] at s
    have big : Sz 4000 (so cs) := by
      have f : ∀ (rs : List Rat) (x : Rat) (b : Nat), (∀ r ∈ rs, Sz (2 * a + 2) r) → Sz b x → Sz (b + rs.length * (2 * a + 3)) (rs.foldl (· + ·) x) := by
        intro rs
        induction rs with
        | nil => intro x b _ hx; simpa using hx
        | cons r rs ih =>
          intro x b hr hx
          have z := ih (x + r) (b + (2 * a + 2) + 1) (fun r hr' => hr r (List.mem_cons_of_mem _ hr')) (Sz.add hx (hr r List.mem_cons_self))
          refine z.mono ?_
          rw [List.length_cons, Nat.add_mul, Nat.one_mul]
          omega
      have z := f _ 0 1 sz sz0
      rw [foldl_so, s0, List.length_map] at z
      exact z.mono hl
    have l := less_eq big sz1 (by omega) h
    rw [fr1] at l
    simp only [decide_eq_false m, eV0, eVs, bind_ok', then_ok, q_e2, q_e1, q_eC, q_aC, q_aN, q_sPar2, q_sPar3, q_sSet, q_sRet, q_eBf, q_nBf, q_eCall, q_tst, q_tru, q_ifV, q_sIf, q_eTup, q_sPass, q_sExp, q_eLm, q_nLst, q_frz, q_thaw, q_iSeq, q_iR2, q_iR3, q_iEnumD, q_iZip, q_andX, q_andT, q_orT, q_notT, q_eCh, q_sPat, q_eSl, q_nSl, q_pS, q_pN, q_sRetN, q_tYes, q_eDct0, okL0, okL1, okL2, okL3, okL4, okL5, okL6, ent, List.map_cons, List.map_nil, List.length_cons, List.length_nil, List.set_cons_zero, List.set_cons_succ, List.replicate, List.cons_append, List.nil_append, Nat.reduceAdd, Nat.reduceSub, Nat.sub_self, Nat.sub_zero, zero_add', ↓reduceIte, Bool.false_eq_true, item0, item1, addD_ii, subD_ii, negD_i, absD_i, ltD_ii, leD_ii, gtD_ii, geD_ii, truD_bl, decide_true, decide_false, s, l]
    unfold good
    by_cases lt : so cs < 1
    · rw [decide_eq_true lt, decide_eq_true ⟨one, lt⟩]
    · rw [decide_eq_false lt, decide_eq_false fun z => lt z.2]
theorem Ff_drop {cs : List Rat} : ∀ (m : Nat), m ≤ cs.length → (∀ j, Ff (cs.drop m) = some j → Ff cs = some (m + j)) := by
  induction cs with
  | nil =>
    intro m hm j e
    rw [show m = 0 by simpa using hm] at e ⊢
    simpa using e
  | cons c cs ih =>
    intro m hm j e
    cases m with
    | zero => simpa using e
    | succ m =>
      have z := ih m (by simpa using hm) j (by simpa using e)
      unfold Ff
      rw [z]
      show some (m + j + 1) = some (m + 1 + j)
      congr 1
      omega
theorem Ff_at {cs : List Rat} {m : Nat} (hm : m < cs.length) (h1 : Ff (cs.drop (m + 1)) = none) : Ff (cs.drop m) = if good (cs.drop m) then none else some 0 := by
  rw [List.drop_eq_getElem_cons hm] at *
  unfold Ff
  rw [h1]
theorem first_loop {cs : List Rat} {a i : Nat} {h : Hs} (t : TrAt h i cs) (hs : ∀ q ∈ cs, Sz a q) (hl : 1 + cs.length * (2 * a + 3) ≤ 4000) (ha : a ≤ 900) : ∀ (m : Nat) (x y z : Option D), m ≤ cs.length → Ff (cs.drop m) = none →
    WpS (loopF (.nm 1) (sSeq (sSet 2 (frz (nLc (iSeq (eSl (eFld "Trials" "chances" (eV 0)) (pS (eV 1)) pN)) (.nm 3) [3] (tYes') (eCall 1 m_odds_of (aC (eV 3) aN))))) (sIf (orT (tst (e2 inD (eC .non) (eV 2))) (notT (tru (eCall 2 m_is_less (aC (eCall 1 m_whole_sum (aC (eV 2) aN)) (aC (eC (.tup [.int 1, .int 1])) aN)))))) (sRet (eV 1)) (sPass))) [] (rng ((m : Int) - 1) (-1) m) [some (.obj i), x, y, z] h)
      (fun _ h' => Ff cs = none ∧ h' = h) (fun d h' => ∃ k, Ff cs = some k ∧ d = .int k ∧ h' = h)
  | 0, x, y, z, _, e => by
    unfold rng loopF
    rw [List.drop_zero] at e
    exact ⟨e, rfl⟩
  | m + 1, x, y, z, hm, e => by
    unfold rng loopF
    rw [if_pos okG_nil]
    have e0 : (((m + 1 : Nat) : Int) - 1) = m := by omega
    rw [e0]
    have hm' : m < cs.length := hm
    have sl : ∀ ρ : Env, eSl (eFld "Trials" "chances" (eV 0)) (pS (eV 1)) pN (some (.obj i) :: some (.int m) :: ρ) h = .ok (.tup ((cs.drop m).map fr)) h := fun ρ => by
      have f : eFld "Trials" "chances" (eV 0) (some (.obj i) :: some (.int m) :: ρ) h = .ok (.tup (cs.map fr)) h := fld_ch t eV0
      simp only [eV0, eVs, bind_ok', then_ok, q_e2, q_e1, q_eC, q_aC, q_aN, q_sPar2, q_sPar3, q_sSet, q_sRet, q_eBf, q_nBf, q_eCall, q_tst, q_tru, q_ifV, q_sIf, q_eTup, q_sPass, q_sExp, q_eLm, q_nLst, q_frz, q_thaw, q_iSeq, q_iR2, q_iR3, q_iEnumD, q_iZip, q_andX, q_andT, q_orT, q_notT, q_eCh, q_sPat, q_eSl, q_nSl, q_pS, q_pN, q_sRetN, q_tYes, q_eDct0, okL0, okL1, okL2, okL3, okL4, okL5, okL6, ent, List.map_cons, List.map_nil, List.length_cons, List.length_nil, List.set_cons_zero, List.set_cons_succ, List.replicate, List.cons_append, List.nil_append, Nat.reduceAdd, Nat.reduceSub, Nat.sub_self, Nat.sub_zero, zero_add', ↓reduceIte, Bool.false_eq_true, item0, item1, addD_ii, subD_ii, negD_i, absD_i, ltD_ii, leD_ii, gtD_ii, geD_ii, truD_bl, decide_true, decide_false, f, slD_tup_from, List.map_drop]
    have c := comp_eq (ci := iSeq (eSl (eFld "Trials" "chances" (eV 0)) (pS (eV 1)) pN)) (p := .nm 3) (own := [3]) (ce := eCall 1 m_odds_of (aC (eV 3) aN)) (ρ := [some (.obj i), some (.int m), y, z]) (h := h) (xs := (cs.drop m).map fr) (f := fun d => match d with
      | .tup [.int n, .int k] => fo (od (Rat.divInt n k))
      | _ => .non) (seq_tup (sl _)) (by rw [List.length_map, List.length_drop]; have : cs.length * 1 ≤ cs.length * (2 * a + 3) := Nat.mul_le_mul_left _ (by omega); omega) fun d hd => ⟨[some (.obj i), some (.int m), y, some d], rfl, by
        obtain ⟨q, hq, rfl⟩ := List.mem_map.mp hd
        have hq' := List.mem_of_mem_drop hq
        simp only [eV0, eVs, bind_ok', then_ok, q_e2, q_e1, q_eC, q_aC, q_aN, q_sPar2, q_sPar3, q_sSet, q_sRet, q_eBf, q_nBf, q_eCall, q_tst, q_tru, q_ifV, q_sIf, q_eTup, q_sPass, q_sExp, q_eLm, q_nLst, q_frz, q_thaw, q_iSeq, q_iR2, q_iR3, q_iEnumD, q_iZip, q_andX, q_andT, q_orT, q_notT, q_eCh, q_sPat, q_eSl, q_nSl, q_pS, q_pN, q_sRetN, q_tYes, q_eDct0, okL0, okL1, okL2, okL3, okL4, okL5, okL6, ent, List.map_cons, List.map_nil, List.length_cons, List.length_nil, List.set_cons_zero, List.set_cons_succ, List.replicate, List.cons_append, List.nil_append, Nat.reduceAdd, Nat.reduceSub, Nat.sub_self, Nat.sub_zero, zero_add', ↓reduceIte, Bool.false_eq_true, item0, item1, addD_ii, subD_ii, negD_i, absD_i, ltD_ii, leD_ii, gtD_ii, geD_ii, truD_bl, decide_true, decide_false, odds_eq (hs q hq') (by omega)]
        show Dl.R.ok (fo (od q)) h = Dl.R.ok (fo (od (Rat.divInt q.num q.den))) h
        rw [Rat.num_divInt_den]⟩
    have mm : ((cs.drop m).map fr).map (fun d => match d with
      | .tup [.int n, .int k] => fo (od (Rat.divInt n k))
      | _ => .non) = (cs.drop m).map fun q => fo (od q) := by
      rw [List.map_map]
      refine List.map_congr_left fun q _ => ?_
      show fo (od (Rat.divInt q.num q.den)) = _
      rw [Rat.num_divInt_den]
    rw [mm] at c
    have tq := test_eq (cs := cs.drop m) (a := a) (fun q hq => hs q (List.mem_of_mem_drop hq)) (by
      have : (cs.drop m).length * (2 * a + 3) ≤ cs.length * (2 * a + 3) := Nat.mul_le_mul_right _ (by rw [List.length_drop]; omega)
      omega) ha (ρ := []) (h := h) (x := some (.obj i)) (y := some (.int m)) (z := z)
    have fa := Ff_at hm' e
    show WpS (match (sSeq _ _) [some (.obj i), some (.int m), y, z] h with
      | .nx ρ2 h2 => loopF _ _ _ _ ρ2 h2
      | .ct ρ2 h2 => loopF _ _ _ _ ρ2 h2
      | .bk ρ2 h2 => .nx ρ2 h2
      | r => r) _ _
    rw [seq_nx (ρ1 := [some (.obj i), some (.int m), some (.lst ((cs.drop m).map fun q => fo (od q))), z]) (h1 := h) (by simp only [eV0, eVs, bind_ok', then_ok, q_e2, q_e1, q_eC, q_aC, q_aN, q_sPar2, q_sPar3, q_sSet, q_sRet, q_eBf, q_nBf, q_eCall, q_tst, q_tru, q_ifV, q_sIf, q_eTup, q_sPass, q_sExp, q_eLm, q_nLst, q_frz, q_thaw, q_iSeq, q_iR2, q_iR3, q_iEnumD, q_iZip, q_andX, q_andT, q_orT, q_notT, q_eCh, q_sPat, q_eSl, q_nSl, q_pS, q_pN, q_sRetN, q_tYes, q_eDct0, okL0, okL1, okL2, okL3, okL4, okL5, okL6, ent, List.map_cons, List.map_nil, List.length_cons, List.length_nil, List.set_cons_zero, List.set_cons_succ, List.replicate, List.cons_append, List.nil_append, Nat.reduceAdd, Nat.reduceSub, Nat.sub_self, Nat.sub_zero, zero_add', ↓reduceIte, Bool.false_eq_true, item0, item1, addD_ii, subD_ii, negD_i, absD_i, ltD_ii, leD_ii, gtD_ii, geD_ii, truD_bl, decide_true, decide_false, c])]
    rw [q_sIf, tq, then_ok]
    by_cases g : good (cs.drop m) = true
    · rw [g, Bool.not_true, if_neg Bool.false_ne_true]
      rw [if_pos g] at fa
      exact first_loop t hs hl ha m _ _ _ (by omega) fa
    · have g' : good (cs.drop m) = false := by simpa using g
      rw [g', Bool.not_false, if_pos rfl]
      rw [if_neg g] at fa
      exact ⟨m, Ff_drop m (by omega) 0 fa, rfl, rfl⟩
def dueD : Option Nat → D
  | none => .int 0
  | some k => .int k
theorem from_eq {cs : List Rat} {a i : Nat} {h : Hs} (t : TrAt h i cs) (hs : ∀ q ∈ cs, Sz a q) (h1 : 1 ≤ cs.length) (hl : 1 + cs.length * (2 * a + 3) ≤ 4000) (ha : a ≤ 900) : m_from_which [.obj i] h = .ok (dueD (Ff cs)) h := by
  refine eq_of_wp ?_
  unfold m_from_which c_from_which
  simp only [eV0, eVs, bind_ok', then_ok, q_e2, q_e1, q_eC, q_aC, q_aN, q_sPar2, q_sPar3, q_sSet, q_sRet, q_eBf, q_nBf, q_eCall, q_tst, q_tru, q_ifV, q_sIf, q_eTup, q_sPass, q_sExp, q_eLm, q_nLst, q_frz, q_thaw, q_iSeq, q_iR2, q_iR3, q_iEnumD, q_iZip, q_andX, q_andT, q_orT, q_notT, q_eCh, q_sPat, q_eSl, q_nSl, q_pS, q_pN, q_sRetN, q_tYes, q_eDct0, okL0, okL1, okL2, okL3, okL4, okL5, okL6, ent, List.map_cons, List.map_nil, List.length_cons, List.length_nil, List.set_cons_zero, List.set_cons_succ, List.replicate, List.cons_append, List.nil_append, Nat.reduceAdd, Nat.reduceSub, Nat.sub_self, Nat.sub_zero, zero_add', ↓reduceIte, Bool.false_eq_true, item0, item1, addD_ii, subD_ii, negD_i, absD_i, ltD_ii, leD_ii, gtD_ii, geD_ii, truD_bl, decide_true, decide_false, wp_ok, wp_bad, wp_bind, wp_nox, wp_def, wps_then, wps_seq, wps_nx, wps_ret, wp_ite, wps_ite]
  unfold m_first_from c_first_from
  have f : ∀ ρ : Env, eFld "Trials" "chances" (eV 0) (some (.obj i) :: ρ) h = .ok (.tup (cs.map fr)) h := fun ρ => fld_ch t eV0
  have ok : (okI ((cs.length : Int) - 1) && okI (-1) && true) = true := by
    have hc : cs.length ≤ 4000 := by
      have : cs.length * 1 ≤ cs.length * (2 * a + 3) := Nat.mul_le_mul_left _ (by omega)
      omega
    rw [okI_of (by omega) (by omega), okI_of (by omega) (by omega)]
    rfl
  have tn : (((cs.length : Int) - 1) - -1).toNat = cs.length := by omega
  simp only [eV0, eVs, bind_ok', then_ok, q_e2, q_e1, q_eC, q_aC, q_aN, q_sPar2, q_sPar3, q_sSet, q_sRet, q_eBf, q_nBf, q_eCall, q_tst, q_tru, q_ifV, q_sIf, q_eTup, q_sPass, q_sExp, q_eLm, q_nLst, q_frz, q_thaw, q_iSeq, q_iR2, q_iR3, q_iEnumD, q_iZip, q_andX, q_andT, q_orT, q_notT, q_eCh, q_sPat, q_eSl, q_nSl, q_pS, q_pN, q_sRetN, q_tYes, q_eDct0, okL0, okL1, okL2, okL3, okL4, okL5, okL6, ent, List.map_cons, List.map_nil, List.length_cons, List.length_nil, List.set_cons_zero, List.set_cons_succ, List.replicate, List.cons_append, List.nil_append, Nat.reduceAdd, Nat.reduceSub, Nat.sub_self, Nat.sub_zero, zero_add', ↓reduceIte, Bool.false_eq_true, item0, item1, addD_ii, subD_ii, negD_i, absD_i, ltD_ii, leD_ii, gtD_ii, geD_ii, truD_bl, decide_true, decide_false, wp_ok, wp_bad, wp_bind, wp_nox, wp_def, wps_then, wps_seq, wps_nx, wps_ret, wp_ite, wps_ite, wps_for, f, lenD_tup, List.length_map, ok, tn]
  refine wps_mono (first_loop t hs hl ha cs.length none none none (Nat.le_refl _) (by rw [List.drop_length]; rfl)) (fun ρ h' ⟨e, eh⟩ => ?_) fun d h' ⟨k, e, ed, eh⟩ => ?_
  · rw [e]
    exact ⟨rfl, eh⟩
  · rw [e]
    exact ⟨ed, eh⟩
end Pl

/-! Plain laws, 8: the law's own way to it; its facts. -/
namespace Pl
open Dl Sh
local instance : Dl.Tb := ⟨fun _ => []⟩

theorem inv_nn {x : Rat} (h : 0 ≤ x) : 0 ≤ x⁻¹ := by
  by_cases z : x = 0
  · rw [z, Rat.inv_zero]
    exact Rat.le_refl
  · exact Rat.le_of_lt (Rat.inv_pos.mpr (Rat.lt_of_le_of_ne h fun e => z e.symm))
/-! ### a trial ahead, a trial behind -/
end Pl

/-! Plain laws, 9: texts that are shown, compared; the tape made; draws of chances. -/
namespace Pl
open Dl Sh
local instance : Dl.Tb := ⟨fun _ => []⟩

/-! ### the tape is made -/
theorem slD_scr_to {ns : List Int} {m : Nat} {h : Hs} : sliceD (.scr ns) none (some (m : Int)) h = .ok (.lst ((ns.take m).map D.int)) h := by
  rw [show sliceD (.scr ns) none (some (m : Int)) h = ((Dl.R.ok ((cutL ns none (some (m : Int))).map D.int) h : Dl.R (List D)).bind fun xs h1 => .ok (.lst xs) h1) from rfl, cutL_to]
  rfl
theorem pow_1018 {h : Hs} : powD (.int 10) (.int 18) h = .ok (.int 1000000000000000000) h := nr rfl
end Pl

/-! Plain laws, 10: chances that are drawn. -/
namespace Pl
open Dl Sh
local instance : Dl.Tb := ⟨fun _ => []⟩

theorem iR1_eq {cs : Env → M (List D)} {ρ : Env} {h h' : Hs} {n : Nat} (e : cs ρ h = .ok [.int n] h') (l : n ≤ 1000000) : iR1 cs ρ h = .ok ⟨rng 0 1 n, []⟩ h' := by
  rw [q_iR1, e, bind_ok']
  show (if okI n = true then Dl.R.ok (ItD.mk (rng 0 1 ((n : Int)).toNat) []) h' else .bad) = _
  rw [if_pos (okI_of (by omega) (by omega)), Int.toNat_natCast]
theorem Ge.set' {h h' : Hs} {i : Nat} {o : DO} (g : Ge h h') (hi : h.length ≤ i) : Ge h (h'.set i o) := ⟨by rw [List.length_set]; exact g.len, fun j h1 h2 => by rw [List.getElem?_set_ne (by omega)]; exact g.keep j h1 h2⟩
end Pl

/-! Plain laws, 11: draws in general; the hand. -/
namespace Pl
open Dl Sh
local instance : Dl.Tb := ⟨fun _ => []⟩

/-- what stood from b on stands -/
structure Gb (b : Nat) (h h' : Hs) : Prop where
  len : h.length ≤ h'.length
  keep : ∀ j, b ≤ j → j < h.length → h'[j]? = h[j]?
section
variable {b : Nat}
theorem Gb.refl {h : Hs} : Gb b h h := ⟨Nat.le_refl _, fun _ _ _ => rfl⟩
theorem Gb.trans {x y z : Hs} (p : Gb b x y) (q : Gb b y z) : Gb b x z := ⟨Nat.le_trans p.len q.len, fun j h1 h2 => (q.keep j h1 (Nat.lt_of_lt_of_le h2 p.len)).trans (p.keep j h1 h2)⟩
theorem Gb.set {h : Hs} {i : Nat} {o : DO} (hi : i < b) : Gb b h (h.set i o) := ⟨by rw [List.length_set]; exact Nat.le_refl _, fun j h1 _ => List.getElem?_set_ne (by omega)⟩
theorem Gb.app {h : Hs} {l : List DO} : Gb b h (h ++ l) := ⟨by rw [List.length_append]; omega, fun j _ h2 => List.getElem?_append_left h2⟩
theorem Gb.at {h h' : Hs} (g : Gb b h h') {j : Nat} {o : DO} (hj : b ≤ j) (e : h[j]? = some o) : h'[j]? = some o := (g.keep j hj (List.getElem?_eq_some_iff.mp e).1).trans e
theorem Gb.set' {h h' : Hs} {i : Nat} {o : DO} (g : Gb b h h') (hi : h.length ≤ i) : Gb b h (h'.set i o) := ⟨by rw [List.length_set]; exact g.len, fun j h1 h2 => by rw [List.getElem?_set_ne (by omega)]; exact g.keep j h1 h2⟩
end
/-- a way to draw: dm, with the thing o, what stands below b -/
structure Dr (dm : List D → M D) (o : D) (b : Nat) (T : Hs → Nat → Prop) : Prop where
  len : ∀ {h N}, T h N → b ≤ h.length
  app : ∀ {h N} {l : List DO}, T h N → T (h ++ l) N
  set : ∀ {h N i} {x : DO}, T h N → b ≤ i → T (h.set i x) N
  mono : ∀ {h N M}, T h N → N ≤ M → T h M
  draw : ∀ {h : Hs} {N : Nat} {sides : Int} {Q : D → Hs → Prop}, T h N → 0 < sides → sides < 18446744073709551616 → N < 1000000 → (∀ d h', 0 ≤ d → d < sides → T h' (N + 1) → Gb b h h' → Q (.int d) h') → Wp (dm [o, .int sides] h) Q
section
variable {dm : List D → M D} {o : D} {b : Nat} {T : Hs → Nat → Prop} (R : Dr dm o b T)
include R
theorem Dr.any {h : Hs} {N : Nat} {xs : List D} {Q : D → Hs → Prop} (t : T h N) (hx : xs ≠ []) (hl : xs.length ≤ 1000000) (hN : N < 1000000) (k : ∀ d h', d ∈ xs → T h' (N + 1) → Gb b h h' → Q d h') : Wp (mDef 2 (sRet (e2 itemD (eV 1) (eCall 2 dm (aC (eV 0) (aC (eBf lenD (aC (eV 1) aN)) aN))))) [o, .lst xs] h) Q := by
  have hp : 0 < xs.length := List.length_pos_iff.mpr hx
  simp only [eV0, eVs, bind_ok', then_ok, q_e2, q_e1, q_eC, q_aC, q_aN, q_sPar2, q_sPar3, q_sSet, q_sRet, q_eBf, q_nBf, q_eCall, q_tst, q_tru, q_ifV, q_sIf, q_eTup, q_sPass, q_sExp, q_eLm, q_nLst, q_frz, q_thaw, q_iSeq, q_iR2, q_iR3, q_iEnumD, q_iZip, q_andX, q_andT, q_orT, q_notT, q_eCh, q_sPat, q_eSl, q_nSl, q_pS, q_pN, q_sRetN, q_tYes, q_eDct0, okL0, okL1, okL2, okL3, okL4, okL5, okL6, ent, List.map_cons, List.map_nil, List.length_cons, List.length_nil, List.set_cons_zero, List.set_cons_succ, List.replicate, List.cons_append, List.nil_append, Nat.reduceAdd, Nat.reduceSub, Nat.sub_self, Nat.sub_zero, zero_add', ↓reduceIte, Bool.false_eq_true, item0, item1, addD_ii, subD_ii, negD_i, absD_i, ltD_ii, leD_ii, gtD_ii, geD_ii, truD_bl, decide_true, decide_false, wp_ok, wp_bad, wp_bind, wp_nox, wp_def, wps_then, wps_seq, wps_nx, wps_ret, wp_ite, wps_ite, lenD_lst]
  refine R.draw t (sides := xs.length) (by omega) (by omega) hN fun d h' d0 d1 t' g => ?_
  obtain ⟨i, rfl⟩ : ∃ i : Nat, d = i := ⟨d.toNat, by omega⟩
  have hi : i < xs.length := by omega
  rw [item_lst (List.getElem?_eq_getElem hi), wp_ok]
  exact k _ _ (List.getElem_mem hi) t' g
end
/-! ### the hand -/
/-- the hand stands at 0; N bounds the draws so far -/
structure Hd (h : Hs) (N : Nat) : Prop where
  ex : ∃ (cs : List Int) (p : Nat) (z s n : Int), h[0]? = some (.lst [.lst (cs.map D.int), .int p, .int z, .int s, .int n]) ∧ (∀ c ∈ cs, 0 ≤ c ∧ PySem.Builtin.Int.intBits c ≤ 1048576) ∧ 0 ≤ z ∧ 0 ≤ s ∧ s < 4294967296 ∧ 0 ≤ n ∧ n ≤ N
theorem Hd.one {h : Hs} {N : Nat} (t : Hd h N) : 1 ≤ h.length := by
  obtain ⟨cs, p, z, s, n, h1, _⟩ := t.ex
  exact (List.getElem?_eq_some_iff.mp h1).1
/-- a draw from the hand, its number put on by e3 -/
def cHand (e3 : Env → M D) : SM := sSeq (sIf (andT (tst (e2 eqD (e2 itemD (eV 0) (eC (.int 2))) (eC (.int 0)))) (tst (e2 ltD (e2 itemD (eV 0) (eC (.int 1))) (eBf lenD (aC (e2 itemD (eV 0) (eC (.int 0))) aN))))) (sSeq (sSet 2 (e2 itemD (e2 itemD (eV 0) (eC (.int 0))) (e2 itemD (eV 0) (eC (.int 1))))) (sSeq (sStore (e2 addD (e2 itemD (eV 0) (eC (.int 1))) (eC (.int 1))) (eV 0) (eC (.int 1))) (sSeq (sStore (e2 modD (eBf intD (aC e3 aN)) (eC (.int 2147483629))) (eV 0) (eC (.int 3))) (sIf (tst (e2 geD (eV 2) (e2 powD (eC (.int 10)) (eC (.int 18))))) (sStore (eV 2) (eV 0) (eC (.int 2))) (sPass))))) (sPass)) (sSeq (sIf (tst (e2 gtD (e2 itemD (eV 0) (eC (.int 2))) (eC (.int 0)))) (sSeq (sSet 3 (e2 modD (eBf intD (aC (e2 itemD (eV 0) (eC (.int 2))) aN)) (eV 1))) (sSeq (sStore (e2 divD (e2 itemD (eV 0) (eC (.int 2))) (eV 1)) (eV 0) (eC (.int 2))) (sRet (eV 3)))) (sPass)) (sSeq (sStore (e2 addD (e2 itemD (eV 0) (eC (.int 4))) (eC (.int 1))) (eV 0) (eC (.int 4))) (sSeq (sSet 4 (e2 modD (eBf intD (aC (e2 mulD (eBf intD (aC (e2 addD (e2 itemD (eV 0) (eC (.int 3))) (e2 mulD (eC (.int 7919)) (e2 itemD (eV 0) (eC (.int 4))))) aN)) (eC (.int 48271))) aN)) (eC (.int 2147483647)))) (sSeq (sSet 4 (e2 modD (eBf intD (aC (e2 mulD (eV 4) (e2 addD (e2 divD (eV 4) (eC (.int 1009))) (eC (.int 69621)))) aN)) (eC (.int 2147483647)))) (sSeq (sSet 4 (e2 modD (eBf intD (aC (e2 mulD (eV 4) (e2 addD (e2 divD (eV 4) (eC (.int 2003))) (eC (.int 40692)))) aN)) (eC (.int 2147483399)))) (sRet (e2 modD (eBf intD (aC (e2 divD (eV 4) (eC (.int 16))) aN)) (eV 1))))))))
theorem hand_draw {e3 : Env → M D} (he : ∀ (h : Hs) (l z n : D) (p s c : Int) (a b d : Option D), h[0]? = some (.lst [l, .int p, z, .int s, n]) → 0 ≤ s → s < 4294967296 → 0 ≤ c → PySem.Builtin.Int.intBits c ≤ 1048576 → ∃ v, e3 [some (.obj 0), a, some (.int c), b, d] h = .ok (.int v) h) {h : Hs} {N : Nat} {sides : Int} {Q : D → Hs → Prop} (t : Hd h N) (h0 : 0 < sides) (hs : sides < 18446744073709551616) (hN : N < 1000000) (k : ∀ d h', 0 ≤ d → d < sides → Hd h' (N + 1) → Gb 1 h h' → Q (.int d) h') : Wp (mDef 5 (cHand e3) [.obj 0, .int sides] h) Q := by
  have one := t.one
  have e1 : ent 5 [D.obj 0, .int sides] = [some (.obj 0), some (.int sides), none, none, none] := rfl
  -- the end, no cell to be used up
  have last : ∀ (g : Hs) (cs : List Int) (p : Nat) (z s n : Int) (a2 a3 : Option D), g[0]? = some (.lst [.lst (cs.map D.int), .int p, .int z, .int s, .int n]) → (∀ c ∈ cs, 0 ≤ c ∧ PySem.Builtin.Int.intBits c ≤ 1048576) → 0 ≤ z → 0 ≤ s → s < 4294967296 → 0 ≤ n → n ≤ N → Gb 1 h g →
      WpS (sSeq (sIf (tst (e2 gtD (e2 itemD (eV 0) (eC (.int 2))) (eC (.int 0)))) (sSeq (sSet 3 (e2 modD (eBf intD (aC (e2 itemD (eV 0) (eC (.int 2))) aN)) (eV 1))) (sSeq (sStore (e2 divD (e2 itemD (eV 0) (eC (.int 2))) (eV 1)) (eV 0) (eC (.int 2))) (sRet (eV 3)))) (sPass)) (sSeq (sStore (e2 addD (e2 itemD (eV 0) (eC (.int 4))) (eC (.int 1))) (eV 0) (eC (.int 4))) (sSeq (sSet 4 (e2 modD (eBf intD (aC (e2 mulD (eBf intD (aC (e2 addD (e2 itemD (eV 0) (eC (.int 3))) (e2 mulD (eC (.int 7919)) (e2 itemD (eV 0) (eC (.int 4))))) aN)) (eC (.int 48271))) aN)) (eC (.int 2147483647)))) (sSeq (sSet 4 (e2 modD (eBf intD (aC (e2 mulD (eV 4) (e2 addD (e2 divD (eV 4) (eC (.int 1009))) (eC (.int 69621)))) aN)) (eC (.int 2147483647)))) (sSeq (sSet 4 (e2 modD (eBf intD (aC (e2 mulD (eV 4) (e2 addD (e2 divD (eV 4) (eC (.int 2003))) (eC (.int 40692)))) aN)) (eC (.int 2147483399)))) (sRet (e2 modD (eBf intD (aC (e2 divD (eV 4) (eC (.int 16))) aN)) (eV 1))))))) [some (.obj 0), some (.int sides), a2, a3, none] g) (fun _ h => Q .non h) Q := by
    intro g cs p z s n a2 a3 g0 hc z0 s0 s1 n0 n1 gg
    have lg : 0 < g.length := (List.getElem?_eq_some_iff.mp g0).1
    have i2 : itemD (.obj 0) (.int 2) g = .ok (.int z) g := item_obj (i := 2) g0 rfl
    simp only [eV0, eVs, bind_ok', then_ok, q_e2, q_e1, q_eC, q_aC, q_aN, q_sPar2, q_sPar3, q_sSet, q_sRet, q_eBf, q_nBf, q_eCall, q_tst, q_tru, q_ifV, q_sIf, q_eTup, q_sPass, q_sExp, q_eLm, q_nLst, q_frz, q_thaw, q_iSeq, q_iR2, q_iR3, q_iEnumD, q_iZip, q_andX, q_andT, q_orT, q_notT, q_eCh, q_sPat, q_eSl, q_nSl, q_pS, q_pN, q_sRetN, q_tYes, q_eDct0, okL0, okL1, okL2, okL3, okL4, okL5, okL6, ent, List.map_cons, List.map_nil, List.length_cons, List.length_nil, List.set_cons_zero, List.set_cons_succ, List.replicate, List.cons_append, List.nil_append, Nat.reduceAdd, Nat.reduceSub, Nat.sub_self, Nat.sub_zero, zero_add', ↓reduceIte, Bool.false_eq_true, item0, item1, addD_ii, subD_ii, negD_i, absD_i, ltD_ii, leD_ii, gtD_ii, geD_ii, truD_bl, decide_true, decide_false, wp_ok, wp_bad, wp_bind, wp_nox, wp_def, wps_then, wps_seq, wps_nx, wps_ret, wp_ite, wps_ite, i2]
    by_cases zp : 0 < z
    · have st : setItemD (.obj 0) (.int 2) (.int (z / sides)) g = some (g.set 0 (.lst [.lst (cs.map D.int), .int p, .int (z / sides), .int s, .int n])) := set_obj (i := 2) g0 (by simp)
      simp only [decide_eq_true zp, eV0, eVs, bind_ok', then_ok, q_e2, q_e1, q_eC, q_aC, q_aN, q_sPar2, q_sPar3, q_sSet, q_sRet, q_eBf, q_nBf, q_eCall, q_tst, q_tru, q_ifV, q_sIf, q_eTup, q_sPass, q_sExp, q_eLm, q_nLst, q_frz, q_thaw, q_iSeq, q_iR2, q_iR3, q_iEnumD, q_iZip, q_andX, q_andT, q_orT, q_notT, q_eCh, q_sPat, q_eSl, q_nSl, q_pS, q_pN, q_sRetN, q_tYes, q_eDct0, okL0, okL1, okL2, okL3, okL4, okL5, okL6, ent, List.map_cons, List.map_nil, List.length_cons, List.length_nil, List.set_cons_zero, List.set_cons_succ, List.replicate, List.cons_append, List.nil_append, Nat.reduceAdd, Nat.reduceSub, Nat.sub_self, Nat.sub_zero, zero_add', ↓reduceIte, Bool.false_eq_true, item0, item1, addD_ii, subD_ii, negD_i, absD_i, ltD_ii, leD_ii, gtD_ii, geD_ii, truD_bl, decide_true, decide_false, wp_ok, wp_bad, wp_bind, wp_nox, wp_def, wps_then, wps_seq, wps_nx, wps_ret, wp_ite, wps_ite, wps_store, i2, intD_i, modD_ii h0, divD_ii (okDiv_small (i := z) h0 (by omega)), st]
      refine k _ _ (Int.emod_nonneg _ (by omega)) (Int.emod_lt_of_pos _ h0) ⟨cs, p, z / sides, s, n, List.getElem?_set_self lg, hc, Int.ediv_nonneg z0 (by omega), s0, s1, n0, by omega⟩ (gg.trans (.set (by decide)))
    · have i4 : itemD (.obj 0) (.int 4) g = .ok (.int n) g := item_obj (i := 4) g0 rfl
      have st : setItemD (.obj 0) (.int 4) (.int (n + 1)) g = some (g.set 0 (.lst [.lst (cs.map D.int), .int p, .int z, .int s, .int (n + 1)])) := set_obj (i := 4) g0 (by simp)
      simp only [decide_eq_false zp, eV0, eVs, bind_ok', then_ok, q_e2, q_e1, q_eC, q_aC, q_aN, q_sPar2, q_sPar3, q_sSet, q_sRet, q_eBf, q_nBf, q_eCall, q_tst, q_tru, q_ifV, q_sIf, q_eTup, q_sPass, q_sExp, q_eLm, q_nLst, q_frz, q_thaw, q_iSeq, q_iR2, q_iR3, q_iEnumD, q_iZip, q_andX, q_andT, q_orT, q_notT, q_eCh, q_sPat, q_eSl, q_nSl, q_pS, q_pN, q_sRetN, q_tYes, q_eDct0, okL0, okL1, okL2, okL3, okL4, okL5, okL6, ent, List.map_cons, List.map_nil, List.length_cons, List.length_nil, List.set_cons_zero, List.set_cons_succ, List.replicate, List.cons_append, List.nil_append, Nat.reduceAdd, Nat.reduceSub, Nat.sub_self, Nat.sub_zero, zero_add', ↓reduceIte, Bool.false_eq_true, item0, item1, addD_ii, subD_ii, negD_i, absD_i, ltD_ii, leD_ii, gtD_ii, geD_ii, truD_bl, decide_true, decide_false, wp_ok, wp_bad, wp_bind, wp_nox, wp_def, wps_then, wps_seq, wps_nx, wps_ret, wp_ite, wps_ite, wps_store, sPass, i4, st]
      have f0 : (g.set 0 (.lst [.lst (cs.map D.int), .int p, .int z, .int s, .int (n + 1)]))[0]? = some (.lst [.lst (cs.map D.int), .int p, .int z, .int s, .int (n + 1)]) := List.getElem?_set_self lg
      have ff : Gb 1 h (g.set 0 (.lst [.lst (cs.map D.int), .int p, .int z, .int s, .int (n + 1)])) := gg.trans (.set (by decide))
      generalize g.set 0 (.lst [.lst (cs.map D.int), .int p, .int z, .int s, .int (n + 1)]) = f at f0 ff ⊢
      have j3 : itemD (.obj 0) (.int 3) f = .ok (.int s) f := item_obj (i := 3) f0 rfl
      have j4 : itemD (.obj 0) (.int 4) f = .ok (.int (n + 1)) f := item_obj (i := 4) f0 rfl
      have m1 : okMul 7919 (n + 1) = true := okMul_small (by decide +kernel) (small_lt (by omega))
      have m2 : okMul (s + 7919 * (n + 1)) 48271 = true := okMul_small (small_lt (by omega)) (by decide +kernel)
      have b0 := Int.emod_nonneg ((s + 7919 * (n + 1)) * 48271) (show (2147483647 : Int) ≠ 0 by decide)
      have b1 := Int.emod_lt_of_pos ((s + 7919 * (n + 1)) * 48271) (show (0 : Int) < 2147483647 by decide)
      simp only [eV0, eVs, bind_ok', then_ok, q_e2, q_e1, q_eC, q_aC, q_aN, q_sPar2, q_sPar3, q_sSet, q_sRet, q_eBf, q_nBf, q_eCall, q_tst, q_tru, q_ifV, q_sIf, q_eTup, q_sPass, q_sExp, q_eLm, q_nLst, q_frz, q_thaw, q_iSeq, q_iR2, q_iR3, q_iEnumD, q_iZip, q_andX, q_andT, q_orT, q_notT, q_eCh, q_sPat, q_eSl, q_nSl, q_pS, q_pN, q_sRetN, q_tYes, q_eDct0, okL0, okL1, okL2, okL3, okL4, okL5, okL6, ent, List.map_cons, List.map_nil, List.length_cons, List.length_nil, List.set_cons_zero, List.set_cons_succ, List.replicate, List.cons_append, List.nil_append, Nat.reduceAdd, Nat.reduceSub, Nat.sub_self, Nat.sub_zero, zero_add', ↓reduceIte, Bool.false_eq_true, item0, item1, addD_ii, subD_ii, negD_i, absD_i, ltD_ii, leD_ii, gtD_ii, geD_ii, truD_bl, decide_true, decide_false, wp_ok, wp_bad, wp_bind, wp_nox, wp_def, wps_then, wps_seq, wps_nx, wps_ret, wp_ite, wps_ite, j3, j4, mulD_ii m1, mulD_ii m2, intD_i, modD_ii (show (0 : Int) < 2147483647 by decide)]
      generalize (s + 7919 * (n + 1)) * 48271 % 2147483647 = x at b0 b1 ⊢
      obtain ⟨m3, _⟩ := mixed_le b0 b1
      have c0 := Int.emod_nonneg (x * (x / 1009 + 69621)) (show (2147483647 : Int) ≠ 0 by decide)
      have c1 := Int.emod_lt_of_pos (x * (x / 1009 + 69621)) (show (0 : Int) < 2147483647 by decide)
      simp only [eV0, eVs, bind_ok', then_ok, q_e2, q_e1, q_eC, q_aC, q_aN, q_sPar2, q_sPar3, q_sSet, q_sRet, q_eBf, q_nBf, q_eCall, q_tst, q_tru, q_ifV, q_sIf, q_eTup, q_sPass, q_sExp, q_eLm, q_nLst, q_frz, q_thaw, q_iSeq, q_iR2, q_iR3, q_iEnumD, q_iZip, q_andX, q_andT, q_orT, q_notT, q_eCh, q_sPat, q_eSl, q_nSl, q_pS, q_pN, q_sRetN, q_tYes, q_eDct0, okL0, okL1, okL2, okL3, okL4, okL5, okL6, ent, List.map_cons, List.map_nil, List.length_cons, List.length_nil, List.set_cons_zero, List.set_cons_succ, List.replicate, List.cons_append, List.nil_append, Nat.reduceAdd, Nat.reduceSub, Nat.sub_self, Nat.sub_zero, zero_add', ↓reduceIte, Bool.false_eq_true, item0, item1, addD_ii, subD_ii, negD_i, absD_i, ltD_ii, leD_ii, gtD_ii, geD_ii, truD_bl, decide_true, decide_false, wp_ok, wp_bad, wp_bind, wp_nox, wp_def, wps_then, wps_seq, wps_nx, wps_ret, wp_ite, wps_ite, divD_ii (okDiv_small (i := x) (j := 1009) (by decide) (by decide)), mulD_ii m3, intD_i, modD_ii (show (0 : Int) < 2147483647 by decide)]
      generalize x * (x / 1009 + 69621) % 2147483647 = y at c0 c1 ⊢
      obtain ⟨_, m4⟩ := mixed_le c0 c1
      simp only [eV0, eVs, bind_ok', then_ok, q_e2, q_e1, q_eC, q_aC, q_aN, q_sPar2, q_sPar3, q_sSet, q_sRet, q_eBf, q_nBf, q_eCall, q_tst, q_tru, q_ifV, q_sIf, q_eTup, q_sPass, q_sExp, q_eLm, q_nLst, q_frz, q_thaw, q_iSeq, q_iR2, q_iR3, q_iEnumD, q_iZip, q_andX, q_andT, q_orT, q_notT, q_eCh, q_sPat, q_eSl, q_nSl, q_pS, q_pN, q_sRetN, q_tYes, q_eDct0, okL0, okL1, okL2, okL3, okL4, okL5, okL6, ent, List.map_cons, List.map_nil, List.length_cons, List.length_nil, List.set_cons_zero, List.set_cons_succ, List.replicate, List.cons_append, List.nil_append, Nat.reduceAdd, Nat.reduceSub, Nat.sub_self, Nat.sub_zero, zero_add', ↓reduceIte, Bool.false_eq_true, item0, item1, addD_ii, subD_ii, negD_i, absD_i, ltD_ii, leD_ii, gtD_ii, geD_ii, truD_bl, decide_true, decide_false, wp_ok, wp_bad, wp_bind, wp_nox, wp_def, wps_then, wps_seq, wps_nx, wps_ret, wp_ite, wps_ite, divD_ii (okDiv_small (i := y) (j := 2003) (by decide) (by decide)), mulD_ii m4, intD_i, modD_ii (show (0 : Int) < 2147483399 by decide)]
      generalize y * (y / 2003 + 40692) % 2147483399 = u
      simp only [eV0, eVs, bind_ok', then_ok, q_e2, q_e1, q_eC, q_aC, q_aN, q_sPar2, q_sPar3, q_sSet, q_sRet, q_eBf, q_nBf, q_eCall, q_tst, q_tru, q_ifV, q_sIf, q_eTup, q_sPass, q_sExp, q_eLm, q_nLst, q_frz, q_thaw, q_iSeq, q_iR2, q_iR3, q_iEnumD, q_iZip, q_andX, q_andT, q_orT, q_notT, q_eCh, q_sPat, q_eSl, q_nSl, q_pS, q_pN, q_sRetN, q_tYes, q_eDct0, okL0, okL1, okL2, okL3, okL4, okL5, okL6, ent, List.map_cons, List.map_nil, List.length_cons, List.length_nil, List.set_cons_zero, List.set_cons_succ, List.replicate, List.cons_append, List.nil_append, Nat.reduceAdd, Nat.reduceSub, Nat.sub_self, Nat.sub_zero, zero_add', ↓reduceIte, Bool.false_eq_true, item0, item1, addD_ii, subD_ii, negD_i, absD_i, ltD_ii, leD_ii, gtD_ii, geD_ii, truD_bl, decide_true, decide_false, wp_ok, wp_bad, wp_bind, wp_nox, wp_def, wps_then, wps_seq, wps_nx, wps_ret, wp_ite, wps_ite, divD_ii (okDiv_small (i := u) (j := 16) (by decide) (by decide)), intD_i, modD_ii h0]
      exact k _ _ (Int.emod_nonneg _ (by omega)) (Int.emod_lt_of_pos _ h0) ⟨cs, p, z, s, n + 1, f0, hc, z0, s0, s1, by omega, by omega⟩ ff
  obtain ⟨cs, p, z, s, n, g0, hc, z0, s0, s1, n0, n1⟩ := t.ex
  have i0 : itemD (.obj 0) (.int 0) h = .ok (.lst (cs.map D.int)) h := item_obj (i := 0) g0 rfl
  have i1 : itemD (.obj 0) (.int 1) h = .ok (.int p) h := item_obj (i := 1) g0 rfl
  have i2 : itemD (.obj 0) (.int 2) h = .ok (.int z) h := item_obj (i := 2) g0 rfl
  rw [wp_def, e1]
  unfold cHand
  rw [wps_seq]
  refine wps_mono (N := fun ρ g => ∃ (cs : List Int) (p : Nat) (z s n : Int) (a2 : Option D), ρ = [some (.obj 0), some (.int sides), a2, none, none] ∧ g[0]? = some (.lst [.lst (cs.map D.int), .int p, .int z, .int s, .int n]) ∧ (∀ c ∈ cs, 0 ≤ c ∧ PySem.Builtin.Int.intBits c ≤ 1048576) ∧ 0 ≤ z ∧ 0 ≤ s ∧ s < 4294967296 ∧ 0 ≤ n ∧ n ≤ N ∧ Gb 1 h g) (T := fun d h => Q d h) ?_ (fun ρ g ⟨cs, p, z, s, n, a2, e, g0, r1, r2, r3, r4, r5, r6, r7⟩ => by rw [e]; exact last g cs p z s n a2 none g0 r1 r2 r3 r4 r5 r6 r7) (fun _ _ q => q)
  rw [q_sIf, wps_then, q_andT]
  simp only [eV0, eVs, bind_ok', then_ok, q_e2, q_e1, q_eC, q_aC, q_aN, q_sPar2, q_sPar3, q_sSet, q_sRet, q_eBf, q_nBf, q_eCall, q_tst, q_tru, q_ifV, q_sIf, q_eTup, q_sPass, q_sExp, q_eLm, q_nLst, q_frz, q_thaw, q_iSeq, q_iR2, q_iR3, q_iEnumD, q_iZip, q_andX, q_andT, q_orT, q_notT, q_eCh, q_sPat, q_eSl, q_nSl, q_pS, q_pN, q_sRetN, q_tYes, q_eDct0, okL0, okL1, okL2, okL3, okL4, okL5, okL6, ent, List.map_cons, List.map_nil, List.length_cons, List.length_nil, List.set_cons_zero, List.set_cons_succ, List.replicate, List.cons_append, List.nil_append, Nat.reduceAdd, Nat.reduceSub, Nat.sub_self, Nat.sub_zero, zero_add', ↓reduceIte, Bool.false_eq_true, item0, item1, addD_ii, subD_ii, negD_i, absD_i, ltD_ii, leD_ii, gtD_ii, geD_ii, truD_bl, decide_true, decide_false, wp_ok, wp_bad, wp_bind, wp_nox, wp_def, wps_then, wps_seq, wps_nx, wps_ret, wp_ite, wps_ite, i0, i1, i2, eqD_ii, lenD_lst, List.length_map]
  by_cases zz : z = 0
  · simp only [decide_eq_true zz, ↓reduceIte, wp_ok]
    by_cases pl : (p : Int) < cs.length
    · have pn : p < cs.length := by omega
      obtain ⟨c0, cb⟩ := hc _ (List.getElem_mem pn)
      have ic : itemD (.lst (cs.map D.int)) (.int p) h = .ok (.int cs[p]) h := item_lst (by rw [List.getElem?_map, List.getElem?_eq_getElem pn]; rfl)
      generalize cs[p] = c at c0 cb ic
      have st1 : setItemD (.obj 0) (.int 1) (.int ((p : Int) + 1)) h = some (h.set 0 (.lst [.lst (cs.map D.int), .int ((p + 1 : Nat) : Int), .int z, .int s, .int n])) := by
        have := set_obj (i := 1) (v := .int ((p : Int) + 1)) g0 (by simp)
        simpa using this
      simp only [decide_eq_true pl, ↓reduceIte, wps_store, eV0, eVs, bind_ok', then_ok, q_e2, q_e1, q_eC, q_aC, q_aN, q_sPar2, q_sPar3, q_sSet, q_sRet, q_eBf, q_nBf, q_eCall, q_tst, q_tru, q_ifV, q_sIf, q_eTup, q_sPass, q_sExp, q_eLm, q_nLst, q_frz, q_thaw, q_iSeq, q_iR2, q_iR3, q_iEnumD, q_iZip, q_andX, q_andT, q_orT, q_notT, q_eCh, q_sPat, q_eSl, q_nSl, q_pS, q_pN, q_sRetN, q_tYes, q_eDct0, okL0, okL1, okL2, okL3, okL4, okL5, okL6, ent, List.map_cons, List.map_nil, List.length_cons, List.length_nil, List.set_cons_zero, List.set_cons_succ, List.replicate, List.cons_append, List.nil_append, Nat.reduceAdd, Nat.reduceSub, Nat.sub_self, Nat.sub_zero, zero_add', ↓reduceIte, Bool.false_eq_true, item0, item1, addD_ii, subD_ii, negD_i, absD_i, ltD_ii, leD_ii, gtD_ii, geD_ii, truD_bl, decide_true, decide_false, wp_ok, wp_bad, wp_bind, wp_nox, wp_def, wps_then, wps_seq, wps_nx, wps_ret, wp_ite, wps_ite, i0, i1, ic, st1]
      have f0 : (h.set 0 (.lst [.lst (cs.map D.int), .int ((p + 1 : Nat) : Int), .int z, .int s, .int n]))[0]? = some (.lst [.lst (cs.map D.int), .int ((p + 1 : Nat) : Int), .int z, .int s, .int n]) := List.getElem?_set_self (by omega)
      have ff : Gb 1 h (h.set 0 (.lst [.lst (cs.map D.int), .int ((p + 1 : Nat) : Int), .int z, .int s, .int n])) := .set (by decide)
      generalize h.set 0 (.lst [.lst (cs.map D.int), .int ((p + 1 : Nat) : Int), .int z, .int s, .int n]) = f at f0 ff ⊢
      obtain ⟨v, hv⟩ := he f _ _ _ _ s c (some (.int sides)) none none f0 s0 s1 c0 cb
      have v0 := Int.emod_nonneg v (show (2147483629 : Int) ≠ 0 by decide)
      have v1 := Int.emod_lt_of_pos v (show (0 : Int) < 2147483629 by decide)
      have lf : 0 < f.length := (List.getElem?_eq_some_iff.mp f0).1
      have st2 : setItemD (.obj 0) (.int 3) (.int (v % 2147483629)) f = some (f.set 0 (.lst [.lst (cs.map D.int), .int ((p + 1 : Nat) : Int), .int z, .int (v % 2147483629), .int n])) := set_obj (i := 3) f0 (by simp)
      simp only [hv, bind_ok', wp_ok, intD_i, modD_ii (show (0 : Int) < 2147483629 by decide), st2, wps_nx]
      generalize v % 2147483629 = s' at v0 v1 st2 ⊢
      have e0 : (f.set 0 (.lst [.lst (cs.map D.int), .int ((p + 1 : Nat) : Int), .int z, .int s', .int n]))[0]? = some (.lst [.lst (cs.map D.int), .int ((p + 1 : Nat) : Int), .int z, .int s', .int n]) := List.getElem?_set_self lf
      have ee : Gb 1 h (f.set 0 (.lst [.lst (cs.map D.int), .int ((p + 1 : Nat) : Int), .int z, .int s', .int n])) := ff.trans (.set (by decide))
      generalize f.set 0 (.lst [.lst (cs.map D.int), .int ((p + 1 : Nat) : Int), .int z, .int s', .int n]) = e at e0 ee ⊢
      have le : 0 < e.length := (List.getElem?_eq_some_iff.mp e0).1
      by_cases big : (1000000000000000000 : Int) ≤ c
      · have st3 : setItemD (.obj 0) (.int 2) (.int c) e = some (e.set 0 (.lst [.lst (cs.map D.int), .int ((p + 1 : Nat) : Int), .int c, .int s', .int n])) := set_obj (i := 2) e0 (by simp)
        simp only [pow_1018, wps_store, eV0, eVs, bind_ok', then_ok, q_e2, q_e1, q_eC, q_aC, q_aN, q_sPar2, q_sPar3, q_sSet, q_sRet, q_eBf, q_nBf, q_eCall, q_tst, q_tru, q_ifV, q_sIf, q_eTup, q_sPass, q_sExp, q_eLm, q_nLst, q_frz, q_thaw, q_iSeq, q_iR2, q_iR3, q_iEnumD, q_iZip, q_andX, q_andT, q_orT, q_notT, q_eCh, q_sPat, q_eSl, q_nSl, q_pS, q_pN, q_sRetN, q_tYes, q_eDct0, okL0, okL1, okL2, okL3, okL4, okL5, okL6, ent, List.map_cons, List.map_nil, List.length_cons, List.length_nil, List.set_cons_zero, List.set_cons_succ, List.replicate, List.cons_append, List.nil_append, Nat.reduceAdd, Nat.reduceSub, Nat.sub_self, Nat.sub_zero, zero_add', ↓reduceIte, Bool.false_eq_true, item0, item1, addD_ii, subD_ii, negD_i, absD_i, ltD_ii, leD_ii, gtD_ii, geD_ii, truD_bl, decide_true, decide_false, wp_ok, wp_bad, wp_bind, wp_nox, wp_def, wps_then, wps_seq, wps_nx, wps_ret, wp_ite, wps_ite, decide_eq_true big, st3]
        exact ⟨cs, p + 1, c, s', n, _, rfl, List.getElem?_set_self le, hc, c0, v0, by omega, n0, n1, ee.trans (.set (by decide))⟩
      · simp only [pow_1018, wps_store, eV0, eVs, bind_ok', then_ok, q_e2, q_e1, q_eC, q_aC, q_aN, q_sPar2, q_sPar3, q_sSet, q_sRet, q_eBf, q_nBf, q_eCall, q_tst, q_tru, q_ifV, q_sIf, q_eTup, q_sPass, q_sExp, q_eLm, q_nLst, q_frz, q_thaw, q_iSeq, q_iR2, q_iR3, q_iEnumD, q_iZip, q_andX, q_andT, q_orT, q_notT, q_eCh, q_sPat, q_eSl, q_nSl, q_pS, q_pN, q_sRetN, q_tYes, q_eDct0, okL0, okL1, okL2, okL3, okL4, okL5, okL6, ent, List.map_cons, List.map_nil, List.length_cons, List.length_nil, List.set_cons_zero, List.set_cons_succ, List.replicate, List.cons_append, List.nil_append, Nat.reduceAdd, Nat.reduceSub, Nat.sub_self, Nat.sub_zero, zero_add', ↓reduceIte, Bool.false_eq_true, item0, item1, addD_ii, subD_ii, negD_i, absD_i, ltD_ii, leD_ii, gtD_ii, geD_ii, truD_bl, decide_true, decide_false, wp_ok, wp_bad, wp_bind, wp_nox, wp_def, wps_then, wps_seq, wps_nx, wps_ret, wp_ite, wps_ite, decide_eq_false big, sPass]
        exact ⟨cs, p + 1, z, s', n, _, rfl, e0, hc, z0, v0, by omega, n0, n1, ee⟩
    · simp only [decide_eq_false pl, Bool.false_eq_true, ↓reduceIte, sPass, wps_nx]
      exact ⟨cs, p, z, s, n, _, rfl, g0, hc, z0, s0, s1, n0, n1, .refl⟩
  · simp only [decide_eq_false zz, Bool.false_eq_true, ↓reduceIte, sPass, wps_nx, wp_ok]
    exact ⟨cs, p, z, s, n, _, rfl, g0, hc, z0, s0, s1, n0, n1, .refl⟩
theorem hand_dr {e3 : Env → M D} (he : ∀ (h : Hs) (l z n : D) (p s c : Int) (a b d : Option D), h[0]? = some (.lst [l, .int p, z, .int s, n]) → 0 ≤ s → s < 4294967296 → 0 ≤ c → PySem.Builtin.Int.intBits c ≤ 1048576 → ∃ v, e3 [some (.obj 0), a, some (.int c), b, d] h = .ok (.int v) h) : Dr (mDef 5 (cHand e3)) (.obj 0) 1 Hd where
  len := fun t => t.one
  app := fun {h N l} t => by
    obtain ⟨cs, p, z, s, n, g0, r⟩ := t.ex
    exact ⟨cs, p, z, s, n, by rw [List.getElem?_append_left t.one]; exact g0, r⟩
  set := fun {h N i x} t hi => by
    obtain ⟨cs, p, z, s, n, g0, r⟩ := t.ex
    exact ⟨cs, p, z, s, n, by rw [List.getElem?_set_ne (by omega)]; exact g0, r⟩
  mono := fun {h N M} t l => by
    obtain ⟨cs, p, z, s, n, g0, r1, r2, r3, r4, r5, r6⟩ := t.ex
    exact ⟨cs, p, z, s, n, g0, r1, r2, r3, r4, r5, by omega⟩
  draw := fun t a b c k => hand_draw he t a b c k
end Pl

/-! Plain laws, 12: products of fractions; what is left when none is good; the shares of the last good ones. -/
namespace Pl
open Dl Sh
local instance : Dl.Tb := ⟨fun _ => []⟩

section
variable {p q : Rat} {a b : Nat} (hp : Sz a p) (hq : Sz b q) (hab : a + b ≤ 8000)
include hp hq hab
theorem product_eq (h : Hs) : m_product [fr p, fr q] h = .ok (fr (p * q)) h := by
  refine mdef_ret (h' := h) ?_
  unfold c_product
  have nn : okMul p.num q.num = true := okMul_of hp.1 hq.1 (by omega)
  simp only [eV0, eVs, bind_ok', then_ok, q_e2, q_e1, q_eC, q_aC, q_aN, q_sPar2, q_sPar3, q_sSet, q_sRet, q_eBf, q_nBf, q_eCall, q_tst, q_tru, q_ifV, q_sIf, q_eTup, q_sPass, q_sExp, q_eLm, q_nLst, q_frz, q_thaw, q_iSeq, q_iR2, q_iR3, q_iEnumD, q_iZip, q_andX, q_andT, q_orT, q_notT, q_eCh, q_sPat, q_eSl, q_nSl, q_pS, q_pN, q_sRetN, q_tYes, q_eDct0, okL0, okL1, okL2, okL3, okL4, okL5, okL6, ent, List.map_cons, List.map_nil, List.length_cons, List.length_nil, List.set_cons_zero, List.set_cons_succ, List.replicate, List.cons_append, List.nil_append, Nat.reduceAdd, Nat.reduceSub, Nat.sub_self, Nat.sub_zero, zero_add', ↓reduceIte, Bool.false_eq_true, item0, item1, addD_ii, subD_ii, negD_i, absD_i, ltD_ii, leD_ii, gtD_ii, geD_ii, truD_bl, decide_true, decide_false, fr_num, fr_den, mulD_ii nn, mulD_ii (ok_dd hp hq hab), lowest_eq _ _ h (dd_ne (p := p) (q := q)) (lt9000 hp hq hab (mul_dd hp hq))]
  rw [Rat.mul_def', ← Int.natCast_mul, Rat.divInt_ofNat]
theorem lbelow_eq (h : Hs) : m__law_below [fr p, fr q] h = .ok (.bl (decide (p < q))) h := by
  refine mdef_ret (h' := h) ?_
  unfold c__law_below
  simp only [eV0, eVs, bind_ok', then_ok, q_e2, q_e1, q_eC, q_aC, q_aN, q_sPar2, q_sPar3, q_sSet, q_sRet, q_eBf, q_nBf, q_eCall, q_tst, q_tru, q_ifV, q_sIf, q_eTup, q_sPass, q_sExp, q_eLm, q_nLst, q_frz, q_thaw, q_iSeq, q_iR2, q_iR3, q_iEnumD, q_iZip, q_andX, q_andT, q_orT, q_notT, q_eCh, q_sPat, q_eSl, q_nSl, q_pS, q_pN, q_sRetN, q_tYes, q_eDct0, okL0, okL1, okL2, okL3, okL4, okL5, okL6, ent, List.map_cons, List.map_nil, List.length_cons, List.length_nil, List.set_cons_zero, List.set_cons_succ, List.replicate, List.cons_append, List.nil_append, Nat.reduceAdd, Nat.reduceSub, Nat.sub_self, Nat.sub_zero, zero_add', ↓reduceIte, Bool.false_eq_true, item0, item1, addD_ii, subD_ii, negD_i, absD_i, ltD_ii, leD_ii, gtD_ii, geD_ii, truD_bl, decide_true, decide_false, fr_num, fr_den, mulD_ii (ok_nd hp hq hab), mulD_ii (ok_dn hp hq hab)]
  congr 2
  exact decide_eq_decide.mpr (Rat.lt_iff p q).symm
theorem greatest_eq (h : Hs) : m_greatest [fr p, fr q] h = .ok (fr (if p < q then q else p)) h := by
  refine mdef_ret (h' := h) ?_
  unfold c_greatest
  simp only [eV0, eVs, bind_ok', then_ok, q_e2, q_e1, q_eC, q_aC, q_aN, q_sPar2, q_sPar3, q_sSet, q_sRet, q_eBf, q_nBf, q_eCall, q_tst, q_tru, q_ifV, q_sIf, q_eTup, q_sPass, q_sExp, q_eLm, q_nLst, q_frz, q_thaw, q_iSeq, q_iR2, q_iR3, q_iEnumD, q_iZip, q_andX, q_andT, q_orT, q_notT, q_eCh, q_sPat, q_eSl, q_nSl, q_pS, q_pN, q_sRetN, q_tYes, q_eDct0, okL0, okL1, okL2, okL3, okL4, okL5, okL6, ent, List.map_cons, List.map_nil, List.length_cons, List.length_nil, List.set_cons_zero, List.set_cons_succ, List.replicate, List.cons_append, List.nil_append, Nat.reduceAdd, Nat.reduceSub, Nat.sub_self, Nat.sub_zero, zero_add', ↓reduceIte, Bool.false_eq_true, item0, item1, addD_ii, subD_ii, negD_i, absD_i, ltD_ii, leD_ii, gtD_ii, geD_ii, truD_bl, decide_true, decide_false, less_eq hp hq hab]
  by_cases z : p < q
  · simp only [decide_eq_true z, z, eV0, eVs, bind_ok', then_ok, q_e2, q_e1, q_eC, q_aC, q_aN, q_sPar2, q_sPar3, q_sSet, q_sRet, q_eBf, q_nBf, q_eCall, q_tst, q_tru, q_ifV, q_sIf, q_eTup, q_sPass, q_sExp, q_eLm, q_nLst, q_frz, q_thaw, q_iSeq, q_iR2, q_iR3, q_iEnumD, q_iZip, q_andX, q_andT, q_orT, q_notT, q_eCh, q_sPat, q_eSl, q_nSl, q_pS, q_pN, q_sRetN, q_tYes, q_eDct0, okL0, okL1, okL2, okL3, okL4, okL5, okL6, ent, List.map_cons, List.map_nil, List.length_cons, List.length_nil, List.set_cons_zero, List.set_cons_succ, List.replicate, List.cons_append, List.nil_append, Nat.reduceAdd, Nat.reduceSub, Nat.sub_self, Nat.sub_zero, zero_add', ↓reduceIte, Bool.false_eq_true, item0, item1, addD_ii, subD_ii, negD_i, absD_i, ltD_ii, leD_ii, gtD_ii, geD_ii, truD_bl, decide_true, decide_false]
  · simp only [decide_eq_false z, z, eV0, eVs, bind_ok', then_ok, q_e2, q_e1, q_eC, q_aC, q_aN, q_sPar2, q_sPar3, q_sSet, q_sRet, q_eBf, q_nBf, q_eCall, q_tst, q_tru, q_ifV, q_sIf, q_eTup, q_sPass, q_sExp, q_eLm, q_nLst, q_frz, q_thaw, q_iSeq, q_iR2, q_iR3, q_iEnumD, q_iZip, q_andX, q_andT, q_orT, q_notT, q_eCh, q_sPat, q_eSl, q_nSl, q_pS, q_pN, q_sRetN, q_tYes, q_eDct0, okL0, okL1, okL2, okL3, okL4, okL5, okL6, ent, List.map_cons, List.map_nil, List.length_cons, List.length_nil, List.set_cons_zero, List.set_cons_succ, List.replicate, List.cons_append, List.nil_append, Nat.reduceAdd, Nat.reduceSub, Nat.sub_self, Nat.sub_zero, zero_add', ↓reduceIte, Bool.false_eq_true, item0, item1, addD_ii, subD_ii, negD_i, absD_i, ltD_ii, leD_ii, gtD_ii, geD_ii, truD_bl, decide_true, decide_false]
end
theorem one_sub (q : Rat) : 1 - q = Rat.divInt (q.den - q.num) q.den := by
  have qe : q = Rat.divInt q.num q.den := (Rat.num_divInt_den q).symm
  have dn : (q.den : Int) ≠ 0 := by have := den_pos q; omega
  conv => lhs; rw [qe]
  rw [Rat.divInt_eq_div, Rat.divInt_eq_div]
  have dn' : ((q.den : Int) : Rat) ≠ 0 := by
    intro y
    exact dn (by simpa using y)
  rw [Rat.intCast_sub]
  grind
/-! ### a bottom that all have -/
def Iq (d : Nat) (q : Rat) : Prop := ∃ m : Int, q = Rat.divInt m d
theorem Iq.self (q : Rat) : Iq q.den q := ⟨q.num, (Rat.num_divInt_den q).symm⟩
theorem Iq.one : Iq 1 1 := ⟨1, by decide +kernel⟩
theorem Iq.zero : Iq 1 0 := ⟨0, by decide +kernel⟩
theorem Iq.mul {a b : Nat} {p q : Rat} (x : Iq a p) (y : Iq b q) : Iq (a * b) (p * q) := by
  obtain ⟨m, rfl⟩ := x
  obtain ⟨n, rfl⟩ := y
  exact ⟨m * n, by rw [Rat.divInt_mul_divInt, Int.natCast_mul]⟩
theorem Iq.up {a : Nat} {p : Rat} (x : Iq a p) {b : Nat} (h : a ∣ b) (hb : 0 < b) : Iq b p := by
  obtain ⟨m, rfl⟩ := x
  obtain ⟨k, rfl⟩ := h
  have k0 : (k : Int) ≠ 0 := fun z => by
    have : k = 0 := by omega
    subst this
    simp at hb
  exact ⟨m * k, by rw [Int.natCast_mul, Rat.divInt_mul_right k0]⟩
theorem Iq.add {d : Nat} {p q : Rat} (x : Iq d p) (y : Iq d q) : Iq d (p + q) := by
  obtain ⟨m, rfl⟩ := x
  obtain ⟨n, rfl⟩ := y
  exact ⟨m + n, by rw [Rat.divInt_eq_div, Rat.divInt_eq_div, Rat.divInt_eq_div, Rat.div_def, Rat.div_def, Rat.div_def, ← Rat.add_mul, Rat.intCast_add]⟩
theorem Iq.rest (q : Rat) : Iq q.den (1 - q) := ⟨_, one_sub q⟩
theorem Iq.sz {d b k : Nat} {q : Rat} (x : Iq d q) (h0 : 0 < d) (hb : k * d < 2 ^ b) (hk : 0 < k) (q0 : 0 ≤ q) (q1 : q ≤ (k : Int)) : Sz b q := by
  have dl : q.den ≤ d := by
    obtain ⟨m, rfl⟩ := x
    rw [Rat.den_divInt, if_neg (by omega)]
    exact Nat.div_le_self _ _
  have n0 : (0 : Int) ≤ q.num := Rat.num_nonneg.mpr q0
  have n1 : q.num ≤ k * q.den := by
    have z := (Rat.le_iff q ((k : Int) : Rat)).mp q1
    simpa using z
  have kd : k * q.den ≤ k * d := Nat.mul_le_mul_left _ dl
  have k1 : d ≤ k * d := Nat.le_mul_of_pos_left _ hk
  refine ⟨?_, by omega⟩
  have e : ((k * q.den : Nat) : Int) = (k : Int) * (q.den : Int) := Int.natCast_mul ..
  omega
theorem Iq.sz1 {d b : Nat} {q : Rat} (x : Iq d q) (h0 : 0 < d) (hb : d < 2 ^ b) (q0 : 0 ≤ q) (q1 : q ≤ 1) : Sz b q := x.sz (k := 1) h0 (by omega) (by decide) q0 (by simpa using q1)
def Dd : List Rat → Nat
  | [] => 1
  | c :: cs => c.den * Dd cs
theorem Dd_pos : ∀ cs : List Rat, 0 < Dd cs
  | [] => Nat.one_pos
  | c :: cs => Nat.mul_pos (den_pos c) (Dd_pos cs)
theorem Dd_le {a : Nat} : ∀ {cs : List Rat}, (∀ c ∈ cs, Sz a c) → Dd cs ≤ 2 ^ (a * cs.length)
  | [], _ => Nat.le_refl _
  | c :: cs, h => by
    have h1 := (h c List.mem_cons_self).2
    have h2 := Dd_le (cs := cs) fun x hx => h x (List.mem_cons_of_mem _ hx)
    rw [List.length_cons, Nat.mul_succ, Nat.add_comm, Nat.pow_add]
    exact Nat.mul_le_mul (Nat.le_of_lt h1) h2
theorem Dd_app : ∀ (xs ys : List Rat), Dd (xs ++ ys) = Dd xs * Dd ys
  | [], ys => (Nat.one_mul _).symm
  | x :: xs, ys => by
    show x.den * Dd (xs ++ ys) = x.den * Dd xs * Dd ys
    rw [Dd_app xs ys, Nat.mul_assoc]
theorem Dd_drop (cs : List Rat) (m : Nat) : Dd (cs.drop m) ∣ Dd cs := by
  conv => rhs; rw [← List.take_append_drop m cs, Dd_app]
  exact Nat.dvd_mul_left _ _
/-! ### none is good -/
def nf : List Rat → Rat
  | [] => 1
  | c :: cs => (1 - c) * nf cs
def ls : List Rat → List Rat
  | [] => []
  | c :: cs => c * nf cs :: ls cs
def In1 (q : Rat) : Prop := 0 ≤ q ∧ q ≤ 1
theorem In1.rest {q : Rat} (h : In1 q) : In1 (1 - q) := ⟨by have := h.2; grind, by have := h.1; grind⟩
theorem In1.mul {p q : Rat} (h : In1 p) (k : In1 q) : In1 (p * q) := ⟨Rat.mul_nonneg h.1 k.1, by
  have z := Rat.mul_le_mul_of_nonneg_left k.2 h.1
  rw [Rat.mul_one] at z
  exact Rat.le_trans z h.2⟩
theorem In1.one : In1 1 := ⟨by decide +kernel, Rat.le_refl⟩
theorem nf_in : ∀ {cs : List Rat}, (∀ c ∈ cs, In1 c) → In1 (nf cs)
  | [], _ => .one
  | c :: cs, h => (h c List.mem_cons_self).rest.mul (nf_in fun x hx => h x (List.mem_cons_of_mem _ hx))
theorem nf_iq : ∀ cs : List Rat, Iq (Dd cs) (nf cs)
  | [] => .one
  | c :: cs => (Iq.rest c).mul (nf_iq cs)
theorem ls_at : ∀ {cs : List Rat} {i : Nat} {c : Rat}, cs[i]? = some c → (ls cs)[i]? = some (c * nf (cs.drop (i + 1)))
  | [], _, _, e => by simp at e
  | c :: cs, 0, _, e => by
    simp at e
    subst e
    rfl
  | c :: cs, i + 1, d, e => by
    have z := ls_at (cs := cs) (i := i) (c := d) (by simpa using e)
    unfold ls
    rw [List.getElem?_cons_succ, z]
    rfl
theorem ls_in : ∀ {cs : List Rat}, (∀ c ∈ cs, In1 c) → ∀ q ∈ ls cs, In1 q
  | [], _, q, hq => by simp [ls] at hq
  | c :: cs, h, q, hq => by
    unfold ls at hq
    rcases List.mem_cons.mp hq with e | e
    · rw [e]
      exact (h c List.mem_cons_self).mul (nf_in fun x hx => h x (List.mem_cons_of_mem _ hx))
    · exact ls_in (fun x hx => h x (List.mem_cons_of_mem _ hx)) q e
theorem ls_iq : ∀ {cs : List Rat}, ∀ q ∈ ls cs, Iq (Dd cs) q
  | [], q, hq => by simp [ls] at hq
  | c :: cs, q, hq => by
    unfold ls at hq
    rcases List.mem_cons.mp hq with e | e
    · rw [e]
      exact (Iq.self c).mul (nf_iq cs)
    · exact (ls_iq q e).up (Nat.dvd_mul_left _ _) (Dd_pos _)
/-- chances of a size, all bottoms together below 2 ^ B -/
structure Cs (B : Nat) (cs : List Rat) : Prop where
  one : ∀ c ∈ cs, In1 c
  dd : Dd cs < 2 ^ B
theorem Cs.den {B : Nat} {cs : List Rat} (k : Cs B cs) {c : Rat} (hc : c ∈ cs) : c.den < 2 ^ B := by
  have d : ∀ {cs : List Rat}, c ∈ cs → c.den ∣ Dd cs := fun {cs} h => by
    induction cs with
    | nil => simp at h
    | cons x xs ih =>
      rcases List.mem_cons.mp h with e | e
      · rw [e]; exact Nat.dvd_mul_right _ _
      · exact Nat.dvd_trans (ih e) (Nat.dvd_mul_left _ _)
  exact Nat.lt_of_le_of_lt (Nat.le_of_dvd (Dd_pos _) (d hc)) k.dd
theorem Cs.sz {B : Nat} {cs : List Rat} (k : Cs B cs) {c : Rat} (hc : c ∈ cs) : Sz B c := (Iq.self c).sz1 (den_pos c) (k.den hc) (k.one c hc).1 (k.one c hc).2
theorem Cs.drop {B : Nat} {cs : List Rat} (k : Cs B cs) (m : Nat) : Cs B (cs.drop m) := ⟨fun c hc => k.one c (List.mem_of_mem_drop hc), Nat.lt_of_le_of_lt (Nat.le_of_dvd (Dd_pos _) (Dd_drop cs m)) k.dd⟩
theorem Cs.take {B : Nat} {cs : List Rat} (k : Cs B cs) (m : Nat) : Cs B (cs.take m) := ⟨fun c hc => k.one c (List.mem_of_mem_take hc), Nat.lt_of_le_of_lt (Nat.le_of_dvd (Dd_pos _) (by
  conv => rhs; rw [← List.take_append_drop m cs, Dd_app]
  exact Nat.dvd_mul_right _ _)) k.dd⟩
theorem Cs.nfz {B : Nat} {cs : List Rat} (k : Cs B cs) : Sz B (nf cs) := (nf_iq cs).sz1 (Dd_pos _) k.dd (nf_in k.one).1 (nf_in k.one).2
theorem Cs.lsz {B : Nat} {cs : List Rat} (k : Cs B cs) {q : Rat} (hq : q ∈ ls cs) : Sz B q := (ls_iq q hq).sz1 (Dd_pos _) k.dd (ls_in k.one q hq).1 (ls_in k.one q hq).2
theorem nf_loop {B : Nat} (hB : B ≤ 2000) {h : Hs} {N : Env → Hs → Prop} {T : D → Hs → Prop} {d0 d1 : D} : ∀ (rs : List Rat) (x : Rat) (E : Nat) (d3 : Option D), (∀ r ∈ rs, In1 r) → In1 x → Iq E x → 0 < E → E * Dd rs < 2 ^ B → (∀ d3, N [some d0, some d1, some (fr (x * nf rs)), d3] h) →
    WpS (loopF (.nm 3) (sSet 2 (eCall 2 m_product (aC (eV 2) (aC (eCall 2 m_minus (aC (eC (.tup [.int 1, .int 1])) (aC (eV 3) aN))) aN)))) [] (rs.map fr) [some d0, some d1, some (fr x), d3] h) N T
  | [], x, E, d3, _, _, _, _, _, k => by
    unfold loopF
    have e : x * nf [] = x := Rat.mul_one x
    rw [e] at k
    exact k d3
  | r :: rs, x, E, d3, hr, x1, xi, E0, hE, k => by
    rw [List.map_cons]
    unfold loopF
    rw [if_pos okG_nil]
    have r1 := hr r List.mem_cons_self
    have p0 := Dd_pos rs
    have dr := den_pos r
    have hE' : E * r.den * Dd rs < 2 ^ B := by rw [Nat.mul_assoc]; exact hE
    have hEl : E * r.den < 2 ^ B := Nat.lt_of_le_of_lt (Nat.le_mul_of_pos_right _ p0) hE'
    have sx : Sz B x := xi.sz1 E0 (Nat.lt_of_le_of_lt (Nat.le_mul_of_pos_right _ dr) hEl) x1.1 x1.2
    have dl : r.den < 2 ^ B := Nat.lt_of_le_of_lt (Nat.le_mul_of_pos_left _ E0) hEl
    have sr : Sz B r := (Iq.self r).sz1 dr dl r1.1 r1.2
    have s1 : Sz B (1 - r) := (Iq.rest r).sz1 dr dl r1.rest.1 r1.rest.2
    have m := minus_eq sz1 sr (by omega) h
    rw [fr1] at m
    have e : sSet 2 (eCall 2 m_product (aC (eV 2) (aC (eCall 2 m_minus (aC (eC (.tup [.int 1, .int 1])) (aC (eV 3) aN))) aN))) [some d0, some d1, some (fr x), some (fr r)] h = .nx [some d0, some d1, some (fr (x * (1 - r))), some (fr r)] h := by
      simp only [eV0, eVs, bind_ok', then_ok, q_e2, q_e1, q_eC, q_aC, q_aN, q_sPar2, q_sPar3, q_sSet, q_sRet, q_eBf, q_nBf, q_eCall, q_tst, q_tru, q_ifV, q_sIf, q_eTup, q_sPass, q_sExp, q_eLm, q_nLst, q_frz, q_thaw, q_iSeq, q_iR2, q_iR3, q_iEnumD, q_iZip, q_andX, q_andT, q_orT, q_notT, q_eCh, q_sPat, q_eSl, q_nSl, q_pS, q_pN, q_sRetN, q_tYes, q_eDct0, okL0, okL1, okL2, okL3, okL4, okL5, okL6, ent, List.map_cons, List.map_nil, List.length_cons, List.length_nil, List.set_cons_zero, List.set_cons_succ, List.replicate, List.cons_append, List.nil_append, Nat.reduceAdd, Nat.reduceSub, Nat.sub_self, Nat.sub_zero, zero_add', ↓reduceIte, Bool.false_eq_true, item0, item1, addD_ii, subD_ii, negD_i, absD_i, ltD_ii, leD_ii, gtD_ii, geD_ii, truD_bl, decide_true, decide_false, m, product_eq sx s1 (by omega)]
    show WpS (match sSet 2 (eCall 2 m_product (aC (eV 2) (aC (eCall 2 m_minus (aC (eC (.tup [.int 1, .int 1])) (aC (eV 3) aN))) aN))) [some d0, some d1, some (fr x), some (fr r)] h with
      | .nx ρ2 h2 => loopF _ _ _ _ ρ2 h2
      | .ct ρ2 h2 => loopF _ _ _ _ ρ2 h2
      | .bk ρ2 h2 => .nx ρ2 h2
      | r => r) N T
    rw [e]
    refine nf_loop hB rs (x * (1 - r)) (E * r.den) _ (fun q hq => hr q (List.mem_cons_of_mem _ hq)) (x1.mul r1.rest) (xi.mul (Iq.rest r)) (Nat.mul_pos E0 dr) hE' fun d3 => ?_
    have e2 : x * (1 - r) * nf rs = x * nf (r :: rs) := Rat.mul_assoc _ _ _
    rw [e2]
    exact k d3
theorem none_from_eq {cs : List Rat} {B i : Nat} {h : Hs} (t : TrAt h i cs) (k : Cs B cs) (hB : B ≤ 2000) (m : Nat) : m_none_from [.obj i, .int m] h = .ok (fr (nf (cs.drop m))) h := by
  refine eq_of_wp ?_
  unfold m_none_from c_none_from
  have sl : ∀ ρ : Env, eSl (eFld "Trials" "chances" (eV 0)) (pS (eV 1)) pN (some (.obj i) :: some (.int m) :: ρ) h = .ok (.tup ((cs.drop m).map fr)) h := fun ρ => by
    have f : eFld "Trials" "chances" (eV 0) (some (.obj i) :: some (.int m) :: ρ) h = .ok (.tup (cs.map fr)) h := fld_ch t eV0
    simp only [eV0, eVs, bind_ok', then_ok, q_e2, q_e1, q_eC, q_aC, q_aN, q_sPar2, q_sPar3, q_sSet, q_sRet, q_eBf, q_nBf, q_eCall, q_tst, q_tru, q_ifV, q_sIf, q_eTup, q_sPass, q_sExp, q_eLm, q_nLst, q_frz, q_thaw, q_iSeq, q_iR2, q_iR3, q_iEnumD, q_iZip, q_andX, q_andT, q_orT, q_notT, q_eCh, q_sPat, q_eSl, q_nSl, q_pS, q_pN, q_sRetN, q_tYes, q_eDct0, okL0, okL1, okL2, okL3, okL4, okL5, okL6, ent, List.map_cons, List.map_nil, List.length_cons, List.length_nil, List.set_cons_zero, List.set_cons_succ, List.replicate, List.cons_append, List.nil_append, Nat.reduceAdd, Nat.reduceSub, Nat.sub_self, Nat.sub_zero, zero_add', ↓reduceIte, Bool.false_eq_true, item0, item1, addD_ii, subD_ii, negD_i, absD_i, ltD_ii, leD_ii, gtD_ii, geD_ii, truD_bl, decide_true, decide_false, f, slD_tup_from, List.map_drop]
  have e1 : ent 4 [D.obj i, .int m] = [some (.obj i), some (.int m), none, none] := rfl
  rw [wp_def, e1, wps_seq, q_sSet, wps_then, q_eC, wp_ok, wps_nx, List.set_cons_succ, List.set_cons_succ, List.set_cons_zero, wps_seq, wps_for, seq_tup (sl _), wp_ok]
  have kd := k.drop m
  refine nf_loop hB (cs.drop m) 1 1 none kd.one .one .one Nat.one_pos (by rw [Nat.one_mul]; exact kd.dd) fun d3 => ?_
  simp only [eV0, eVs, bind_ok', then_ok, q_e2, q_e1, q_eC, q_aC, q_aN, q_sPar2, q_sPar3, q_sSet, q_sRet, q_eBf, q_nBf, q_eCall, q_tst, q_tru, q_ifV, q_sIf, q_eTup, q_sPass, q_sExp, q_eLm, q_nLst, q_frz, q_thaw, q_iSeq, q_iR2, q_iR3, q_iEnumD, q_iZip, q_andX, q_andT, q_orT, q_notT, q_eCh, q_sPat, q_eSl, q_nSl, q_pS, q_pN, q_sRetN, q_tYes, q_eDct0, okL0, okL1, okL2, okL3, okL4, okL5, okL6, ent, List.map_cons, List.map_nil, List.length_cons, List.length_nil, List.set_cons_zero, List.set_cons_succ, List.replicate, List.cons_append, List.nil_append, Nat.reduceAdd, Nat.reduceSub, Nat.sub_self, Nat.sub_zero, zero_add', ↓reduceIte, Bool.false_eq_true, item0, item1, addD_ii, subD_ii, negD_i, absD_i, ltD_ii, leD_ii, gtD_ii, geD_ii, truD_bl, decide_true, decide_false, wp_ok, wp_bad, wp_bind, wp_nox, wp_def, wps_then, wps_seq, wps_nx, wps_ret, wp_ite, wps_ite, Rat.one_mul]
  exact ⟨trivial, trivial⟩
/-- a comprehension over pairs, each made by f at its place -/
theorem zip_comp {ce : Env → M D} {p : Pat} {ρ : Env} {h : Hs} {g : Rat → D} {f : Nat → Rat → D} : ∀ (cs : List Rat) (n : Nat),
    (∀ j c, cs[j]? = some c → ∃ ρ1, patD p (.tup [.int ((n + j : Nat) : Int), g c]) ρ = some ρ1 ∧ ce ρ1 h = .ok (f (n + j) c) h) → lcF p tYes' ce [] ρ (enumD n (cs.map g)) h = .ok ((cs.zipIdx n).map fun x => f x.2 x.1) h
  | [], n, _ => by
    show lcF p tYes' ce [] ρ [] h = _
    unfold lcF
    rw [if_pos okG_nil]
    rfl
  | c :: cs, n, k => by
    rw [List.map_cons]
    unfold enumD lcF
    obtain ⟨ρ1, e, s⟩ := k 0 c rfl
    rw [Nat.add_zero] at e s
    rw [if_pos okG_nil, e]
    show ((ce ρ1 h).nox.bind fun d h2 => (lcF p tYes' ce [] ρ (enumD (n + 1) (cs.map g)) h2).bind fun ds h3 => .ok (d :: ds) h3) = _
    rw [s]
    show ((lcF p tYes' ce [] ρ (enumD (n + 1) (cs.map g)) h).bind fun ds h3 => .ok (f n c :: ds) h3) = _
    rw [zip_comp cs (n + 1) fun j c' hj => by
      have z := k (j + 1) c' (by simpa using hj)
      rw [show n + (j + 1) = n + 1 + j by omega] at z
      exact z]
    rfl
theorem ls_zip (F : List Rat) : ∀ (cs : List Rat) (n : Nat), F.drop n = cs → (cs.zipIdx n).map (fun x => fr (x.1 * nf (F.drop (x.2 + 1)))) = (ls cs).map fr
  | [], _, _ => rfl
  | c :: cs, n, e => by
    have e2 : F.drop (n + 1) = cs := by
      rw [← List.drop_drop, e]
      rfl
    unfold ls
    rw [List.map_cons, ← ls_zip F cs (n + 1) e2, List.zipIdx_cons, List.map_cons, e2]
theorem last_shares_eq {cs : List Rat} {B i : Nat} {h : Hs} (t : TrAt h i cs) (k : Cs B cs) (hB : B ≤ 2000) (hl : cs.length ≤ 1000) : m_last_shares [.obj i] h = .ok (.lst ((ls cs).map fr)) h := by
  refine mdef_ret (h' := h) ?_
  unfold c_last_shares
  have f : ∀ ρ : Env, eFld "Trials" "chances" (eV 0) (some (.obj i) :: ρ) h = .ok (.tup (cs.map fr)) h := fun ρ => fld_ch t eV0
  have en : ∀ ρ : Env, iEnumD (aC (eFld "Trials" "chances" (eV 0)) aN) (some (.obj i) :: ρ) h = .ok ⟨enumD 0 (cs.map fr), []⟩ h := fun ρ => by
    simp only [eV0, eVs, bind_ok', then_ok, q_e2, q_e1, q_eC, q_aC, q_aN, q_sPar2, q_sPar3, q_sSet, q_sRet, q_eBf, q_nBf, q_eCall, q_tst, q_tru, q_ifV, q_sIf, q_eTup, q_sPass, q_sExp, q_eLm, q_nLst, q_frz, q_thaw, q_iSeq, q_iR2, q_iR3, q_iEnumD, q_iZip, q_andX, q_andT, q_orT, q_notT, q_eCh, q_sPat, q_eSl, q_nSl, q_pS, q_pN, q_sRetN, q_tYes, q_eDct0, okL0, okL1, okL2, okL3, okL4, okL5, okL6, ent, List.map_cons, List.map_nil, List.length_cons, List.length_nil, List.set_cons_zero, List.set_cons_succ, List.replicate, List.cons_append, List.nil_append, Nat.reduceAdd, Nat.reduceSub, Nat.sub_self, Nat.sub_zero, zero_add', ↓reduceIte, Bool.false_eq_true, item0, item1, addD_ii, subD_ii, negD_i, absD_i, ltD_ii, leD_ii, gtD_ii, geD_ii, truD_bl, decide_true, decide_false, f, itOf_tup, okG_nil]
  have c : nLc (iEnumD (aC (eFld "Trials" "chances" (eV 0)) aN)) (.tp [.nm 1, .nm 2]) [1, 2] tYes' (eCall 2 m_product (aC (eV 2) (aC (eCall 2 m_none_from (aC (eV 0) (aC (e2 addD (eV 1) (eC (.int 1))) aN))) aN))) [some (.obj i), none, none] h = .ok ((ls cs).map fr) h := by
    rw [nLc_eq, en, bind_ok']
    show (if okLen (enumD 0 (cs.map fr)).length = true then _ else _) = _
    rw [if_pos (okLen_of (by rw [enumD_len, List.length_map]; omega)), ← ls_zip cs cs 0 rfl]
    refine zip_comp (f := fun j c => fr (c * nf (cs.drop (j + 1)))) cs 0 fun j c hj => ⟨_, rfl, ?_⟩
    have kc := k.sz (List.mem_of_getElem? hj)
    have n1 := none_from_eq t k hB (0 + j + 1)
    have e1 : (((0 + j + 1 : Nat)) : Int) = ((0 + j : Nat) : Int) + 1 := by omega
    rw [e1, Nat.zero_add] at n1
    rw [Nat.zero_add]
    simp only [wipeD, eV0, eVs, bind_ok', then_ok, q_e2, q_e1, q_eC, q_aC, q_aN, q_sPar2, q_sPar3, q_sSet, q_sRet, q_eBf, q_nBf, q_eCall, q_tst, q_tru, q_ifV, q_sIf, q_eTup, q_sPass, q_sExp, q_eLm, q_nLst, q_frz, q_thaw, q_iSeq, q_iR2, q_iR3, q_iEnumD, q_iZip, q_andX, q_andT, q_orT, q_notT, q_eCh, q_sPat, q_eSl, q_nSl, q_pS, q_pN, q_sRetN, q_tYes, q_eDct0, okL0, okL1, okL2, okL3, okL4, okL5, okL6, ent, List.map_cons, List.map_nil, List.length_cons, List.length_nil, List.set_cons_zero, List.set_cons_succ, List.replicate, List.cons_append, List.nil_append, Nat.reduceAdd, Nat.reduceSub, Nat.sub_self, Nat.sub_zero, zero_add', ↓reduceIte, Bool.false_eq_true, item0, item1, addD_ii, subD_ii, negD_i, absD_i, ltD_ii, leD_ii, gtD_ii, geD_ii, truD_bl, decide_true, decide_false, n1, product_eq kc (k.drop (j + 1)).nfz (by omega)]
  simp only [eV0, eVs, bind_ok', then_ok, q_e2, q_e1, q_eC, q_aC, q_aN, q_sPar2, q_sPar3, q_sSet, q_sRet, q_eBf, q_nBf, q_eCall, q_tst, q_tru, q_ifV, q_sIf, q_eTup, q_sPass, q_sExp, q_eLm, q_nLst, q_frz, q_thaw, q_iSeq, q_iR2, q_iR3, q_iEnumD, q_iZip, q_andX, q_andT, q_orT, q_notT, q_eCh, q_sPat, q_eSl, q_nSl, q_pS, q_pN, q_sRetN, q_tYes, q_eDct0, okL0, okL1, okL2, okL3, okL4, okL5, okL6, ent, List.map_cons, List.map_nil, List.length_cons, List.length_nil, List.set_cons_zero, List.set_cons_succ, List.replicate, List.cons_append, List.nil_append, Nat.reduceAdd, Nat.reduceSub, Nat.sub_self, Nat.sub_zero, zero_add', ↓reduceIte, Bool.false_eq_true, item0, item1, addD_ii, subD_ii, negD_i, absD_i, ltD_ii, leD_ii, gtD_ii, geD_ii, truD_bl, decide_true, decide_false, c]
end Pl

/-! Plain laws, 13: lots: what they win. -/
namespace Pl
open Dl Sh
local instance : Dl.Tb := ⟨fun _ => []⟩

/-- numbers that rise, from k on, below n -/
def Inc (n : Nat) : Nat → List Nat → Prop
  | _, [] => True
  | k, m :: l => k ≤ m ∧ m < n ∧ Inc n (m + 1) l
theorem Inc.from {n : Nat} : ∀ {l : List Nat} {k j : Nat}, Inc n k l → j ≤ k → Inc n j l
  | [], _, _, _, _ => trivial
  | m :: l, k, j, h, hj => ⟨Nat.le_trans hj h.1, h.2⟩
theorem Inc.all {n : Nat} : ∀ {l : List Nat} {k : Nat}, Inc n k l → ∀ m ∈ l, k ≤ m ∧ m < n
  | [], _, _, m, hm => by simp at hm
  | x :: l, k, h, m, hm => by
    rcases List.mem_cons.mp hm with e | e
    · rw [e]; exact ⟨h.1, h.2.1⟩
    · have z := h.2.2.all m e
      exact ⟨by have := h.1; omega, z.2⟩
theorem Inc.len {n : Nat} : ∀ {l : List Nat} {k : Nat}, Inc n k l → k ≤ n → l.length + k ≤ n
  | [], k, _, h => by simpa using h
  | x :: l, k, h, _ => by
    have z := h.2.2.len (by have := h.2.1; omega)
    have := h.1
    rw [List.length_cons]
    omega
def lotD (l : List Nat) : D := .tup (l.map fun m => .int (m : Nat))
/-- what a lot wins -/
def wn (cs : List Rat) : List Nat → Rat
  | [] => 0
  | m :: l => cs.getD m 0 * nf (cs.drop (m + 1)) + (1 - cs.getD m 0) * wn cs l
theorem Dd_at {cs : List Rat} {m : Nat} {c : Rat} (e : cs[m]? = some c) : Dd (cs.drop m) = c.den * Dd (cs.drop (m + 1)) := by
  have hm := (List.getElem?_eq_some_iff.mp e).1
  rw [List.drop_eq_getElem_cons hm]
  have e2 := (List.getElem?_eq_some_iff.mp e).2
  rw [e2]
  rfl
theorem Dd_drop2 {cs : List Rat} {k m : Nat} (h : k ≤ m) : Dd (cs.drop m) ∣ Dd (cs.drop k) := by
  have e : cs.drop m = (cs.drop k).drop (m - k) := by rw [List.drop_drop]; congr 1; omega
  rw [e]
  exact Dd_drop _ _
theorem won_loop {cs : List Rat} {B i : Nat} (c : Cs B cs) (hB : B ≤ 2000) {h : Hs} (t : TrAt h i cs) {N : Env → Hs → Prop} {T : D → Hs → Prop} {d1 : D} : ∀ (l : List Nat) (k : Nat) (x y : Rat) (E : Nat) (d5 : Option D), Inc cs.length k l → Iq E y → 0 < E → E * Dd (cs.drop k) ∣ Dd cs → Iq (Dd cs) x → 0 ≤ x → In1 y → x + y ≤ 1 → (∀ y5 d5, N [some (.obj i), some d1, some (fr (x + y * wn cs l)), some (.lst ((ls cs).map fr)), y5, d5] h) →
    WpS (loopF (.nm 5) (sSeq (sSet 2 (eCall 2 m_plus (aC (eV 2) (aC (eCall 2 m_product (aC (eV 4) (aC (e2 itemD (eV 3) (eV 5)) aN))) aN)))) (sSet 4 (eCall 2 m_product (aC (eV 4) (aC (eCall 2 m_minus (aC (eC (.tup [.int 1, .int 1])) (aC (e2 itemD (eFld "Trials" "chances" (eV 0)) (eV 5)) aN))) aN))))) [] (l.map fun m => .int (m : Nat)) [some (.obj i), some d1, some (fr x), some (.lst ((ls cs).map fr)), some (fr y), d5] h) N T
  | [], k, x, y, E, d5, _, _, _, _, _, _, _, _, kk => by
    unfold loopF
    have e : x + y * wn cs [] = x := by
      show x + y * 0 = x
      grind
    rw [e] at kk
    exact kk _ d5
  | m :: l, k, x, y, E, d5, inc, yi, E0, hE, xi, x0, y1, xy, kk => by
    rw [List.map_cons]
    unfold loopF
    rw [if_pos okG_nil]
    have hm := inc.2.1
    have ce : cs[m]? = some (cs.getD m 0) := by rw [List.getD_eq_getElem?_getD, List.getElem?_eq_getElem hm]; rfl
    have hw : wn cs (m :: l) = cs.getD m 0 * nf (cs.drop (m + 1)) + (1 - cs.getD m 0) * wn cs l := rfl
    rw [hw] at kk
    have cm := List.mem_of_getElem? ce
    generalize cs.getD m 0 = q at ce kk cm
    have q1 := c.one q cm
    have lsm := ls_at ce
    have lm := List.mem_of_getElem? lsm
    have n1 := nf_in (cs := cs.drop (m + 1)) fun c' hq => c.one c' (List.mem_of_mem_drop hq)
    have dm := Dd_at ce
    have E1 : E * Dd (cs.drop m) ∣ Dd cs := Nat.dvd_trans (Nat.mul_dvd_mul_left _ (Dd_drop2 inc.1)) hE
    have El : E ∣ Dd cs := Nat.dvd_trans (Nat.dvd_mul_right _ _) hE
    have sy : Sz B y := (yi.up El (Dd_pos _)).sz1 (Dd_pos _) c.dd y1.1 y1.2
    have xl : x ≤ 1 := by have := y1.1; grind
    have sx : Sz B x := xi.sz1 (Dd_pos _) c.dd x0 xl
    have a1 := q1.mul n1
    have pi : Iq (Dd cs) (y * (q * nf (cs.drop (m + 1)))) := (yi.mul (by rw [dm]; exact (Iq.self q).mul (nf_iq _))).up E1 (Dd_pos _)
    have p1 := y1.mul a1
    have sp : Sz B (y * (q * nf (cs.drop (m + 1)))) := pi.sz1 (Dd_pos _) c.dd p1.1 p1.2
    have sq := c.sz cm
    have s1 : Sz B (1 - q) := (Iq.rest q).sz1 (den_pos q) (c.den cm) q1.rest.1 q1.rest.2
    have mi := minus_eq sz1 sq (by omega) h
    rw [fr1] at mi
    have it3 : itemD (.lst ((ls cs).map fr)) (.int (m : Nat)) h = .ok (fr (q * nf (cs.drop (m + 1)))) h := item_lst (by rw [List.getElem?_map, lsm]; rfl)
    have itc : itemD (.tup (cs.map fr)) (.int (m : Nat)) h = .ok (fr q) h := item_at (by rw [List.getElem?_map, ce]; rfl)
    have f : ∀ ρ : Env, eFld "Trials" "chances" (eV 0) (some (.obj i) :: ρ) h = .ok (.tup (cs.map fr)) h := fun ρ => fld_ch t eV0
    have e : sSeq (sSet 2 (eCall 2 m_plus (aC (eV 2) (aC (eCall 2 m_product (aC (eV 4) (aC (e2 itemD (eV 3) (eV 5)) aN))) aN)))) (sSet 4 (eCall 2 m_product (aC (eV 4) (aC (eCall 2 m_minus (aC (eC (.tup [.int 1, .int 1])) (aC (e2 itemD (eFld "Trials" "chances" (eV 0)) (eV 5)) aN))) aN)))) [some (.obj i), some d1, some (fr x), some (.lst ((ls cs).map fr)), some (fr y), some (.int (m : Nat))] h =
        .nx [some (.obj i), some d1, some (fr (x + y * (q * nf (cs.drop (m + 1))))), some (.lst ((ls cs).map fr)), some (fr (y * (1 - q))), some (.int (m : Nat))] h := by
      rw [seq_nx (ρ1 := [some (.obj i), some d1, some (fr (x + y * (q * nf (cs.drop (m + 1))))), some (.lst ((ls cs).map fr)), some (fr y), some (.int (m : Nat))]) (h1 := h)]
      · simp only [eV0, eVs, bind_ok', then_ok, q_e2, q_e1, q_eC, q_aC, q_aN, q_sPar2, q_sPar3, q_sSet, q_sRet, q_eBf, q_nBf, q_eCall, q_tst, q_tru, q_ifV, q_sIf, q_eTup, q_sPass, q_sExp, q_eLm, q_nLst, q_frz, q_thaw, q_iSeq, q_iR2, q_iR3, q_iEnumD, q_iZip, q_andX, q_andT, q_orT, q_notT, q_eCh, q_sPat, q_eSl, q_nSl, q_pS, q_pN, q_sRetN, q_tYes, q_eDct0, okL0, okL1, okL2, okL3, okL4, okL5, okL6, ent, List.map_cons, List.map_nil, List.length_cons, List.length_nil, List.set_cons_zero, List.set_cons_succ, List.replicate, List.cons_append, List.nil_append, Nat.reduceAdd, Nat.reduceSub, Nat.sub_self, Nat.sub_zero, zero_add', ↓reduceIte, Bool.false_eq_true, item0, item1, addD_ii, subD_ii, negD_i, absD_i, ltD_ii, leD_ii, gtD_ii, geD_ii, truD_bl, decide_true, decide_false, f, itc, mi, product_eq sy s1 (by omega)]
      · simp only [eV0, eVs, bind_ok', then_ok, q_e2, q_e1, q_eC, q_aC, q_aN, q_sPar2, q_sPar3, q_sSet, q_sRet, q_eBf, q_nBf, q_eCall, q_tst, q_tru, q_ifV, q_sIf, q_eTup, q_sPass, q_sExp, q_eLm, q_nLst, q_frz, q_thaw, q_iSeq, q_iR2, q_iR3, q_iEnumD, q_iZip, q_andX, q_andT, q_orT, q_notT, q_eCh, q_sPat, q_eSl, q_nSl, q_pS, q_pN, q_sRetN, q_tYes, q_eDct0, okL0, okL1, okL2, okL3, okL4, okL5, okL6, ent, List.map_cons, List.map_nil, List.length_cons, List.length_nil, List.set_cons_zero, List.set_cons_succ, List.replicate, List.cons_append, List.nil_append, Nat.reduceAdd, Nat.reduceSub, Nat.sub_self, Nat.sub_zero, zero_add', ↓reduceIte, Bool.false_eq_true, item0, item1, addD_ii, subD_ii, negD_i, absD_i, ltD_ii, leD_ii, gtD_ii, geD_ii, truD_bl, decide_true, decide_false, it3, product_eq sy (c.lsz lm) (by omega), plus_eq sx sp (by omega)]
    show WpS (match sSeq (sSet 2 (eCall 2 m_plus (aC (eV 2) (aC (eCall 2 m_product (aC (eV 4) (aC (e2 itemD (eV 3) (eV 5)) aN))) aN)))) (sSet 4 (eCall 2 m_product (aC (eV 4) (aC (eCall 2 m_minus (aC (eC (.tup [.int 1, .int 1])) (aC (e2 itemD (eFld "Trials" "chances" (eV 0)) (eV 5)) aN))) aN)))) [some (.obj i), some d1, some (fr x), some (.lst ((ls cs).map fr)), some (fr y), some (.int (m : Nat))] h with
      | .nx ρ2 h2 => loopF _ _ _ _ ρ2 h2
      | .ct ρ2 h2 => loopF _ _ _ _ ρ2 h2
      | .bk ρ2 h2 => .nx ρ2 h2
      | r => r) N T
    rw [e]
    refine won_loop c hB t l (m + 1) (x + y * (q * nf (cs.drop (m + 1)))) (y * (1 - q)) (E * q.den) _ inc.2.2 (yi.mul (Iq.rest q)) (Nat.mul_pos E0 (den_pos q)) ?_ (xi.add pi) ?_ (y1.mul q1.rest) ?_ ?_
    · rw [Nat.mul_assoc, ← dm]; exact E1
    · have := p1.1; grind
    · have z : y * (q * nf (cs.drop (m + 1))) ≤ y * q := by
        have z1 := Rat.mul_le_mul_of_nonneg_left n1.2 q1.1
        rw [Rat.mul_one] at z1
        exact Rat.mul_le_mul_of_nonneg_left z1 y1.1
      have e3 : y * (1 - q) = y - y * q := by grind
      rw [e3]
      grind
    · intro y5 d5
      have e4 : x + y * (q * nf (cs.drop (m + 1))) + y * (1 - q) * wn cs l = x + y * (q * nf (cs.drop (m + 1)) + (1 - q) * wn cs l) := by grind
      rw [e4]
      exact kk y5 d5
theorem won_eq {cs : List Rat} {B i : Nat} (c : Cs B cs) (hB : B ≤ 2000) (hl : cs.length ≤ 1000) {h : Hs} (t : TrAt h i cs) {l : List Nat} (inc : Inc cs.length 0 l) : m_won [.obj i, lotD l] h = .ok (fr (wn cs l)) h := by
  refine eq_of_wp ?_
  unfold m_won c_won
  have e1 : ent 6 [D.obj i, lotD l] = [some (.obj i), some (lotD l), none, none, none, none] := rfl
  rw [wp_def, e1, wps_seq]
  simp only [q_sPar2, q_aC, q_aN, q_eC, q_eCall, eV0, bind_ok', List.length_cons, List.length_nil, Nat.reduceAdd, decide_true, ↓reduceIte, last_shares_eq t c hB hl, then_ok, wps_nx, List.set_cons_zero, List.set_cons_succ]
  rw [wps_seq, q_sSet, q_eC, then_ok, wps_nx, wps_seq, wps_for]
  simp only [List.set_cons_zero, List.set_cons_succ]
  rw [seq_tup (ce := eV 1) (xs := l.map fun m => .int (m : Nat)) rfl, wp_ok]
  rw [← fr0, ← fr1]
  refine won_loop c hB t l 0 0 1 1 none inc .one Nat.one_pos (by rw [Nat.one_mul, List.drop_zero]; exact Nat.dvd_refl _) (Iq.zero.up (Nat.one_dvd _) (Dd_pos _)) Rat.le_refl .one (by decide +kernel) fun y5 d5 => ?_
  have e : (0 : Rat) + 1 * wn cs l = wn cs l := by grind
  rw [e]
  simp only [eV0, eVs, bind_ok', then_ok, q_e2, q_e1, q_eC, q_aC, q_aN, q_sPar2, q_sPar3, q_sSet, q_sRet, q_eBf, q_nBf, q_eCall, q_tst, q_tru, q_ifV, q_sIf, q_eTup, q_sPass, q_sExp, q_eLm, q_nLst, q_frz, q_thaw, q_iSeq, q_iR2, q_iR3, q_iEnumD, q_iZip, q_andX, q_andT, q_orT, q_notT, q_eCh, q_sPat, q_eSl, q_nSl, q_pS, q_pN, q_sRetN, q_tYes, q_eDct0, okL0, okL1, okL2, okL3, okL4, okL5, okL6, ent, List.map_cons, List.map_nil, List.length_cons, List.length_nil, List.set_cons_zero, List.set_cons_succ, List.replicate, List.cons_append, List.nil_append, Nat.reduceAdd, Nat.reduceSub, Nat.sub_self, Nat.sub_zero, zero_add', ↓reduceIte, Bool.false_eq_true, item0, item1, addD_ii, subD_ii, negD_i, absD_i, ltD_ii, leD_ii, gtD_ii, geD_ii, truD_bl, decide_true, decide_false, wp_ok, wp_bad, wp_bind, wp_nox, wp_def, wps_then, wps_seq, wps_nx, wps_ret, wp_ite, wps_ite]
  exact ⟨trivial, trivial⟩
/-! ### lots that are lots -/
end Pl

/-! Plain laws, 14: the best lots. -/
namespace Pl
open Dl Sh
local instance : Dl.Tb := ⟨fun _ => []⟩

/-! ### comprehensions over what is made of things -/
section
variable {α : Type} {p : Pat} {ce : Env → M D} {ρ : Env} {h : Hs} {g f : α → D}
theorem lcM : ∀ {xs : List α}, (∀ x ∈ xs, ∃ ρ1, patD p (g x) ρ = some ρ1 ∧ ce ρ1 h = .ok (f x) h) → lcF p tYes' ce [] ρ (xs.map g) h = .ok (xs.map f) h
  | [], _ => by
    show lcF p tYes' ce [] ρ [] h = _
    unfold lcF
    rw [if_pos okG_nil]
    rfl
  | x :: xs, k => by
    obtain ⟨ρ1, e, c⟩ := k x List.mem_cons_self
    rw [List.map_cons]
    unfold lcF
    rw [if_pos okG_nil, e]
    show ((ce ρ1 h).nox.bind fun d h2 => (lcF p tYes' ce [] ρ (xs.map g) h2).bind fun ds h3 => .ok (d :: ds) h3) = _
    rw [c]
    show ((lcF p tYes' ce [] ρ (xs.map g) h).bind fun ds h3 => .ok (f x :: ds) h3) = _
    rw [lcM fun y hy => k y (List.mem_cons_of_mem _ hy)]
    rfl
theorem lcT {ct : Env → M Bool} {t : α → Bool} : ∀ {xs : List α}, (∀ x ∈ xs, ∃ ρ1, patD p (g x) ρ = some ρ1 ∧ ct ρ1 h = .ok (t x) h ∧ (t x = true → ce ρ1 h = .ok (f x) h)) → lcF p ct ce [] ρ (xs.map g) h = .ok ((xs.filter t).map f) h
  | [], _ => by
    show lcF p ct ce [] ρ [] h = _
    unfold lcF
    rw [if_pos okG_nil]
    rfl
  | x :: xs, k => by
    obtain ⟨ρ1, e, c1, c2⟩ := k x List.mem_cons_self
    rw [List.map_cons]
    unfold lcF
    rw [if_pos okG_nil, e]
    show ((ct ρ1 h).nox.bind fun b h1 => if b = true then (ce ρ1 h1).nox.bind fun d h2 => (lcF p ct ce [] ρ (xs.map g) h2).bind fun ds h3 => .ok (d :: ds) h3 else lcF p ct ce [] ρ (xs.map g) h1) = _
    rw [c1]
    show (if t x = true then (ce ρ1 h).nox.bind fun d h2 => (lcF p ct ce [] ρ (xs.map g) h2).bind fun ds h3 => .ok (d :: ds) h3 else lcF p ct ce [] ρ (xs.map g) h) = _
    have ih : lcF p ct ce [] ρ (xs.map g) h = .ok ((xs.filter t).map f) h := lcT fun y hy => k y (List.mem_cons_of_mem _ hy)
    by_cases z : t x = true
    · rw [if_pos z, c2 z, List.filter_cons_of_pos z]
      show ((lcF p ct ce [] ρ (xs.map g) h).bind fun ds h3 => .ok (f x :: ds) h3) = _
      rw [ih]
      rfl
    · rw [if_neg z, List.filter_cons_of_neg z]
      exact ih
theorem compM {ci : Env → M ItD} {own : List Nat} {ρ : Env} {xs : List α} (e : ci ρ h = .ok ⟨xs.map g, []⟩ h) (l : xs.length ≤ 16777216) (k : ∀ x ∈ xs, ∃ ρ1, patD p (g x) (wipeD ρ own) = some ρ1 ∧ ce ρ1 h = .ok (f x) h) : nLc ci p own tYes' ce ρ h = .ok (xs.map f) h := by
  rw [nLc_eq, e]
  show (if okLen (xs.map g).length = true then _ else _) = _
  rw [if_pos (okLen_of (by rw [List.length_map]; exact l))]
  exact lcM k
theorem compT {ci : Env → M ItD} {ct : Env → M Bool} {t : α → Bool} {own : List Nat} {ρ : Env} {xs : List α} (e : ci ρ h = .ok ⟨xs.map g, []⟩ h) (l : xs.length ≤ 16777216) (k : ∀ x ∈ xs, ∃ ρ1, patD p (g x) (wipeD ρ own) = some ρ1 ∧ ct ρ1 h = .ok (t x) h ∧ (t x = true → ce ρ1 h = .ok (f x) h)) : nLc ci p own ct ce ρ h = .ok ((xs.filter t).map f) h := by
  rw [nLc_eq, e]
  show (if okLen (xs.map g).length = true then _ else _) = _
  rw [if_pos (okLen_of (by rw [List.length_map]; exact l))]
  exact lcT k
end
/-! ### all lots -/
def lots : Nat → List (List Nat)
  | 0 => [[]]
  | n + 1 => lots n ++ (lots n).map (· ++ [n])
theorem Inc.wide {n m : Nat} (h : n ≤ m) : ∀ {l : List Nat} {k : Nat}, Inc n k l → Inc m k l
  | [], _, _ => trivial
  | x :: l, k, i => ⟨i.1, Nat.lt_of_lt_of_le i.2.1 h, i.2.2.wide h⟩
theorem Inc.snoc {n : Nat} : ∀ {l : List Nat} {k : Nat}, Inc n k l → k ≤ n → Inc (n + 1) k (l ++ [n])
  | [], _, _, h => ⟨h, Nat.lt_succ_self _, trivial⟩
  | x :: l, k, i, h => ⟨i.1, Nat.lt_succ_of_lt i.2.1, i.2.2.snoc i.2.1⟩
theorem lots_inc : ∀ {n : Nat} {l : List Nat}, l ∈ lots n → Inc n 0 l
  | 0, l, h => by rw [List.mem_singleton.mp h]; trivial
  | n + 1, l, h => by
    rcases List.mem_append.mp h with h | h
    · exact (lots_inc h).wide (Nat.le_succ _)
    · obtain ⟨x, hx, rfl⟩ := List.mem_map.mp h
      exact (lots_inc hx).snoc (Nat.zero_le _)
theorem lots_nil : ∀ n : Nat, [] ∈ lots n
  | 0 => List.mem_singleton.mpr rfl
  | n + 1 => List.mem_append.mpr (.inl (lots_nil n))
/-! ### the greatest -/
def mxq (x y : Rat) : Rat := if x < y then y else x
def tp (cs : List Rat) : Rat := (lots cs.length).foldl (fun x l => mxq x (wn cs l)) 0
/-- the lots that have the greatest chance, in order -/
def enL (l : List Nat) : PySem.PyData := pyF (lotD l)
def topL (cs : List Rat) : List (List Nat) := ((lots cs.length).filter fun l => decide (wn cs l = tp cs)).mergeSort (PySem.W.dataLe false enL)
def bv (cs : List Rat) : D := .tup [fr (tp cs), .lst ((topL cs).map lotD)]
/-! ### sorted -/
end Pl

/-! Plain laws, 15: best_lots, best. -/
namespace Pl
open Dl Sh
local instance : Dl.Tb := ⟨fun _ => []⟩

/-- a Trials object, its best lots known or not -/
def Lk (h : Hs) (i : Nat) (cs : List Rat) : Prop := TrAt h i cs ∧ (h[i + 1]? = some (.dI []) ∨ h[i + 1]? = some (.dI [(.inr ("best" : PySem.Str), bv cs)]))
theorem seq_none {h : Hs} {n : Nat} {kvs} (e : h[n]? = some (.dI kvs)) : seqOf h (.obj n) = none := by
  show (match h[n]? with
    | some (.lst xs) => some xs
    | _ => none) = none
  rw [e]
end Pl

/-! Plain laws, 16: the first hand: its draws, shares, rows; what is due of last good ones. -/
namespace Pl
open Dl Sh
local instance : Dl.Tb := ⟨fun _ => []⟩

theorem intBits_abs (i : Int) : PySem.Builtin.Int.intBits (i.natAbs : Int) = PySem.Builtin.Int.intBits i := by
  unfold PySem.Builtin.Int.intBits
  simp only [Int.natAbs_natCast]
  split <;> split <;> simp_all
/-- a share as drawn: of 0 to 1, its bottom below 2 ^ 67 -/
def Shr (q : Rat) : Prop := In1 q ∧ q.den < 2 ^ 67
/-- a row as drawn -/
def Row (qs : List Rat) : Prop := 1 ≤ qs.length ∧ qs.length ≤ 12 ∧ ∀ q ∈ qs, Shr q
theorem Row.cs {qs : List Rat} (r : Row qs) : Cs 1000 qs := by
  refine ⟨fun q hq => (r.2.2 q hq).1, ?_⟩
  have f : ∀ {l : List Rat}, (∀ q ∈ l, Shr q) → Dd l ≤ 2 ^ (67 * l.length) := by
    intro l
    induction l with
    | nil => intro _; exact Nat.le_refl _
    | cons q l ih =>
      intro h
      have h1 := (h q List.mem_cons_self).2
      have h2 := ih fun x hx => h x (List.mem_cons_of_mem _ hx)
      rw [List.length_cons, Nat.mul_succ, Nat.add_comm, Nat.pow_add]
      exact Nat.mul_le_mul (Nat.le_of_lt h1) h2
  exact Nat.lt_of_le_of_lt (f r.2.2) (Nat.pow_lt_pow_right (by decide) (by have := r.2.1; omega))
/-! ### what is due -/
end Pl

/-! Plain laws, deals 1: fractions of a bottom, sums. -/
namespace Pl
open Dl Sh
local instance : Dl.Tb := ⟨fun _ => []⟩

theorem rat_add_le {a b c d : Rat} (h : a ≤ b) (k : c ≤ d) : a + c ≤ b + d := by grind
theorem nat_rat (a b : Nat) : (((a + b : Nat) : Int) : Rat) = ((a : Int) : Rat) + ((b : Int) : Rat) := by rw [Int.natCast_add, Rat.intCast_add]
theorem nat_mul_rat (a b : Nat) : (((a * b : Nat) : Int) : Rat) = ((a : Int) : Rat) * ((b : Int) : Rat) := by rw [Int.natCast_mul, Rat.intCast_mul]
theorem nat_rat_le {a b : Nat} (h : a ≤ b) : ((a : Int) : Rat) ≤ ((b : Int) : Rat) := Rat.intCast_le_intCast.mpr (by omega)
theorem nat_rat_nn (a : Nat) : (0 : Rat) ≤ ((a : Int) : Rat) := by
  have := Rat.intCast_le_intCast (a := 0) (b := (a : Int)) |>.mpr (by omega)
  simpa using this
/-- q has the bottom E, and is of 0 to M -/
structure Bq (E M : Nat) (q : Rat) : Prop where
  iq : Iq E q
  lo : 0 ≤ q
  hi : q ≤ ((M : Int) : Rat)
section
variable {E F M N : Nat} {p q : Rat}
theorem Bq.sz {b : Nat} (h : Bq E M q) (h0 : 0 < E) (hb : (M + 1) * E < 2 ^ b) : Sz b q := h.iq.sz h0 hb (Nat.succ_pos _) h.lo (Rat.le_trans h.hi (nat_rat_le (Nat.le_succ _)))
theorem Iq.neg (x : Iq E q) : Iq E (-q) := by
  obtain ⟨m, rfl⟩ := x
  exact ⟨-m, by rw [Rat.neg_divInt]⟩
theorem Iq.sub (x : Iq E p) (y : Iq E q) : Iq E (p - q) := by
  rw [Rat.sub_eq_add_neg]
  exact x.add y.neg
theorem Bq.mul (h : Bq E M p) (k : Bq F N q) : Bq (E * F) (M * N) (p * q) := ⟨h.iq.mul k.iq, Rat.mul_nonneg h.lo k.lo, by
  rw [nat_mul_rat]
  exact Rat.le_trans (Rat.mul_le_mul_of_nonneg_right h.hi k.lo) (Rat.mul_le_mul_of_nonneg_left k.hi (nat_rat_nn M))⟩
theorem Bq.add (h : Bq E M p) (k : Bq E N q) : Bq E (M + N) (p + q) := ⟨h.iq.add k.iq, Rat.add_nonneg h.lo k.lo, by
  rw [nat_rat]
  exact rat_add_le h.hi k.hi⟩
theorem Bq.up (h : Bq E M q) (d : E ∣ F) (h0 : 0 < F) (l : M ≤ N) : Bq F N q := ⟨h.iq.up d h0, h.lo, Rat.le_trans h.hi (nat_rat_le l)⟩
theorem Bq.sub (h : Bq E M p) (k : Bq E N q) (l : q ≤ p) : Bq E M (p - q) := ⟨h.iq.sub k.iq, by grind, by
  have h1 := h.hi
  have h2 := k.lo
  grind⟩
theorem Bq.one' (h0 : 0 < E) : Bq E 1 1 := ⟨Iq.one.up (Nat.one_dvd _) h0, by decide +kernel, by decide +kernel⟩
theorem Bq.zero' (h0 : 0 < E) (M : Nat) : Bq E M 0 := ⟨Iq.zero.up (Nat.one_dvd _) h0, Rat.le_refl, nat_rat_nn M⟩
theorem Bq.rest (h0 : 0 < E) (h : Bq E 1 q) : Bq E 1 (1 - q) := (Bq.one' h0).sub h h.hi
theorem Bq.int {v : Int} (h0 : 0 ≤ v) (h1 : v ≤ (M : Int)) : Bq 1 M (v : Rat) := ⟨⟨v, (Rat.num_divInt_den (v : Rat)).symm⟩, by
  have := Rat.intCast_le_intCast (a := 0) (b := v) |>.mpr h0
  simpa using this, Rat.intCast_le_intCast.mpr h1⟩
theorem Bq.in1 (h : Bq E 1 q) : In1 q := ⟨h.lo, h.hi⟩
theorem Bq.of1 (x : Iq E q) (h : In1 q) : Bq E 1 q := ⟨x, h.1, h.2⟩
theorem Bq.mx (h : Bq E M p) (k : Bq E N q) : Bq E (max M N) (mxq p q) := by
  unfold mxq
  split
  · exact ⟨k.iq, k.lo, Rat.le_trans k.hi (nat_rat_le (Nat.le_max_right _ _))⟩
  · exact ⟨h.iq, h.lo, Rat.le_trans h.hi (nat_rat_le (Nat.le_max_left _ _))⟩
end
theorem mxq_ge (p q : Rat) : p ≤ mxq p q ∧ q ≤ mxq p q := by
  unfold mxq
  split
  · rename_i z
    exact ⟨Rat.le_of_lt z, Rat.le_refl⟩
  · rename_i z
    exact ⟨Rat.le_refl, Rat.not_lt.mp z⟩
theorem mxq_or (p q : Rat) : mxq p q = p ∨ mxq p q = q := by
  unfold mxq
  split
  · exact .inr rfl
  · exact .inl rfl
theorem mxq_le {p q r : Rat} (h1 : p ≤ r) (h2 : q ≤ r) : mxq p q ≤ r := by
  rcases mxq_or p q with e | e
  · rw [e]; exact h1
  · rw [e]; exact h2
/-! ### sums -/
def sm : List Rat → Rat
  | [] => 0
  | x :: xs => x + sm xs
theorem sm_app : ∀ xs ys : List Rat, sm (xs ++ ys) = sm xs + sm ys
  | [], ys => by show sm ys = 0 + sm ys; grind
  | x :: xs, ys => by
    show x + sm (xs ++ ys) = x + sm xs + sm ys
    rw [sm_app]
    grind
theorem sm_bq {E M : Nat} (h0 : 0 < E) : ∀ {xs : List Rat}, (∀ x ∈ xs, Bq E M x) → Bq E (xs.length * M) (sm xs)
  | [], _ => Bq.zero' h0 _
  | x :: xs, h => by
    have z := (h x List.mem_cons_self).add (sm_bq h0 fun y hy => h y (List.mem_cons_of_mem _ hy))
    have e : (x :: xs).length * M = M + xs.length * M := by rw [List.length_cons, Nat.succ_mul, Nat.add_comm]
    rw [e]
    exact z
section
variable {α : Type}
theorem sm_map_le {f g : α → Rat} : ∀ {xs : List α}, (∀ x ∈ xs, f x ≤ g x) → sm (xs.map f) ≤ sm (xs.map g)
  | [], _ => Rat.le_refl
  | x :: xs, h => rat_add_le (h x List.mem_cons_self) (sm_map_le fun y hy => h y (List.mem_cons_of_mem _ hy))
end
/-! ### the law's own fractions -/
section
variable {p q : Rat} {a b : Nat} (hp : Sz a p) (hq : Sz b q) (hab : a + b ≤ 8000)
include hp hq hab
theorem lless_eq (h : Hs) : m__law_less [fr p, fr q] h = .ok (.bl (decide (p < q))) h := lbelow_eq hp hq hab h
end
end Pl

/-! Plain laws, deals 2: loops in general; offers; means, sums of shares. -/
namespace Pl
open Dl Sh
local instance : Dl.Tb := ⟨fun _ => []⟩

/-! ### loops -/
theorem for_of {ci : Env → M ItD} {p : Pat} {body : SM} {ρ : Env} {h h1 : Hs} {xs : List D} (e : ci ρ h = .ok ⟨xs, []⟩ h1) : sFor ci p body ρ h = loopF p body [] xs ρ h1 := by
  rw [q_sFor, e]
  rfl
theorem seq_it {ce : Env → M D} {ρ : Env} {h h1 : Hs} {x : D} {xs : List D} (e : ce ρ h = .ok x h1) (hx : x = .tup xs ∨ x = .lst xs) : iSeq ce ρ h = .ok ⟨xs, []⟩ h1 := by
  rw [q_iSeq, e]
  rcases hx with z | z <;> rw [z] <;> rfl
/-! ### offers -/
abbrev Offer := List (Int × Rat)
def pairD (p : Int × Rat) : D := .tup [.int p.1, fr p.2]
def offD (o : Offer) : D := .tup (o.map pairD)
def dealD (os : List Offer) : D := .tup (os.map offD)
def Do (o : Offer) : Nat := Dd (o.map (·.2))
theorem Dd_mem {c : Rat} : ∀ {cs : List Rat}, c ∈ cs → c.den ∣ Dd cs
  | [], h => by simp at h
  | x :: xs, h => by
    rcases List.mem_cons.mp h with e | e
    · rw [e]; exact Nat.dvd_mul_right _ _
    · exact Nat.dvd_trans (Dd_mem e) (Nat.dvd_mul_left _ _)
/-- an offer as it may be handed in, of a size -/
structure Ofr (o : Offer) : Prop where
  l1 : 1 ≤ o.length
  l5 : o.length ≤ 5
  val : ∀ p ∈ o, 0 ≤ p.1 ∧ p.1 ≤ 1000
  sh : ∀ p ∈ o, 0 < p.2 ∧ p.2 ≤ 1
  up : (o.map (·.1)).Pairwise (· < ·)
  one : sm (o.map (·.2)) = 1
  dn : Do o < 2 ^ 60
structure Dl8 (os : List Offer) : Prop where
  l1 : 1 ≤ os.length
  l8 : os.length ≤ 8
  ofr : ∀ o ∈ os, Ofr o
/-- pairs of a bottom -/
structure Prs (E : Nat) (g : Offer) : Prop where
  e0 : 0 < E
  len : g.length ≤ 5
  val : ∀ p ∈ g, 0 ≤ p.1 ∧ p.1 ≤ 1000
  sh : ∀ p ∈ g, Bq E 1 p.2
theorem Ofr.prs {o : Offer} (h : Ofr o) : Prs (Do o) o := ⟨Dd_pos _, h.l5, h.val, fun p hp => Bq.of1 ((Iq.self p.2).up (Dd_mem (List.mem_map.mpr ⟨p, hp, rfl⟩)) (Dd_pos _)) ⟨Rat.le_of_lt (h.sh p hp).1, (h.sh p hp).2⟩⟩
theorem Prs.filter {E : Nat} {g : Offer} (k : Prs E g) (t : Int × Rat → Bool) : Prs E (g.filter t) := ⟨k.e0, Nat.le_trans (List.length_filter_le _ _) k.len, fun p hp => k.val p (List.mem_filter.mp hp).1, fun p hp => k.sh p (List.mem_filter.mp hp).1⟩
def ss (g : Offer) : Rat := sm (g.map (·.2))
section
variable {E : Nat} {g : Offer} (k : Prs E g) {h : Hs}
include k
theorem Prs.ss : Bq E 5 (ss g) := by
  have z := sm_bq (E := E) (M := 1) k.e0 (xs := g.map (·.2)) fun x hx => by
    obtain ⟨p, hp, rfl⟩ := List.mem_map.mp hx
    exact k.sh p hp
  exact z.up (Nat.dvd_refl _) k.e0 (by rw [List.length_map]; have := k.len; omega)
end
/-- a bound that is enough -/
theorem Bq.s {E M : Nat} {q : Rat} (h : Bq E M q) (h0 : 0 < E) (hE : E < 2 ^ 1500) (hM : M < 2 ^ 60) : Sz 2000 q := h.sz h0 (by
  have e : (2 : Nat) ^ 1560 = 2 ^ 60 * 2 ^ 1500 := by rw [← Nat.pow_add]
  have l : (M + 1) * E ≤ 2 ^ 60 * E := Nat.mul_le_mul_right _ hM
  have l2 : 2 ^ 60 * E < 2 ^ 60 * 2 ^ 1500 := Nat.mul_lt_mul_of_pos_left hE (Nat.pow_pos (by decide))
  have l3 : (2 : Nat) ^ 1560 ≤ 2 ^ 2000 := Nat.pow_le_pow_right (by decide) (by decide)
  omega)
/-! ### an offer is one -/
/-! ### a Deal object -/
def DealAt (h : Hs) (i : Nat) (os : List Offer) : Prop := ∃ fs, h[i]? = some (.ins "Deal" fs) ∧ fs.lookup ("offers" : PySem.Str) = some (dealD os)
theorem DealAt.app {h l : Hs} {i : Nat} {os : List Offer} (t : DealAt h i os) : DealAt (h ++ l) i os := by
  obtain ⟨fs, h1, h2⟩ := t
  exact ⟨fs, getl h1, h2⟩
theorem DealAt.gb {b : Nat} {h h' : Hs} {i : Nat} {os : List Offer} (t : DealAt h i os) (g : Gb b h h') (hi : b ≤ i) : DealAt h' i os := by
  obtain ⟨fs, h1, h2⟩ := t
  exact ⟨fs, g.at hi h1, h2⟩
end Pl

/-! Plain laws, deals 3: worths, one floor. -/
namespace Pl
open Dl Sh
local instance : Dl.Tb := ⟨fun _ => []⟩

/-! ### means -/
def ex (o : Offer) (f : Int → Rat) : Rat := sm (o.map fun p => p.2 * f p.1)
section
variable {o : Offer} (k : Ofr o) {f g : Int → Rat}
include k
theorem ex_mono (h : ∀ p ∈ o, f p.1 ≤ g p.1) : ex o f ≤ ex o g := sm_map_le fun p hp => Rat.mul_le_mul_of_nonneg_left (h p hp) (Rat.le_of_lt (k.sh p hp).1)
end
/-! ### the worths -/
def wf (o : Offer) (x : Rat) : Rat := ex o fun v => mxq (v : Rat) x
def w : List Offer → Rat
  | [] => 0
  | o :: os => wf o (w os)
def ws : List Offer → List Rat
  | [] => [0]
  | o :: os => w (o :: os) :: ws os
theorem item_last {h : Hs} {n : Nat} {xs : List D} {d : D} (e : h[n]? = some (.lst (xs ++ [d]))) : itemD (.obj n) (.int (-1)) h = .ok d h := by
  have z : L2.atI (xs ++ [d]) (-1) = some d := by
    unfold L2.atI L2.ixN
    rw [if_neg (by decide), if_pos (by rw [List.length_append, List.length_singleton]; omega), Option.bind_some]
    have e : ((-1 : Int) + ((xs ++ [d]).length : Nat)).toNat = xs.length := by rw [List.length_append, List.length_singleton]; omega
    rw [e]
    simp
  have s : seqOf h (.obj n) = some (xs ++ [d]) := items_obj e
  show (match seqOf h (.obj n) with
    | some xs => (match L2.atI xs (-1) with
        | some d => Dl.R.ok d h
        | none => .bad)
    | none => _) = _
  rw [s]
  show (match L2.atI (xs ++ [d]) (-1) with
        | some d => Dl.R.ok d h
        | none => .bad) = _
  rw [z]
end Pl

/-! Plain laws, deals 4: one floor; what no offer exceeds; all values; the mean of the greatest; the best floor. -/
namespace Pl
open Dl Sh
local instance : Dl.Tb := ⟨fun _ => []⟩

/-! ### one floor -/
/-! ### no offer has more than a value -/
def leq (v : Int) (p : Int × Rat) : Bool := decide (p.1 ≤ v)
def nm : List Offer → Int → Rat
  | [], _ => 1
  | o :: os, v => ss (o.filter (leq v)) * nm os v
/-! ### all values -/
def kv (ks : List Int) : List (L2.Key × D) := ks.map fun k => (.inl k, .bl true)
theorem insU_len {x : Int} : ∀ {ys : List Int}, (insU x ys).length ≤ ys.length + 1
  | [] => Nat.le_refl _
  | y :: ys => by
    unfold insU
    split
    · simp
    · split
      · simp
      · rw [List.length_cons, List.length_cons]
        exact Nat.succ_le_succ insU_len
theorem usort_len : ∀ xs : List Int, (usort xs).length ≤ xs.length
  | [] => Nat.le_refl _
  | x :: xs => Nat.le_trans insU_len (Nat.succ_le_succ (usort_len xs))
end Pl

/-! Plain laws, deals 5: the mean of the greatest; the best floor; the law's own ways. -/
namespace Pl
open Dl Sh
local instance : Dl.Tb := ⟨fun _ => []⟩

/-- of a bottom, and of a size to both sides -/
structure Bz (E M : Nat) (q : Rat) : Prop where
  iq : Iq E q
  lo : -((M : Int) : Rat) ≤ q
  hi : q ≤ ((M : Int) : Rat)
section
variable {E M N : Nat} {p q : Rat}
theorem Sz.neg {b : Nat} (h : Sz b (-q)) : Sz b q := by
  obtain ⟨h1, h2⟩ := h
  rw [Rat.neg_num, Int.natAbs_neg] at h1
  rw [Rat.neg_den] at h2
  exact ⟨h1, h2⟩
theorem Bz.s (h : Bz E M q) (h0 : 0 < E) (hE : E < 2 ^ 1500) (hM : M < 2 ^ 60) : Sz 2000 q := by
  rcases Rat.le_total (a := 0) (b := q) with z | z
  · exact (Bq.mk h.iq z h.hi).s h0 hE hM
  · refine Sz.neg ((Bq.mk (M := M) h.iq.neg (by grind) ?_).s h0 hE hM)
    have := h.lo
    grind
theorem Bq.z (h : Bq E M q) : Bz E M q := ⟨h.iq, by
  have := h.lo
  have := nat_rat_nn M
  grind, h.hi⟩
theorem Bz.add (h : Bz E M p) (k : Bz E N q) : Bz E (M + N) (p + q) := ⟨h.iq.add k.iq, by
  have := h.lo
  have := k.lo
  rw [nat_rat]
  grind, by
  have := h.hi
  have := k.hi
  rw [nat_rat]
  grind⟩
theorem Bz.sub (h : Bz E M p) (k : Bz E N q) : Bz E (M + N) (p - q) := ⟨h.iq.sub k.iq, by
  have := h.lo
  have := k.hi
  rw [nat_rat]
  grind, by
  have := h.hi
  have := k.lo
  rw [nat_rat]
  grind⟩
theorem Bz.up (h : Bz E M q) (l : M ≤ N) : Bz E N q := ⟨h.iq, by
  have := h.lo
  have := nat_rat_le l
  grind, Rat.le_trans h.hi (nat_rat_le l)⟩
end
/-! ### the mean of the greatest -/
/-! ### the best floor -/
end Pl

/-! Plain laws, deals 6: the second hand: offers, deals that are drawn; equal things. -/
namespace Pl
open Dl Sh
local instance : Dl.Tb := ⟨fun _ => []⟩

def e3b : Env → M D := e2 addD (e2 addD (e2 mulD (e2 itemD (eV 0) (eC (.int 3))) (eC (.int 69621))) (eV 2)) (eC (.int 29))
theorem hand_b : Dr m__law_draw_v3 (.obj 0) 1 Hd := by
  have z : Dr (mDef 5 (cHand e3b)) (.obj 0) 1 Hd := hand_dr fun h l z n p s c a b d e s0 s1 c0 cb => by
    have i3 : itemD (.obj 0) (.int 3) h = .ok (.int s) h := item_obj (i := 3) e rfl
    have m : okMul s 69621 = true := okMul_small (small_lt (by omega)) (by decide +kernel)
    refine ⟨s * 69621 + c + 29, ?_⟩
    unfold e3b
    simp only [eV0, eVs, bind_ok', then_ok, q_e2, q_e1, q_eC, q_aC, q_aN, q_sPar2, q_sPar3, q_sSet, q_sRet, q_eBf, q_nBf, q_eCall, q_tst, q_tru, q_ifV, q_sIf, q_eTup, q_sPass, q_sExp, q_eLm, q_nLst, q_frz, q_thaw, q_iSeq, q_iR2, q_iR3, q_iEnumD, q_iZip, q_andX, q_andT, q_orT, q_notT, q_eCh, q_sPat, q_eSl, q_nSl, q_pS, q_pN, q_sRetN, q_tYes, q_eDct0, okL0, okL1, okL2, okL3, okL4, okL5, okL6, ent, List.map_cons, List.map_nil, List.length_cons, List.length_nil, List.set_cons_zero, List.set_cons_succ, List.replicate, List.cons_append, List.nil_append, Nat.reduceAdd, Nat.reduceSub, Nat.sub_self, Nat.sub_zero, zero_add', ↓reduceIte, Bool.false_eq_true, item0, item1, addD_ii, subD_ii, negD_i, absD_i, ltD_ii, leD_ii, gtD_ii, geD_ii, truD_bl, decide_true, decide_false, i3, mulD_ii m]
  exact z
theorem hand_spec2 {ns : List Int} {Q : D → Hs → Prop} (hl : ns.length ≤ 63) (hb : ∀ z ∈ ns, PySem.Builtin.Int.intBits z ≤ 1048576) (k : ∀ h, Hd h 0 → h.length = 1 → Q (.obj 0) h) : Wp (m__law_hand_v2 [.scr ns] []) Q := by
  unfold m__law_hand_v2 c__law_hand_v2
  have e1 : ent 3 [D.scr ns] = [some (.scr ns), none, none] := rfl
  have s63 : ∀ ρ : Env, eSl (eV 0) pN (pS (eC (.int 63))) (some (.scr ns) :: ρ) [] = .ok (.lst ((ns.take 63).map D.int)) [] := fun ρ => by
    have z : sliceD (.scr ns) none (some 63) [] = .ok (.lst ((ns.take 63).map D.int)) [] := slD_scr_to (m := 63)
    simp only [eV0, eVs, bind_ok', then_ok, q_e2, q_e1, q_eC, q_aC, q_aN, q_sPar2, q_sPar3, q_sSet, q_sRet, q_eBf, q_nBf, q_eCall, q_tst, q_tru, q_ifV, q_sIf, q_eTup, q_sPass, q_sExp, q_eLm, q_nLst, q_frz, q_thaw, q_iSeq, q_iR2, q_iR3, q_iEnumD, q_iZip, q_andX, q_andT, q_orT, q_notT, q_eCh, q_sPat, q_eSl, q_nSl, q_pS, q_pN, q_sRetN, q_tYes, q_eDct0, okL0, okL1, okL2, okL3, okL4, okL5, okL6, ent, List.map_cons, List.map_nil, List.length_cons, List.length_nil, List.set_cons_zero, List.set_cons_succ, List.replicate, List.cons_append, List.nil_append, Nat.reduceAdd, Nat.reduceSub, Nat.sub_self, Nat.sub_zero, zero_add', ↓reduceIte, Bool.false_eq_true, item0, item1, addD_ii, subD_ii, negD_i, absD_i, ltD_ii, leD_ii, gtD_ii, geD_ii, truD_bl, decide_true, decide_false, z]
  have c := compM (α := Int) (ci := iSeq (eSl (eV 0) pN (pS (eC (.int 63))))) (p := .nm 2) (own := [2]) (ce := eBf absD (aC (eBf intD (aC (eV 2) aN)) aN)) (ρ := [some (.scr ns), none, none]) (h := []) (xs := ns.take 63) (g := D.int) (f := fun i => .int i.natAbs)
    (seq_lst (s63 _)) (by rw [List.length_take]; omega) fun i hi => ⟨_, rfl, by simp only [wipeD, eV0, eVs, bind_ok', then_ok, q_e2, q_e1, q_eC, q_aC, q_aN, q_sPar2, q_sPar3, q_sSet, q_sRet, q_eBf, q_nBf, q_eCall, q_tst, q_tru, q_ifV, q_sIf, q_eTup, q_sPass, q_sExp, q_eLm, q_nLst, q_frz, q_thaw, q_iSeq, q_iR2, q_iR3, q_iEnumD, q_iZip, q_andX, q_andT, q_orT, q_notT, q_eCh, q_sPat, q_eSl, q_nSl, q_pS, q_pN, q_sRetN, q_tYes, q_eDct0, okL0, okL1, okL2, okL3, okL4, okL5, okL6, ent, List.map_cons, List.map_nil, List.length_cons, List.length_nil, List.set_cons_zero, List.set_cons_succ, List.replicate, List.cons_append, List.nil_append, Nat.reduceAdd, Nat.reduceSub, Nat.sub_self, Nat.sub_zero, zero_add', ↓reduceIte, Bool.false_eq_true, item0, item1, addD_ii, subD_ii, negD_i, absD_i, ltD_ii, leD_ii, gtD_ii, geD_ii, truD_bl, decide_true, decide_false, intD_i]⟩
  have m37 : okMul 37 (((ns.take 63).length : Nat) : Int) = true := okMul_small (by decide +kernel) (small_lt (by rw [List.length_take]; omega))
  rw [wp_def, e1]
  simp only [eV0, eVs, bind_ok', then_ok, q_e2, q_e1, q_eC, q_aC, q_aN, q_sPar2, q_sPar3, q_sSet, q_sRet, q_eBf, q_nBf, q_eCall, q_tst, q_tru, q_ifV, q_sIf, q_eTup, q_sPass, q_sExp, q_eLm, q_nLst, q_frz, q_thaw, q_iSeq, q_iR2, q_iR3, q_iEnumD, q_iZip, q_andX, q_andT, q_orT, q_notT, q_eCh, q_sPat, q_eSl, q_nSl, q_pS, q_pN, q_sRetN, q_tYes, q_eDct0, okL0, okL1, okL2, okL3, okL4, okL5, okL6, ent, List.map_cons, List.map_nil, List.length_cons, List.length_nil, List.set_cons_zero, List.set_cons_succ, List.replicate, List.cons_append, List.nil_append, Nat.reduceAdd, Nat.reduceSub, Nat.sub_self, Nat.sub_zero, zero_add', ↓reduceIte, Bool.false_eq_true, item0, item1, addD_ii, subD_ii, negD_i, absD_i, ltD_ii, leD_ii, gtD_ii, geD_ii, truD_bl, decide_true, decide_false, wp_ok, wp_bad, wp_bind, wp_nox, wp_def, wps_then, wps_seq, wps_nx, wps_ret, wp_ite, wps_ite, c, lenD_lst, List.length_map, mulD_ii m37]
  refine k _ ⟨(ns.take 63).map fun i => (i.natAbs : Int), 0, 0, 251 + 37 * ((ns.take 63).length : Int), 0, ?_, ?_, Int.le_refl _, by omega, ?_, Int.le_refl _, Int.le_refl _⟩ rfl
  · rw [List.map_map]
    rfl
  · intro c hc
    obtain ⟨i, hi, rfl⟩ := List.mem_map.mp hc
    exact ⟨Int.natCast_nonneg _, by rw [intBits_abs]; exact hb i (List.mem_of_mem_take hi)⟩
  · rw [List.length_take]
    omega
/-! ### an offer that is drawn -/
/-! ### equal things -/
theorem neD_bb {a b : Bool} {h : Hs} : neD (.bl a) (.bl b) h = .ok (.bl (a != b)) h := by cases a <;> cases b <;> rfl
theorem eqD_bb {a b : Bool} {h : Hs} : eqD (.bl a) (.bl b) h = .ok (.bl (a == b)) h := by cases a <;> cases b <;> rfl
theorem zipD_self : ∀ xs : List D, zipD xs xs = xs.map fun x => .tup [x, x]
  | [] => rfl
  | x :: xs => by
    show .tup [x, x] :: zipD xs xs = _
    rw [zipD_self xs]
    rfl
/-- ints, tuples and lists of such, short -/
inductive Lw : Nat → D → Prop
  | int {n : Nat} (i : Int) : Lw n (.int i)
  | tup {n : Nat} {xs : List D} : xs.length ≤ 1000 → (∀ x ∈ xs, Lw n x) → Lw (n + 1) (.tup xs)
  | lst {n : Nat} {xs : List D} : xs.length ≤ 1000 → (∀ x ∈ xs, Lw n x) → Lw (n + 1) (.lst xs)
theorem is_refl {n : Nat} {x : D} (f : Lw n x) : ∀ {m : Nat} {h : Hs}, n < m → r__law_is m [x, x] h = .ok (.bl true) h := by
  induction f with
  | @int n i =>
    intro m h hm
    obtain ⟨m, rfl⟩ : ∃ k, m = k + 1 := ⟨m - 1, by omega⟩
    refine mdef_ret (h' := h) ?_
    unfold c__law_is
    have en : ent 5 [D.int i, .int i] = [some (.int i), some (.int i), none, none, none] := rfl
    have i1 : isiD [] [.int i, .ty "bool"] h = .ok (.bl false) h := rfl
    have i2 : isiD [] [.int i, .ty "tuple"] h = .ok (.bl false) h := rfl
    have i3 : isiD [] [.int i, .ty "list"] h = .ok (.bl false) h := rfl
    have i4 : isiD [] [.int i, .ty "dict"] h = .ok (.bl false) h := rfl
    have i5 : isiD [] [.int i, .ty "int"] h = .ok (.bl true) h := rfl
    rw [en, seq_nx (ρ1 := [some (.int i), some (.int i), none, none, none]) (h1 := h) (by simp only [eV0, eVs, bind_ok', then_ok, q_e2, q_e1, q_eC, q_aC, q_aN, q_sPar2, q_sPar3, q_sSet, q_sRet, q_eBf, q_nBf, q_eCall, q_tst, q_tru, q_ifV, q_sIf, q_eTup, q_sPass, q_sExp, q_eLm, q_nLst, q_frz, q_thaw, q_iSeq, q_iR2, q_iR3, q_iEnumD, q_iZip, q_andX, q_andT, q_orT, q_notT, q_eCh, q_sPat, q_eSl, q_nSl, q_pS, q_pN, q_sRetN, q_tYes, q_eDct0, okL0, okL1, okL2, okL3, okL4, okL5, okL6, ent, List.map_cons, List.map_nil, List.length_cons, List.length_nil, List.set_cons_zero, List.set_cons_succ, List.replicate, List.cons_append, List.nil_append, Nat.reduceAdd, Nat.reduceSub, Nat.sub_self, Nat.sub_zero, zero_add', ↓reduceIte, Bool.false_eq_true, item0, item1, addD_ii, subD_ii, negD_i, absD_i, ltD_ii, leD_ii, gtD_ii, geD_ii, truD_bl, decide_true, decide_false, i1]), seq_nx (ρ1 := [some (.int i), some (.int i), none, none, none]) (h1 := h) (by simp only [eV0, eVs, bind_ok', then_ok, q_e2, q_e1, q_eC, q_aC, q_aN, q_sPar2, q_sPar3, q_sSet, q_sRet, q_eBf, q_nBf, q_eCall, q_tst, q_tru, q_ifV, q_sIf, q_eTup, q_sPass, q_sExp, q_eLm, q_nLst, q_frz, q_thaw, q_iSeq, q_iR2, q_iR3, q_iEnumD, q_iZip, q_andX, q_andT, q_orT, q_notT, q_eCh, q_sPat, q_eSl, q_nSl, q_pS, q_pN, q_sRetN, q_tYes, q_eDct0, okL0, okL1, okL2, okL3, okL4, okL5, okL6, ent, List.map_cons, List.map_nil, List.length_cons, List.length_nil, List.set_cons_zero, List.set_cons_succ, List.replicate, List.cons_append, List.nil_append, Nat.reduceAdd, Nat.reduceSub, Nat.sub_self, Nat.sub_zero, zero_add', ↓reduceIte, Bool.false_eq_true, item0, item1, addD_ii, subD_ii, negD_i, absD_i, ltD_ii, leD_ii, gtD_ii, geD_ii, truD_bl, decide_true, decide_false, i2, i3]), seq_nx (ρ1 := [some (.int i), some (.int i), none, none, none]) (h1 := h) (by simp only [eV0, eVs, bind_ok', then_ok, q_e2, q_e1, q_eC, q_aC, q_aN, q_sPar2, q_sPar3, q_sSet, q_sRet, q_eBf, q_nBf, q_eCall, q_tst, q_tru, q_ifV, q_sIf, q_eTup, q_sPass, q_sExp, q_eLm, q_nLst, q_frz, q_thaw, q_iSeq, q_iR2, q_iR3, q_iEnumD, q_iZip, q_andX, q_andT, q_orT, q_notT, q_eCh, q_sPat, q_eSl, q_nSl, q_pS, q_pN, q_sRetN, q_tYes, q_eDct0, okL0, okL1, okL2, okL3, okL4, okL5, okL6, ent, List.map_cons, List.map_nil, List.length_cons, List.length_nil, List.set_cons_zero, List.set_cons_succ, List.replicate, List.cons_append, List.nil_append, Nat.reduceAdd, Nat.reduceSub, Nat.sub_self, Nat.sub_zero, zero_add', ↓reduceIte, Bool.false_eq_true, item0, item1, addD_ii, subD_ii, negD_i, absD_i, ltD_ii, leD_ii, gtD_ii, geD_ii, truD_bl, decide_true, decide_false, i4])]
    simp only [eV0, eVs, bind_ok', then_ok, q_e2, q_e1, q_eC, q_aC, q_aN, q_sPar2, q_sPar3, q_sSet, q_sRet, q_eBf, q_nBf, q_eCall, q_tst, q_tru, q_ifV, q_sIf, q_eTup, q_sPass, q_sExp, q_eLm, q_nLst, q_frz, q_thaw, q_iSeq, q_iR2, q_iR3, q_iEnumD, q_iZip, q_andX, q_andT, q_orT, q_notT, q_eCh, q_sPat, q_eSl, q_nSl, q_pS, q_pN, q_sRetN, q_tYes, q_eDct0, okL0, okL1, okL2, okL3, okL4, okL5, okL6, ent, List.map_cons, List.map_nil, List.length_cons, List.length_nil, List.set_cons_zero, List.set_cons_succ, List.replicate, List.cons_append, List.nil_append, Nat.reduceAdd, Nat.reduceSub, Nat.sub_self, Nat.sub_zero, zero_add', ↓reduceIte, Bool.false_eq_true, item0, item1, addD_ii, subD_ii, negD_i, absD_i, ltD_ii, leD_ii, gtD_ii, geD_ii, truD_bl, decide_true, decide_false, i5, eqD_bb, eqD_ii, beq_self_eq_true]
  | @tup n xs l _ ih =>
    intro m h hm
    obtain ⟨m, rfl⟩ : ∃ k, m = k + 1 := ⟨m - 1, by omega⟩
    refine eq_of_wp ?_
    show Wp (mDef 5 (c__law_is (r__law_is m)) [.tup xs, .tup xs] h) _
    unfold c__law_is
    have en : ent 5 [D.tup xs, .tup xs] = [some (.tup xs), some (.tup xs), none, none, none] := rfl
    have i1 : isiD [] [.tup xs, .ty "bool"] h = .ok (.bl false) h := rfl
    have i2 : isiD [] [.tup xs, .ty "tuple"] h = .ok (.bl true) h := rfl
    have i3 : isiD [] [.tup xs, .ty "list"] h = .ok (.bl false) h := rfl
    have zi : iZip (aC (eV 0) (aC (eV 1) aN)) [some (.tup xs), some (.tup xs), none, none, none] h = .ok ⟨xs.map fun x => .tup [x, x], []⟩ h := by
      rw [← zipD_self]
      simp only [eV0, eVs, bind_ok', then_ok, q_e2, q_e1, q_eC, q_aC, q_aN, q_sPar2, q_sPar3, q_sSet, q_sRet, q_eBf, q_nBf, q_eCall, q_tst, q_tru, q_ifV, q_sIf, q_eTup, q_sPass, q_sExp, q_eLm, q_nLst, q_frz, q_thaw, q_iSeq, q_iR2, q_iR3, q_iEnumD, q_iZip, q_andX, q_andT, q_orT, q_notT, q_eCh, q_sPat, q_eSl, q_nSl, q_pS, q_pN, q_sRetN, q_tYes, q_eDct0, okL0, okL1, okL2, okL3, okL4, okL5, okL6, ent, List.map_cons, List.map_nil, List.length_cons, List.length_nil, List.set_cons_zero, List.set_cons_succ, List.replicate, List.cons_append, List.nil_append, Nat.reduceAdd, Nat.reduceSub, Nat.sub_self, Nat.sub_zero, zero_add', ↓reduceIte, Bool.false_eq_true, item0, item1, addD_ii, subD_ii, negD_i, absD_i, ltD_ii, leD_ii, gtD_ii, geD_ii, truD_bl, decide_true, decide_false]
      rfl
    have c := compM (α := D) (ci := iZip (aC (eV 0) (aC (eV 1) aN))) (p := .tp [.nm 2, .nm 3]) (own := [2, 3]) (ce := eCall 2 (r__law_is m) (aC (eV 2) (aC (eV 3) aN))) (ρ := [some (.tup xs), some (.tup xs), none, none, none]) (h := h) (xs := xs) (g := fun x => .tup [x, x]) (f := fun _ => .bl true)
      zi (by omega) fun x hx => ⟨_, rfl, by simp only [wipeD, eV0, eVs, bind_ok', then_ok, q_e2, q_e1, q_eC, q_aC, q_aN, q_sPar2, q_sPar3, q_sSet, q_sRet, q_eBf, q_nBf, q_eCall, q_tst, q_tru, q_ifV, q_sIf, q_eTup, q_sPass, q_sExp, q_eLm, q_nLst, q_frz, q_thaw, q_iSeq, q_iR2, q_iR3, q_iEnumD, q_iZip, q_andX, q_andT, q_orT, q_notT, q_eCh, q_sPat, q_eSl, q_nSl, q_pS, q_pN, q_sRetN, q_tYes, q_eDct0, okL0, okL1, okL2, okL3, okL4, okL5, okL6, ent, List.map_cons, List.map_nil, List.length_cons, List.length_nil, List.set_cons_zero, List.set_cons_succ, List.replicate, List.cons_append, List.nil_append, Nat.reduceAdd, Nat.reduceSub, Nat.sub_self, Nat.sub_zero, zero_add', ↓reduceIte, Bool.false_eq_true, item0, item1, addD_ii, subD_ii, negD_i, absD_i, ltD_ii, leD_ii, gtD_ii, geD_ii, truD_bl, decide_true, decide_false, ih x hx (show n < m by omega)]⟩
    have a1 : allD [.lst (xs.map fun _ => D.bl true)] h = .ok (.bl true) h := by
      rw [allD_map (fun _ => true) xs h]
      simp
    rw [wp_def, en]
    simp only [eV0, eVs, bind_ok', then_ok, q_e2, q_e1, q_eC, q_aC, q_aN, q_sPar2, q_sPar3, q_sSet, q_sRet, q_eBf, q_nBf, q_eCall, q_tst, q_tru, q_ifV, q_sIf, q_eTup, q_sPass, q_sExp, q_eLm, q_nLst, q_frz, q_thaw, q_iSeq, q_iR2, q_iR3, q_iEnumD, q_iZip, q_andX, q_andT, q_orT, q_notT, q_eCh, q_sPat, q_eSl, q_nSl, q_pS, q_pN, q_sRetN, q_tYes, q_eDct0, okL0, okL1, okL2, okL3, okL4, okL5, okL6, ent, List.map_cons, List.map_nil, List.length_cons, List.length_nil, List.set_cons_zero, List.set_cons_succ, List.replicate, List.cons_append, List.nil_append, Nat.reduceAdd, Nat.reduceSub, Nat.sub_self, Nat.sub_zero, zero_add', ↓reduceIte, Bool.false_eq_true, item0, item1, addD_ii, subD_ii, negD_i, absD_i, ltD_ii, leD_ii, gtD_ii, geD_ii, truD_bl, decide_true, decide_false, wp_ok, wp_bad, wp_bind, wp_nox, wp_def, wps_then, wps_seq, wps_nx, wps_ret, wp_ite, wps_ite, i1, i2, i3, neD_bb, bne_self_eq_false, lenD_tup, eqD_ii, decide_true, c, a1, sPass]
    exact ⟨trivial, trivial⟩
  | @lst n xs l _ ih =>
    intro m h hm
    obtain ⟨m, rfl⟩ : ∃ k, m = k + 1 := ⟨m - 1, by omega⟩
    refine eq_of_wp ?_
    show Wp (mDef 5 (c__law_is (r__law_is m)) [.lst xs, .lst xs] h) _
    unfold c__law_is
    have en : ent 5 [D.lst xs, .lst xs] = [some (.lst xs), some (.lst xs), none, none, none] := rfl
    have i1 : isiD [] [.lst xs, .ty "bool"] h = .ok (.bl false) h := rfl
    have i2 : isiD [] [.lst xs, .ty "tuple"] h = .ok (.bl false) h := rfl
    have i3 : isiD [] [.lst xs, .ty "list"] h = .ok (.bl true) h := rfl
    have zi : iZip (aC (eV 0) (aC (eV 1) aN)) [some (.lst xs), some (.lst xs), none, none, none] h = .ok ⟨xs.map fun x => .tup [x, x], []⟩ h := by
      rw [← zipD_self]
      simp only [eV0, eVs, bind_ok', then_ok, q_e2, q_e1, q_eC, q_aC, q_aN, q_sPar2, q_sPar3, q_sSet, q_sRet, q_eBf, q_nBf, q_eCall, q_tst, q_tru, q_ifV, q_sIf, q_eTup, q_sPass, q_sExp, q_eLm, q_nLst, q_frz, q_thaw, q_iSeq, q_iR2, q_iR3, q_iEnumD, q_iZip, q_andX, q_andT, q_orT, q_notT, q_eCh, q_sPat, q_eSl, q_nSl, q_pS, q_pN, q_sRetN, q_tYes, q_eDct0, okL0, okL1, okL2, okL3, okL4, okL5, okL6, ent, List.map_cons, List.map_nil, List.length_cons, List.length_nil, List.set_cons_zero, List.set_cons_succ, List.replicate, List.cons_append, List.nil_append, Nat.reduceAdd, Nat.reduceSub, Nat.sub_self, Nat.sub_zero, zero_add', ↓reduceIte, Bool.false_eq_true, item0, item1, addD_ii, subD_ii, negD_i, absD_i, ltD_ii, leD_ii, gtD_ii, geD_ii, truD_bl, decide_true, decide_false]
      rfl
    have c := compM (α := D) (ci := iZip (aC (eV 0) (aC (eV 1) aN))) (p := .tp [.nm 2, .nm 3]) (own := [2, 3]) (ce := eCall 2 (r__law_is m) (aC (eV 2) (aC (eV 3) aN))) (ρ := [some (.lst xs), some (.lst xs), none, none, none]) (h := h) (xs := xs) (g := fun x => .tup [x, x]) (f := fun _ => .bl true)
      zi (by omega) fun x hx => ⟨_, rfl, by simp only [wipeD, eV0, eVs, bind_ok', then_ok, q_e2, q_e1, q_eC, q_aC, q_aN, q_sPar2, q_sPar3, q_sSet, q_sRet, q_eBf, q_nBf, q_eCall, q_tst, q_tru, q_ifV, q_sIf, q_eTup, q_sPass, q_sExp, q_eLm, q_nLst, q_frz, q_thaw, q_iSeq, q_iR2, q_iR3, q_iEnumD, q_iZip, q_andX, q_andT, q_orT, q_notT, q_eCh, q_sPat, q_eSl, q_nSl, q_pS, q_pN, q_sRetN, q_tYes, q_eDct0, okL0, okL1, okL2, okL3, okL4, okL5, okL6, ent, List.map_cons, List.map_nil, List.length_cons, List.length_nil, List.set_cons_zero, List.set_cons_succ, List.replicate, List.cons_append, List.nil_append, Nat.reduceAdd, Nat.reduceSub, Nat.sub_self, Nat.sub_zero, zero_add', ↓reduceIte, Bool.false_eq_true, item0, item1, addD_ii, subD_ii, negD_i, absD_i, ltD_ii, leD_ii, gtD_ii, geD_ii, truD_bl, decide_true, decide_false, ih x hx (show n < m by omega)]⟩
    have a1 : allD [.lst (xs.map fun _ => D.bl true)] h = .ok (.bl true) h := by
      rw [allD_map (fun _ => true) xs h]
      simp
    rw [wp_def, en]
    simp only [eV0, eVs, bind_ok', then_ok, q_e2, q_e1, q_eC, q_aC, q_aN, q_sPar2, q_sPar3, q_sSet, q_sRet, q_eBf, q_nBf, q_eCall, q_tst, q_tru, q_ifV, q_sIf, q_eTup, q_sPass, q_sExp, q_eLm, q_nLst, q_frz, q_thaw, q_iSeq, q_iR2, q_iR3, q_iEnumD, q_iZip, q_andX, q_andT, q_orT, q_notT, q_eCh, q_sPat, q_eSl, q_nSl, q_pS, q_pN, q_sRetN, q_tYes, q_eDct0, okL0, okL1, okL2, okL3, okL4, okL5, okL6, ent, List.map_cons, List.map_nil, List.length_cons, List.length_nil, List.set_cons_zero, List.set_cons_succ, List.replicate, List.cons_append, List.nil_append, Nat.reduceAdd, Nat.reduceSub, Nat.sub_self, Nat.sub_zero, zero_add', ↓reduceIte, Bool.false_eq_true, item0, item1, addD_ii, subD_ii, negD_i, absD_i, ltD_ii, leD_ii, gtD_ii, geD_ii, truD_bl, decide_true, decide_false, wp_ok, wp_bad, wp_bind, wp_nox, wp_def, wps_then, wps_seq, wps_nx, wps_ret, wp_ite, wps_ite, i1, i2, i3, neD_bb, bne_self_eq_false, lenD_lst, eqD_ii, decide_true, c, a1, sPass]
    exact ⟨trivial, trivial⟩
theorem lw_fr (q : Rat) : Lw 1 (fr q) := .tup (by simp) fun x hx => by
  rcases List.mem_cons.mp hx with e | hx
  · subst e; exact .int _
  · rw [List.mem_singleton.mp hx]; exact .int _
theorem is_fr {q : Rat} {h : Hs} : m__law_is [fr q, fr q] h = .ok (.bl true) h := is_refl (lw_fr q) (by decide)
end Pl

/-! Plain laws, deals 7: loops as wished; the law's own way by a floor; what is more. -/
namespace Pl
open Dl Sh
local instance : Dl.Tb := ⟨fun _ => []⟩

theorem wps_loop_st {α σ : Type} {p : Pat} {body : SM} {g : α → D} {N : Env → Hs → Prop} {T : D → Hs → Prop} (st : σ → Env → Hs → Prop) (step : σ → α → σ) (J : σ → List α → Prop)
    (k : ∀ s x xs ρ h, J s (x :: xs) → st s ρ h → ∃ ρ1, patD p (g x) ρ = some ρ1 ∧ WpS (body ρ1 h) (fun ρ2 h2 => st (step s x) ρ2 h2 ∧ J (step s x) xs) T) :
    ∀ (xs : List α) (s : σ) (ρ : Env) (h : Hs), J s xs → st s ρ h → (∀ ρ' h', st (xs.foldl step s) ρ' h' → J (xs.foldl step s) [] → N ρ' h') → WpS (loopF p body [] (xs.map g) ρ h) N T
  | [], s, ρ, h, j, e, fin => by
    rw [List.map_nil]
    unfold loopF
    exact fin ρ h e j
  | x :: xs, s, ρ, h, j, e, fin => by
    obtain ⟨ρ1, e1, w⟩ := k s x xs ρ h j e
    rw [List.map_cons]
    unfold loopF
    rw [if_pos okG_nil, e1]
    show WpS (match body ρ1 h with
      | .nx ρ2 h2 => loopF p body [] (xs.map g) ρ2 h2
      | .ct ρ2 h2 => loopF p body [] (xs.map g) ρ2 h2
      | .bk ρ2 h2 => .nx ρ2 h2
      | r => r) N T
    cases q : body ρ1 h with
    | nx ρ2 h2 =>
      rw [q] at w
      obtain ⟨w1, w2⟩ := w
      exact wps_loop_st st step J k xs (step s x) ρ2 h2 w2 w1 fin
    | ret d h2 => rw [q] at w; exact w
    | bk ρ2 h2 => rw [q] at w; exact w.elim
    | ct ρ2 h2 => rw [q] at w; exact w.elim
    | exc ρ2 C fs h2 => rw [q] at w; exact w.elim
    | bad => rw [q] at w; exact w.elim
theorem wps_for_st {α σ : Type} {ci : Env → M ItD} {p : Pat} {body : SM} {g : α → D} {ρ : Env} {h h1 : Hs} {N : Env → Hs → Prop} {T : D → Hs → Prop} {xs : List α} (e : ci ρ h = .ok ⟨xs.map g, []⟩ h1) (s : σ) (st : σ → Env → Hs → Prop) (step : σ → α → σ) (J : σ → List α → Prop) (j0 : J s xs) (s0 : st s ρ h1)
    (k : ∀ s x xs ρ h, J s (x :: xs) → st s ρ h → ∃ ρ1, patD p (g x) ρ = some ρ1 ∧ WpS (body ρ1 h) (fun ρ2 h2 => st (step s x) ρ2 h2 ∧ J (step s x) xs) T)
    (fin : ∀ ρ' h', st (xs.foldl step s) ρ' h' → J (xs.foldl step s) [] → N ρ' h') : WpS (sFor ci p body ρ h) N T := by
  rw [for_of e]
  exact wps_loop_st st step J k xs s ρ h1 j0 s0 fin
theorem wps_of {r : SR} {ρ : Env} {h : Hs} {N : Env → Hs → Prop} {T : D → Hs → Prop} (e : r = .nx ρ h) (n : N ρ h) : WpS r N T := by rw [e]; exact n
/-! ### by a floor, the law's own way -/
/-! ### no floor has more than the worth -/
end Pl

/-! Plain laws, deals 8: the mean of the greatest, over all that can come; the second fact. -/
namespace Pl
open Dl Sh
local instance : Dl.Tb := ⟨fun _ => []⟩

/-- the mean of the greatest of m and all values -/
def em : Int → List Offer → Rat
  | m, [] => (m : Rat)
  | m, o :: os => ex o fun v => em (max m v) os
theorem cast_le {a b : Int} (h : a ≤ b) : (a : Rat) ≤ (b : Rat) := Rat.intCast_le_intCast.mpr h
/-! ### it is the mean by values -/
/-! ### the second fact -/
def pos (x : Rat) : Rat := if 0 ≤ x then x else 0
/-! ### the best of all values as floors -/
end Pl

/-! Plain laws, deals 9: all rows of values. -/
namespace Pl
open Dl Sh
local instance : Dl.Tb := ⟨fun _ => []⟩

/-- as wps_for_st, over a list that may change and stays meanwhile -/
theorem wps_loop_gs {α σ : Type} {p : Pat} {body : SM} {g : α → D} {gs : List (Nat × List D)} {N : Env → Hs → Prop} {T : D → Hs → Prop} (st : σ → Env → Hs → Prop) (step : σ → α → σ) (J : σ → List α → Prop) (og : ∀ s ρ h, st s ρ h → okG gs h = true)
    (k : ∀ s x xs ρ h, J s (x :: xs) → st s ρ h → ∃ ρ1, patD p (g x) ρ = some ρ1 ∧ WpS (body ρ1 h) (fun ρ2 h2 => st (step s x) ρ2 h2 ∧ J (step s x) xs) T) :
    ∀ (xs : List α) (s : σ) (ρ : Env) (h : Hs), J s xs → st s ρ h → (∀ ρ' h', st (xs.foldl step s) ρ' h' → J (xs.foldl step s) [] → N ρ' h') → WpS (loopF p body gs (xs.map g) ρ h) N T
  | [], s, ρ, h, j, e, fin => by
    rw [List.map_nil]
    unfold loopF
    rw [if_pos (og s ρ h e)]
    exact fin ρ h e j
  | x :: xs, s, ρ, h, j, e, fin => by
    obtain ⟨ρ1, e1, w⟩ := k s x xs ρ h j e
    rw [List.map_cons]
    unfold loopF
    rw [if_pos (og s ρ h e), e1]
    show WpS (match body ρ1 h with
      | .nx ρ2 h2 => loopF p body gs (xs.map g) ρ2 h2
      | .ct ρ2 h2 => loopF p body gs (xs.map g) ρ2 h2
      | .bk ρ2 h2 => .nx ρ2 h2
      | r => r) N T
    cases q : body ρ1 h with
    | nx ρ2 h2 =>
      rw [q] at w
      obtain ⟨w1, w2⟩ := w
      exact wps_loop_gs st step J og k xs (step s x) ρ2 h2 w2 w1 fin
    | ret d h2 => rw [q] at w; exact w
    | bk ρ2 h2 => rw [q] at w; exact w.elim
    | ct ρ2 h2 => rw [q] at w; exact w.elim
    | exc ρ2 C fs h2 => rw [q] at w; exact w.elim
    | bad => rw [q] at w; exact w.elim
theorem wps_for_gs {α σ : Type} {ci : Env → M ItD} {p : Pat} {body : SM} {g : α → D} {gs : List (Nat × List D)} {ρ : Env} {h h1 : Hs} {N : Env → Hs → Prop} {T : D → Hs → Prop} {xs : List α} (e : ci ρ h = .ok ⟨xs.map g, gs⟩ h1) (s : σ) (st : σ → Env → Hs → Prop) (step : σ → α → σ) (J : σ → List α → Prop) (og : ∀ s ρ h, st s ρ h → okG gs h = true) (j0 : J s xs) (s0 : st s ρ h1)
    (k : ∀ s x xs ρ h, J s (x :: xs) → st s ρ h → ∃ ρ1, patD p (g x) ρ = some ρ1 ∧ WpS (body ρ1 h) (fun ρ2 h2 => st (step s x) ρ2 h2 ∧ J (step s x) xs) T)
    (fin : ∀ ρ' h', st (xs.foldl step s) ρ' h' → J (xs.foldl step s) [] → N ρ' h') : WpS (sFor ci p body ρ h) N T := by
  rw [q_sFor, e, then_ok]
  exact wps_loop_gs st step J og k xs s ρ h1 j0 s0 fin
/-- a list by value, or one that may change at a place -/
def ListAt (h : Hs) (x : D) (xs : List D) : Prop := x = .lst xs ∨ ∃ n, x = .obj n ∧ h[n]? = some (.lst xs)
theorem iter_at {ce : Env → M D} {ρ : Env} {h0 h : Hs} {x : D} {xs : List D} (e : ce ρ h0 = .ok x h) (l : ListAt h x xs) : ∃ gs, iSeq ce ρ h0 = .ok ⟨xs, gs⟩ h ∧ ∀ h', (∀ n, x = .obj n → h'[n]? = h[n]?) → okG gs h' = true := by
  rcases l with e2 | ⟨n, e2, e3⟩
  · exact ⟨[], seq_it e (.inr e2), fun _ _ => rfl⟩
  · have ok : ∀ h' : Hs, h'[n]? = h[n]? → okG [(n, xs)] h' = true := fun h' z => by
      unfold okG
      simp only [List.all_cons, List.all_nil, Bool.and_true]
      rw [z, e3]
      exact D.beqs_refl _
    refine ⟨[(n, xs)], ?_, fun h' z => ok h' (z n e2)⟩
    rw [q_iSeq, e, bind_ok', e2]
    have it : itOf h (.obj n) = some ⟨xs, [(n, xs)]⟩ := by
      show (match h[n]? with
        | some (.lst xs) => some (ItD.mk xs [(n, xs)])
        | _ => none) = _
      rw [e3]
    show (match itOf h (.obj n) with
      | some it => if okG it.gs h then Dl.R.ok it h else .bad
      | none => .bad) = _
    rw [it]
    exact if_pos (ok h rfl)
/-! ### the rows -/
def rowsS (rows : Offer) (o : Offer) : Offer := (rows.map fun r => o.map fun p => (max r.1 p.1, r.2 * p.2)).flatten
def rw' (rows : Offer) (os : List Offer) : Rat := sm (rows.map fun r => r.2 * em r.1 os)
theorem flat_len {α : Type} {B : Nat} : ∀ {l : List (List α)}, (∀ x ∈ l, x.length ≤ B) → l.flatten.length ≤ l.length * B
  | [], _ => Nat.zero_le _
  | x :: l, h => by
    have h1 := h x List.mem_cons_self
    have h2 := flat_len fun y hy => h y (List.mem_cons_of_mem _ hy)
    rw [List.flatten_cons, List.length_append, List.length_cons, Nat.succ_mul]
    omega
/-- rows of a bottom -/
structure Rws (F : Nat) (rows : Offer) : Prop where
  val : ∀ r ∈ rows, 0 ≤ r.1 ∧ r.1 ≤ 1000
  sh : ∀ r ∈ rows, Bq F 1 r.2
theorem Rws.step {F : Nat} {rows : Offer} {o : Offer} (k : Rws F rows) (ko : Ofr o) : Rws (F * Do o) (rowsS rows o) := by
  have mem : ∀ q ∈ rowsS rows o, ∃ r ∈ rows, ∃ p ∈ o, q = (max r.1 p.1, r.2 * p.2) := fun q hq => by
    obtain ⟨l, hl, hm⟩ := List.mem_flatten.mp hq
    obtain ⟨r, hr, rfl⟩ := List.mem_map.mp hl
    obtain ⟨p, hp, rfl⟩ := List.mem_map.mp hm
    exact ⟨r, hr, p, hp, rfl⟩
  refine ⟨fun q hq => ?_, fun q hq => ?_⟩
  · obtain ⟨r, hr, p, hp, rfl⟩ := mem q hq
    have a := k.val r hr
    have b := ko.val p hp
    show 0 ≤ max r.1 p.1 ∧ max r.1 p.1 ≤ 1000
    omega
  · obtain ⟨r, hr, p, hp, rfl⟩ := mem q hq
    exact (k.sh r hr).mul (ko.prs.sh p hp)
theorem ext_obj {h : Hs} {n : Nat} {xs ys : List D} (e : h[n]? = some (.lst xs)) (l : xs.length + ys.length ≤ 16777216) : extD (.obj n) [.lst ys] h = .ok .non (h.set n (.lst (xs ++ ys))) := by
  unfold extD
  rw [lstAt_obj e]
  exact if_pos (okLen_of l)
theorem maxD2 {a b : Int} {h : Hs} : maxD [.int a, .int b] h = .ok (.int (max a b)) h := by
  show Dl.R.ok (D.int (if b > a then b else a)) h = _
  congr 2
  split <;> omega
end Pl

/-! Plain laws, deals 10: the law's own hopes; what falls by nothing; an offer more. -/
namespace Pl
open Dl Sh
local instance : Dl.Tb := ⟨fun _ => []⟩

theorem DealAt.g0 {h h' : Hs} {i : Nat} {os : List Offer} (t : DealAt h i os) (g : Gb 0 h h') : DealAt h' i os := t.gb g (Nat.zero_le _)
theorem anyD_bls {α : Type} (t : α → Bool) (xs : List α) (h : Hs) : anyD [.lst (xs.map fun x => D.bl (t x))] h = .ok (.bl (xs.any t)) h := by
  show (match (some (xs.map fun x => D.bl (t x))).bind allBl with
    | some bs => Dl.R.ok (D.bl (bs.any id)) h
    | none => .bad) = _
  rw [Option.bind_some, allBl_map]
  show Dl.R.ok (D.bl ((xs.map t).any id)) h = _
  rw [List.any_map]
  rfl
/-! ### hopes -/
/-! ### what falls by nothing -/
/-- offers of 0 for sure -/
def zero : Offer := [(0, 1)]
/-- a value greater -/
theorem ex_greater {i : Offer} {v v' : Int} {s : Rat} (s0 : 0 ≤ s) (l : v ≤ v') {f : Int → Rat} (m : ∀ a b : Int, a ≤ b → f a ≤ f b) : ex (i ++ [(v, s)]) f ≤ ex (i ++ [(v', s)]) f := by
  unfold ex
  rw [List.map_append, List.map_append, sm_app, sm_app]
  have z := Rat.mul_le_mul_of_nonneg_left (m v v' l) s0
  show sm (i.map fun p => p.2 * f p.1) + (s * f v + 0) ≤ sm (i.map fun p => p.2 * f p.1) + (s * f v' + 0)
  grind
end Pl

/-! Plain laws, hand c 1: the third hand, its fractions, its offers. -/
namespace Pl
open Dl Sh
local instance : Dl.Tb := ⟨fun _ => []⟩

/-! ### fractions -/
end Pl

/-! Plain laws, hand c 2: offers, deals that are drawn. -/
namespace Pl
open Dl Sh
local instance : Dl.Tb := ⟨fun _ => []⟩

abbrev Wts := List (Int × Int)
def kw (ps : Wts) : List (L2.Key × D) := ps.map fun p => (.inl p.1, .int p.2)
def putW (ps : Wts) (v x : Int) : Wts := if v ∈ ps.map (·.1) then ps.map (fun p => if p.1 = v then (p.1, x) else p) else ps ++ [(v, x)]
theorem putW_keys {ps : Wts} {v x : Int} : (putW ps v x).map (·.1) = if v ∈ ps.map (·.1) then ps.map (·.1) else ps.map (·.1) ++ [v] := by
  unfold putW
  by_cases m : v ∈ ps.map (·.1)
  · rw [if_pos m, if_pos m, List.map_map]
    refine List.map_congr_left fun p _ => ?_
    show (if p.1 = v then (p.1, x) else p).1 = p.1
    split <;> rfl
  · rw [if_neg m, if_neg m, List.map_append]
    rfl
structure WtOk (ps : Wts) : Prop where
  nd : (ps.map (·.1)).Nodup
  key : ∀ p ∈ ps, 0 ≤ p.1 ∧ p.1 ≤ 1000
  wt : ∀ p ∈ ps, 1 ≤ p.2 ∧ p.2 ≤ 4
theorem WtOk.put {ps : Wts} {v x : Int} (k : WtOk ps) (hv : 0 ≤ v ∧ v ≤ 1000) (hx : 1 ≤ x ∧ x ≤ 4) : WtOk (putW ps v x) ∧ (putW ps v x).length ≤ ps.length + 1 ∧ 1 ≤ (putW ps v x).length := by
  refine ⟨⟨?_, fun p hp => ?_, fun p hp => ?_⟩, ?_, ?_⟩
  · rw [putW_keys]
    split
    · exact k.nd
    · rename_i n
      rw [List.nodup_append]
      refine ⟨k.nd, by simp, fun a ha b hb e => ?_⟩
      rw [List.mem_singleton.mp hb] at e
      exact n (e ▸ ha)
  · unfold putW at hp
    split at hp
    · obtain ⟨q, hq, rfl⟩ := List.mem_map.mp hp
      have := k.key q hq
      split
      · exact this
      · exact this
    · rcases List.mem_append.mp hp with e | e
      · exact k.key p e
      · rw [List.mem_singleton.mp e]; exact hv
  · unfold putW at hp
    split at hp
    · obtain ⟨q, hq, rfl⟩ := List.mem_map.mp hp
      have := k.wt q hq
      split
      · exact hx
      · exact this
    · rcases List.mem_append.mp hp with e | e
      · exact k.wt p e
      · rw [List.mem_singleton.mp e]; exact hx
  · unfold putW
    split
    · rw [List.length_map]; omega
    · rw [List.length_append, List.length_singleton]; omega
  · unfold putW
    split
    · rename_i m
      rw [List.length_map]
      obtain ⟨p, hp, _⟩ := List.mem_map.mp m
      exact List.length_pos_of_mem hp
    · rw [List.length_append, List.length_singleton]; omega
end Pl

/-! Plain laws, boxes 1: boxes made, drawn. -/
namespace Pl
open Dl Sh
local instance : Dl.Tb := ⟨fun _ => []⟩

abbrev Box := Int × Offer
def boxD (b : Box) : D := .tup [.int b.1, offD b.2]
def boxesD (bs : List Box) : D := .tup (bs.map boxD)
structure Bx (b : Box) : Prop where
  c : 0 ≤ b.1 ∧ b.1 ≤ 1000
  o : Ofr b.2
structure Bx6 (bs : List Box) : Prop where
  l1 : 1 ≤ bs.length
  l6 : bs.length ≤ 6
  bx : ∀ b ∈ bs, Bx b
def BoxAt (h : Hs) (i : Nat) (bs : List Box) : Prop := ∃ fs, h[i]? = some (.ins "Boxes" fs) ∧ fs.lookup ("boxes" : PySem.Str) = some (boxesD bs)
theorem BoxAt.app {h l : Hs} {i : Nat} {bs : List Box} (t : BoxAt h i bs) : BoxAt (h ++ l) i bs := by
  obtain ⟨fs, h1, h2⟩ := t
  exact ⟨fs, getl h1, h2⟩
theorem BoxAt.gb {b : Nat} {h h' : Hs} {i : Nat} {bs : List Box} (t : BoxAt h i bs) (g : Gb b h h') (hi : b ≤ i) : BoxAt h' i bs := by
  obtain ⟨fs, h1, h2⟩ := t
  exact ⟨fs, g.at hi h1, h2⟩
/-! ### drawn -/
end Pl

/-! Plain laws, boxes 2: fractions of either sign; sums, tops; the greatest mean of the rest. -/
namespace Pl
open Dl Sh
local instance : Dl.Tb := ⟨fun _ => []⟩

/-- of a bottom, of a size, of either sign -/
structure Sq (E M : Nat) (q : Rat) : Prop where
  iq : Iq E q
  lo : -((M : Int) : Rat) ≤ q
  hi : q ≤ ((M : Int) : Rat)
section
variable {E F M N b : Nat} {p q : Rat}
theorem Sq.sz (h : Sq E M q) (h0 : 0 < E) (hb : (M + 1) * E < 2 ^ b) : Sz b q := by
  by_cases z : 0 ≤ q
  · exact Bq.sz ⟨h.iq, z, h.hi⟩ h0 hb
  · have z' : 0 ≤ -q := by grind
    have y := Bq.sz (E := E) (M := M) (q := -q) ⟨h.iq.neg, z', by have := h.lo; grind⟩ h0 hb
    exact y.neg
theorem Bq.sg (h : Bq E M q) : Sq E M q := ⟨h.iq, by have := nat_rat_nn M; have := h.lo; grind, h.hi⟩
theorem Sq.add (h : Sq E M p) (k : Sq E N q) : Sq E (M + N) (p + q) := ⟨h.iq.add k.iq, by rw [nat_rat]; have := h.lo; have := k.lo; grind, by rw [nat_rat]; have := h.hi; have := k.hi; grind⟩
theorem Sq.neg (h : Sq E M q) : Sq E M (-q) := ⟨h.iq.neg, by have := h.hi; grind, by have := h.lo; grind⟩
theorem Sq.up (h : Sq E M q) (d : E ∣ F) (h0 : 0 < F) (l : M ≤ N) : Sq F N q := ⟨h.iq.up d h0, by have := h.lo; have := nat_rat_le l; grind, Rat.le_trans h.hi (nat_rat_le l)⟩
theorem Sq.int {v : Int} (h : v.natAbs ≤ M) : Sq 1 M (v : Rat) := ⟨⟨v, (Rat.num_divInt_den (v : Rat)).symm⟩, by
  have z : (((-(M : Int) : Int)) : Rat) ≤ (v : Rat) := Rat.intCast_le_intCast.mpr (by omega)
  rwa [Rat.intCast_neg] at z, Rat.intCast_le_intCast.mpr (by omega)⟩
theorem Sq.mx (h : Sq E M p) (k : Sq E N q) : Sq E (max M N) (mxq p q) := by
  rcases mxq_or p q with e | e <;> rw [e]
  · exact ⟨h.iq, by have := h.lo; have := nat_rat_le (Nat.le_max_left M N); grind, Rat.le_trans h.hi (nat_rat_le (Nat.le_max_left M N))⟩
  · exact ⟨k.iq, by have := k.lo; have := nat_rat_le (Nat.le_max_right M N); grind, Rat.le_trans k.hi (nat_rat_le (Nat.le_max_right M N))⟩
end
/-! ### the greatest mean of the rest -/
def bxAt (bs : List Box) (i : Nat) : Box := bs.getD i (0, [])
def insN (i : Nat) : List Nat → List Nat
  | [] => [i]
  | j :: l => if i < j then i :: j :: l else j :: insN i l
def tot (b : Box) (f : Int → Rat) : Rat := ex b.2 f - (b.1 : Rat)
def G (bs : List Box) : Nat → List Nat → Int → Rat
  | 0, _, x => (x : Rat)
  | k + 1, l, x => (List.range bs.length).foldl (fun t i => if i ∈ l then t else mxq t (tot (bxAt bs i) fun v => G bs k (insN i l) (max x v))) (x : Rat)
section
variable {bs : List Box} (kb : ∀ b ∈ bs, Bx b)
include kb
end
end Pl

/-! Plain laws, boxes 3: sorted(opened + (number,)); a box is opened; what is kept. -/
namespace Pl
open Dl Sh
local instance : Dl.Tb := ⟨fun _ => []⟩

/-! ### sorted -/
/-! ### what is kept: a dict by (opened, found) -/
def keyN (l : List Nat) (x : Int) : PySem.NestedKey := .tup [.tup (l.map fun m => .num (m : Nat)), .num x]
theorem num_inj : ∀ {l l' : List Nat}, (l.map fun m => PySem.NestedKey.num (m : Nat)) = l'.map (fun m => PySem.NestedKey.num (m : Nat)) → l = l'
  | [], [], _ => rfl
  | [], _ :: _, e => by cases e
  | _ :: _, [], e => by cases e
  | a :: l, b :: l', e => by
    rw [List.map_cons, List.map_cons] at e
    injection e with e1 e2
    injection e1 with e3
    rw [num_inj e2, Int.ofNat.inj e3]
theorem keyN_inj {l l' : List Nat} {x x' : Int} (e : keyN l x = keyN l' x') : l = l' ∧ x = x' := by
  unfold keyN at e
  injection e with e
  injection e with e1 e2
  injection e1 with e1
  injection e2 with e2 _
  injection e2 with e2
  exact ⟨num_inj e1, e2⟩
theorem nk_nums {n : Nat} : ∀ l : List Nat, optAll (nkOf n) (l.map fun m => D.int (m : Nat)) = some (l.map fun m => .num (m : Nat))
  | [] => rfl
  | m :: l => by
    rw [List.map_cons]
    unfold optAll
    rw [nk_nums l]
    have e : nkOf n (.int (m : Nat)) = some (.num (m : Nat)) := by cases n <;> rfl
    rw [e]
    rfl
theorem nkT_key (l : List Nat) (x : Int) : nkT (.tup [lotD l, .int x]) = some (keyN l x) := by
  show (optAll (nkOf 3) [lotD l, .int x]).map PySem.NestedKey.tup = _
  have e1 : nkOf 3 (lotD l) = some (.tup (l.map fun m => .num (m : Nat))) := by
    show (optAll (nkOf 2) (l.map fun m => D.int (m : Nat))).map PySem.NestedKey.tup = _
    rw [nk_nums]
    rfl
  have e2 : nkOf 3 (.int x) = some (.num x) := rfl
  unfold optAll
  rw [e1]
  unfold optAll
  rw [e2]
  rfl
theorem look_put (kvs : List (PySem.NestedKey × D)) (k k' : PySem.NestedKey) (d : D) : look (putN kvs k d) k' = if k' = k then some d else look kvs k' := by
  have rep : ∀ kvs : List (PySem.NestedKey × D), look (kvs.map fun kv => if kv.1 = k then (kv.1, d) else kv) k' = if k' = k ∧ (look kvs k).isSome = true then some d else look kvs k' := fun kvs => by
    induction kvs with
    | nil => simp [look]
    | cons p ps ih =>
      rw [List.map_cons]
      by_cases e : p.1 = k
      · rw [if_pos e]
        by_cases e2 : p.1 = k'
        · have e3 : k' = k := e2.symm.trans e
          have a1 : look ((p.1, d) :: ps.map fun kv => if kv.1 = k then (kv.1, d) else kv) k' = some d := by simp [look, List.find?_cons, e2]
          have a2 : (look (p :: ps) k).isSome = true := by simp [look, List.find?_cons, e]
          rw [a1, if_pos ⟨e3, a2⟩]
        · have a1 : look ((p.1, d) :: ps.map fun kv => if kv.1 = k then (kv.1, d) else kv) k' = look (ps.map fun kv => if kv.1 = k then (kv.1, d) else kv) k' := by simp [look, List.find?_cons, e2]
          have ne : k' ≠ k := fun z => e2 (e.trans z.symm)
          have a2 : look (p :: ps) k' = look ps k' := by simp [look, List.find?_cons, e2]
          rw [a1, ih, a2, if_neg (fun z => ne z.1), if_neg (fun z => ne z.1)]
      · rw [if_neg e]
        by_cases e2 : p.1 = k'
        · have ne : k' ≠ k := fun z => e (e2.trans z)
          have a1 : ∀ l, look (p :: l) k' = some p.2 := fun l => by simp [look, List.find?_cons, e2]
          rw [a1, a1, if_neg (fun z => ne z.1)]
        · have a1 : ∀ l, look (p :: l) k' = look l k' := fun l => by simp [look, List.find?_cons, e2]
          have a2 : look (p :: ps) k = look ps k := by simp [look, List.find?_cons, e]
          rw [a1, a1, a2, ih]
  unfold putN
  by_cases s : (look kvs k).isSome = true
  · rw [if_pos s, rep]
    by_cases e : k' = k
    · rw [if_pos ⟨e, s⟩, if_pos e]
    · rw [if_neg (fun z => e z.1), if_neg e]
  · rw [if_neg s]
    have app : ∀ kvs : List (PySem.NestedKey × D), look kvs k = none → look (kvs ++ [(k, d)]) k' = if k' = k then some d else look kvs k' := fun kvs => by
      induction kvs with
      | nil =>
        intro _
        by_cases e : k = k'
        · simp [look, List.find?_cons, e]
        · have e' : ¬ k' = k := fun z => e z.symm
          simp [look, List.find?_cons, e, e']
      | cons p ps ih =>
        intro hn
        have ne : ¬ p.1 = k := fun e => by simp [look, List.find?_cons, e] at hn
        have hn' : look ps k = none := by
          have a : look (p :: ps) k = look ps k := by simp [look, List.find?_cons, ne]
          rwa [a] at hn
        rw [List.cons_append]
        by_cases e2 : p.1 = k'
        · have ne' : k' ≠ k := fun z => ne (e2.trans z)
          have a1 : ∀ l, look (p :: l) k' = some p.2 := fun l => by simp [look, List.find?_cons, e2]
          rw [a1, a1, if_neg ne']
        · have a1 : ∀ l, look (p :: l) k' = look l k' := fun l => by simp [look, List.find?_cons, e2]
          rw [a1, a1, ih hn']
    refine app kvs ?_
    cases z : look kvs k with
    | none => rfl
    | some x => rw [z] at s; exact absurd rfl s
/-- a dict of right entries -/
structure Kept (f : List Nat → Int → Rat) (h : Hs) (n c : Nat) : Prop where
  at_ : ∃ kvs, nAt h (.obj n) = some kvs ∧ kvs.length ≤ c ∧ ∀ l x d, look kvs (keyN l x) = some d → d = fr (f l x)
theorem nAt_len {h : Hs} {n : Nat} {kvs : List (PySem.NestedKey × D)} (e : nAt h (.obj n) = some kvs) : n < h.length := by
  have e : (match h[n]? with
    | some (.dN kvs) => some kvs
    | some (.dI []) => some []
    | _ => none) = some kvs := e
  rcases Nat.lt_or_ge n h.length with z | z
  · exact z
  · rw [List.getElem?_eq_none z] at e
    cases e
theorem nAt_set {h : Hs} {n : Nat} {kvs : List (PySem.NestedKey × D)} (l : n < h.length) : nAt (h.set n (.dN kvs)) (.obj n) = some kvs := by
  show (match (h.set n (.dN kvs))[n]? with
    | some (.dN kvs) => some kvs
    | some (.dI []) => some []
    | _ => none) = some kvs
  rw [List.getElem?_set_self l]
theorem nAt_eq {h h' : Hs} {n : Nat} (e : h'[n]? = h[n]?) : nAt h' (.obj n) = nAt h (.obj n) := by
  show (match h'[n]? with
    | some (.dN kvs) => some kvs
    | some (.dI []) => some []
    | _ => none) = (match h[n]? with
    | some (.dN kvs) => some kvs
    | some (.dI []) => some []
    | _ => none)
  rw [e]
section
variable {f : List Nat → Int → Rat} {h h' : Hs} {n c : Nat} {l : List Nat} {x : Int}
theorem Kept.eq (k : Kept f h n c) (e : h'[n]? = h[n]?) : Kept f h' n c := by
  obtain ⟨kvs, k1, k2, k3⟩ := k.at_
  exact ⟨kvs, by rw [nAt_eq e]; exact k1, k2, k3⟩
theorem Kept.mono {c' : Nat} (k : Kept f h n c) (l : c ≤ c') : Kept f h n c' := by
  obtain ⟨kvs, k1, k2, k3⟩ := k.at_
  exact ⟨kvs, k1, by omega, k3⟩
theorem Kept.new (e : h[n]? = some (.dI [])) : Kept f h n 0 := by
  refine ⟨[], ?_, Nat.le_refl _, fun l x d e => by simp [look] at e⟩
  show (match h[n]? with
    | some (.dN kvs) => some kvs
    | some (.dI []) => some []
    | _ => none) = some []
  rw [e]
/-- is it kept? what is kept there -/
theorem Kept.ask (k : Kept f h n c) (l : List Nat) (x : Int) : ∃ b : Bool, ninN (.tup [lotD l, .int x]) (.obj n) h = .ok (.bl (!b)) h ∧ (b = true → itemN (.obj n) (.tup [lotD l, .int x]) h = .ok (fr (f l x)) h) := by
  obtain ⟨kvs, k1, k2, k3⟩ := k.at_
  refine ⟨(look kvs (keyN l x)).isSome, ?_, fun b => ?_⟩
  · show (match nkT (.tup [lotD l, .int x]), nAt h (.obj n) with
      | some k, some kvs => Dl.R.ok (D.bl (if true = true then !(look kvs k).isSome else (look kvs k).isSome)) h
      | _, _ => .bad) = _
    rw [nkT_key, k1]
    rfl
  · obtain ⟨d, hd⟩ := Option.isSome_iff_exists.mp b
    show (match nkT (.tup [lotD l, .int x]), nAt h (.obj n) with
      | some k, some kvs => (match look kvs k with
        | some d => Dl.R.ok d h
        | none => .bad)
      | _, _ => .bad) = _
    rw [nkT_key, k1]
    show (match look kvs (keyN l x) with
        | some d => Dl.R.ok d h
        | none => .bad) = _
    rw [hd, k3 l x d hd]
/-- it is stored -/
theorem Kept.put (k : Kept f h n c) (l : List Nat) (x : Int) (hc : c < 16000000) : ∃ kvs, nAt h (.obj n) = some kvs ∧ kvs.length < 16777216 ∧ Kept f (h.set n (.dN (putN kvs (keyN l x) (fr (f l x))))) n (c + 1) ∧
    itemN (.obj n) (.tup [lotD l, .int x]) (h.set n (.dN (putN kvs (keyN l x) (fr (f l x))))) = .ok (fr (f l x)) (h.set n (.dN (putN kvs (keyN l x) (fr (f l x))))) := by
  obtain ⟨kvs, k1, k2, k3⟩ := k.at_
  have ln := nAt_len k1
  refine ⟨kvs, k1, by omega, ⟨_, nAt_set ln, ?_, fun l' x' d e => ?_⟩, ?_⟩
  · have := putN_len kvs (keyN l x) (fr (f l x))
    omega
  · rw [look_put] at e
    split at e
    · rename_i z
      obtain ⟨rfl, rfl⟩ := keyN_inj z
      exact (Option.some.inj e).symm
    · exact k3 l' x' d e
  · show (match nkT (.tup [lotD l, .int x]), nAt (h.set n (.dN (putN kvs (keyN l x) (fr (f l x))))) (.obj n) with
      | some k, some kvs => (match look kvs k with
        | some d => Dl.R.ok d (h.set n (.dN (putN _ (keyN l x) (fr (f l x)))))
        | none => .bad)
      | _, _ => .bad) = _
    rw [nkT_key, nAt_set ln]
    show (match look (putN kvs (keyN l x) (fr (f l x))) (keyN l x) with
        | some d => Dl.R.ok d _
        | none => .bad) = _
    rw [look_put, if_pos rfl]
end
theorem q_sStoreN {ce co cx : Env → M D} {ρ : Env} {h : Hs} : sStoreN ce co cx ρ h = (ce ρ h).then ρ fun v h1 => (co ρ h1).then ρ fun o h2 => (cx ρ h2).then ρ fun i h3 => match o, nkT i, nAt h3 o with
  | .obj n, some k, some kvs => if decide (kvs.length < 16777216) then .nx ρ (h3.set n (.dN (putN kvs k v))) else .bad
  | _, _, _ => .bad := nr rfl
/-- all but the cell n stays -/
structure Oc (n : Nat) (h h' : Hs) : Prop where
  len : h'.length = h.length
  keep : ∀ j, j ≠ n → h'[j]? = h[j]?
theorem Oc.refl {n : Nat} {h : Hs} : Oc n h h := ⟨rfl, fun _ _ => rfl⟩
theorem Oc.trans {n : Nat} {a b c : Hs} (x : Oc n a b) (y : Oc n b c) : Oc n a c := ⟨y.len.trans x.len, fun j hj => (y.keep j hj).trans (x.keep j hj)⟩
theorem Oc.set {n : Nat} {h : Hs} {o : DO} : Oc n h (h.set n o) := ⟨List.length_set, fun j hj => List.getElem?_set_ne (Ne.symm hj)⟩
end Pl

/-! Plain laws, boxes 4: the Opener, the law's own gain. -/
namespace Pl
open Dl Sh
local instance : Dl.Tb := ⟨fun _ => []⟩

def g (bs : List Box) (l : List Nat) (x : Int) : Rat := G bs (bs.length - l.length) l x
structure Bx4 (bs : List Box) : Prop where
  l1 : 1 ≤ bs.length
  l4 : bs.length ≤ 4
  bx : ∀ b ∈ bs, Bx b
structure OpSt (bs : List Box) (h : Hs) (i c : Nat) : Prop where
  obj : ∃ fs, h[i]? = some (.ins "Opener" fs) ∧ fs.lookup ("rows" : PySem.Str) = some (boxesD bs) ∧ fs.lookup ("known" : PySem.Str) = some (.obj (i + 1)) ∧ fs.lookup ("most" : PySem.Str) = none ∧ fs.lookup ("opening" : PySem.Str) = none
  kept : Kept (g bs) h (i + 1) c
section
variable {bs : List Box} {h : Hs} {i c : Nat}
theorem OpSt.mono {c' : Nat} (k : OpSt bs h i c) (l : c ≤ c') : OpSt bs h i c' := ⟨k.obj, k.kept.mono l⟩
theorem OpSt.rows (t : OpSt bs h i c) {ca : Env → M D} {ρ : Env} {h0 : Hs} (e : ca ρ h0 = .ok (.obj i) h) : eFld "Opener" "rows" ca ρ h0 = .ok (boxesD bs) h := by
  obtain ⟨fs, h1, h2, _⟩ := t.obj
  rw [q_eFld, e, bind_ok', fields_at h1, Option.bind_some, h2]
theorem OpSt.known (t : OpSt bs h i c) {ca : Env → M D} {ρ : Env} {h0 : Hs} (e : ca ρ h0 = .ok (.obj i) h) : eFld "Opener" "known" ca ρ h0 = .ok (.obj (i + 1)) h := by
  obtain ⟨fs, h1, _, h2, _⟩ := t.obj
  rw [q_eFld, e, bind_ok', fields_at h1, Option.bind_some, h2]
theorem OpSt.most (t : OpSt bs h i c) {n : Nat} {mf : List D → M D} {ca : Env → M D} {cs : Env → M (List D)} {ρ : Env} (e : ca ρ h = .ok (.obj i) h) : eMeth "Opener" "most" n mf ca cs ρ h = (cs ρ h).bind fun xs h2 => if decide (xs.length + 1 = n) then mf (.obj i :: xs) h2 else .bad := by
  obtain ⟨fs, h1, _, _, h2, _⟩ := t.obj
  rw [q_eMeth, e, bind_ok', fields_at h1, Option.map_some, h2]
theorem OpSt.opening (t : OpSt bs h i c) {n : Nat} {mf : List D → M D} {ca : Env → M D} {cs : Env → M (List D)} {ρ : Env} (e : ca ρ h = .ok (.obj i) h) : eMeth "Opener" "opening" n mf ca cs ρ h = (cs ρ h).bind fun xs h2 => if decide (xs.length + 1 = n) then mf (.obj i :: xs) h2 else .bad := by
  obtain ⟨fs, h1, _, _, _, h2⟩ := t.obj
  rw [q_eMeth, e, bind_ok', fields_at h1, Option.map_some, h2]
theorem OpSt.oc {h' : Hs} {c' : Nat} (t : OpSt bs h i c) (o : Oc (i + 1) h h') (k : Kept (g bs) h' (i + 1) c') : OpSt bs h' i c' := by
  obtain ⟨fs, h1, r⟩ := t.obj
  exact ⟨⟨fs, by rw [o.keep i (by omega)]; exact h1, r⟩, k⟩
end
end Pl

/-! Plain laws, boxes 5: most, gain. -/
namespace Pl
open Dl Sh
local instance : Dl.Tb := ⟨fun _ => []⟩

theorem rng_natB : ∀ (n : Nat) (a : Nat), rng a 1 n = (List.range' a n).map fun m => D.int (m : Nat)
  | 0, _ => rfl
  | n + 1, a => by
    rw [rng_succ, List.range'_succ, List.map_cons]
    have e : ((a : Int) + 1) = ((a + 1 : Nat) : Int) := by omega
    rw [e, rng_natB n (a + 1)]
theorem rng_rangeB (n : Nat) : rng 0 1 n = (List.range n).map fun m => D.int (m : Nat) := by
  rw [List.range_eq_range']
  exact rng_natB n 0
end Pl

/-! Plain laws, boxes 6: gain; the law's own gain. -/
namespace Pl
open Dl Sh
local instance : Dl.Tb := ⟨fun _ => []⟩

/-! ### gain -/
/-! ### the law's own -/
/-- all but the cell n stays, more may come -/
structure Gk (n : Nat) (h h' : Hs) : Prop where
  len : h.length ≤ h'.length
  keep : ∀ j, j ≠ n → j < h.length → h'[j]? = h[j]?
theorem Gk.refl {n : Nat} {h : Hs} : Gk n h h := ⟨Nat.le_refl _, fun _ _ _ => rfl⟩
theorem Gk.trans {n : Nat} {a b c : Hs} (x : Gk n a b) (y : Gk n b c) : Gk n a c := ⟨Nat.le_trans x.len y.len, fun j hj hl => (y.keep j hj (Nat.lt_of_lt_of_le hl x.len)).trans (x.keep j hj hl)⟩
theorem Gk.set {n : Nat} {h : Hs} {o : DO} : Gk n h (h.set n o) := ⟨by rw [List.length_set]; exact Nat.le_refl _, fun j hj _ => List.getElem?_set_ne (Ne.symm hj)⟩
theorem Gk.app {n : Nat} {h l : Hs} : Gk n h (h ++ l) := ⟨by rw [List.length_append]; omega, fun j _ h2 => List.getElem?_append_left h2⟩
theorem Gk.set' {n : Nat} {h h' : Hs} {i : Nat} {o : DO} (g : Gk n h h') (hi : h.length ≤ i) : Gk n h (h'.set i o) := ⟨by rw [List.length_set]; exact g.len, fun j h1 h2 => by rw [List.getElem?_set_ne (by omega)]; exact g.keep j h1 h2⟩
theorem Gk.at {n : Nat} {h h' : Hs} (g : Gk n h h') {j : Nat} {o : DO} (hj : j ≠ n) (e : h[j]? = some o) : h'[j]? = some o := (g.keep j hj (List.getElem?_eq_some_iff.mp e).1).trans e
/-- a list of what is computed in turn -/
theorem wp_lcF {α : Type} {gd : α → D} {f : α → D} {p : Pat} {ce : Env → M D} {ρ : Env} (I : Nat → Hs → Prop) : ∀ (xs : List α) (i : Nat) (h : Hs) {Q : List D → Hs → Prop},
    (∀ j x h, xs[j]? = some x → I (i + j) h → ∃ ρ1, patD p (gd x) ρ = some ρ1 ∧ Wp (ce ρ1 h) fun d h' => d = f x ∧ I (i + j + 1) h') → I i h → (∀ h', I (i + xs.length) h' → Q (xs.map f) h') → Wp (lcF p tYes' ce [] ρ (xs.map gd) h) Q
  | [], i, h, Q, _, st, k => by
    rw [List.map_nil]
    unfold lcF
    rw [if_pos okG_nil]
    exact k h st
  | x :: xs, i, h, Q, step, st, k => by
    obtain ⟨ρ1, e, b⟩ := step 0 x h rfl st
    rw [List.map_cons]
    unfold lcF
    rw [if_pos okG_nil, e]
    show Wp ((ce ρ1 h).nox.bind fun d h2 => (lcF p tYes' ce [] ρ (xs.map gd) h2).bind fun ds h3 => .ok (d :: ds) h3) Q
    rw [wp_bind, wp_nox]
    refine wp_mono b fun d h2 ⟨pd, i2⟩ => ?_
    rw [wp_bind]
    refine wp_lcF (f := f) I xs (i + 1) h2 (fun j x h hx hI => ?_) i2 fun h3 hI => ?_
    · have z := step (j + 1) x h (by simpa using hx) (by rw [show i + (j + 1) = i + 1 + j by omega]; exact hI)
      rw [show i + (j + 1) + 1 = i + 1 + j + 1 by omega] at z
      exact z
    · rw [wp_ok, pd]
      exact k _ (by rw [List.length_cons, show i + (xs.length + 1) = i + 1 + xs.length by omega]; exact hI)
end Pl

/-! Plain laws, boxes 7: alike; a mean; gain is no less. -/
namespace Pl
open Dl Sh
local instance : Dl.Tb := ⟨fun _ => []⟩

theorem BoxAt.g0 {h h' : Hs} {i : Nat} {bs : List Box} (t : BoxAt h i bs) (g : Gb 0 h h') : BoxAt h' i bs := t.gb g (Nat.zero_le _)
theorem tot_mono {b : Box} (k : Ofr b.2) {f f' : Int → Rat} (h : ∀ p ∈ b.2, f p.1 ≤ f' p.1) : tot b f ≤ tot b f' := by
  unfold tot
  have := ex_mono k h
  grind
end Pl

/-! Plain laws, boxes 8: the index. -/
namespace Pl
open Dl Sh
local instance : Dl.Tb := ⟨fun _ => []⟩

def prAt (o : Offer) (i : Nat) : Int × Rat := o.getD i (0, 0)
def ixN (o : Offer) : Nat → Rat → Rat → Rat
  | 0, _, _ => 0
  | m + 1, f, s => if m = 0 ∨ ¬ ((f + ((prAt o m).1 : Rat) * (prAt o m).2) / (s + (prAt o m).2) < ((prAt o (m - 1)).1 : Rat)) then (f + ((prAt o m).1 : Rat) * (prAt o m).2) / (s + (prAt o m).2) else ixN o m (f + ((prAt o m).1 : Rat) * (prAt o m).2) (s + (prAt o m).2)
def ix (b : Box) : Rat := if b.1 = 0 then ((prAt b.2 (b.2.length - 1)).1 : Rat) else ixN b.2 b.2.length (-(b.1 : Rat)) 0
theorem rng_down : ∀ (n : Nat) (a : Int) (j : Nat), j < n → (rng a (-1) n)[j]? = some (.int (a - j))
  | 0, _, _, h => by omega
  | n + 1, a, 0, _ => by
    rw [rng_succ]
    simp
  | n + 1, a, j + 1, h => by
    rw [rng_succ, List.getElem?_cons_succ, rng_down n (a + -1) j (by omega)]
    congr 2
    omega
theorem sc (c : Int) : (((0 - c : Int)) : Rat) = -((c : Int) : Rat) := by rw [Int.zero_sub, Rat.intCast_neg]
end Pl

/-! Plain laws, boxes 9: the third fact. -/
namespace Pl
open Dl Sh
local instance : Dl.Tb := ⟨fun _ => []⟩

/-! ### the index: what is above it has the cost as its mean -/
def ab (o : Offer) (x : Rat) : Rat := ex o fun v => if x < (v : Rat) then (v : Rat) - x else 0
theorem cast_le' {a b : Int} (h : a ≤ b) : (a : Rat) ≤ (b : Rat) := Rat.intCast_le_intCast.mpr h
/-! ### the mean of the greatest of what is found and each box's lesser of value and index -/
def mn (x y : Rat) : Rat := if x < y then x else y
theorem mn_le (x y : Rat) : mn x y ≤ x ∧ mn x y ≤ y := by
  unfold mn
  split
  · exact ⟨Rat.le_refl, by grind⟩
  · exact ⟨by grind, Rat.le_refl⟩
end Pl

/-! Plain laws, boxes 10: the greatest mean is that of the third fact. -/
namespace Pl
open Dl Sh
local instance : Dl.Tb := ⟨fun _ => []⟩

def rest (bs : List Box) (l : List Nat) : List Box := ((List.range bs.length).filter fun m => decide (m ∉ l)).map (bxAt bs)
end Pl

/-! Plain laws, boxes 11: above, capped; what gain is of one box, of boxes together. -/
namespace Pl
open Dl Sh
local instance : Dl.Tb := ⟨fun _ => []⟩

/-! ### what they are -/
end Pl

/-! drawn offers with values to 29 -/
namespace Pl
open Dl Sh
local instance : Dl.Tb := ⟨fun _ => []⟩

structure OfrS (o : Offer) : Prop where
  ofr : Ofr o
  s : ∀ p ∈ o, p.1 ≤ 29
end Pl

/-! a box more, a cost less, a value more; what is left -/
namespace Pl
open Dl Sh
local instance : Dl.Tb := ⟨fun _ => []⟩

structure Bet (b b' : Box) : Prop where
  t : ∀ f f' : Int → Rat, (∀ a c : Int, a ≤ c → f a ≤ f c) → (∀ v, f v ≤ f' v) → tot b f ≤ tot b' f'
theorem Bet.same {b : Box} (k : Bx b) : Bet b b := ⟨fun f f' _ h => tot_mono k.o fun p _ => h p.1⟩
theorem Bet.cost {b : Box} (k : Bx b) : Bet b (b.1 - 1, b.2) := ⟨fun f f' _ h => by
  have z := tot_mono k.o (f := f) (f' := f') fun p _ => h p.1
  have e : tot (b.1 - 1, b.2) f' = tot b f' + 1 := by
    unfold tot
    show ex b.2 f' - ((b.1 - 1 : Int) : Rat) = ex b.2 f' - (b.1 : Rat) + 1
    rw [Rat.intCast_sub, show ((1 : Int) : Rat) = 1 from rfl]
    grind
  rw [e]
  grind⟩
theorem Bet.more {c : Int} {i : Offer} {v v' : Int} {s : Rat} (k : Ofr (i ++ [(v', s)])) (s0 : 0 ≤ s) (l : v ≤ v') : Bet (c, i ++ [(v, s)]) (c, i ++ [(v', s)]) := ⟨fun f f' m h => by
  have z := ex_greater (i := i) s0 l (f := f) m
  have z2 := tot_mono (b := (c, i ++ [(v', s)])) k (f := f) (f' := f') fun p _ => h p.1
  unfold tot at z2 ⊢
  have z3 : ex (i ++ [(v', s)]) f - (c : Rat) ≤ ex (i ++ [(v', s)]) f' - (c : Rat) := z2
  show ex (i ++ [(v, s)]) f - (c : Rat) ≤ ex (i ++ [(v', s)]) f' - (c : Rat)
  grind⟩
/-! ### what is left -/
end Pl

/-! the order of the indices, the next box -/
namespace Pl
open Dl Sh
local instance : Dl.Tb := ⟨fun _ => []⟩

def ah (bs : List Box) (p f : Nat) : Bool := decide (ix (bxAt bs f) < ix (bxAt bs p)) || (decide (ix (bxAt bs p) = ix (bxAt bs f)) && decide ((p : Int) < f))
def pick (bs : List Box) (f p : Nat) : Nat := if ah bs p f = true then p else f
/-- numbers by falling index -/
structure Ord (bs : List Box) (os : List Nat) : Prop where
  perm : os.Perm (List.range bs.length)
  fall : os.Pairwise fun a b => ix (bxAt bs b) ≤ ix (bxAt bs a)
def ordF (bs : List Box) : Nat → List Nat → List Nat
  | 0, _ => []
  | k + 1, rs => rs.foldl (pick bs) (rs.headD 0) :: ordF bs k (rs.filter fun a => !decide (a = rs.foldl (pick bs) (rs.headD 0)))
def ordr (bs : List Box) : List Nat := ordF bs bs.length (List.range bs.length)
/-- the first one in the order that is not open, if its index is above what was found -/
def nxt (bs : List Box) (l : List Nat) (x : Int) : List Nat → Option Nat
  | [] => none
  | m :: os => if m ∈ l then nxt bs l x os else if (x : Rat) < ix (bxAt bs m) then some m else none
def nx (bs : List Box) (l : List Nat) (x : Int) : Option Nat := nxt bs l x (ordr bs)
end Pl

/-! the next box and what is left -/
namespace Pl
open Dl Sh
local instance : Dl.Tb := ⟨fun _ => []⟩

end Pl

/-! the rule of the index has the greatest mean -/
namespace Pl
open Dl Sh
local instance : Dl.Tb := ⟨fun _ => []⟩

end Pl

/-! the law's own mean of the greatest of 0 and each box's lesser of value and index -/
namespace Pl
open Dl Sh
local instance : Dl.Tb := ⟨fun _ => []⟩

abbrev RowQ := List (Rat × Rat)
def capS (rows : RowQ) (b : Box) : RowQ := (rows.map fun r => b.2.map fun p => (mxq r.1 (mn (p.1 : Rat) (ix b)), r.2 * p.2)).flatten
structure Rwq (X F : Nat) (rows : RowQ) : Prop where
  top : ∀ r ∈ rows, Bq X 1000 r.1
  sh : ∀ r ∈ rows, Bq F 1 r.2
theorem top_bq {X : Nat} {t : Rat} {b : Box} (k : Bx b) (ht : Bq X 1000 t) (X0 : 0 < X) (hX : (ix b).den ∣ X) {p : Int × Rat} (hp : p ∈ b.2) : Bq X 1000 (mxq t (mn (p.1 : Rat) (ix b))) := by
  have v := k.o.val p hp
  have im : Iq X (mn (p.1 : Rat) (ix b)) := by
    unfold mn
    split
    · exact (Bq.int (M := 1000) v.1 (by omega)).iq.up (Nat.one_dvd _) X0
    · exact (Iq.self _).up hX X0
  refine ⟨?_, Rat.le_trans ht.lo (mxq_ge _ _).1, mxq_le ht.hi (Rat.le_trans (mn_le _ _).1 ?_)⟩
  · unfold mxq
    split
    · exact im
    · exact ht.iq
  · exact cast_le' (a := p.1) (b := ((1000 : Nat) : Int)) (by omega)
theorem Rwq.step {X F : Nat} {rows : RowQ} {b : Box} (k : Rwq X F rows) (kb : Bx b) (X0 : 0 < X) (hX : (ix b).den ∣ X) : Rwq X (F * Do b.2) (capS rows b) := by
  have mem : ∀ q ∈ capS rows b, ∃ r ∈ rows, ∃ p ∈ b.2, q = (mxq r.1 (mn (p.1 : Rat) (ix b)), r.2 * p.2) := fun q hq => by
    obtain ⟨l, hl, hm⟩ := List.mem_flatten.mp hq
    obtain ⟨r, hr, rfl⟩ := List.mem_map.mp hl
    obtain ⟨p, hp, rfl⟩ := List.mem_map.mp hm
    exact ⟨r, hr, p, hp, rfl⟩
  refine ⟨fun q hq => ?_, fun q hq => ?_⟩
  · obtain ⟨r, hr, p, hp, rfl⟩ := mem q hq
    exact top_bq kb (k.top r hr) X0 hX hp
  · obtain ⟨r, hr, p, hp, rfl⟩ := mem q hq
    exact (k.sh r hr).mul (kb.o.prs.sh p hp)
end Pl

set_option maxHeartbeats 1000000
/-! what makes no boxes (k17) -/
namespace Pl
open Dl Sh
local instance : Dl.Tb := ⟨fun _ => []⟩

/-! ### right ones, by the def that raises -/
/-! ### tests that say no -/
/-! ### pairs out of order -/
end Pl

set_option maxHeartbeats 400000
/-! the odd things, refused (k17) -/
namespace Pl
open Dl Sh
local instance : Dl.Tb := ⟨fun _ => []⟩

end Pl

set_option maxHeartbeats 1000000
/-! the odd things drawn (k17) -/
namespace Pl
open Dl Sh
local instance : Dl.Tb := ⟨fun _ => []⟩

end Pl

set_option maxHeartbeats 1000000
/-! the odd things drawn, all refused (k17) -/
namespace Pl
open Dl Sh
local instance : Dl.Tb := ⟨fun _ => []⟩

end Pl

set_option maxHeartbeats 1000000
/-! of alike ones the least number first (k17) -/
namespace Pl
open Dl Sh
local instance : Dl.Tb := ⟨fun _ => []⟩

def bt (bs : List Box) (a b : Nat) : Prop := ix (bxAt bs b) < ix (bxAt bs a) ∨ (ix (bxAt bs a) = ix (bxAt bs b) ∧ a ≤ b)
/-! ### the law's own mean above -/
end Pl

set_option maxHeartbeats 1000000
/-! the law's own mean of what is above (k17) -/
namespace Pl
open Dl Sh
local instance : Dl.Tb := ⟨fun _ => []⟩

end Pl

set_option maxHeartbeats 1000000
/-! sorted numbers, equal boxes (k17) -/
namespace Pl
open Dl Sh
local instance : Dl.Tb := ⟨fun _ => []⟩

/-! ### equal boxes -/
end Pl

/-! Plain laws, looks 1: dicts from values to fractions; looks back. -/
namespace Pl
open Dl Sh
local instance : Dl.Tb := ⟨fun _ => []⟩

/-! ### dicts -/
/-! ### looks back -/
def V (c : Int) (o : Offer) : Nat → Int → Rat
  | 0, x => (x : Rat)
  | t + 1, x => mxq (x : Rat) (tot (c, o) fun v => V c o t (max x v))
end Pl

/-! Plain laws, looks 2: rows back, gains on. -/
namespace Pl
open Dl Sh
local instance : Dl.Tb := ⟨fun _ => []⟩

structure Lk8 (c : Int) (o : Offer) : Prop where
  c0 : 0 ≤ c
  c1 : c ≤ 1000
  o : Ofr o
/-! ### looks on -/
end Pl

/-! Plain laws, looks 3: the law's own looks. -/
namespace Pl
open Dl Sh
local instance : Dl.Tb := ⟨fun _ => []⟩

/-! ### a dict by (times, found) -/
def keyT (t : Nat) (x : Int) : PySem.NestedKey := .tup [.num t, .num x]
theorem keyT_inj {t t' : Nat} {x x' : Int} (e : keyT t x = keyT t' x') : t = t' ∧ x = x' := by
  unfold keyT at e
  injection e with e
  injection e with e1 e2
  injection e1 with e1
  injection e2 with e2 _
  injection e2 with e2
  exact ⟨Int.ofNat.inj e1, e2⟩
theorem nkT_keyT (t : Nat) (x : Int) : nkT (.tup [.int t, .int x]) = some (keyT t x) := rfl
structure KeptT (f : Nat → Int → Rat) (h : Hs) (n c : Nat) : Prop where
  at_ : ∃ kvs, nAt h (.obj n) = some kvs ∧ kvs.length ≤ c ∧ ∀ l x d, look kvs (keyT l x) = some d → d = fr (f l x)
section
variable {f : Nat → Int → Rat} {h h' : Hs} {n c : Nat} {l : Nat} {x : Int}
theorem KeptT.mono {c' : Nat} (k : KeptT f h n c) (l : c ≤ c') : KeptT f h n c' := by
  obtain ⟨kvs, k1, k2, k3⟩ := k.at_
  exact ⟨kvs, k1, by omega, k3⟩
theorem KeptT.new (e : h[n]? = some (.dI [])) : KeptT f h n 0 := by
  refine ⟨[], ?_, Nat.le_refl _, fun l x d e => by simp [look] at e⟩
  show (match h[n]? with
    | some (.dN kvs) => some kvs
    | some (.dI []) => some []
    | _ => none) = some []
  rw [e]
theorem KeptT.ask (k : KeptT f h n c) (l : Nat) (x : Int) : ∃ b : Bool, ninN (.tup [.int l, .int x]) (.obj n) h = .ok (.bl (!b)) h ∧ (b = true → itemN (.obj n) (.tup [.int l, .int x]) h = .ok (fr (f l x)) h) := by
  obtain ⟨kvs, k1, k2, k3⟩ := k.at_
  refine ⟨(look kvs (keyT l x)).isSome, ?_, fun b => ?_⟩
  · show (match nkT (.tup [.int l, .int x]), nAt h (.obj n) with
      | some k, some kvs => Dl.R.ok (D.bl (if true = true then !(look kvs k).isSome else (look kvs k).isSome)) h
      | _, _ => .bad) = _
    rw [nkT_keyT, k1]
    rfl
  · obtain ⟨d, hd⟩ := Option.isSome_iff_exists.mp b
    show (match nkT (.tup [.int l, .int x]), nAt h (.obj n) with
      | some k, some kvs => (match look kvs k with
        | some d => Dl.R.ok d h
        | none => .bad)
      | _, _ => .bad) = _
    rw [nkT_keyT, k1]
    show (match look kvs (keyT l x) with
        | some d => Dl.R.ok d h
        | none => .bad) = _
    rw [hd, k3 l x d hd]
theorem KeptT.put (k : KeptT f h n c) (l : Nat) (x : Int) (hc : c < 16000000) : ∃ kvs, nAt h (.obj n) = some kvs ∧ kvs.length < 16777216 ∧ KeptT f (h.set n (.dN (putN kvs (keyT l x) (fr (f l x))))) n (c + 1) ∧
    itemN (.obj n) (.tup [.int l, .int x]) (h.set n (.dN (putN kvs (keyT l x) (fr (f l x))))) = .ok (fr (f l x)) (h.set n (.dN (putN kvs (keyT l x) (fr (f l x))))) := by
  obtain ⟨kvs, k1, k2, k3⟩ := k.at_
  have ln := nAt_len k1
  refine ⟨kvs, k1, by omega, ⟨_, nAt_set ln, ?_, fun l' x' d e => ?_⟩, ?_⟩
  · have := putN_len kvs (keyT l x) (fr (f l x))
    omega
  · rw [look_put] at e
    split at e
    · rename_i z
      obtain ⟨rfl, rfl⟩ := keyT_inj z
      exact (Option.some.inj e).symm
    · exact k3 l' x' d e
  · show (match nkT (.tup [.int l, .int x]), nAt (h.set n (.dN (putN kvs (keyT l x) (fr (f l x))))) (.obj n) with
      | some k, some kvs => (match look kvs k with
        | some d => Dl.R.ok d (h.set n (.dN (putN _ (keyT l x) (fr (f l x)))))
        | none => .bad)
      | _, _ => .bad) = _
    rw [nkT_keyT, nAt_set ln]
    show (match look (putN kvs (keyT l x) (fr (f l x))) (keyT l x) with
        | some d => Dl.R.ok d _
        | none => .bad) = _
    rw [look_put, if_pos rfl]
end
/-! ### the law's looks back -/
def Tb : Nat → Nat
  | 0 => 0
  | k + 1 => 1 + 5 * Tb k
/-! ### the law's looks on -/
/-! ### which is more -/
end Pl

/-! looks back by the index of the box -/
namespace Pl
open Dl Sh
local instance : Dl.Tb := ⟨fun _ => []⟩

theorem Lk8.bx {c : Int} {o : Offer} (k : Lk8 c o) : Bx (c, o) := ⟨⟨k.c0, k.c1⟩, k.o⟩
theorem slD_obj_from {n : Nat} {xs : List D} {m : Nat} {h : Hs} (e : h[n]? = some (.lst xs)) : sliceD (.obj n) (some (m : Int)) none h = .ok (.lst (xs.drop m)) h := by
  have z : items h (.obj n) = some xs := by
    show (match h[n]? with
      | some (.lst xs) => some xs
      | _ => none) = _
    rw [e]
  show (Dl.R.bind (match items h (.obj n) with
    | some xs => Dl.R.ok (cutL xs (some (m : Int)) none) h
    | none => Dl.R.bad) fun xs h1 => Dl.R.ok (D.lst xs) h1) = _
  rw [z]
  show Dl.R.ok (D.lst (cutL xs (some (m : Int)) none)) h = _
  rw [cutL_from]
end Pl

set_option maxHeartbeats 1000000
/-! k11: items of offers that may be none -/
namespace Pl
open Dl Sh
local instance : Dl.Tb := ⟨fun _ => []⟩

theorem low_fr {a b : Int} (b0 : 0 < b) (g : Int.gcd a b = 1) : fr (Rat.divInt a b) = .tup [.int a, .int b] := by
  have k3 : (Rat.divInt a b).num = a := by rw [Rat.num_divInt, Int.sign_eq_one_of_pos b0, Int.one_mul, Int.gcd_comm, g]; simp
  have k4 : ((Rat.divInt a b).den : Int) = b := by
    rw [Rat.den_divInt, if_neg (by omega), Int.gcd_comm, g]
    omega
  unfold fr
  rw [k3, k4]
/-! ### the law's own look -/
theorem fz_ii (a b : Int) : Fz 1 (D.tup [.int a, .int b]) := .tup fun y hy => by
  rcases List.mem_cons.mp hy with e | hy
  · rw [e]; exact .int _
  · rw [List.mem_singleton.mp hy]; exact .int _
end Pl

/-! Plain laws, trials 1: the first fact. -/
namespace Pl
open Dl Sh
local instance : Dl.Tb := ⟨fun _ => []⟩

abbrev Ins (cs : List Rat) : Prop := ∀ c ∈ cs, In1 c
theorem Ins.tl {c : Rat} {cs : List Rat} (h : Ins (c :: cs)) : Ins cs := fun x hx => h x (List.mem_cons_of_mem _ hx)
theorem Ins.hd {c : Rat} {cs : List Rat} (h : Ins (c :: cs)) : In1 c := h c List.mem_cons_self
theorem Ins.drop {cs : List Rat} (h : Ins cs) (m : Nat) : Ins (cs.drop m) := fun x hx => h x (List.mem_of_mem_drop hx)
/-! ### going on is what is best -/
/-- the number from which on to take -/
def fn (cs : List Rat) : Nat := (Ff cs).getD 0
/-! ### all lots -/
theorem range_lots : ∀ (n k : Nat), k ≤ n → List.range' k (n - k) ∈ lots n
  | 0, k, h => by
    have : k = 0 := by omega
    subst this
    exact List.mem_singleton.mpr rfl
  | n + 1, k, h => by
    unfold lots
    by_cases e : k = n + 1
    · subst e
      rw [Nat.sub_self]
      exact List.mem_append.mpr (.inl (lots_nil n))
    · refine List.mem_append.mpr (.inr (List.mem_map.mpr ⟨_, range_lots n k (by omega), ?_⟩))
      rw [show n + 1 - k = (n - k) + 1 by omega, List.range'_concat]
      congr 2
      omega
theorem fn_le (cs : List Rat) : fn cs ≤ cs.length := by
  unfold fn
  cases e : Ff cs with
  | none => exact Nat.zero_le _
  | some k =>
    have : ∀ {cs : List Rat} {k : Nat}, Ff cs = some k → k ≤ cs.length := fun {cs} => by
      induction cs with
      | nil => intro k e; cases e
      | cons c cs ih =>
        intro k e
        unfold Ff at e
        split at e
        · rename_i j q
          cases e
          have := ih q
          rw [List.length_cons]
          omega
        · split at e
          · cases e
          · cases e
            exact Nat.zero_le _
    exact this e
/-- the lot from which on to take -/
def fl (cs : List Rat) : List Nat := List.range' (fn cs) (cs.length - fn cs)
theorem fl_lots (cs : List Rat) : fl cs ∈ lots cs.length := range_lots _ _ (fn_le cs)
end Pl

/-! Plain laws, trials 2: drawn trials, the law's own win and from, hand b. -/
namespace Pl
open Dl Sh
local instance : Dl.Tb := ⟨fun _ => []⟩

/-! ### from which on, the law's way -/
end Pl

/-! Plain laws, trials 3: the law's own win (k33). -/
namespace Pl
open Dl Sh
local instance : Dl.Tb := ⟨fun _ => []⟩

end Pl

/-! Plain laws, trials 4: what is told of trials, in one place. -/
namespace Pl
open Dl Sh
local instance : Dl.Tb := ⟨fun _ => []⟩

theorem Row.ins {cs : List Rat} (r : Row cs) : Ins cs := fun q hq => (r.2.2 q hq).1
theorem TrAt.gb {h h' : Hs} {i : Nat} {cs : List Rat} (t : TrAt h i cs) {b : Nat} (g : Gb b h h') (hi : b ≤ i) : TrAt h' i cs := by
  obtain ⟨fs, h1, r⟩ := t
  exact ⟨fs, g.at hi h1, r⟩
theorem Lk.gb {h h' : Hs} {i : Nat} {cs : List Rat} (t : Lk h i cs) {b : Nat} (g : Gb b h h') (hi : b ≤ i) : Lk h' i cs := ⟨t.1.gb g hi, t.2.elim (fun e => .inl (g.at (by omega) e)) fun e => .inr (g.at (by omega) e)⟩
theorem Hd.of {h h' : Hs} {N : Nat} (t : Hd h N) (e : h'[0]? = h[0]?) : Hd h' N := by
  obtain ⟨cs, p, z, s, n, g0, r⟩ := t.ex
  exact ⟨cs, p, z, s, n, e.trans g0, r⟩
/-- what is another's stands -/
structure KpT (i : Nat) (h h' : Hs) : Prop where
  len : h'.length = h.length
  at' : ∀ j, j ≠ i + 1 → h'[j]? = h[j]?
theorem KpT.hd {i N : Nat} {h h' : Hs} (k : KpT i h h') (t : Hd h N) : Hd h' N := t.of (k.at' 0 (by omega))
theorem KpT.lk {i j : Nat} {cs : List Rat} {h h' : Hs} (k : KpT i h h') (t : Lk h j cs) (ne : j ≠ i) (ne2 : j ≠ i + 1) : Lk h' j cs := by
  obtain ⟨⟨fs, h1, r⟩, h2⟩ := t
  refine ⟨⟨fs, (k.at' j ne2).trans h1, r⟩, ?_⟩
  rw [k.at' (j + 1) (by omega)]
  exact h2
theorem KpT.gb {i : Nat} {h0 h h' : Hs} {b : Nat} (k : KpT i h h') (g : Gb b h0 h) (hi : h0.length ≤ i + 1) : Gb b h0 h' := ⟨by rw [k.len]; exact g.len, fun j h1 h2 => (k.at' j (by omega)).trans (g.keep j h1 h2)⟩
end Pl

set_option maxHeartbeats 1000000
/-! candidates: the greatest chances with picks, as fractions -/
namespace Pl
open Dl Sh
local instance : Dl.Tb := ⟨fun _ => []⟩

/-- the chances with one pick more, by the distance from the end; p: those with a pick less -/
def hopRow (n : Nat) (p : Nat → Rat) : Nat → Rat
  | 0 => 0
  | m + 1 => Rat.divInt 1 ((n - m : Nat) : Int) * mxq (hopRow n p m) (Rat.divInt ((n - m : Nat) : Int) (n : Int) + p m) + Rat.divInt ((n - m - 1 : Nat) : Int) ((n - m : Nat) : Int) * hopRow n p m
def hopR (n : Nat) : Nat → Nat → Rat
  | 0 => fun _ => 0
  | k + 1 => hopRow n (hopR n k)
theorem hopR_zero (n k : Nat) : hopR n k 0 = 0 := by cases k <;> rfl
def ew (n : Nat) : Nat → Nat
  | 0 => n
  | m + 1 => (n - m) * ew n m
theorem ew_pos {n : Nat} (n1 : 1 ≤ n) : ∀ {m : Nat}, m ≤ n → 0 < ew n m
  | 0, _ => n1
  | m + 1, h => Nat.mul_pos (by omega) (ew_pos n1 (by omega))
theorem ew_dvd {n : Nat} : ∀ (m : Nat), n ∣ ew n m
  | 0 => Nat.dvd_refl _
  | m + 1 => Nat.dvd_trans (ew_dvd m) (Nat.dvd_mul_left _ _)
theorem ew_le {n : Nat} (n12 : n ≤ 12) : ∀ (m : Nat), ew n m ≤ 12 ^ (m + 1)
  | 0 => by show n ≤ 12 ^ 1; omega
  | m + 1 => by
    have ih := ew_le n12 m
    show (n - m) * ew n m ≤ 12 ^ (m + 2)
    rw [Nat.pow_succ, Nat.mul_comm]
    exact Nat.mul_le_mul ih (by omega)
theorem bq_div {a b : Nat} (b0 : 0 < b) (ab : a ≤ b) : Bq b 1 (Rat.divInt (a : Int) (b : Int)) := ⟨⟨(a : Int), rfl⟩, by
  rw [Rat.divInt_eq_div, Rat.div_def]
  exact Rat.mul_nonneg (Rat.intCast_nonneg.mpr (by omega)) (inv_nn (Rat.intCast_nonneg.mpr (by omega))), by
  have z : Rat.divInt (a : Int) (b : Int) ≤ 1 := by
    rw [Rat.divInt_eq_div, Rat.div_def]
    have bp : (0 : Rat) < ((b : Int) : Rat) := Rat.intCast_pos.mpr (by omega)
    have le : ((a : Int) : Rat) ≤ ((b : Int) : Rat) := Rat.intCast_le_intCast.mpr (by omega)
    have := Rat.mul_le_mul_of_nonneg_right le (inv_nn (Rat.le_of_lt bp))
    rw [Rat.mul_inv_cancel _ (by grind)] at this
    exact this
  exact z⟩
theorem hop_bq {n : Nat} (n1 : 1 ≤ n) : ∀ (k m : Nat), m ≤ n → Bq (ew n m) (2 ^ m * k) (hopR n k m) := by
  intro k
  induction k with
  | zero => exact fun m hm => Bq.zero' (ew_pos n1 hm) _
  | succ k ihk =>
    intro m
    induction m with
    | zero => exact fun hm => Bq.zero' (ew_pos n1 hm) _
    | succ m ihm =>
      intro hm
      have A := ihm (by omega)
      have B := ihk m (by omega)
      have e0 := ew_pos n1 (m := m) (by omega)
      have T0 : Bq n 1 (Rat.divInt ((n - m : Nat) : Int) (n : Int)) := bq_div n1 (by omega)
      have p2 : 1 ≤ 2 ^ m := Nat.one_le_two_pow
      have T : Bq (ew n m) (2 ^ m * (k + 1)) (Rat.divInt ((n - m : Nat) : Int) (n : Int) + hopR n k m) := ((T0.up (ew_dvd m) e0 (Nat.le_refl _)).add B).up (Nat.dvd_refl _) e0 (by rw [Nat.mul_succ]; omega)
      have X : Bq (ew n m) (2 ^ m * (k + 1)) (mxq (hopR n (k + 1) m) (Rat.divInt ((n - m : Nat) : Int) (n : Int) + hopR n k m)) := (A.mx T).up (Nat.dvd_refl _) e0 (by omega)
      have D1 : Bq (n - m) 1 (Rat.divInt 1 ((n - m : Nat) : Int)) := bq_div (a := 1) (by omega) (by omega)
      have D2 : Bq (n - m) 1 (Rat.divInt ((n - m - 1 : Nat) : Int) ((n - m : Nat) : Int)) := bq_div (by omega) (by omega)
      have S := (D1.mul X).add (D2.mul A)
      refine S.up (Nat.dvd_refl _) (Nat.mul_pos (by omega) e0) ?_
      rw [Nat.pow_succ]
      have : 1 * (2 ^ m * (k + 1)) + 1 * (2 ^ m * (k + 1)) = 2 ^ m * 2 * (k + 1) := by
        rw [Nat.one_mul, Nat.mul_comm (2 ^ m) 2, Nat.mul_assoc]
        omega
      omega
theorem sz_big {E M : Nat} {q : Rat} (h : Bq E M q) (h0 : 0 < E) (hE : E ≤ 12 ^ 13) (hM : M ≤ 2 ^ 20) : Sz 100 q := h.sz h0 (by
  have l : (M + 1) * E ≤ (2 ^ 20 + 1) * 12 ^ 13 := Nat.mul_le_mul (by omega) hE
  exact Nat.lt_of_le_of_lt l (by decide))
theorem hop_sz {n : Nat} (n1 : 1 ≤ n) (n12 : n ≤ 12) {k m : Nat} (hm : m ≤ n) (hk : k ≤ 12) : Sz 100 (hopR n k m) := sz_big (hop_bq n1 k m hm) (ew_pos n1 hm) (Nat.le_trans (ew_le n12 m) (Nat.pow_le_pow_right (by decide) (by omega))) (by
  have : 2 ^ m ≤ 2 ^ 12 := Nat.pow_le_pow_right (by decide) (by omega)
  calc 2 ^ m * k ≤ 2 ^ 12 * 12 := Nat.mul_le_mul this hk
    _ ≤ 2 ^ 20 := by decide)
theorem div_sz {a b : Nat} (b0 : 0 < b) (ab : a ≤ b) (b12 : b ≤ 12) : Sz 100 (Rat.divInt (a : Int) (b : Int)) := sz_big (bq_div b0 ab) b0 (Nat.le_trans b12 (by decide)) (by decide)
end Pl

set_option maxHeartbeats 1000000
/-! candidates: hopes -/
namespace Pl
open Dl Sh
local instance : Dl.Tb := ⟨fun _ => []⟩

def hopI : SM := sSeq (sSet 6 (eCall 2 m_plus (aC (eCall 2 m_lowest (aC (e2 addD (eV 5) (eC (.int 1))) (aC (eV 0) aN))) (aC (e2 itemD (e2 itemD (eV 2) (eV 3)) (e2 addD (eV 5) (eC (.int 1)))) aN)))) (sSeq (sSet 7 (eCall 2 m_greatest (aC (e2 itemD (eV 4) (e2 addD (eV 5) (eC (.int 1)))) (aC (eV 6) aN)))) (sStore (eCall 2 m_plus (aC (eCall 2 m_product (aC (eTup (aC (eC (.int 1)) (aC (e2 addD (eV 5) (eC (.int 1))) aN))) (aC (eV 7) aN))) (aC (eCall 2 m_product (aC (eCall 2 m_lowest (aC (eV 5) (aC (e2 addD (eV 5) (eC (.int 1))) aN))) (aC (e2 itemD (eV 4) (e2 addD (eV 5) (eC (.int 1)))) aN))) aN))) (eV 4) (eV 5)))
def hopO : SM := sSeq (sSet 4 (thaw (nRep (frz (nLst (aC (eC (.tup [.int 0, .int 1])) aN))) (e2 addD (eV 0) (eC (.int 1)))))) (sSeq (sFor (iR3 (aC (e2 subD (eV 0) (eC (.int 1))) (aC (e1 negD (eC (.int 1))) (aC (e1 negD (eC (.int 1))) aN)))) (.nm 5) (hopI)) (sExp (eLm appD (eV 2) (aC (eV 4) aN))))
theorem hop_code : c_hopes = sSeq (sSet 2 (thaw (nLst (aC (e2 mulD (frz (nLst (aC (eC (.tup [.int 0, .int 1])) aN))) (e2 addD (eV 0) (eC (.int 1)))) aN)))) (sSeq (sFor (iR1 (aC (eV 1) aN)) (.nm 3) (hopO)) (sRet (eV 2))) := rfl
def Crow (n k : Nat) : List D := (List.range (n + 1)).map fun i => fr (hopR n k (n - i))
def rowJ (n k j : Nat) : List D := (List.range (n + 1)).map fun i => fr (if n ≤ i + j then hopR n (k + 1) (n - i) else 0)
theorem crow_at {n k i : Nat} (hi : i ≤ n) : (Crow n k)[i]? = some (fr (hopR n k (n - i))) := by
  unfold Crow
  rw [List.getElem?_map, List.getElem?_range (by omega)]
  rfl
theorem rowJ_at {n k j i : Nat} (hi : i ≤ n) : (rowJ n k j)[i]? = some (fr (if n ≤ i + j then hopR n (k + 1) (n - i) else 0)) := by
  unfold rowJ
  rw [List.getElem?_map, List.getElem?_range (by omega)]
  rfl
theorem rowJ_len {n k j : Nat} : (rowJ n k j).length = n + 1 := by unfold rowJ; simp
theorem rep_map {n : Nat} {α : Type} {f : Nat → α} {x : α} (h : ∀ i, i < n → f i = x) : (List.range n).map f = List.replicate n x := by
  apply List.ext_getElem?
  intro i
  by_cases hi : i < n
  · rw [List.getElem?_map, List.getElem?_range hi, List.getElem?_replicate, if_pos hi, Option.map_some, h i hi]
  · rw [List.getElem?_eq_none (by simp; omega), List.getElem?_eq_none (by simp; omega)]
theorem rowJ_zero {n k : Nat} : rowJ n k 0 = List.replicate (n + 1) (.tup [.int 0, .int 1]) := by
  unfold rowJ
  refine rep_map fun i hi => ?_
  by_cases z : n ≤ i + 0
  · rw [if_pos z, show n - i = 0 by omega, hopR_zero, fr0]
  · rw [if_neg z, fr0]
theorem crow_zero {n : Nat} : Crow n 0 = List.replicate (n + 1) (.tup [.int 0, .int 1]) := by
  unfold Crow
  exact rep_map fun i hi => fr0
theorem rowJ_all {n k : Nat} : rowJ n k n = Crow n (k + 1) := by
  unfold rowJ Crow
  refine List.map_congr_left fun i _ => ?_
  rw [if_pos (by omega)]
theorem rowJ_set {n k j : Nat} (hj : j < n) : (rowJ n k j).set (n - 1 - j) (fr (hopR n (k + 1) (j + 1))) = rowJ n k (j + 1) := by
  apply List.ext_getElem?
  intro i
  by_cases hi : i ≤ n
  · rw [rowJ_at hi, List.getElem?_set]
    by_cases e : n - 1 - j = i
    · subst e
      rw [if_pos rfl, if_pos (by rw [rowJ_len]; omega), if_pos (by omega), show n - (n - 1 - j) = j + 1 by omega]
    · rw [if_neg e, rowJ_at hi]
      by_cases z : n ≤ i + j
      · rw [if_pos z, if_pos (by omega)]
      · rw [if_neg z, if_neg (by omega)]
  · rw [List.getElem?_eq_none (by rw [List.length_set, rowJ_len]; omega), List.getElem?_eq_none (by rw [rowJ_len]; omega)]
def RowsAt (h : Hs) (r n k : Nat) : Prop := ∃ xs, h[r]? = some (.lst xs) ∧ xs.length = k + 1 ∧ ∀ m, m ≤ k → ∃ x, xs[m]? = some x ∧ ListAt h x (Crow n m) ∧ ∀ o, x = .obj o → r < o
theorem RowsAt.app {h t : Hs} {r n k : Nat} (a : RowsAt h r n k) : RowsAt (h ++ t) r n k := by
  obtain ⟨xs, e, l, c⟩ := a
  refine ⟨xs, getl e, l, fun m hm => ?_⟩
  obtain ⟨x, ex, la, b⟩ := c m hm
  refine ⟨x, ex, ?_, b⟩
  rcases la with e | ⟨o, e1, e2⟩
  · exact .inl e
  · exact .inr ⟨o, e1, getl e2⟩
theorem item_la {h : Hs} {x : D} {xs : List D} {i : Nat} {d : D} (a : ListAt h x xs) (e : xs[i]? = some d) : itemD x (.int i) h = .ok d h := by
  rcases a with rfl | ⟨o, rfl, e2⟩
  · exact item_lst e
  · exact item_obj e2 e
theorem hop_inner {n k r : Nat} (n1 : 1 ≤ n) (n12 : n ≤ 12) (k12 : k < 12) {g : Hs} (ra : RowsAt g r n k) {p x5 x6 x7 : Option D} : WpS (sFor (iR3 (aC (e2 subD (eV 0) (eC (.int 1))) (aC (e1 negD (eC (.int 1))) (aC (e1 negD (eC (.int 1))) aN)))) (.nm 5) (hopI) [some (.int n), p, some (.obj r), some (.int k), some (.obj g.length), x5, x6, x7] (g ++ [.lst (rowJ n k 0)])) (fun ρ h' => (∃ x5 x6 x7, ρ = [some (.int n), p, some (.obj r), some (.int k), some (.obj g.length), x5, x6, x7]) ∧ h' = g ++ [.lst (Crow n (k + 1))]) fun _ _ => False := by
  have ir : iR3 (aC (e2 subD (eV 0) (eC (.int 1))) (aC (e1 negD (eC (.int 1))) (aC (e1 negD (eC (.int 1))) aN))) [some (.int n), p, some (.obj r), some (.int k), some (.obj g.length), x5, x6, x7] (g ++ [.lst (rowJ n k 0)]) = .ok ⟨rng ((n : Int) - 1) (-1) n, []⟩ (g ++ [.lst (rowJ n k 0)]) := by
    have ok1 := okI_of (i := (n : Int) - 1) (by omega) (by omega)
    have ok2 : okI (-1) = true := by decide
    simp only [eV0, eVs, bind_ok', then_ok, q_e2, q_e1, q_eC, q_aC, q_aN, q_sPar2, q_sPar3, q_sSet, q_sRet, q_eBf, q_nBf, q_eCall, q_tst, q_tru, q_ifV, q_sIf, q_eTup, q_sPass, q_sExp, q_eLm, q_nLst, q_frz, q_thaw, q_iSeq, q_iR2, q_iR3, q_iEnumD, q_iZip, q_andX, q_andT, q_orT, q_notT, q_eCh, q_sPat, q_eSl, q_nSl, q_pS, q_pN, q_sRetN, q_tYes, q_eDct0, okL0, okL1, okL2, okL3, okL4, okL5, okL6, ent, List.map_cons, List.map_nil, List.length_cons, List.length_nil, List.set_cons_zero, List.set_cons_succ, List.replicate, List.cons_append, List.nil_append, Nat.reduceAdd, Nat.reduceSub, Nat.sub_self, Nat.sub_zero, zero_add', ↓reduceIte, Bool.false_eq_true, item0, item1, addD_ii, subD_ii, negD_i, absD_i, ltD_ii, leD_ii, gtD_ii, geD_ii, truD_bl, decide_true, decide_false, q_iR3, ok1, ok2]
    rw [show ((n : Int) - 1 - -1).toNat = n by omega]
    rfl
  rw [wps_for, ir, wp_ok]
  refine wps_loop (fun j ρ h' => j ≤ n ∧ (∃ x5 x6 x7, ρ = [some (.int n), p, some (.obj r), some (.int k), some (.obj g.length), x5, x6, x7]) ∧ h' = g ++ [.lst (rowJ n k j)]) _ 0 _ _ ?_ ?_ ⟨Nat.zero_le _, ⟨_, _, _, rfl⟩, rfl⟩
  · rintro j x ρ h' hx ⟨jn, ⟨x5, x6, x7, rfl⟩, rfl⟩
    rw [Nat.zero_add] at jn ⊢
    have hj := (List.getElem?_eq_some_iff.mp hx).1
    rw [rng_len] at hj
    rw [rng_down _ _ _ hj] at hx
    cases hx
    have ea : ((n : Int) - 1 - (j : Nat)) = ((n - 1 - j : Nat) : Int) := by omega
    rw [ea]
    refine ⟨rfl, _, rfl, ?_⟩
    obtain ⟨xs, er, lr, cr⟩ := ra.app (t := [.lst (rowJ n k j)])
    obtain ⟨x, ex, la, -⟩ := cr k (Nat.le_refl _)
    have a1 : ((n - 1 - j : Nat) : Int) + 1 = ((n - j : Nat) : Int) := by omega
    have cell : (g ++ [DO.lst (rowJ n k j)])[g.length]? = some (.lst (rowJ n k j)) := get_last
    have i1 : itemD (.obj r) (.int k) (g ++ [.lst (rowJ n k j)]) = .ok x (g ++ [.lst (rowJ n k j)]) := item_obj er ex
    have i2 : itemD x (.int (n - j : Nat)) (g ++ [.lst (rowJ n k j)]) = .ok (fr (hopR n k j)) (g ++ [.lst (rowJ n k j)]) := by
      refine item_la la ?_
      rw [crow_at (by omega), show n - (n - j) = j by omega]
    have i3 : itemD (.obj g.length) (.int (n - j : Nat)) (g ++ [.lst (rowJ n k j)]) = .ok (fr (hopR n (k + 1) j)) (g ++ [.lst (rowJ n k j)]) := by
      refine item_obj cell ?_
      rw [rowJ_at (by omega), if_pos (by omega), show n - (n - j) = j by omega]
    have l1 := lowest_eq ((n - j : Nat) : Int) (n : Int) (g ++ [.lst (rowJ n k j)]) (by omega) (Nat.lt_of_lt_of_le (show ((n : Int)).natAbs < 2 ^ 4 by omega) (Nat.pow_le_pow_right (by decide) (by decide)))
    have l2 := lowest_eq ((n - 1 - j : Nat) : Int) ((n - j : Nat) : Int) (g ++ [.lst (rowJ n k j)]) (by omega) (Nat.lt_of_lt_of_le (show (((n - j : Nat) : Int)).natAbs < 2 ^ 4 by omega) (Nat.pow_le_pow_right (by decide) (by decide)))
    have s1 : Sz 100 (Rat.divInt ((n - j : Nat) : Int) (n : Int)) := div_sz (by omega) (by omega) n12
    have s2 : Sz 100 (hopR n k j) := hop_sz n1 n12 (by omega) (by omega)
    have s3 : Sz 100 (hopR n (k + 1) j) := hop_sz n1 n12 (by omega) (by omega)
    have p1 := plus_eq s1 s2 (by decide) (g ++ [.lst (rowJ n k j)])
    have s4 := Sz.add s1 s2
    have m1 := greatest_eq s3 s4 (by decide) (g ++ [.lst (rowJ n k j)])
    have s5 : Sz 201 (mxq (hopR n (k + 1) j) (Rat.divInt ((n - j : Nat) : Int) (n : Int) + hopR n k j)) := by
      unfold mxq
      split
      · exact s4
      · exact s3.mono (by decide)
    have s6 : Sz 100 (Rat.divInt ((1 : Nat) : Int) ((n - j : Nat) : Int)) := div_sz (by omega) (by omega) (by omega)
    have f6 : D.tup [.int 1, .int ((n - j : Nat) : Int)] = fr (Rat.divInt ((1 : Nat) : Int) ((n - j : Nat) : Int)) := (low_fr (a := ((1 : Nat) : Int)) (by omega) (by simp)).symm
    have p2 := product_eq s6 s5 (by decide) (g ++ [.lst (rowJ n k j)])
    have s7 : Sz 100 (Rat.divInt ((n - 1 - j : Nat) : Int) ((n - j : Nat) : Int)) := div_sz (by omega) (by omega) (by omega)
    have p3 := product_eq s7 s3 (by decide) (g ++ [.lst (rowJ n k j)])
    have p4 := plus_eq (Sz.mul s6 s5) (Sz.mul s7 s3) (by decide) (g ++ [.lst (rowJ n k j)])
    have mx : (if hopR n (k + 1) j < Rat.divInt ((n - j : Nat) : Int) (n : Int) + hopR n k j then Rat.divInt ((n - j : Nat) : Int) (n : Int) + hopR n k j else hopR n (k + 1) j) = mxq (hopR n (k + 1) j) (Rat.divInt ((n - j : Nat) : Int) (n : Int) + hopR n k j) := rfl
    rw [mx] at m1
    have due : Rat.divInt ((1 : Nat) : Int) ((n - j : Nat) : Int) * mxq (hopR n (k + 1) j) (Rat.divInt ((n - j : Nat) : Int) (n : Int) + hopR n k j) + Rat.divInt ((n - 1 - j : Nat) : Int) ((n - j : Nat) : Int) * hopR n (k + 1) j = hopR n (k + 1) (j + 1) := by
      rw [show n - 1 - j = n - j - 1 by omega]
      rfl
    rw [due] at p4
    have st := set_obj (v := fr (hopR n (k + 1) (j + 1))) (i := n - 1 - j) cell (by rw [rowJ_len]; omega)
    rw [set_last, rowJ_set hj] at st
    unfold hopI
    simp only [eV0, eVs, bind_ok', then_ok, q_e2, q_e1, q_eC, q_aC, q_aN, q_sPar2, q_sPar3, q_sSet, q_sRet, q_eBf, q_nBf, q_eCall, q_tst, q_tru, q_ifV, q_sIf, q_eTup, q_sPass, q_sExp, q_eLm, q_nLst, q_frz, q_thaw, q_iSeq, q_iR2, q_iR3, q_iEnumD, q_iZip, q_andX, q_andT, q_orT, q_notT, q_eCh, q_sPat, q_eSl, q_nSl, q_pS, q_pN, q_sRetN, q_tYes, q_eDct0, okL0, okL1, okL2, okL3, okL4, okL5, okL6, ent, List.map_cons, List.map_nil, List.length_cons, List.length_nil, List.set_cons_zero, List.set_cons_succ, List.replicate, List.cons_append, List.nil_append, Nat.reduceAdd, Nat.reduceSub, Nat.sub_self, Nat.sub_zero, zero_add', ↓reduceIte, Bool.false_eq_true, item0, item1, addD_ii, subD_ii, negD_i, absD_i, ltD_ii, leD_ii, gtD_ii, geD_ii, truD_bl, decide_true, decide_false, wp_ok, wp_bad, wp_bind, wp_nox, wp_def, wps_then, wps_seq, wps_nx, wps_ret, wp_ite, wps_ite, a1, i1, i2, i3, l1, l2, p1, m1, f6, p2, p3, p4, wps_store, st]
    exact ⟨by omega, ⟨_, _, _, rfl⟩, trivial⟩
  · rintro ρ h' ⟨jn, e, rfl⟩
    rw [Nat.zero_add, rng_len, rowJ_all]
    exact ⟨rfl, e, rfl⟩
theorem flat_rep {x : D} : ∀ (m : Nat), (List.replicate m [x]).flatten = List.replicate m x
  | 0 => rfl
  | m + 1 => by rw [List.replicate_succ, List.flatten_cons, flat_rep m]; rfl
theorem mul_rep {x : D} {n : Nat} {h : Hs} (hn : n ≤ 12) : mulD (.lst [x]) (.int ((n : Int) + 1)) h = .ok (.lst (List.replicate (n + 1) x)) h := by
  rw [show (n : Int) + 1 = ((n + 1 : Nat) : Int) by omega]
  generalize hm : n + 1 = m
  have z : okRep [x].length (m : Int) = true := decide_eq_true ⟨by omega, by omega, by simp; omega⟩
  show (if okRep [x].length (m : Int) = true then R.ok (D.lst (List.replicate ((m : Int)).toNat [x]).flatten) h else .bad) = _
  rw [if_pos z, Int.toNat_natCast, flat_rep]
theorem nrep_eq {x : D} {n : Nat} {h : Hs} {ρ : Env} (hn : n ≤ 12) (e0 : eV 0 ρ h = .ok (.int n) h) : nRep (frz (nLst (aC (eC x) aN))) (e2 addD (eV 0) (eC (.int 1))) ρ h = .ok (List.replicate (n + 1) x) h := by
  unfold nRep
  simp only [q_frz, q_nLst, q_aC, q_eC, q_aN, q_e2, e0, bind_ok', okL1, List.length_cons, List.length_nil, Nat.reduceAdd, zero_add', ↓reduceIte, addD_ii]
  rw [show (n : Int) + 1 = ((n + 1 : Nat) : Int) by omega]
  generalize hm : n + 1 = m
  have z : okRep [x].length (m : Int) = true := decide_eq_true ⟨by omega, by omega, by simp; omega⟩
  show (if okRep [x].length (m : Int) = true then R.ok (List.replicate ((m : Int)).toNat [x]).flatten h else .bad) = _
  rw [if_pos z, Int.toNat_natCast, flat_rep]
theorem hopes_spec {n p : Nat} {x y : D} (n1 : 1 ≤ n) (n12 : n ≤ 12) (p12 : p ≤ 12) (ex : x = .int n) (ey : y = .int p) {h : Hs} {Q : D → Hs → Prop} (k : ∀ h', RowsAt h' h.length n p → Gb 0 h h' → Q (.obj h.length) h') : Wp (m_hopes [x, y] h) Q := by
  refine wp_mono (Q := fun d h' => d = .obj h.length ∧ RowsAt h' h.length n p ∧ Gb 0 h h') ?_ fun d h' ⟨e, a, b⟩ => e ▸ k h' a b
  subst ex ey
  unfold m_hopes
  rw [hop_code]
  have en : ent 8 [D.int n, .int p] = [some (.int n), some (.int p), none, none, none, none, none, none] := rfl
  have m0 := mul_rep (x := .tup [.int 0, .int 1]) n12 (h := h)
  have s0 : sSet 2 (thaw (nLst (aC (e2 mulD (frz (nLst (aC (eC (.tup [.int 0, .int 1])) aN))) (e2 addD (eV 0) (eC (.int 1)))) aN))) [some (.int n), some (.int p), none, none, none, none, none, none] h = .nx [some (.int n), some (.int p), some (.obj h.length), none, none, none, none, none] (h ++ [.lst [.lst (Crow n 0)]]) := by
    rw [crow_zero]
    simp only [eV0, eVs, bind_ok', then_ok, q_e2, q_e1, q_eC, q_aC, q_aN, q_sPar2, q_sPar3, q_sSet, q_sRet, q_eBf, q_nBf, q_eCall, q_tst, q_tru, q_ifV, q_sIf, q_eTup, q_sPass, q_sExp, q_eLm, q_nLst, q_frz, q_thaw, q_iSeq, q_iR2, q_iR3, q_iEnumD, q_iZip, q_andX, q_andT, q_orT, q_notT, q_eCh, q_sPat, q_eSl, q_nSl, q_pS, q_pN, q_sRetN, q_tYes, q_eDct0, okL0, okL1, okL2, okL3, okL4, okL5, okL6, ent, List.map_cons, List.map_nil, List.length_cons, List.length_nil, List.set_cons_zero, List.set_cons_succ, List.replicate, List.cons_append, List.nil_append, Nat.reduceAdd, Nat.reduceSub, Nat.sub_self, Nat.sub_zero, zero_add', ↓reduceIte, Bool.false_eq_true, item0, item1, addD_ii, subD_ii, negD_i, absD_i, ltD_ii, leD_ii, gtD_ii, geD_ii, truD_bl, decide_true, decide_false, m0]
  have ir : iR1 (aC (eV 1) aN) [some (.int n), some (.int p), some (.obj h.length), none, none, none, none, none] (h ++ [.lst [.lst (Crow n 0)]]) = .ok ⟨rng 0 1 p, []⟩ (h ++ [.lst [.lst (Crow n 0)]]) := by
    have ok1 := okI_of (i := (p : Int)) (by omega) (by omega)
    simp only [eV0, eVs, bind_ok', then_ok, q_e2, q_e1, q_eC, q_aC, q_aN, q_sPar2, q_sPar3, q_sSet, q_sRet, q_eBf, q_nBf, q_eCall, q_tst, q_tru, q_ifV, q_sIf, q_eTup, q_sPass, q_sExp, q_eLm, q_nLst, q_frz, q_thaw, q_iSeq, q_iR2, q_iR3, q_iEnumD, q_iZip, q_andX, q_andT, q_orT, q_notT, q_eCh, q_sPat, q_eSl, q_nSl, q_pS, q_pN, q_sRetN, q_tYes, q_eDct0, okL0, okL1, okL2, okL3, okL4, okL5, okL6, ent, List.map_cons, List.map_nil, List.length_cons, List.length_nil, List.set_cons_zero, List.set_cons_succ, List.replicate, List.cons_append, List.nil_append, Nat.reduceAdd, Nat.reduceSub, Nat.sub_self, Nat.sub_zero, zero_add', ↓reduceIte, Bool.false_eq_true, item0, item1, addD_ii, subD_ii, negD_i, absD_i, ltD_ii, leD_ii, gtD_ii, geD_ii, truD_bl, decide_true, decide_false, q_iR1, ok1, Int.toNat_natCast]
  rw [wp_def, en, wps_seq, s0, wps_nx, wps_seq, wps_for, ir, wp_ok]
  refine wps_loop (fun j ρ g => j ≤ p ∧ (∃ x3 x4 x5 x6 x7, ρ = [some (.int n), some (.int p), some (.obj h.length), x3, x4, x5, x6, x7]) ∧ RowsAt g h.length n j ∧ Gb 0 h g) _ 0 _ _ ?_ ?_ ⟨Nat.zero_le _, ⟨_, _, _, _, _, rfl⟩, ⟨_, get_last, rfl, fun m hm => by
    obtain rfl : m = 0 := by omega
    exact ⟨_, rfl, .inl rfl, fun o e => by cases e⟩⟩, .app⟩
  · rintro j x ρ g hx ⟨jp, ⟨x3, x4, x5, x6, x7, rfl⟩, ra, gb⟩
    rw [Nat.zero_add] at jp ra ⊢
    have hj := (List.getElem?_eq_some_iff.mp hx).1
    rw [rng_len] at hj
    rw [rng_rangeB, List.getElem?_map, List.getElem?_range hj] at hx
    cases hx
    refine ⟨rfl, _, rfl, ?_⟩
    have s1 : sSet 4 (thaw (nRep (frz (nLst (aC (eC (.tup [.int 0, .int 1])) aN))) (e2 addD (eV 0) (eC (.int 1))))) [some (.int n), some (.int p), some (.obj h.length), some (.int j), x4, x5, x6, x7] g = .nx [some (.int n), some (.int p), some (.obj h.length), some (.int j), some (.obj g.length), x5, x6, x7] (g ++ [.lst (rowJ n j 0)]) := by
      rw [rowJ_zero]
      simp only [q_sSet, q_thaw, nrep_eq n12 (eV0 (d := .int n)), bind_ok', then_ok, List.set_cons_succ, List.set_cons_zero]
    unfold hopO
    show WpS (sSeq _ _ [some (.int n), some (.int p), some (.obj h.length), some (.int j), x4, x5, x6, x7] g) _ _
    rw [wps_seq, s1, wps_nx, wps_seq]
    refine wps_mono (hop_inner n1 n12 (by omega) ra) ?_ fun _ _ => False.elim
    rintro ρ h' ⟨⟨x5, x6, x7, rfl⟩, rfl⟩
    obtain ⟨xs, er, lr, cr⟩ := ra.app (t := [.lst (Crow n (j + 1))])
    have ap := app_obj (y := .obj g.length) er (by omega)
    have la := lstAt_obj er
    have hl : h.length < g.length := by
      obtain ⟨xs, er, -⟩ := ra
      exact (List.getElem?_eq_some_iff.mp er).1
    simp only [eV0, eVs, bind_ok', then_ok, q_e2, q_e1, q_eC, q_aC, q_aN, q_sPar2, q_sPar3, q_sSet, q_sRet, q_eBf, q_nBf, q_eCall, q_tst, q_tru, q_ifV, q_sIf, q_eTup, q_sPass, q_sExp, q_eLm, q_nLst, q_frz, q_thaw, q_iSeq, q_iR2, q_iR3, q_iEnumD, q_iZip, q_andX, q_andT, q_orT, q_notT, q_eCh, q_sPat, q_eSl, q_nSl, q_pS, q_pN, q_sRetN, q_tYes, q_eDct0, okL0, okL1, okL2, okL3, okL4, okL5, okL6, ent, List.map_cons, List.map_nil, List.length_cons, List.length_nil, List.set_cons_zero, List.set_cons_succ, List.replicate, List.cons_append, List.nil_append, Nat.reduceAdd, Nat.reduceSub, Nat.sub_self, Nat.sub_zero, zero_add', ↓reduceIte, Bool.false_eq_true, item0, item1, addD_ii, subD_ii, negD_i, absD_i, ltD_ii, leD_ii, gtD_ii, geD_ii, truD_bl, decide_true, decide_false, wp_ok, wp_bad, wp_bind, wp_nox, wp_def, wps_then, wps_seq, wps_nx, wps_ret, wp_ite, wps_ite, la, ap]
    refine ⟨by omega, ⟨_, _, _, _, _, rfl⟩, ⟨_, List.getElem?_set_self (by rw [List.length_append]; omega), by rw [List.length_append, lr]; rfl, fun m hm => ?_⟩, (gb.trans .app).set' (Nat.le_refl _)⟩
    rcases Nat.lt_or_ge m (j + 1) with lt | ge
    · obtain ⟨x, ex, la, b⟩ := cr m (by omega)
      refine ⟨x, by rw [List.getElem?_append_left (by omega)]; exact ex, ?_, b⟩
      rcases la with e | ⟨o, e1, e2⟩
      · exact .inl e
      · exact .inr ⟨o, e1, by rw [List.getElem?_set_ne (by have := b o e1; omega)]; exact e2⟩
    · obtain rfl : m = j + 1 := by omega
      refine ⟨.obj g.length, by rw [List.getElem?_append_right (by omega), lr, Nat.sub_self]; rfl, .inr ⟨_, rfl, ?_⟩, fun o e => by cases e; exact hl⟩
      rw [List.getElem?_set_ne (by omega)]
      exact get_last
  · rintro ρ g ⟨jp, ⟨x3, x4, x5, x6, x7, rfl⟩, ra, gb⟩
    rw [Nat.zero_add, rng_len] at ra
    simp only [eV0, eVs, bind_ok', then_ok, q_e2, q_e1, q_eC, q_aC, q_aN, q_sPar2, q_sPar3, q_sSet, q_sRet, q_eBf, q_nBf, q_eCall, q_tst, q_tru, q_ifV, q_sIf, q_eTup, q_sPass, q_sExp, q_eLm, q_nLst, q_frz, q_thaw, q_iSeq, q_iR2, q_iR3, q_iEnumD, q_iZip, q_andX, q_andT, q_orT, q_notT, q_eCh, q_sPat, q_eSl, q_nSl, q_pS, q_pN, q_sRetN, q_tYes, q_eDct0, okL0, okL1, okL2, okL3, okL4, okL5, okL6, ent, List.map_cons, List.map_nil, List.length_cons, List.length_nil, List.set_cons_zero, List.set_cons_succ, List.replicate, List.cons_append, List.nil_append, Nat.reduceAdd, Nat.reduceSub, Nat.sub_self, Nat.sub_zero, zero_add', ↓reduceIte, Bool.false_eq_true, item0, item1, addD_ii, subD_ii, negD_i, absD_i, ltD_ii, leD_ii, gtD_ii, geD_ii, truD_bl, decide_true, decide_false, wp_ok, wp_bad, wp_bind, wp_nox, wp_def, wps_then, wps_seq, wps_nx, wps_ret, wp_ite, wps_ite]
    exact ⟨rfl, trivial, ra, gb⟩
theorem hopes_ok {n p : Nat} (n1 : 1 ≤ n) (n12 : n ≤ 12) (p12 : p ≤ 12) {h : Hs} : ∃ h', m_hopes [.int n, .int p] h = .ok (.obj h.length) h' ∧ RowsAt h' h.length n p ∧ Gb 0 h h' := by
  have z : ∀ x y : D, x = .int n → y = .int p → ∃ h', m_hopes [x, y] h = .ok (.obj h.length) h' ∧ RowsAt h' h.length n p ∧ Gb 0 h h' := fun x y ex ey => by
    have w := hopes_spec (x := x) (y := y) n1 n12 p12 ex ey (h := h) (Q := fun d h' => d = .obj h.length ∧ RowsAt h' h.length n p ∧ Gb 0 h h') fun h' a b => ⟨rfl, a, b⟩
    obtain ⟨d, h', e, rfl, a, b⟩ := wp_ex w
    exact ⟨h', e, a, b⟩
  exact z _ _ rfl rfl
end Pl

set_option maxHeartbeats 1000000
/-! candidates: what is told of right numbers -/
namespace Pl
open Dl Sh
local instance : Dl.Tb := ⟨fun _ => []⟩

theorem rng_flC (cs : List Rat) : D.tup (rng (fn cs : Nat) 1 (cs.length - fn cs)) = lotD (fl cs) := by
  have z : ∀ (n k : Nat), rng (k : Int) 1 n = (List.range' k n).map fun m => .int (m : Nat) := fun n => by
    induction n with
    | zero => intro k; rfl
    | succ n ih =>
      intro k
      rw [rng_succ, List.range'_succ, List.map_cons, ← ih (k + 1)]
      congr 2
  unfold lotD fl
  rw [z]
def onesR (n : Nat) : List Rat := (List.range n).map fun i => Rat.divInt ((1 : Nat) : Int) ((i + 1 : Nat) : Int)
theorem onesR_len {n : Nat} : (onesR n).length = n := by unfold onesR; simp
theorem onesR_bq {n : Nat} {q : Rat} (hq : q ∈ onesR n) : In1 q ∧ ∃ m, m < n ∧ q = Rat.divInt ((1 : Nat) : Int) ((m + 1 : Nat) : Int) := by
  obtain ⟨m, hm, rfl⟩ := List.mem_map.mp hq
  exact ⟨(bq_div (a := 1) (b := m + 1) (by omega) (by omega)).in1, m, List.mem_range.mp hm, rfl⟩
theorem onesR_ok {n : Nat} (n1 : 1 ≤ n) (n12 : n ≤ 12) : Okc (onesR n) := ⟨by rw [onesR_len]; exact n1, by rw [onesR_len]; exact n12, fun q hq => (onesR_bq hq).1⟩
theorem onesR_sz {n : Nat} (n12 : n ≤ 12) : ∀ q ∈ onesR n, Sz 100 q := fun q hq => by
  obtain ⟨_, m, hm, rfl⟩ := onesR_bq hq
  exact div_sz (by omega) (by omega) (by omega)
theorem onesR_cs {n : Nat} (n12 : n ≤ 12) : Cs 1300 (onesR n) := ⟨fun c hc => (onesR_bq hc).1, Nat.lt_of_le_of_lt (Dd_le (onesR_sz n12)) (Nat.pow_lt_pow_right (by decide) (by rw [onesR_len]; omega))⟩
theorem ones_eq {n : Nat} (n1 : 1 ≤ n) (n12 : n ≤ 12) {h : Hs} : m_ones_of [.int n] h = .ok (.obj h.length) (h ++ [.ins "Trials" [("chances", .tup ((onesR n).map fr)), ("looked", .obj (h.length + 1))], .dI []]) := by
  refine mdef_ret ?_
  have c := compM (α := Nat) (ci := iR1 (aC (eV 0) aN)) (p := .nm 1) (own := [1]) (ce := eTup (aC (eC (.int 1)) (aC (e2 addD (eV 1) (eC (.int 1))) aN))) (ρ := [some (.int n), none]) (h := h) (xs := List.range n) (g := fun m => .int (m : Nat)) (f := fun m => fr (Rat.divInt ((1 : Nat) : Int) ((m + 1 : Nat) : Int)))
    (by rw [iR1_eq (n := n) (h' := h) (by simp only [eV0, eVs, bind_ok', then_ok, q_e2, q_e1, q_eC, q_aC, q_aN, q_sPar2, q_sPar3, q_sSet, q_sRet, q_eBf, q_nBf, q_eCall, q_tst, q_tru, q_ifV, q_sIf, q_eTup, q_sPass, q_sExp, q_eLm, q_nLst, q_frz, q_thaw, q_iSeq, q_iR2, q_iR3, q_iEnumD, q_iZip, q_andX, q_andT, q_orT, q_notT, q_eCh, q_sPat, q_eSl, q_nSl, q_pS, q_pN, q_sRetN, q_tYes, q_eDct0, okL0, okL1, okL2, okL3, okL4, okL5, okL6, ent, List.map_cons, List.map_nil, List.length_cons, List.length_nil, List.set_cons_zero, List.set_cons_succ, List.replicate, List.cons_append, List.nil_append, Nat.reduceAdd, Nat.reduceSub, Nat.sub_self, Nat.sub_zero, zero_add', ↓reduceIte, Bool.false_eq_true, item0, item1, addD_ii, subD_ii, negD_i, absD_i, ltD_ii, leD_ii, gtD_ii, geD_ii, truD_bl, decide_true, decide_false]) (by omega), rng_rangeB]) (by rw [List.length_range]; omega) fun m hm => ⟨[some (.int n), some (.int m)], rfl, by
      have e : ((m : Nat) : Int) + 1 = ((m + 1 : Nat) : Int) := by omega
      have f6 : fr (Rat.divInt ((1 : Nat) : Int) ((m + 1 : Nat) : Int)) = D.tup [.int 1, .int ((m + 1 : Nat) : Int)] := low_fr (a := ((1 : Nat) : Int)) (by omega) (by simp)
      rw [f6]
      simp only [eV0, eVs, bind_ok', then_ok, q_e2, q_e1, q_eC, q_aC, q_aN, q_sPar2, q_sPar3, q_sSet, q_sRet, q_eBf, q_nBf, q_eCall, q_tst, q_tru, q_ifV, q_sIf, q_eTup, q_sPass, q_sExp, q_eLm, q_nLst, q_frz, q_thaw, q_iSeq, q_iR2, q_iR3, q_iEnumD, q_iZip, q_andX, q_andT, q_orT, q_notT, q_eCh, q_sPat, q_eSl, q_nSl, q_pS, q_pN, q_sRetN, q_tYes, q_eDct0, okL0, okL1, okL2, okL3, okL4, okL5, okL6, ent, List.map_cons, List.map_nil, List.length_cons, List.length_nil, List.set_cons_zero, List.set_cons_succ, List.replicate, List.cons_append, List.nil_append, Nat.reduceAdd, Nat.reduceSub, Nat.sub_self, Nat.sub_zero, zero_add', ↓reduceIte, Bool.false_eq_true, item0, item1, addD_ii, subD_ii, negD_i, absD_i, ltD_ii, leD_ii, gtD_ii, geD_ii, truD_bl, decide_true, decide_false, e]⟩
  have mm : ((List.range n).map fun m => fr (Rat.divInt ((1 : Nat) : Int) ((m + 1 : Nat) : Int))) = (onesR n).map fr := by
    unfold onesR
    rw [List.map_map]
    rfl
  rw [mm] at c
  unfold c_ones_of
  have mk := make_eq (cs := onesR n) (ca := aC (eBf tupD (aC (frz (nLc (iR1 (aC (eV 0) aN)) (.nm 1) [1] (tYes') (eTup (aC (eC (.int 1)) (aC (e2 addD (eV 1) (eC (.int 1))) aN))))) aN)) aN) (ρ := [some (.int n), none]) (h := h) (h0 := h) (onesR_ok n1 n12) (by simp only [eV0, eVs, bind_ok', then_ok, q_e2, q_e1, q_eC, q_aC, q_aN, q_sPar2, q_sPar3, q_sSet, q_sRet, q_eBf, q_nBf, q_eCall, q_tst, q_tru, q_ifV, q_sIf, q_eTup, q_sPass, q_sExp, q_eLm, q_nLst, q_frz, q_thaw, q_iSeq, q_iR2, q_iR3, q_iEnumD, q_iZip, q_andX, q_andT, q_orT, q_notT, q_eCh, q_sPat, q_eSl, q_nSl, q_pS, q_pN, q_sRetN, q_tYes, q_eDct0, okL0, okL1, okL2, okL3, okL4, okL5, okL6, ent, List.map_cons, List.map_nil, List.length_cons, List.length_nil, List.set_cons_zero, List.set_cons_succ, List.replicate, List.cons_append, List.nil_append, Nat.reduceAdd, Nat.reduceSub, Nat.sub_self, Nat.sub_zero, zero_add', ↓reduceIte, Bool.false_eq_true, item0, item1, addD_ii, subD_ii, negD_i, absD_i, ltD_ii, leD_ii, gtD_ii, geD_ii, truD_bl, decide_true, decide_false, c, tupD_lst])
  have en : ent 2 [D.int n] = [some (.int n), none] := rfl
  rw [en, q_sRet, mk, then_ok]
theorem first_eq {cs : List Rat} {a i : Nat} {h : Hs} (t : TrAt h i cs) (hs : ∀ q ∈ cs, Sz a q) (h1 : 1 ≤ cs.length) (hl : 1 + cs.length * (2 * a + 3) ≤ 4000) (ha : a ≤ 900) : m_first_from [.obj i] h = .ok (.int (fn cs : Nat)) h := by
  have z := from_eq t hs h1 hl ha
  have e : m_from_which [.obj i] h = m_first_from [.obj i] h := by
    unfold m_from_which c_from_which mDef
    simp only [eV0, eVs, bind_ok', then_ok, q_e2, q_e1, q_eC, q_aC, q_aN, q_sPar2, q_sPar3, q_sSet, q_sRet, q_eBf, q_nBf, q_eCall, q_tst, q_tru, q_ifV, q_sIf, q_eTup, q_sPass, q_sExp, q_eLm, q_nLst, q_frz, q_thaw, q_iSeq, q_iR2, q_iR3, q_iEnumD, q_iZip, q_andX, q_andT, q_orT, q_notT, q_eCh, q_sPat, q_eSl, q_nSl, q_pS, q_pN, q_sRetN, q_tYes, q_eDct0, okL0, okL1, okL2, okL3, okL4, okL5, okL6, ent, List.map_cons, List.map_nil, List.length_cons, List.length_nil, List.set_cons_zero, List.set_cons_succ, List.replicate, List.cons_append, List.nil_append, Nat.reduceAdd, Nat.reduceSub, Nat.sub_self, Nat.sub_zero, zero_add', ↓reduceIte, Bool.false_eq_true, item0, item1, addD_ii, subD_ii, negD_i, absD_i, ltD_ii, leD_ii, gtD_ii, geD_ii, truD_bl, decide_true, decide_false]
    cases m_first_from [.obj i] h <;> rfl
  rw [e] at z
  rw [z]
  unfold fn
  cases Ff cs <;> rfl
theorem check_picks {n p : Nat} (p1 : 1 ≤ p) (pn : p ≤ n) (n12 : n ≤ 12) {h : Hs} : m_check_picks_v2 [.int n, .int p] h = .ok .non h := by
  have w := iswithin_eq (i := n) (lo := 1) (hi := 12) (h := h) (by omega) (by omega)
  have w2 := iswithin_eq (i := p) (lo := 1) (hi := n) (h := h) (by omega) (by omega)
  have ck : m_check_n_v2 [.int n] h = .ok .non h := by
    refine eq_of_wp ?_
    unfold m_check_n_v2 c_check_n_v2
    have en : ent 1 [D.int n] = [some (.int n)] := rfl
    rw [wp_def, en]
    simp only [eV0, eVs, bind_ok', then_ok, q_e2, q_e1, q_eC, q_aC, q_aN, q_sPar2, q_sPar3, q_sSet, q_sRet, q_eBf, q_nBf, q_eCall, q_tst, q_tru, q_ifV, q_sIf, q_eTup, q_sPass, q_sExp, q_eLm, q_nLst, q_frz, q_thaw, q_iSeq, q_iR2, q_iR3, q_iEnumD, q_iZip, q_andX, q_andT, q_orT, q_notT, q_eCh, q_sPat, q_eSl, q_nSl, q_pS, q_pN, q_sRetN, q_tYes, q_eDct0, okL0, okL1, okL2, okL3, okL4, okL5, okL6, ent, List.map_cons, List.map_nil, List.length_cons, List.length_nil, List.set_cons_zero, List.set_cons_succ, List.replicate, List.cons_append, List.nil_append, Nat.reduceAdd, Nat.reduceSub, Nat.sub_self, Nat.sub_zero, zero_add', ↓reduceIte, Bool.false_eq_true, item0, item1, addD_ii, subD_ii, negD_i, absD_i, ltD_ii, leD_ii, gtD_ii, geD_ii, truD_bl, decide_true, decide_false, wp_ok, wp_bad, wp_bind, wp_nox, wp_def, wps_then, wps_seq, wps_nx, wps_ret, wp_ite, wps_ite, w, Bool.not_true, sPass]
    exact ⟨trivial, trivial⟩
  refine eq_of_wp ?_
  unfold m_check_picks_v2 c_check_picks_v2
  have en : ent 2 [D.int n, .int p] = [some (.int n), some (.int p)] := rfl
  rw [wp_def, en]
  simp only [eV0, eVs, bind_ok', then_ok, q_e2, q_e1, q_eC, q_aC, q_aN, q_sPar2, q_sPar3, q_sSet, q_sRet, q_eBf, q_nBf, q_eCall, q_tst, q_tru, q_ifV, q_sIf, q_eTup, q_sPass, q_sExp, q_eLm, q_nLst, q_frz, q_thaw, q_iSeq, q_iR2, q_iR3, q_iEnumD, q_iZip, q_andX, q_andT, q_orT, q_notT, q_eCh, q_sPat, q_eSl, q_nSl, q_pS, q_pN, q_sRetN, q_tYes, q_eDct0, okL0, okL1, okL2, okL3, okL4, okL5, okL6, ent, List.map_cons, List.map_nil, List.length_cons, List.length_nil, List.set_cons_zero, List.set_cons_succ, List.replicate, List.cons_append, List.nil_append, Nat.reduceAdd, Nat.reduceSub, Nat.sub_self, Nat.sub_zero, zero_add', ↓reduceIte, Bool.false_eq_true, item0, item1, addD_ii, subD_ii, negD_i, absD_i, ltD_ii, leD_ii, gtD_ii, geD_ii, truD_bl, decide_true, decide_false, wp_ok, wp_bad, wp_bind, wp_nox, wp_def, wps_then, wps_seq, wps_nx, wps_ret, wp_ite, wps_ite, ck, w2, Bool.not_true, sPass]
  exact ⟨trivial, trivial⟩
def pickT (n k at' : Nat) : Bool := !decide (Rat.divInt ((at' + 1 : Nat) : Int) (n : Int) + hopR n k (n - (at' + 1)) < hopR n (k + 1) (n - (at' + 1)))
def pickL (n k : Nat) : List Nat := (List.range n).filter (pickT n k)
def pickF (n k : Nat) : Nat := (pickL n k).headD 0
theorem pickL_some {n k : Nat} (n1 : 1 ≤ n) : (pickL n k)[0]? = some (pickF n k) := by
  have m : n - 1 ∈ pickL n k := by
    unfold pickL
    refine List.mem_filter.mpr ⟨List.mem_range.mpr (by omega), ?_⟩
    unfold pickT
    have z : n - (n - 1 + 1) = 0 := by omega
    rw [z, hopR_zero, hopR_zero, show n - 1 + 1 = n by omega]
    have b := (bq_div (a := n) (b := n) n1 (Nat.le_refl _)).lo
    rw [decide_eq_false (by grind)]
    rfl
  unfold pickF
  cases e : pickL n k with
  | nil => rw [e] at m; simp at m
  | cons x xs => rfl
theorem pick12 {n p : Nat} (p1 : 1 ≤ p) (pn : p ≤ n) (n12 : n ≤ 12) {h : Hs} : Wp (m_pick_from_v2 [.int n, .int p] h) fun d h' => d = .tup ((List.range p).map fun k => .int (pickF n k : Nat)) ∧ Gb 0 h h' := by
  have ck := check_picks p1 pn n12 (h := h)
  have hh := hopes_ok (n := n) (p := p) (h := h) (Nat.le_trans p1 pn) n12 (Nat.le_trans pn n12)
  obtain ⟨h', hh⟩ := hh
  obtain ⟨eh, ra, gb⟩ := hh
  unfold m_pick_from_v2 c_pick_from_v2
  have en : ent 9 [D.int n, .int p] = [some (.int n), some (.int p), none, none, none, none, none, none, none] := rfl
  rw [wp_def, en]
  simp only [eV0, eVs, bind_ok', then_ok, q_e2, q_e1, q_eC, q_aC, q_aN, q_sPar2, q_sPar3, q_sSet, q_sRet, q_eBf, q_nBf, q_eCall, q_tst, q_tru, q_ifV, q_sIf, q_eTup, q_sPass, q_sExp, q_eLm, q_nLst, q_frz, q_thaw, q_iSeq, q_iR2, q_iR3, q_iEnumD, q_iZip, q_andX, q_andT, q_orT, q_notT, q_eCh, q_sPat, q_eSl, q_nSl, q_pS, q_pN, q_sRetN, q_tYes, q_eDct0, okL0, okL1, okL2, okL3, okL4, okL5, okL6, ent, List.map_cons, List.map_nil, List.length_cons, List.length_nil, List.set_cons_zero, List.set_cons_succ, List.replicate, List.cons_append, List.nil_append, Nat.reduceAdd, Nat.reduceSub, Nat.sub_self, Nat.sub_zero, zero_add', ↓reduceIte, Bool.false_eq_true, item0, item1, addD_ii, subD_ii, negD_i, absD_i, ltD_ii, leD_ii, gtD_ii, geD_ii, truD_bl, decide_true, decide_false, wp_ok, wp_bad, wp_bind, wp_nox, wp_def, wps_then, wps_seq, wps_nx, wps_ret, wp_ite, wps_ite, ck]
  rw [eh, wp_ok]
  have i2 : iR2 (aC (eC (.int 1)) (aC (e2 addD (eV 1) (eC (.int 1))) aN)) [some (.int n), some (.int p), some (.obj h.length), some (.obj h'.length), none, none, none, none, none] (h' ++ [.lst []]) = .ok ⟨rng 1 1 p, []⟩ (h' ++ [.lst []]) := by
    have ok1 : okI 1 = true := by decide
    have ok2 := okI_of (i := (p : Int) + 1) (by omega) (by omega)
    simp only [eV0, eVs, bind_ok', then_ok, q_e2, q_e1, q_eC, q_aC, q_aN, q_sPar2, q_sPar3, q_sSet, q_sRet, q_eBf, q_nBf, q_eCall, q_tst, q_tru, q_ifV, q_sIf, q_eTup, q_sPass, q_sExp, q_eLm, q_nLst, q_frz, q_thaw, q_iSeq, q_iR2, q_iR3, q_iEnumD, q_iZip, q_andX, q_andT, q_orT, q_notT, q_eCh, q_sPat, q_eSl, q_nSl, q_pS, q_pN, q_sRetN, q_tYes, q_eDct0, okL0, okL1, okL2, okL3, okL4, okL5, okL6, ent, List.map_cons, List.map_nil, List.length_cons, List.length_nil, List.set_cons_zero, List.set_cons_succ, List.replicate, List.cons_append, List.nil_append, Nat.reduceAdd, Nat.reduceSub, Nat.sub_self, Nat.sub_zero, zero_add', ↓reduceIte, Bool.false_eq_true, item0, item1, addD_ii, subD_ii, negD_i, absD_i, ltD_ii, leD_ii, gtD_ii, geD_ii, truD_bl, decide_true, decide_false, q_iR2, ok1, ok2]
    rw [show ((p : Int) + 1 - 1).toNat = p by omega]
    rfl
  rw [wps_for, i2, wp_ok]
  refine wps_loop (fun j ρ g => j ≤ p ∧ (∃ x4 x5 x6 x7 x8, ρ = [some (.int n), some (.int p), some (.obj h.length), some (.obj h'.length), x4, x5, x6, x7, x8]) ∧ g = h' ++ [.lst ((List.range j).map fun k => .int (pickF n k : Nat))]) _ 0 _ _ ?_ ?_ ⟨Nat.zero_le _, ⟨_, _, _, _, _, rfl⟩, rfl⟩
  · rintro j x ρ g hx ⟨jp, ⟨x4, x5, x6, x7, x8, rfl⟩, rfl⟩
    rw [Nat.zero_add] at jp ⊢
    have hj := (List.getElem?_eq_some_iff.mp hx).1
    rw [rng_len] at hj
    rw [rng_at _ _ _ _ hj] at hx
    cases hx
    rw [show (1 : Int) + (j : Nat) * 1 = ((j + 1 : Nat) : Int) by omega]
    refine ⟨rfl, _, rfl, ?_⟩
    generalize hg : (h' ++ [DO.lst ((List.range j).map fun k => .int (pickF n k : Nat))]) = g
    have cell : g[h'.length]? = some (.lst ((List.range j).map fun k => .int (pickF n k : Nat))) := by rw [← hg]; exact get_last
    obtain ⟨xs, er, lr, cr⟩ := ra.app (t := [.lst ((List.range j).map fun k => .int (pickF n k : Nat))])
    rw [hg] at er cr
    obtain ⟨r, exr, lar, -⟩ := cr (j + 1) (by omega)
    obtain ⟨l, exl, lal, -⟩ := cr j (by omega)
    have ir : itemD (.obj h.length) (.int (j + 1 : Nat)) g = .ok r g := item_obj er exr
    have il : itemD (.obj h.length) (.int (j : Nat)) g = .ok l g := item_obj er exl
    have em : ((j + 1 : Nat) : Int) - 1 = (j : Nat) := by omega
    have pat : sPat (.tp [.nm 5, .nm 6]) (eTup (aC (e2 itemD (eV 2) (eV 4)) (aC (e2 itemD (eV 2) (e2 subD (eV 4) (eC (.int 1)))) aN))) [some (.int n), some (.int p), some (.obj h.length), some (.obj h'.length), some (.int (j + 1 : Nat)), x5, x6, x7, x8] g = .nx [some (.int n), some (.int p), some (.obj h.length), some (.obj h'.length), some (.int (j + 1 : Nat)), some r, some l, x7, x8] g := by
      simp only [eV0, eVs, bind_ok', then_ok, q_e2, q_e1, q_eC, q_aC, q_aN, q_sPar2, q_sPar3, q_sSet, q_sRet, q_eBf, q_nBf, q_eCall, q_tst, q_tru, q_ifV, q_sIf, q_eTup, q_sPass, q_sExp, q_eLm, q_nLst, q_frz, q_thaw, q_iSeq, q_iR2, q_iR3, q_iEnumD, q_iZip, q_andX, q_andT, q_orT, q_notT, q_eCh, q_sPat, q_eSl, q_nSl, q_pS, q_pN, q_sRetN, q_tYes, q_eDct0, okL0, okL1, okL2, okL3, okL4, okL5, okL6, ent, List.map_cons, List.map_nil, List.length_cons, List.length_nil, List.set_cons_zero, List.set_cons_succ, List.replicate, List.cons_append, List.nil_append, Nat.reduceAdd, Nat.reduceSub, Nat.sub_self, Nat.sub_zero, zero_add', ↓reduceIte, Bool.false_eq_true, item0, item1, addD_ii, subD_ii, negD_i, absD_i, ltD_ii, leD_ii, gtD_ii, geD_ii, truD_bl, decide_true, decide_false, ir, il, em]
      rfl
    have c := compT (α := Nat) (ci := iR1 (aC (eV 0) aN)) (p := .nm 8) (own := [8]) (ct := notT (tru (eCall 2 m_is_less (aC (eCall 2 m_plus (aC (eCall 2 m_lowest (aC (e2 addD (eV 8) (eC (.int 1))) (aC (eV 0) aN))) (aC (e2 itemD (eV 6) (e2 addD (eV 8) (eC (.int 1)))) aN))) (aC (e2 itemD (eV 5) (e2 addD (eV 8) (eC (.int 1)))) aN))))) (ce := eV 8) (ρ := [some (.int n), some (.int p), some (.obj h.length), some (.obj h'.length), some (.int (j + 1 : Nat)), some r, some l, x7, x8]) (h := g) (xs := List.range n) (g := fun m => .int (m : Nat)) (f := fun m => .int (m : Nat)) (t := pickT n j)
      (by rw [iR1_eq (n := n) (h' := g) (by simp only [eV0, eVs, bind_ok', then_ok, q_e2, q_e1, q_eC, q_aC, q_aN, q_sPar2, q_sPar3, q_sSet, q_sRet, q_eBf, q_nBf, q_eCall, q_tst, q_tru, q_ifV, q_sIf, q_eTup, q_sPass, q_sExp, q_eLm, q_nLst, q_frz, q_thaw, q_iSeq, q_iR2, q_iR3, q_iEnumD, q_iZip, q_andX, q_andT, q_orT, q_notT, q_eCh, q_sPat, q_eSl, q_nSl, q_pS, q_pN, q_sRetN, q_tYes, q_eDct0, okL0, okL1, okL2, okL3, okL4, okL5, okL6, ent, List.map_cons, List.map_nil, List.length_cons, List.length_nil, List.set_cons_zero, List.set_cons_succ, List.replicate, List.cons_append, List.nil_append, Nat.reduceAdd, Nat.reduceSub, Nat.sub_self, Nat.sub_zero, zero_add', ↓reduceIte, Bool.false_eq_true, item0, item1, addD_ii, subD_ii, negD_i, absD_i, ltD_ii, leD_ii, gtD_ii, geD_ii, truD_bl, decide_true, decide_false]) (by omega), rng_rangeB]) (by rw [List.length_range]; omega) fun m hm => ⟨[some (.int n), some (.int p), some (.obj h.length), some (.obj h'.length), some (.int (j + 1 : Nat)), some r, some l, x7, some (.int m)], rfl, by
        have hm := List.mem_range.mp hm
        have e : ((m : Nat) : Int) + 1 = ((m + 1 : Nat) : Int) := by omega
        have i1 : itemD l (.int (m + 1 : Nat)) g = .ok (fr (hopR n j (n - (m + 1)))) g := item_la lal (crow_at (by omega))
        have i2 : itemD r (.int (m + 1 : Nat)) g = .ok (fr (hopR n (j + 1) (n - (m + 1)))) g := item_la lar (crow_at (by omega))
        have l1 := lowest_eq ((m + 1 : Nat) : Int) (n : Int) g (by omega) (Nat.lt_of_lt_of_le (show ((n : Int)).natAbs < 2 ^ 4 by omega) (Nat.pow_le_pow_right (by decide) (by decide)))
        have s1 : Sz 100 (Rat.divInt ((m + 1 : Nat) : Int) (n : Int)) := div_sz (by omega) (by omega) n12
        have s2 : Sz 100 (hopR n j (n - (m + 1))) := hop_sz (by omega) n12 (by omega) (by omega)
        have s3 : Sz 100 (hopR n (j + 1) (n - (m + 1))) := hop_sz (by omega) n12 (by omega) (by omega)
        have p1 := plus_eq s1 s2 (by decide) g
        have le := less_eq (Sz.add s1 s2) s3 (by decide) g
        simp only [eV0, eVs, bind_ok', then_ok, q_e2, q_e1, q_eC, q_aC, q_aN, q_sPar2, q_sPar3, q_sSet, q_sRet, q_eBf, q_nBf, q_eCall, q_tst, q_tru, q_ifV, q_sIf, q_eTup, q_sPass, q_sExp, q_eLm, q_nLst, q_frz, q_thaw, q_iSeq, q_iR2, q_iR3, q_iEnumD, q_iZip, q_andX, q_andT, q_orT, q_notT, q_eCh, q_sPat, q_eSl, q_nSl, q_pS, q_pN, q_sRetN, q_tYes, q_eDct0, okL0, okL1, okL2, okL3, okL4, okL5, okL6, ent, List.map_cons, List.map_nil, List.length_cons, List.length_nil, List.set_cons_zero, List.set_cons_succ, List.replicate, List.cons_append, List.nil_append, Nat.reduceAdd, Nat.reduceSub, Nat.sub_self, Nat.sub_zero, zero_add', ↓reduceIte, Bool.false_eq_true, item0, item1, addD_ii, subD_ii, negD_i, absD_i, ltD_ii, leD_ii, gtD_ii, geD_ii, truD_bl, decide_true, decide_false, e, i1, i2, l1, p1, le]
        rfl, fun _ => by simp only [eV0, eVs, bind_ok', then_ok, q_e2, q_e1, q_eC, q_aC, q_aN, q_sPar2, q_sPar3, q_sSet, q_sRet, q_eBf, q_nBf, q_eCall, q_tst, q_tru, q_ifV, q_sIf, q_eTup, q_sPass, q_sExp, q_eLm, q_nLst, q_frz, q_thaw, q_iSeq, q_iR2, q_iR3, q_iEnumD, q_iZip, q_andX, q_andT, q_orT, q_notT, q_eCh, q_sPat, q_eSl, q_nSl, q_pS, q_pN, q_sRetN, q_tYes, q_eDct0, okL0, okL1, okL2, okL3, okL4, okL5, okL6, ent, List.map_cons, List.map_nil, List.length_cons, List.length_nil, List.set_cons_zero, List.set_cons_succ, List.replicate, List.cons_append, List.nil_append, Nat.reduceAdd, Nat.reduceSub, Nat.sub_self, Nat.sub_zero, zero_add', ↓reduceIte, Bool.false_eq_true, item0, item1, addD_ii, subD_ii, negD_i, absD_i, ltD_ii, leD_ii, gtD_ii, geD_ii, truD_bl, decide_true, decide_false]⟩
    have i0 : itemD (.lst ((pickL n j).map fun m => .int (m : Nat))) (.int 0) g = .ok (.int (pickF n j : Nat)) g := item_lst (i := 0) (by rw [List.getElem?_map, pickL_some (by omega)]; rfl)
    have ap := app_obj (y := .int (pickF n j : Nat)) cell (by rw [List.length_map, List.length_range]; omega)
    have la := lstAt_obj cell
    rw [← hg, set_last, hg] at ap
    have fe : (List.range n).filter (pickT n j) = pickL n j := rfl
    rw [fe] at c
    rw [wps_seq]
    show WpS (sPat _ _ _ _) _ _
    rw [show (some (D.int (j + 1 : Nat)) : Option D) = some (.int (j + 1 : Nat)) from rfl]
    refine wps_of pat ?_
    simp only [eV0, eVs, bind_ok', then_ok, q_e2, q_e1, q_eC, q_aC, q_aN, q_sPar2, q_sPar3, q_sSet, q_sRet, q_eBf, q_nBf, q_eCall, q_tst, q_tru, q_ifV, q_sIf, q_eTup, q_sPass, q_sExp, q_eLm, q_nLst, q_frz, q_thaw, q_iSeq, q_iR2, q_iR3, q_iEnumD, q_iZip, q_andX, q_andT, q_orT, q_notT, q_eCh, q_sPat, q_eSl, q_nSl, q_pS, q_pN, q_sRetN, q_tYes, q_eDct0, okL0, okL1, okL2, okL3, okL4, okL5, okL6, ent, List.map_cons, List.map_nil, List.length_cons, List.length_nil, List.set_cons_zero, List.set_cons_succ, List.replicate, List.cons_append, List.nil_append, Nat.reduceAdd, Nat.reduceSub, Nat.sub_self, Nat.sub_zero, zero_add', ↓reduceIte, Bool.false_eq_true, item0, item1, addD_ii, subD_ii, negD_i, absD_i, ltD_ii, leD_ii, gtD_ii, geD_ii, truD_bl, decide_true, decide_false, wp_ok, wp_bad, wp_bind, wp_nox, wp_def, wps_then, wps_seq, wps_nx, wps_ret, wp_ite, wps_ite, c, i0, la, ap]
    refine ⟨by omega, ⟨_, _, _, _, _, rfl⟩, ?_⟩
    rw [List.range_succ, List.map_append]
    rfl
  · rintro ρ g ⟨jp, ⟨x4, x5, x6, x7, x8, rfl⟩, rfl⟩
    rw [Nat.zero_add, rng_len]
    refine ⟨rfl, ?_⟩
    have tp := tupD_obj (h := h' ++ [.lst ((List.range p).map fun k => D.int (pickF n k : Nat))]) get_last
    simp only [eV0, eVs, bind_ok', then_ok, q_e2, q_e1, q_eC, q_aC, q_aN, q_sPar2, q_sPar3, q_sSet, q_sRet, q_eBf, q_nBf, q_eCall, q_tst, q_tru, q_ifV, q_sIf, q_eTup, q_sPass, q_sExp, q_eLm, q_nLst, q_frz, q_thaw, q_iSeq, q_iR2, q_iR3, q_iEnumD, q_iZip, q_andX, q_andT, q_orT, q_notT, q_eCh, q_sPat, q_eSl, q_nSl, q_pS, q_pN, q_sRetN, q_tYes, q_eDct0, okL0, okL1, okL2, okL3, okL4, okL5, okL6, ent, List.map_cons, List.map_nil, List.length_cons, List.length_nil, List.set_cons_zero, List.set_cons_succ, List.replicate, List.cons_append, List.nil_append, Nat.reduceAdd, Nat.reduceSub, Nat.sub_self, Nat.sub_zero, zero_add', ↓reduceIte, Bool.false_eq_true, item0, item1, addD_ii, subD_ii, negD_i, absD_i, ltD_ii, leD_ii, gtD_ii, geD_ii, truD_bl, decide_true, decide_false, wp_ok, wp_bad, wp_bind, wp_nox, wp_def, wps_then, wps_seq, wps_nx, wps_ret, wp_ite, wps_ite, tp]
    exact ⟨trivial, gb.trans .app⟩
end Pl

set_option maxHeartbeats 1000000
/-! candidates: mean ranks; the same functions without refusals -/
namespace Pl
open Dl Sh
local instance : Dl.Tb := ⟨fun _ => []⟩

/-! ### sizes -/
/-! ### the walk -/
/-! ### without refusals -/
end Pl

set_option maxHeartbeats 1000000
/-! known ones: what the law tells of trials, of candidates -/
namespace Pl
open Dl Sh
local instance : Dl.Tb := ⟨fun _ => []⟩

theorem bestN {n : Nat} (n1 : 1 ≤ n) (n12 : n ≤ 12) {h : Hs} : Wp (m_best_chance [.int n] h) fun d h' => d = fr (wn (onesR n) (fl (onesR n))) ∧ Gb 0 h h' := by
  have w := iswithin_eq (i := n) (lo := 1) (hi := 12) (h := h) (by omega) (by omega)
  have ck : m_check_n [.int n] h = .ok .non h := by
    refine eq_of_wp ?_
    unfold m_check_n c_check_n
    have en : ent 1 [D.int n] = [some (.int n)] := rfl
    rw [wp_def, en]
    simp only [eV0, eVs, bind_ok', then_ok, q_e2, q_e1, q_eC, q_aC, q_aN, q_sPar2, q_sPar3, q_sSet, q_sRet, q_eBf, q_nBf, q_eCall, q_tst, q_tru, q_ifV, q_sIf, q_eTup, q_sPass, q_sExp, q_eLm, q_nLst, q_frz, q_thaw, q_iSeq, q_iR2, q_iR3, q_iEnumD, q_iZip, q_andX, q_andT, q_orT, q_notT, q_eCh, q_sPat, q_eSl, q_nSl, q_pS, q_pN, q_sRetN, q_tYes, q_eDct0, okL0, okL1, okL2, okL3, okL4, okL5, okL6, ent, List.map_cons, List.map_nil, List.length_cons, List.length_nil, List.set_cons_zero, List.set_cons_succ, List.replicate, List.cons_append, List.nil_append, Nat.reduceAdd, Nat.reduceSub, Nat.sub_self, Nat.sub_zero, zero_add', ↓reduceIte, Bool.false_eq_true, item0, item1, addD_ii, subD_ii, negD_i, absD_i, ltD_ii, leD_ii, gtD_ii, geD_ii, truD_bl, decide_true, decide_false, wp_ok, wp_bad, wp_bind, wp_nox, wp_def, wps_then, wps_seq, wps_nx, wps_ret, wp_ite, wps_ite, w, Bool.not_true, sPass]
    exact ⟨trivial, trivial⟩
  have t := tr_new (cs := onesR n) (h := h)
  have ff := first_eq t (onesR_sz n12) (by rw [onesR_len]; exact n1) (by rw [onesR_len]; omega) (by decide)
  have flI : Inc (onesR n).length 0 (fl (onesR n)) := lots_inc (fl_lots (onesR n))
  have wn := won_eq (onesR_cs n12) (by decide) (by rw [onesR_len]; omega) t flI
  have on := ones_eq n1 n12 (h := h)
  generalize hg : (h ++ [DO.ins "Trials" [("chances", D.tup ((onesR n).map fr)), ("looked", .obj (h.length + 1))], .dI []]) = g at t ff wn on
  have le := fn_le (onesR n)
  rw [onesR_len] at le
  have rg : rgN (fn (onesR n) : Nat) (n : Nat) g = .ok (rng (fn (onesR n) : Nat) 1 ((onesR n).length - fn (onesR n))) g := by
    unfold rgN
    rw [if_pos (by unfold okRg; rw [okI_of (by omega) (by omega), okI_of (by omega) (by omega)]; exact decide_eq_true (by omega)), onesR_len, show ((n : Int) - (fn (onesR n) : Nat)).toNat = n - fn (onesR n) by omega]
  have r2 : eTupN (nR2 (eCall 1 m_first_from (aC (eV 1) aN)) (eV 0)) [some (.int n), some (.obj h.length)] g = .ok (lotD (fl (onesR n))) g := by
    unfold eTupN nR2
    simp only [eV0, eVs, bind_ok', then_ok, q_e2, q_e1, q_eC, q_aC, q_aN, q_sPar2, q_sPar3, q_sSet, q_sRet, q_eBf, q_nBf, q_eCall, q_tst, q_tru, q_ifV, q_sIf, q_eTup, q_sPass, q_sExp, q_eLm, q_nLst, q_frz, q_thaw, q_iSeq, q_iR2, q_iR3, q_iEnumD, q_iZip, q_andX, q_andT, q_orT, q_notT, q_eCh, q_sPat, q_eSl, q_nSl, q_pS, q_pN, q_sRetN, q_tYes, q_eDct0, okL0, okL1, okL2, okL3, okL4, okL5, okL6, ent, List.map_cons, List.map_nil, List.length_cons, List.length_nil, List.set_cons_zero, List.set_cons_succ, List.replicate, List.cons_append, List.nil_append, Nat.reduceAdd, Nat.reduceSub, Nat.sub_self, Nat.sub_zero, zero_add', ↓reduceIte, Bool.false_eq_true, item0, item1, addD_ii, subD_ii, negD_i, absD_i, ltD_ii, leD_ii, gtD_ii, geD_ii, truD_bl, decide_true, decide_false, ff, rg, rng_flC]
  unfold m_best_chance c_best_chance
  have en : ent 2 [D.int n] = [some (.int n), none] := rfl
  rw [wp_def, en]
  simp only [eV0, eVs, bind_ok', then_ok, q_e2, q_e1, q_eC, q_aC, q_aN, q_sPar2, q_sPar3, q_sSet, q_sRet, q_eBf, q_nBf, q_eCall, q_tst, q_tru, q_ifV, q_sIf, q_eTup, q_sPass, q_sExp, q_eLm, q_nLst, q_frz, q_thaw, q_iSeq, q_iR2, q_iR3, q_iEnumD, q_iZip, q_andX, q_andT, q_orT, q_notT, q_eCh, q_sPat, q_eSl, q_nSl, q_pS, q_pN, q_sRetN, q_tYes, q_eDct0, okL0, okL1, okL2, okL3, okL4, okL5, okL6, ent, List.map_cons, List.map_nil, List.length_cons, List.length_nil, List.set_cons_zero, List.set_cons_succ, List.replicate, List.cons_append, List.nil_append, Nat.reduceAdd, Nat.reduceSub, Nat.sub_self, Nat.sub_zero, zero_add', ↓reduceIte, Bool.false_eq_true, item0, item1, addD_ii, subD_ii, negD_i, absD_i, ltD_ii, leD_ii, gtD_ii, geD_ii, truD_bl, decide_true, decide_false, wp_ok, wp_bad, wp_bind, wp_nox, wp_def, wps_then, wps_seq, wps_nx, wps_ret, wp_ite, wps_ite, ck, on, r2, wn]
  exact ⟨trivial, by rw [← hg]; exact .app⟩
theorem chk_picksN {n p : Nat} (p1 : 1 ≤ p) (pn : p ≤ n) (n12 : n ≤ 12) {h : Hs} : m_check_picks [.int n, .int p] h = .ok .non h := by
  have w := iswithin_eq (i := n) (lo := 1) (hi := 12) (h := h) (by omega) (by omega)
  have w2 := iswithin_eq (i := p) (lo := 1) (hi := n) (h := h) (by omega) (by omega)
  have ck : m_check_n [.int n] h = .ok .non h := by
    refine eq_of_wp ?_
    unfold m_check_n c_check_n
    have en : ent 1 [D.int n] = [some (.int n)] := rfl
    rw [wp_def, en]
    simp only [eV0, eVs, bind_ok', then_ok, q_e2, q_e1, q_eC, q_aC, q_aN, q_sPar2, q_sPar3, q_sSet, q_sRet, q_eBf, q_nBf, q_eCall, q_tst, q_tru, q_ifV, q_sIf, q_eTup, q_sPass, q_sExp, q_eLm, q_nLst, q_frz, q_thaw, q_iSeq, q_iR2, q_iR3, q_iEnumD, q_iZip, q_andX, q_andT, q_orT, q_notT, q_eCh, q_sPat, q_eSl, q_nSl, q_pS, q_pN, q_sRetN, q_tYes, q_eDct0, okL0, okL1, okL2, okL3, okL4, okL5, okL6, ent, List.map_cons, List.map_nil, List.length_cons, List.length_nil, List.set_cons_zero, List.set_cons_succ, List.replicate, List.cons_append, List.nil_append, Nat.reduceAdd, Nat.reduceSub, Nat.sub_self, Nat.sub_zero, zero_add', ↓reduceIte, Bool.false_eq_true, item0, item1, addD_ii, subD_ii, negD_i, absD_i, ltD_ii, leD_ii, gtD_ii, geD_ii, truD_bl, decide_true, decide_false, wp_ok, wp_bad, wp_bind, wp_nox, wp_def, wps_then, wps_seq, wps_nx, wps_ret, wp_ite, wps_ite, w, Bool.not_true, sPass]
    exact ⟨trivial, trivial⟩
  refine eq_of_wp ?_
  unfold m_check_picks c_check_picks
  have en : ent 2 [D.int n, .int p] = [some (.int n), some (.int p)] := rfl
  rw [wp_def, en]
  simp only [eV0, eVs, bind_ok', then_ok, q_e2, q_e1, q_eC, q_aC, q_aN, q_sPar2, q_sPar3, q_sSet, q_sRet, q_eBf, q_nBf, q_eCall, q_tst, q_tru, q_ifV, q_sIf, q_eTup, q_sPass, q_sExp, q_eLm, q_nLst, q_frz, q_thaw, q_iSeq, q_iR2, q_iR3, q_iEnumD, q_iZip, q_andX, q_andT, q_orT, q_notT, q_eCh, q_sPat, q_eSl, q_nSl, q_pS, q_pN, q_sRetN, q_tYes, q_eDct0, okL0, okL1, okL2, okL3, okL4, okL5, okL6, ent, List.map_cons, List.map_nil, List.length_cons, List.length_nil, List.set_cons_zero, List.set_cons_succ, List.replicate, List.cons_append, List.nil_append, Nat.reduceAdd, Nat.reduceSub, Nat.sub_self, Nat.sub_zero, zero_add', ↓reduceIte, Bool.false_eq_true, item0, item1, addD_ii, subD_ii, negD_i, absD_i, ltD_ii, leD_ii, gtD_ii, geD_ii, truD_bl, decide_true, decide_false, wp_ok, wp_bad, wp_bind, wp_nox, wp_def, wps_then, wps_seq, wps_nx, wps_ret, wp_ite, wps_ite, ck, w2, Bool.not_true, sPass]
  exact ⟨trivial, trivial⟩
theorem chanceN {n p : Nat} (p1 : 1 ≤ p) (pn : p ≤ n) (n12 : n ≤ 12) {h : Hs} : Wp (m_chance_with [.int n, .int p] h) fun d h' => d = fr (hopR n p n) ∧ Gb 0 h h' := by
  have ck := chk_picksN p1 pn n12 (h := h)
  have hh := hopes_ok (n := n) (p := p) (h := h) (Nat.le_trans p1 pn) n12 (Nat.le_trans pn n12)
  obtain ⟨h', hh⟩ := hh
  obtain ⟨eh, ra, gb⟩ := hh
  unfold m_chance_with c_chance_with
  have en : ent 2 [D.int n, .int p] = [some (.int n), some (.int p)] := rfl
  rw [wp_def, en]
  simp only [eV0, eVs, bind_ok', then_ok, q_e2, q_e1, q_eC, q_aC, q_aN, q_sPar2, q_sPar3, q_sSet, q_sRet, q_eBf, q_nBf, q_eCall, q_tst, q_tru, q_ifV, q_sIf, q_eTup, q_sPass, q_sExp, q_eLm, q_nLst, q_frz, q_thaw, q_iSeq, q_iR2, q_iR3, q_iEnumD, q_iZip, q_andX, q_andT, q_orT, q_notT, q_eCh, q_sPat, q_eSl, q_nSl, q_pS, q_pN, q_sRetN, q_tYes, q_eDct0, okL0, okL1, okL2, okL3, okL4, okL5, okL6, ent, List.map_cons, List.map_nil, List.length_cons, List.length_nil, List.set_cons_zero, List.set_cons_succ, List.replicate, List.cons_append, List.nil_append, Nat.reduceAdd, Nat.reduceSub, Nat.sub_self, Nat.sub_zero, zero_add', ↓reduceIte, Bool.false_eq_true, item0, item1, addD_ii, subD_ii, negD_i, absD_i, ltD_ii, leD_ii, gtD_ii, geD_ii, truD_bl, decide_true, decide_false, wp_ok, wp_bad, wp_bind, wp_nox, wp_def, wps_then, wps_seq, wps_nx, wps_ret, wp_ite, wps_ite, ck]
  rw [eh, wp_ok]
  obtain ⟨xs, er, lr, cr⟩ := ra
  obtain ⟨x, ex, la, -⟩ := cr p (Nat.le_refl _)
  have i1 : itemD (.obj h.length) (.int p) h' = .ok x h' := item_obj er ex
  have i2 : itemD x (.int 0) h' = .ok (fr (hopR n p n)) h' := item_la (i := 0) la (crow_at (Nat.zero_le _))
  simp only [eV0, eVs, bind_ok', then_ok, q_e2, q_e1, q_eC, q_aC, q_aN, q_sPar2, q_sPar3, q_sSet, q_sRet, q_eBf, q_nBf, q_eCall, q_tst, q_tru, q_ifV, q_sIf, q_eTup, q_sPass, q_sExp, q_eLm, q_nLst, q_frz, q_thaw, q_iSeq, q_iR2, q_iR3, q_iEnumD, q_iZip, q_andX, q_andT, q_orT, q_notT, q_eCh, q_sPat, q_eSl, q_nSl, q_pS, q_pN, q_sRetN, q_tYes, q_eDct0, okL0, okL1, okL2, okL3, okL4, okL5, okL6, ent, List.map_cons, List.map_nil, List.length_cons, List.length_nil, List.set_cons_zero, List.set_cons_succ, List.replicate, List.cons_append, List.nil_append, Nat.reduceAdd, Nat.reduceSub, Nat.sub_self, Nat.sub_zero, zero_add', ↓reduceIte, Bool.false_eq_true, item0, item1, addD_ii, subD_ii, negD_i, absD_i, ltD_ii, leD_ii, gtD_ii, geD_ii, truD_bl, decide_true, decide_false, wp_ok, wp_bad, wp_bind, wp_nox, wp_def, wps_then, wps_seq, wps_nx, wps_ret, wp_ite, wps_ite, i1, i2]
  exact ⟨trivial, gb⟩
/-! ### powers -/
/-! ### trials of alike chances -/
end Pl

/-! Orders of offers. -/
namespace Pl
open Dl Sh
local instance : Dl.Tb := ⟨fun _ => []⟩

theorem nin_fz {x : D} {ys : List D} {h : Hs} (f : Fz 8 x) (g : ∀ y ∈ ys, Fz 8 y) : ninD x (.tup ys) h = .ok (.bl (!decide (x ∈ ys))) h ∧ ninD x (.lst ys) h = .ok (.bl (!decide (x ∈ ys))) h := by
  have e1 : optAll (toPy h pyDepth) ys = some (pyFs ys) := optAll_eq fun y hy => toPy_fz ((g y hy).mono (show 8 ≤ pyDepth by decide))
  have e2 := toPy_fz (h := h) (f.mono (show 8 ≤ pyDepth by decide))
  have e3 : PySem.SeqAt.shaped (.tuple (pyFs ys)) = true := by
    have z := shaped_fz (.tup g) (show 8 + 1 ≤ 64 by decide)
    simpa only [pyF] using z
  have e4 := shaped_fz f (by decide)
  constructor
  · show (match toPy h pyDepth x, optAll (toPy h pyDepth) ys with
      | some p, some ps => if PySem.SeqAt.shaped p && PySem.SeqAt.shaped (.tuple ps) then Dl.R.ok (D.bl (if true = true then !(ps.any fun z => PySem.PyData.eqv z p) else _)) h else .bad
      | _, _ => .bad) = _
    rw [e1, e2]
    show (if (PySem.SeqAt.shaped (pyF x) && PySem.SeqAt.shaped (.tuple (pyFs ys))) = true then _ else _) = _
    rw [e3, e4, any_fz f g]
    rfl
  · show (match toPy h pyDepth x, optAll (toPy h pyDepth) ys with
      | some p, some ps => if PySem.SeqAt.shaped p && PySem.SeqAt.shaped (.tuple ps) then Dl.R.ok (D.bl (if true = true then !(ps.any fun z => PySem.PyData.eqv z p) else _)) h else .bad
      | _, _ => .bad) = _
    rw [e1, e2]
    show (if (PySem.SeqAt.shaped (pyF x) && PySem.SeqAt.shaped (.tuple (pyFs ys))) = true then _ else _) = _
    rw [e3, e4, any_fz f g]
    rfl
def natD (m : Nat) : D := .int m
theorem rng_nat : ∀ (n k : Nat), rng (k : Int) 1 n = (List.range' k n).map fun m : Nat => D.int m
  | 0, _ => rfl
  | n + 1, k => by
    rw [rng_succ, List.range'_succ, List.map_cons, ← rng_nat n (k + 1)]
    rfl
theorem rng_range (n : Nat) : rng 0 1 n = (List.range n).map natD := by
  rw [List.range_eq_range']
  exact rng_nat n 0
/-! ### all orders -/
def lon (n : Nat) (o : List Nat) : List (List Nat) := ((List.range n).filter fun j => decide (j ∉ o)).map fun j => o ++ [j]
def stepO (n : Nat) (f : List (List Nat)) : List (List Nat) := (f.map (lon n)).flatten
def oneO : List (List Nat) := [[]]
def ordAll (n : Nat) : List (List Nat) := (List.range n).foldl (fun f _ => stepO n f) oneO
theorem lon_len {n : Nat} {o : List Nat} : (lon n o).length ≤ n := by
  unfold lon
  rw [List.length_map]
  exact Nat.le_trans (List.length_filter_le _ _) (by rw [List.length_range]; exact Nat.le_refl _)
theorem stepO_len {n : Nat} {f : List (List Nat)} : (stepO n f).length ≤ f.length * n := by
  have z := flat_len (B := n) (l := f.map (lon n)) fun x hx => by
    obtain ⟨r, _, rfl⟩ := List.mem_map.mp hx
    exact lon_len
  rwa [List.length_map] at z
theorem lon_acc (n : Nat) : ∀ (f acc : List (List Nat)), f.foldl (fun acc o => acc ++ lon n o) acc = acc ++ stepO n f
  | [], acc => (List.append_nil _).symm
  | o :: f, acc => by
    rw [List.foldl_cons, lon_acc n f, List.append_assoc]
    rfl
structure Arr (n k : Nat) (o : List Nat) : Prop where
  len : o.length = k
  nd : o.Nodup
  lt : ∀ j ∈ o, j < n
theorem stepO_arr {n k : Nat} {f : List (List Nat)} (h : ∀ o ∈ f, Arr n k o) : ∀ o ∈ stepO n f, Arr n (k + 1) o := fun o ho => by
  obtain ⟨l, hl, hm⟩ := List.mem_flatten.mp ho
  obtain ⟨r, hr, rfl⟩ := List.mem_map.mp hl
  obtain ⟨j, hj, rfl⟩ := List.mem_map.mp hm
  obtain ⟨h1, h2⟩ := List.mem_filter.mp hj
  have a := h r hr
  refine ⟨by rw [List.length_append, a.len]; rfl, List.nodup_append.mpr ⟨a.nd, by simp, fun x hx y hy => ?_⟩, fun i hi => ?_⟩
  · rw [List.mem_singleton.mp hy]
    intro e
    exact of_decide_eq_true h2 (e ▸ hx)
  · rcases List.mem_append.mp hi with e | e
    · exact a.lt i e
    · rw [List.mem_singleton.mp e]; exact List.mem_range.mp h1
theorem fold_arr {n : Nat} : ∀ (l : List Nat) (k : Nat) (f : List (List Nat)), (∀ o ∈ f, Arr n k o) → ∀ o ∈ l.foldl (fun f _ => stepO n f) f, Arr n (k + l.length) o
  | [], k, f, h => h
  | x :: l, k, f, h => by
    intro o ho
    have z := fold_arr l (k + 1) (stepO n f) (stepO_arr h) o ho
    rw [List.length_cons]
    rwa [Nat.add_right_comm] at z
theorem ordAll_arr {n : Nat} : ∀ o ∈ ordAll n, Arr n n o := fun o ho => by
  have z := fold_arr (n := n) (List.range n) 0 oneO (fun o ho => by rw [List.mem_singleton.mp ho]; exact ⟨rfl, List.nodup_nil, by simp⟩) o ho
  rwa [List.length_range, Nat.zero_add] at z
theorem mem_ints {j : Nat} {o : List Nat} : D.int (j : Int) ∈ (o.map fun m : Nat => D.int m) ↔ j ∈ o := by
  constructor
  · intro h
    obtain ⟨m, hm, e⟩ := List.mem_map.mp h
    have e2 : (m : Int) = j := by injection e
    have e3 : m = j := by omega
    exact e3 ▸ hm
  · exact fun h => List.mem_map.mpr ⟨j, h, rfl⟩
theorem orders_spec {n : Nat} {x0 : D} (ex : x0 = .int n) (hn : n ≤ 6) (h : Hs) : Wp (m_all_orders [x0] h) fun x h' => ListAt h' x ((ordAll n).map lotD) ∧ Gb 0 h h' ∧ ∀ j, x = .obj j → h.length ≤ j := by
  subst ex
  unfold m_all_orders c_all_orders
  have en : ent 6 [D.int n] = [some (.int n), none, none, none, none, none] := rfl
  have s0 : sSet 1 (frz (nLst (aC (eTup aN) aN))) [some (.int n), none, none, none, none, none] h = .nx [some (.int n), some (.lst (oneO.map lotD)), none, none, none, none] h := by
    simp only [eV0, eVs, bind_ok', then_ok, q_e2, q_e1, q_eC, q_aC, q_aN, q_sPar2, q_sPar3, q_sSet, q_sRet, q_eBf, q_nBf, q_eCall, q_tst, q_tru, q_ifV, q_sIf, q_eTup, q_sPass, q_sExp, q_eLm, q_nLst, q_frz, q_thaw, q_iSeq, q_iR2, q_iR3, q_iEnumD, q_iZip, q_andX, q_andT, q_orT, q_notT, q_eCh, q_sPat, q_eSl, q_nSl, q_pS, q_pN, q_sRetN, q_tYes, q_eDct0, okL0, okL1, okL2, okL3, okL4, okL5, okL6, ent, List.map_cons, List.map_nil, List.length_cons, List.length_nil, List.set_cons_zero, List.set_cons_succ, List.replicate, List.cons_append, List.nil_append, Nat.reduceAdd, Nat.reduceSub, Nat.sub_self, Nat.sub_zero, zero_add', ↓reduceIte, Bool.false_eq_true, item0, item1, addD_ii, subD_ii, negD_i, absD_i, ltD_ii, leD_ii, gtD_ii, geD_ii, truD_bl, decide_true, decide_false]
    rfl
  have it0 : iR1 (aC (eV 0) aN) [some (.int n), some (.lst (oneO.map lotD)), none, none, none, none] h = .ok ⟨(List.range n).map natD, []⟩ h := by
    rw [iR1_eq (n := n) (h' := h) (by simp only [eV0, eVs, bind_ok', then_ok, q_e2, q_e1, q_eC, q_aC, q_aN, q_sPar2, q_sPar3, q_sSet, q_sRet, q_eBf, q_nBf, q_eCall, q_tst, q_tru, q_ifV, q_sIf, q_eTup, q_sPass, q_sExp, q_eLm, q_nLst, q_frz, q_thaw, q_iSeq, q_iR2, q_iR3, q_iEnumD, q_iZip, q_andX, q_andT, q_orT, q_notT, q_eCh, q_sPat, q_eSl, q_nSl, q_pS, q_pN, q_sRetN, q_tYes, q_eDct0, okL0, okL1, okL2, okL3, okL4, okL5, okL6, ent, List.map_cons, List.map_nil, List.length_cons, List.length_nil, List.set_cons_zero, List.set_cons_succ, List.replicate, List.cons_append, List.nil_append, Nat.reduceAdd, Nat.reduceSub, Nat.sub_self, Nat.sub_zero, zero_add', ↓reduceIte, Bool.false_eq_true, item0, item1, addD_ii, subD_ii, negD_i, absD_i, ltD_ii, leD_ii, gtD_ii, geD_ii, truD_bl, decide_true, decide_false]) (by omega), rng_range]
  rw [wp_def, en, wps_seq, s0, wps_nx, wps_seq]
  clear s0 en
  rw [for_of it0]
  refine wps_loop_st (st := fun f ρ g => (∃ x a2 a3 a4 a5, ρ = [some (.int n), some x, a2, a3, a4, a5] ∧ ListAt g x (f.map lotD) ∧ ∀ j, x = .obj j → h.length ≤ j) ∧ Gb 0 h g) (step := fun f _ => stepO n f) (J := fun f rest => f.length * 6 ^ rest.length ≤ 6 ^ 6 ∧ ∃ k, k + rest.length = n ∧ ∀ o ∈ f, Arr n k o) ?_ (List.range n) oneO _ h ?_ ?_ ?_
  · rintro f m rest ρ g ⟨j2, k, jk, ja⟩ ⟨⟨x, a2, a3, a4, a5, rfl, la, lj⟩, gg⟩
    have e66 : (m :: rest).length = rest.length + 1 := rfl
    rw [e66, Nat.pow_succ, Nat.mul_comm (6 ^ rest.length) 6, ← Nat.mul_assoc] at j2
    have r66 : f.length * 6 ≤ 46656 := by
      have p1 : 1 ≤ 6 ^ rest.length := Nat.pow_pos (by decide)
      have z : f.length * 6 * 1 ≤ f.length * 6 * 6 ^ rest.length := Nat.mul_le_mul_left _ p1
      rw [Nat.mul_one] at z
      exact Nat.le_trans z j2
    refine ⟨[some (.int n), some x, some (.int m), a3, a4, a5], rfl, ?_⟩
    have s1 : sSet 3 (thaw (nLst aN)) [some (.int n), some x, some (.int m), a3, a4, a5] g = .nx [some (.int n), some x, some (.int m), some (.obj g.length), a4, a5] (g ++ [.lst []]) := by simp only [eV0, eVs, bind_ok', then_ok, q_e2, q_e1, q_eC, q_aC, q_aN, q_sPar2, q_sPar3, q_sSet, q_sRet, q_eBf, q_nBf, q_eCall, q_tst, q_tru, q_ifV, q_sIf, q_eTup, q_sPass, q_sExp, q_eLm, q_nLst, q_frz, q_thaw, q_iSeq, q_iR2, q_iR3, q_iEnumD, q_iZip, q_andX, q_andT, q_orT, q_notT, q_eCh, q_sPat, q_eSl, q_nSl, q_pS, q_pN, q_sRetN, q_tYes, q_eDct0, okL0, okL1, okL2, okL3, okL4, okL5, okL6, ent, List.map_cons, List.map_nil, List.length_cons, List.length_nil, List.set_cons_zero, List.set_cons_succ, List.replicate, List.cons_append, List.nil_append, Nat.reduceAdd, Nat.reduceSub, Nat.sub_self, Nat.sub_zero, zero_add', ↓reduceIte, Bool.false_eq_true, item0, item1, addD_ii, subD_ii, negD_i, absD_i, ltD_ii, leD_ii, gtD_ii, geD_ii, truD_bl, decide_true, decide_false]
    rw [wps_seq, s1, wps_nx, wps_seq]
    have la1 : ListAt (g ++ [.lst []]) x (f.map lotD) := by
      rcases la with e | ⟨n, e1, e2⟩
      · exact .inl e
      · exact .inr ⟨n, e1, getl e2⟩
    obtain ⟨gs, it, og⟩ := iter_at (ce := eV 1) (ρ := [some (.int n), some x, some (.int m), some (.obj g.length), a4, a5]) (h0 := g ++ [.lst []]) rfl la1
    refine wps_for_gs (xs := f) (g := lotD) (h1 := g ++ [.lst []]) it ([] : List (List Nat)) (fun acc ρ g' => (∃ a4 a5, ρ = [some (.int n), some x, some (.int m), some (.obj g.length), a4, a5]) ∧ g' = g ++ [.lst (acc.map lotD)]) (fun acc o => acc ++ lon n o) (fun acc rest => acc.length + rest.length * 6 ≤ 46656 ∧ ∀ o ∈ rest, o ∈ f) ?_ ⟨by simpa using r66, fun _ h => h⟩ ⟨⟨_, _, rfl⟩, rfl⟩ ?_ ?_
    · rintro acc ρ g' ⟨_, rfl⟩
      refine og _ fun n en => ?_
      rcases la with e | ⟨n', e1, e2⟩
      · rw [e] at en; cases en
      · rw [e1] at en
        cases en
        rw [getl e2, getl e2]
    · rintro acc o rest2 ρ g' ⟨i2, i3⟩ ⟨⟨a4, a5, rfl⟩, rfl⟩
      rw [List.length_cons] at i2
      have lo := (ja o (i3 o List.mem_cons_self)).len
      rw [e66] at jk
      have cell : (g ++ [DO.lst (acc.map lotD)])[g.length]? = some (.lst (acc.map lotD)) := get_last
      refine ⟨[some (.int n), some x, some (.int m), some (.obj g.length), some (lotD o), a5], rfl, ?_⟩
      have itn : iR1 (aC (eV 0) aN) [some (.int n), some x, some (.int m), some (.obj g.length), some (lotD o), a5] (g ++ [.lst (acc.map lotD)]) = .ok ⟨(List.range n).map natD, []⟩ (g ++ [.lst (acc.map lotD)]) := by
        rw [iR1_eq (n := n) (h' := g ++ [.lst (acc.map lotD)]) (by simp only [eV0, eVs, bind_ok', then_ok, q_e2, q_e1, q_eC, q_aC, q_aN, q_sPar2, q_sPar3, q_sSet, q_sRet, q_eBf, q_nBf, q_eCall, q_tst, q_tru, q_ifV, q_sIf, q_eTup, q_sPass, q_sExp, q_eLm, q_nLst, q_frz, q_thaw, q_iSeq, q_iR2, q_iR3, q_iEnumD, q_iZip, q_andX, q_andT, q_orT, q_notT, q_eCh, q_sPat, q_eSl, q_nSl, q_pS, q_pN, q_sRetN, q_tYes, q_eDct0, okL0, okL1, okL2, okL3, okL4, okL5, okL6, ent, List.map_cons, List.map_nil, List.length_cons, List.length_nil, List.set_cons_zero, List.set_cons_succ, List.replicate, List.cons_append, List.nil_append, Nat.reduceAdd, Nat.reduceSub, Nat.sub_self, Nat.sub_zero, zero_add', ↓reduceIte, Bool.false_eq_true, item0, item1, addD_ii, subD_ii, negD_i, absD_i, ltD_ii, leD_ii, gtD_ii, geD_ii, truD_bl, decide_true, decide_false]) (by omega), rng_range]
      clear s1 la1 it og
      have z' : ∀ (j : Nat) (h : Hs), ninD (.int j) (lotD o) h = .ok (.bl (decide (j ∉ o))) h := fun j h => by
        have z := (nin_fz (x := .int j) (ys := o.map fun m : Nat => D.int m) (h := h) (Fz.int _) fun y hy => by
          obtain ⟨i, _, rfl⟩ := List.mem_map.mp hy
          exact Fz.int _).1
        show ninD (.int j) (.tup (o.map fun m : Nat => D.int m)) _ = _
        rw [z, show decide (D.int (j : Int) ∈ (o.map fun m : Nat => D.int m)) = decide (j ∈ o) from decide_eq_decide.mpr mem_ints]
        by_cases y : j ∈ o
        · rw [decide_eq_true y, decide_eq_false (fun q => q y)]; rfl
        · rw [decide_eq_false y, decide_eq_true y]; rfl
      have ad : ∀ (j : Nat) (h : Hs), addD (lotD o) (.tup [.int j]) h = .ok (lotD (o ++ [j])) h := fun j h => by
        unfold lotD
        rw [addD_tt (by rw [List.length_map, lo]; simp; omega), List.map_append]
        rfl
      have c := compT (α := Nat) (ci := iR1 (aC (eV 0) aN)) (p := .nm 5) (own := [5]) (ct := tst (e2 ninD (eV 5) (eV 4))) (t := fun j => decide (j ∉ o)) (ce := e2 addD (eV 4) (eTup (aC (eV 5) aN))) (ρ := [some (.int n), some x, some (.int m), some (.obj g.length), some (lotD o), a5]) (h := (g ++ [DO.lst (acc.map lotD)] : List DO)) (xs := List.range n) (g := natD) (f := fun j => lotD (o ++ [j]))
        itn (by rw [List.length_range]; omega) fun j hj => ⟨[some (.int n), some x, some (.int m), some (.obj g.length), some (lotD o), some (natD j)], rfl, by simp only [wipeD, natD, eV0, eVs, bind_ok', then_ok, q_e2, q_e1, q_eC, q_aC, q_aN, q_sPar2, q_sPar3, q_sSet, q_sRet, q_eBf, q_nBf, q_eCall, q_tst, q_tru, q_ifV, q_sIf, q_eTup, q_sPass, q_sExp, q_eLm, q_nLst, q_frz, q_thaw, q_iSeq, q_iR2, q_iR3, q_iEnumD, q_iZip, q_andX, q_andT, q_orT, q_notT, q_eCh, q_sPat, q_eSl, q_nSl, q_pS, q_pN, q_sRetN, q_tYes, q_eDct0, okL0, okL1, okL2, okL3, okL4, okL5, okL6, ent, List.map_cons, List.map_nil, List.length_cons, List.length_nil, List.set_cons_zero, List.set_cons_succ, List.replicate, List.cons_append, List.nil_append, Nat.reduceAdd, Nat.reduceSub, Nat.sub_self, Nat.sub_zero, zero_add', ↓reduceIte, Bool.false_eq_true, item0, item1, addD_ii, subD_ii, negD_i, absD_i, ltD_ii, leD_ii, gtD_ii, geD_ii, truD_bl, decide_true, decide_false, z'], fun _ => by simp only [wipeD, natD, eV0, eVs, bind_ok', then_ok, q_e2, q_e1, q_eC, q_aC, q_aN, q_sPar2, q_sPar3, q_sSet, q_sRet, q_eBf, q_nBf, q_eCall, q_tst, q_tru, q_ifV, q_sIf, q_eTup, q_sPass, q_sExp, q_eLm, q_nLst, q_frz, q_thaw, q_iSeq, q_iR2, q_iR3, q_iEnumD, q_iZip, q_andX, q_andT, q_orT, q_notT, q_eCh, q_sPat, q_eSl, q_nSl, q_pS, q_pN, q_sRetN, q_tYes, q_eDct0, okL0, okL1, okL2, okL3, okL4, okL5, okL6, ent, List.map_cons, List.map_nil, List.length_cons, List.length_nil, List.set_cons_zero, List.set_cons_succ, List.replicate, List.cons_append, List.nil_append, Nat.reduceAdd, Nat.reduceSub, Nat.sub_self, Nat.sub_zero, zero_add', ↓reduceIte, Bool.false_eq_true, item0, item1, addD_ii, subD_ii, negD_i, absD_i, ltD_ii, leD_ii, gtD_ii, geD_ii, truD_bl, decide_true, decide_false, ad]⟩
      have mm : (((List.range n).filter fun j => decide (j ∉ o)).map fun j => lotD (o ++ [j])) = (lon n o).map lotD := by unfold lon; rw [List.map_map]; rfl
      rw [mm] at c
      have ex := ext_obj (ys := (lon n o).map lotD) cell (by rw [List.length_map, List.length_map]; have := lon_len (n := n) (o := o); omega)
      rw [set_last, ← List.map_append] at ex
      simp only [eV0, eVs, bind_ok', then_ok, q_e2, q_e1, q_eC, q_aC, q_aN, q_sPar2, q_sPar3, q_sSet, q_sRet, q_eBf, q_nBf, q_eCall, q_tst, q_tru, q_ifV, q_sIf, q_eTup, q_sPass, q_sExp, q_eLm, q_nLst, q_frz, q_thaw, q_iSeq, q_iR2, q_iR3, q_iEnumD, q_iZip, q_andX, q_andT, q_orT, q_notT, q_eCh, q_sPat, q_eSl, q_nSl, q_pS, q_pN, q_sRetN, q_tYes, q_eDct0, okL0, okL1, okL2, okL3, okL4, okL5, okL6, ent, List.map_cons, List.map_nil, List.length_cons, List.length_nil, List.set_cons_zero, List.set_cons_succ, List.replicate, List.cons_append, List.nil_append, Nat.reduceAdd, Nat.reduceSub, Nat.sub_self, Nat.sub_zero, zero_add', ↓reduceIte, Bool.false_eq_true, item0, item1, addD_ii, subD_ii, negD_i, absD_i, ltD_ii, leD_ii, gtD_ii, geD_ii, truD_bl, decide_true, decide_false, wp_ok, wp_bad, wp_bind, wp_nox, wp_def, wps_then, wps_seq, wps_nx, wps_ret, wp_ite, wps_ite, lstAt_obj cell, c, ex]
      exact ⟨⟨⟨_, _, rfl⟩, trivial⟩, by rw [List.length_append]; have := lon_len (n := n) (o := o); omega, fun q hq => i3 q (List.mem_cons_of_mem _ hq)⟩
    · rintro ρ g' ⟨⟨a4, a5, rfl⟩, rfl⟩ -
      rw [lon_acc, List.nil_append]
      simp only [eV0, eVs, bind_ok', then_ok, q_e2, q_e1, q_eC, q_aC, q_aN, q_sPar2, q_sPar3, q_sSet, q_sRet, q_eBf, q_nBf, q_eCall, q_tst, q_tru, q_ifV, q_sIf, q_eTup, q_sPass, q_sExp, q_eLm, q_nLst, q_frz, q_thaw, q_iSeq, q_iR2, q_iR3, q_iEnumD, q_iZip, q_andX, q_andT, q_orT, q_notT, q_eCh, q_sPat, q_eSl, q_nSl, q_pS, q_pN, q_sRetN, q_tYes, q_eDct0, okL0, okL1, okL2, okL3, okL4, okL5, okL6, ent, List.map_cons, List.map_nil, List.length_cons, List.length_nil, List.set_cons_zero, List.set_cons_succ, List.replicate, List.cons_append, List.nil_append, Nat.reduceAdd, Nat.reduceSub, Nat.sub_self, Nat.sub_zero, zero_add', ↓reduceIte, Bool.false_eq_true, item0, item1, addD_ii, subD_ii, negD_i, absD_i, ltD_ii, leD_ii, gtD_ii, geD_ii, truD_bl, decide_true, decide_false, wp_ok, wp_bad, wp_bind, wp_nox, wp_def, wps_then, wps_seq, wps_nx, wps_ret, wp_ite, wps_ite]
      refine ⟨⟨⟨_, _, _, _, _, rfl, .inr ⟨_, rfl, get_last⟩, fun j e => by injection e with e; have := gg.len; omega⟩, gg.trans .app⟩, ?_, k + 1, by rw [e66] at jk; omega, stepO_arr ja⟩
      have z := stepO_len (n := n) (f := f)
      exact Nat.le_trans (Nat.mul_le_mul_right _ (Nat.le_trans z (Nat.mul_le_mul_left _ hn))) j2
  · refine ⟨?_, 0, by rw [List.length_range, Nat.zero_add], fun o ho => by rw [List.mem_singleton.mp ho]; exact ⟨rfl, List.nodup_nil, by simp⟩⟩
    show (1 : Nat) * 6 ^ (List.range n).length ≤ 6 ^ 6
    rw [Nat.one_mul, List.length_range]
    exact Nat.pow_le_pow_right (by decide) hn
  · exact ⟨⟨_, _, _, _, _, rfl, .inl rfl, fun j e => nomatch e⟩, .refl⟩
  · rintro ρ g ⟨⟨x, a2, a3, a4, a5, rfl, la, lj⟩, gg⟩ -
    simp only [eV0, eVs, bind_ok', then_ok, q_e2, q_e1, q_eC, q_aC, q_aN, q_sPar2, q_sPar3, q_sSet, q_sRet, q_eBf, q_nBf, q_eCall, q_tst, q_tru, q_ifV, q_sIf, q_eTup, q_sPass, q_sExp, q_eLm, q_nLst, q_frz, q_thaw, q_iSeq, q_iR2, q_iR3, q_iEnumD, q_iZip, q_andX, q_andT, q_orT, q_notT, q_eCh, q_sPat, q_eSl, q_nSl, q_pS, q_pN, q_sRetN, q_tYes, q_eDct0, okL0, okL1, okL2, okL3, okL4, okL5, okL6, ent, List.map_cons, List.map_nil, List.length_cons, List.length_nil, List.set_cons_zero, List.set_cons_succ, List.replicate, List.cons_append, List.nil_append, Nat.reduceAdd, Nat.reduceSub, Nat.sub_self, Nat.sub_zero, zero_add', ↓reduceIte, Bool.false_eq_true, item0, item1, addD_ii, subD_ii, negD_i, absD_i, ltD_ii, leD_ii, gtD_ii, geD_ii, truD_bl, decide_true, decide_false, wp_ok, wp_bad, wp_bind, wp_nox, wp_def, wps_then, wps_seq, wps_nx, wps_ret, wp_ite, wps_ite]
    exact ⟨la, gg, lj⟩
end Pl

/-! orders parted by standings (k07, k08, k09) -/
namespace Pl
open Dl Sh
local instance : Dl.Tb := ⟨fun _ => []⟩

/-- how the one at k stands among those seen -/
def std (o : List Nat) (k : Nat) : Nat := 1 + ((o.take k).filter fun m => decide (m < o.getD k 0)).length
abbrev Rw3 := List (Nat × Nat × List (List Nat))
abbrev Ky (s : Nat) : L2.Key := Sum.inl (s : Int)
def dct3 (R : Rw3) : List (L2.Key × D) := R.map fun r => (Ky r.1, D.obj r.2.1)
def stepR (R : Rw3) (s : Nat) (o : List Nat) (p : Nat) : Rw3 := if R.any (fun r => decide (r.1 = s)) = true then R.map (fun r => if r.1 = s then (r.1, r.2.1, r.2.2 ++ [o]) else r) else R ++ [(s, p, [o])]
/-- the same without places -/
abbrev PRow := List (Nat × List (List Nat))
def stepP (R : PRow) (s : Nat) (o : List Nat) : PRow := if R.any (fun r => decide (r.1 = s)) = true then R.map (fun r => if r.1 = s then (r.1, r.2 ++ [o]) else r) else R ++ [(s, [o])]
def pl3 (R : Rw3) : PRow := R.map fun r => (r.1, r.2.2)
theorem pl3_step (R : Rw3) (s : Nat) (o : List Nat) (p : Nat) : pl3 (stepR R s o p) = stepP (pl3 R) s o := by
  have a : (pl3 R).any (fun r => decide (r.1 = s)) = R.any (fun r => decide (r.1 = s)) := by
    unfold pl3
    rw [List.any_map]
    rfl
  unfold stepR stepP
  rw [a]
  split
  · unfold pl3
    rw [List.map_map, List.map_map]
    refine List.map_congr_left fun r _ => ?_
    show ((if r.1 = s then (r.1, r.2.1, r.2.2 ++ [o]) else r).1, (if r.1 = s then (r.1, r.2.1, r.2.2 ++ [o]) else r).2.2) = (if r.1 = s then (r.1, r.2.2 ++ [o]) else (r.1, r.2.2))
    split <;> rfl
  · unfold pl3
    rw [List.map_append]
    rfl
theorem nd_inj {α β : Type} {f : α → β} : ∀ {l : List α}, (l.map f).Nodup → ∀ {a b : α}, a ∈ l → b ∈ l → f a = f b → a = b
  | [], _, _, _, h, _, _ => nomatch h
  | x :: l, nd, a, b, ha, hb, e => by
    rw [List.map_cons, List.nodup_cons] at nd
    rcases List.mem_cons.mp ha with ea | ha
    · rcases List.mem_cons.mp hb with eb | hb
      · rw [ea, eb]
      · exact absurd (show f x ∈ l.map f from by rw [← ea, e]; exact List.mem_map_of_mem hb) nd.1
    · rcases List.mem_cons.mp hb with eb | hb
      · exact absurd (show f x ∈ l.map f from by rw [← eb, ← e]; exact List.mem_map_of_mem ha) nd.1
      · exact nd_inj nd.2 ha hb e
theorem nodup_le : ∀ (n : Nat) (l : List Nat), l.Nodup → (∀ x ∈ l, x < n) → l.length ≤ n
  | 0, [], _, _ => Nat.le_refl _
  | 0, x :: l, _, h => absurd (h x List.mem_cons_self) (by omega)
  | n + 1, l, nd, h => by
    by_cases m : n ∈ l
    · have z := nodup_le n (l.erase n) (nd.erase n) fun x hx => by
        have h1 := h x (List.mem_of_mem_erase hx)
        have h2 : x ≠ n := ((nd.mem_erase_iff).mp hx).1
        omega
      rw [List.length_erase_of_mem m] at z
      omega
    · have z := nodup_le n l nd fun x hx => by
        have h1 := h x hx
        have h2 : x ≠ n := fun e => m (e ▸ hx)
        omega
      omega
structure PSt (h0 : Hs) (R : Rw3) (n K : Nat) (g : Hs) : Prop where
  dict : g[h0.length]? = some (.dI (dct3 R))
  cell : ∀ r ∈ R, g[r.2.1]? = some (.lst (r.2.2.map lotD))
  gt : ∀ r ∈ R, h0.length < r.2.1
  nd : (R.map (·.2.1)).Nodup
  kd : (R.map (·.1)).Nodup
  kl : ∀ r ∈ R, r.1 < K
  len : ∀ r ∈ R, r.2.2.length ≤ n
  gb : Gb 0 h0 g
theorem PSt.few {h0 g : Hs} {R : Rw3} {n K : Nat} (P : PSt h0 R n K g) : R.length ≤ K := by
  have z := nodup_le K (R.map (·.1)) P.kd fun x hx => by
    obtain ⟨r, hr, rfl⟩ := List.mem_map.mp hx
    exact P.kl r hr
  rwa [List.length_map] at z
theorem look3_none {R : Rw3} {s : Nat} (e : R.any (fun r => decide (r.1 = s)) = false) : look (dct3 R) (Ky s) = none := by
  have z : (dct3 R).find? (fun p => decide (p.1 = Ky s)) = none := by
    rw [List.find?_eq_none]
    intro p hp
    obtain ⟨r, hr, rfl⟩ := List.mem_map.mp hp
    have f := List.any_eq_false.mp e r hr
    intro q
    have q' : Ky r.1 = Ky s := of_decide_eq_true q
    have q2 : (r.1 : Int) = (s : Int) := Sum.inl.inj q'
    exact f (decide_eq_true (by omega))
  unfold look
  rw [z]
  rfl
theorem look3_some {R : Rw3} {s : Nat} (kd : (R.map (·.1)).Nodup) {r : Nat × Nat × List (List Nat)} (hr : r ∈ R) (e : r.1 = s) : look (dct3 R) (Ky s) = some (.obj r.2.1) := by
  have a : ∃ p, (dct3 R).find? (fun p => decide (p.1 = Ky s)) = some p := by
    cases z : (dct3 R).find? (fun p => decide (p.1 = Ky s)) with
    | some p => exact ⟨p, rfl⟩
    | none =>
      rw [List.find?_eq_none] at z
      exact absurd (decide_eq_true (by rw [e])) (z (Ky r.1, D.obj r.2.1) (List.mem_map_of_mem (f := fun r : Nat × Nat × List (List Nat) => (Ky r.1, D.obj r.2.1)) hr))
  obtain ⟨p, hp⟩ := a
  have m := List.mem_of_find?_eq_some hp
  have q := List.find?_some hp
  obtain ⟨r', hr', rfl⟩ := List.mem_map.mp m
  have q' : Ky r'.1 = Ky s := of_decide_eq_true q
  have q2 : (r'.1 : Int) = (s : Int) := Sum.inl.inj q'
  have er : r' = r := nd_inj (f := fun r : Nat × Nat × List (List Nat) => r.1) kd hr' hr (by show r'.1 = r.1; omega)
  unfold look
  rw [hp, er]
  rfl
theorem dctAt_of {h : Hs} {n : Nat} {kvs : List (L2.Key × D)} (e : h[n]? = some (.dI kvs)) : dctAt h (.obj n) = some kvs := by
  show (match h[n]? with
    | some (.dI kvs) => some kvs
    | _ => none) = _
  rw [e]
theorem app3 {h0 g : Hs} {R : Rw3} {n K s : Nat} {o : List Nat} {ρ : Env} {cv : Env → M D} (P : PSt h0 R n K g) (hn : n ≤ 10000) (hs : s < K) (hK : K ≤ 50) (e2 : ∀ g, eV 2 ρ g = .ok (.obj h0.length) g) (e4 : ∀ g, eV 4 ρ g = .ok (.int (s : Nat)) g) (ev : ∀ g, cv ρ g = .ok (lotD o) g) :
    ∃ g', sExp (eLm appD (eSetd (eV 2) (eV 4) (thaw (nLst aN))) (aC cv aN)) ρ g = .nx ρ g' ∧ PSt h0 (stepR R s o g.length) (n + 1) K g' := by
  have few := P.few
  have g1 : (g ++ [DO.lst []])[h0.length]? = some (.dI (dct3 R)) := (Gb.app (b := 0)).at (Nat.zero_le _) P.dict
  have th : thaw (nLst aN) ρ g = .ok (.obj g.length) (g ++ [DO.lst []]) := by
    rw [q_thaw, q_nLst, q_aN, bind_ok']
    rfl
  have lk : (dct3 R).length < 16777216 := by
    unfold dct3
    rw [List.length_map]
    omega
  have lh : h0.length < g.length := (List.getElem?_eq_some_iff.mp P.dict).1
  by_cases c : R.any (fun r => decide (r.1 = s)) = true
  · -- one that is there
    obtain ⟨r, hr, er⟩ := List.any_eq_true.mp c
    have es : r.1 = s := of_decide_eq_true er
    have lo := look3_some P.kd hr es
    have sd : eSetd (eV 2) (eV 4) (thaw (nLst aN)) ρ g = .ok (.obj r.2.1) (g ++ [DO.lst []]) := by
      unfold eSetd
      rw [e2, bind_ok', dctAt_of P.dict]
      show (eV 4 ρ g).bind _ = _
      rw [e4, bind_ok', th, bind_ok']
      unfold setdD
      rw [dctAt_of g1]
      show (if decide ((dct3 R).length < 16777216) = true then (match look (dct3 R) (Ky s) with
        | some d => Dl.R.ok d (g ++ [DO.lst []])
        | none => _) else .bad) = _
      rw [if_pos (decide_eq_true lk), lo]
    have ce : (g ++ [DO.lst []])[r.2.1]? = some (.lst (r.2.2.map lotD)) := (Gb.app (b := 0)).at (Nat.zero_le _) (P.cell r hr)
    have lr : r.2.1 < (g ++ [DO.lst []]).length := (List.getElem?_eq_some_iff.mp ce).1
    have le := P.len r hr
    have ap := app_obj (y := lotD o) ce (by rw [List.length_map]; omega)
    refine ⟨(g ++ [DO.lst []]).set r.2.1 (.lst (r.2.2.map lotD ++ [lotD o])), ?_, ?_⟩
    · rw [q_sExp, q_eLm, sd, bind_ok', lstAt_obj ce]
      show ((aC cv aN ρ (g ++ [DO.lst []])).bind fun xs h2 => appD (.obj r.2.1) xs h2).then ρ _ = _
      rw [q_aC, ev, bind_ok', q_aN, bind_ok', bind_ok', ap]
      rfl
    · have hd : dct3 (stepR R s o g.length) = dct3 R := by
        unfold stepR dct3
        rw [if_pos c, List.map_map]
        refine List.map_congr_left fun x _ => ?_
        show ((Ky (if x.1 = s then (x.1, x.2.1, x.2.2 ++ [o]) else x).1), D.obj (if x.1 = s then (x.1, x.2.1, x.2.2 ++ [o]) else x).2.1) = _
        split <;> rfl
      have m1 : (stepR R s o g.length).map (·.2.1) = R.map (·.2.1) := by
        unfold stepR
        rw [if_pos c, List.map_map]
        refine List.map_congr_left fun x _ => ?_
        show (if x.1 = s then (x.1, x.2.1, x.2.2 ++ [o]) else x).2.1 = _
        split <;> rfl
      have m2 : (stepR R s o g.length).map (·.1) = R.map (·.1) := by
        unfold stepR
        rw [if_pos c, List.map_map]
        refine List.map_congr_left fun x _ => ?_
        show (if x.1 = s then (x.1, x.2.1, x.2.2 ++ [o]) else x).1 = _
        split <;> rfl
      have mem : ∀ x ∈ stepR R s o g.length, ∃ y ∈ R, x = if y.1 = s then (y.1, y.2.1, y.2.2 ++ [o]) else y := fun x hx => by
        unfold stepR at hx
        rw [if_pos c] at hx
        obtain ⟨y, hy, e⟩ := List.mem_map.mp hx
        exact ⟨y, hy, e.symm⟩
      refine ⟨?_, ?_, ?_, by rw [m1]; exact P.nd, by rw [m2]; exact P.kd, ?_, ?_, ?_⟩
      · rw [hd, List.getElem?_set_ne (Nat.ne_of_gt (P.gt r hr))]
        exact g1
      · intro x hx
        obtain ⟨y, hy, rfl⟩ := mem x hx
        by_cases q : y.1 = s
        · have : y = r := nd_inj (f := fun r : Nat × Nat × List (List Nat) => r.1) P.kd hy hr (by show y.1 = r.1; omega)
          rw [if_pos q, this]
          show ((g ++ [DO.lst []]).set r.2.1 _)[r.2.1]? = _
          rw [List.getElem?_set_self lr, List.map_append]
          rfl
        · rw [if_neg q]
          have ne : r.2.1 ≠ y.2.1 := fun z => q (by
            have : r = y := nd_inj (f := fun r : Nat × Nat × List (List Nat) => r.2.1) P.nd hr hy z
            rw [← this]
            exact es)
          rw [List.getElem?_set_ne ne]
          exact (Gb.app (b := 0)).at (Nat.zero_le _) (P.cell y hy)
      · intro x hx
        obtain ⟨y, hy, rfl⟩ := mem x hx
        have := P.gt y hy
        split <;> exact this
      · intro x hx
        obtain ⟨y, hy, rfl⟩ := mem x hx
        have := P.kl y hy
        split <;> exact this
      · intro x hx
        obtain ⟨y, hy, rfl⟩ := mem x hx
        have := P.len y hy
        split
        · show (y.2.2 ++ [o]).length ≤ n + 1
          rw [List.length_append]
          exact Nat.add_le_add_right this 1
        · exact Nat.le_succ_of_le this
      · exact (P.gb.trans .app).set' (Nat.le_of_lt (P.gt r hr))
  · -- a new one
    have c' : R.any (fun r => decide (r.1 = s)) = false := by cases z : R.any (fun r => decide (r.1 = s)) <;> simp_all
    have lo := look3_none c'
    have pk : putKD (dct3 R) (Ky s) (.obj g.length) = dct3 (R ++ [(s, g.length, [o])]) := by
      unfold putKD
      have a : (dct3 R).any (fun kv => decide (kv.1 = Ky s)) = false := by
        rw [List.any_eq_false]
        intro p hp
        obtain ⟨r, hr, rfl⟩ := List.mem_map.mp hp
        intro q
        have q2 : (r.1 : Int) = (s : Int) := Sum.inl.inj (of_decide_eq_true q)
        exact (List.any_eq_false.mp c' r hr) (decide_eq_true (by omega))
      rw [a]
      unfold dct3
      rw [List.map_append]
      rfl
    have sd : eSetd (eV 2) (eV 4) (thaw (nLst aN)) ρ g = .ok (.obj g.length) ((g ++ [DO.lst []]).set h0.length (.dI (dct3 (R ++ [(s, g.length, [o])])))) := by
      unfold eSetd
      rw [e2, bind_ok', dctAt_of P.dict]
      show (eV 4 ρ g).bind _ = _
      rw [e4, bind_ok', th, bind_ok']
      unfold setdD
      rw [dctAt_of g1]
      show (if decide ((dct3 R).length < 16777216) = true then (match look (dct3 R) (Ky s) with
        | some d => Dl.R.ok d (g ++ [DO.lst []])
        | none => .ok (.obj g.length) ((g ++ [DO.lst []]).set h0.length (.dI (putKD (dct3 R) (Ky s) (.obj g.length))))) else .bad) = _
      rw [if_pos (decide_eq_true lk), lo, pk]
    generalize hg2 : (g ++ [DO.lst []]).set h0.length (.dI (dct3 (R ++ [(s, g.length, [o])]))) = g2 at sd
    have ce : g2[g.length]? = some (.lst []) := by
      rw [← hg2, List.getElem?_set_ne (Nat.ne_of_lt lh)]
      exact get_last
    have l2 : g.length < g2.length := (List.getElem?_eq_some_iff.mp ce).1
    have ap := app_obj (y := lotD o) ce (by simp)
    have no : stepR R s o g.length = R ++ [(s, g.length, [o])] := by
      unfold stepR
      rw [c']
      rfl
    have pl : ∀ r ∈ R, r.2.1 < g.length := fun r hr => (List.getElem?_eq_some_iff.mp (P.cell r hr)).1
    refine ⟨g2.set g.length (.lst ([] ++ [lotD o])), ?_, ?_⟩
    · rw [q_sExp, q_eLm, sd, bind_ok', lstAt_obj ce]
      show ((aC cv aN ρ g2).bind fun xs h2 => appD (.obj g.length) xs h2).then ρ _ = _
      rw [q_aC, ev, bind_ok', q_aN, bind_ok', bind_ok', ap]
      rfl
    · rw [no]
      refine ⟨?_, ?_, ?_, ?_, ?_, ?_, ?_, ?_⟩
      · rw [List.getElem?_set_ne (Nat.ne_of_gt lh), ← hg2, List.getElem?_set_self (by rw [List.length_append]; omega)]
      · intro x hx
        rcases List.mem_append.mp hx with hx | hx
        · have := pl x hx
          have := P.gt x hx
          rw [List.getElem?_set_ne (by omega), ← hg2, List.getElem?_set_ne (by omega)]
          exact (Gb.app (b := 0)).at (Nat.zero_le _) (P.cell x hx)
        · rw [List.mem_singleton.mp hx]
          show (g2.set g.length _)[g.length]? = _
          rw [List.getElem?_set_self l2]
          rfl
      · intro x hx
        rcases List.mem_append.mp hx with hx | hx
        · exact P.gt x hx
        · rw [List.mem_singleton.mp hx]; exact lh
      · rw [List.map_append, List.nodup_append]
        refine ⟨P.nd, by simp, fun a ha b hb => ?_⟩
        obtain ⟨r, hr, rfl⟩ := List.mem_map.mp ha
        have := pl r hr
        rw [List.map_cons, List.map_nil, List.mem_singleton] at hb
        rw [hb]
        show r.2.1 ≠ g.length
        omega
      · rw [List.map_append, List.nodup_append]
        refine ⟨P.kd, by simp, fun a ha b hb => ?_⟩
        obtain ⟨r, hr, rfl⟩ := List.mem_map.mp ha
        rw [List.map_cons, List.map_nil, List.mem_singleton] at hb
        rw [hb]
        intro q
        exact (List.any_eq_false.mp c' r hr) (decide_eq_true q)
      · intro x hx
        rcases List.mem_append.mp hx with hx | hx
        · exact P.kl x hx
        · rw [List.mem_singleton.mp hx]; exact hs
      · intro x hx
        rcases List.mem_append.mp hx with hx | hx
        · exact Nat.le_succ_of_le (P.len x hx)
        · rw [List.mem_singleton.mp hx]
          show ([o] : List (List Nat)).length ≤ n + 1
          simp
      · rw [← hg2]
        exact ((P.gb.trans .app).set' (Nat.le_refl _)).set' (Nat.le_of_lt lh)
end Pl

/-! what _law_parted tells -/
namespace Pl
open Dl Sh
local instance : Dl.Tb := ⟨fun _ => []⟩

def rowsP (os : List (List Nat)) (k : Nat) : PRow := os.foldl (fun R o => stepP R (std o k) o) []
def getP (R : PRow) (s : Int) : Nat × List (List Nat) := (R.find? fun r => decide (r.1 = s.toNat)).getD (0, [])
def partP (os : List (List Nat)) (k : Nat) : PRow := (usort ((rowsP os k).map fun r => (r.1 : Int))).map (getP (rowsP os k))
def getR (R : Rw3) (s : Int) : Nat × Nat × List (List Nat) := (R.find? fun r => decide (r.1 = s.toNat)).getD (0, 0, [])
def srt3 (R : Rw3) : Rw3 := (usort (R.map fun r => (r.1 : Int))).map (getR R)
theorem getR_pl (R : Rw3) (s : Int) : ((getR R s).1, (getR R s).2.2) = getP (pl3 R) s := by
  unfold getR getP pl3
  rw [List.find?_map]
  show _ = ((R.find? fun r => decide (r.1 = s.toNat)).map fun r => (r.1, r.2.2)).getD (0, [])
  cases R.find? fun r => decide (r.1 = s.toNat) <;> rfl
theorem srt3_pl (R : Rw3) : pl3 (srt3 R) = (usort ((pl3 R).map fun r => (r.1 : Int))).map (getP (pl3 R)) := by
  have e : (pl3 R).map (fun r => (r.1 : Int)) = R.map fun r => (r.1 : Int) := by
    unfold pl3
    rw [List.map_map]
    rfl
  rw [e]
  unfold srt3
  show ((usort _).map (getR R)).map (fun r => (r.1, r.2.2)) = _
  rw [List.map_map]
  exact List.map_congr_left fun s _ => getR_pl R s
theorem getR_mem {R : Rw3} {s : Int} (h : s ∈ R.map fun r => (r.1 : Int)) : getR R s ∈ R ∧ ((getR R s).1 : Int) = s := by
  obtain ⟨r, hr, rfl⟩ := List.mem_map.mp h
  unfold getR
  cases z : R.find? (fun q => decide (q.1 = ((r.1 : Nat) : Int).toNat)) with
  | none =>
    rw [List.find?_eq_none] at z
    exact absurd (decide_eq_true (by simp)) (z r hr)
  | some q =>
    have m := List.mem_of_find?_eq_some z
    have p' := List.find?_some z
    have p := of_decide_eq_true p'
    refine ⟨m, ?_⟩
    show (q.1 : Int) = r.1
    rw [p]
    simp
theorem intKeys_3 : ∀ R : Rw3, intKeys (dct3 R) = some (R.map fun r => (r.1 : Int))
  | [] => rfl
  | r :: R => by
    show (intKeys (dct3 R)).map ((r.1 : Int) :: ·) = _
    rw [intKeys_3 R]
    rfl
theorem sort_3 {h : Hs} {n : Nat} {R : Rw3} (e : h[n]? = some (.dI (dct3 R))) (nd : (R.map fun r => (r.1 : Int)).Nodup) (l : R.length < 64) : sortDF [.obj n] h = .ok ((usort (R.map fun r => (r.1 : Int))).map D.int) h := by
  show (match (dctAt h (.obj n)).bind intKeys with
    | some ks => if decide (ks.Nodup ∧ ks.length < 64) then Dl.R.ok ((usort ks).map D.int) h else .bad
    | none => .bad) = _
  rw [dctAt_of e, Option.bind_some, intKeys_3]
  exact if_pos (decide_eq_true ⟨nd, by rw [List.length_map]; exact l⟩)
theorem item_dI {h : Hs} {n : Nat} {kvs} {x : Int} {d : D} (e : h[n]? = some (.dI kvs)) (l : look kvs (.inl x) = some d) : itemD (.obj n) (.int x) h = .ok d h := by
  show (match seqOf h (.obj n) with
    | some xs => _
    | none => (match dctKV h n, keyOf (.int x) with
        | some kvs, some k => (match look kvs k with
          | some d => Dl.R.ok d h
          | none => .bad)
        | _, _ => _)) = _
  have dk : dctKV h n = some kvs := by
    unfold dctKV
    rw [e]
  rw [seq_none e, dk]
  show (match look kvs (.inl x) with
          | some d => Dl.R.ok d h
          | none => .bad) = _
  rw [l]
/-! ### standings -/
theorem lt_map {o : List Nat} {k : Nat} : (o.map fun m : Nat => D.int m).take k = (o.take k).map fun m : Nat => D.int m := List.map_take.symm
theorem std_eq {ρ : Env} {h : Hs} {o : List Nat} {k : Nat} {a b p : Nat} {own : List Nat} (l : k < o.length) (lo : o.length ≤ 1000) (ea : ∀ ρ', ρ' = ρ ∨ (∃ x, patD (.nm p) x (wipeD ρ own) = some ρ') → eV a ρ' h = .ok (lotD o) h) (eb : ∀ ρ', ρ' = ρ ∨ (∃ x, patD (.nm p) x (wipeD ρ own) = some ρ') → eV b ρ' h = .ok (.int (k : Nat)) h) (ep : ∀ x, ∃ ρ', patD (.nm p) x (wipeD ρ own) = some ρ' ∧ eV p ρ' h = .ok x h) :
    e2 addD (eC (.int 1)) (eBf lenD (aC (frz (nLc (iSeq (eSl (eV a) pN (pS (eV b)))) (.nm p) own (tst (e2 ltD (eV p) (e2 itemD (eV a) (eV b)))) (eV p))) aN)) ρ h = .ok (.int (std o k : Nat)) h := by
  have sl : eSl (eV a) pN (pS (eV b)) ρ h = .ok (.tup ((o.take k).map fun m : Nat => D.int m)) h := by
    have z : sliceD (lotD o) none (some (k : Int)) h = .ok (.tup ((o.map fun m : Nat => D.int m).take k)) h := by
      show Dl.R.ok (D.tup (cutL (o.map fun m : Nat => D.int m) none (some (k : Int)))) h = _
      rw [cutL_to]
    simp only [q_eSl, q_pN, q_pS, ea ρ (.inl rfl), eb ρ (.inl rfl), bind_ok']
    rw [← lt_map]
    exact z
  obtain ⟨v, hv⟩ : ∃ v, o[k]? = some v := ⟨_, List.getElem?_eq_getElem l⟩
  have gv : o.getD k 0 = v := by
    rw [List.getD_eq_getElem?_getD, hv]
    rfl
  have it : itemD (lotD o) (.int (k : Nat)) h = .ok (.int (v : Nat)) h := item_at (by rw [List.getElem?_map, hv]; rfl)
  have c := compT (α := Nat) (g := fun m : Nat => D.int m) (f := fun m : Nat => D.int m) (t := fun m => decide (m < v)) (ci := iSeq (eSl (eV a) pN (pS (eV b)))) (p := .nm p) (own := own) (ct := tst (e2 ltD (eV p) (e2 itemD (eV a) (eV b)))) (ce := eV p) (ρ := ρ) (h := h) (xs := o.take k)
    (seq_tup sl) (by rw [List.length_take]; omega) fun m hm => by
      obtain ⟨ρ', e1, e2'⟩ := ep (.int (m : Nat))
      refine ⟨ρ', e1, ?_, fun _ => e2'⟩
      have e3 := ea ρ' (.inr ⟨_, e1⟩)
      have e4 := eb ρ' (.inr ⟨_, e1⟩)
      have dd : decide ((m : Int) < (v : Int)) = decide (m < v) := decide_eq_decide.mpr (by omega)
      simp only [q_tst, q_e2, e2', e3, e4, bind_ok', it, ltD_ii, truD_bl, dd]
  unfold std
  rw [gv]
  simp only [q_e2, q_eC, q_eBf, q_aC, q_aN, q_frz, c, bind_ok', lenD_lst, addD_ii, List.length_map]
  congr 2
theorem std_lt {o : List Nat} {k : Nat} : std o k ≤ k + 1 := by
  unfold std
  have a := List.length_filter_le (fun m => decide (m < o.getD k 0)) (o.take k)
  have b : (o.take k).length ≤ k := by rw [List.length_take]; omega
  omega
theorem rowsP_take {os : List (List Nat)} {k j : Nat} {o : List Nat} (e : os[j]? = some o) : rowsP (os.take (j + 1)) k = stepP (rowsP (os.take j) k) (std o k) o := by
  unfold rowsP
  rw [List.take_succ, e]
  show (os.take j ++ [o]).foldl _ _ = _
  rw [List.foldl_append]
  rfl
theorem parted_spec {x : D} {os : List (List Nat)} {n k : Nat} {h : Hs} (la : ListAt h x (os.map lotD)) (hn : ∀ o ∈ os, o.length = n) (kn : k < n) (n6 : n ≤ 6) (l : os.length ≤ 1000) :
    Wp (m__law_parted [x, .int (k : Nat)] h) fun d h' => ∃ R : Rw3, pl3 R = partP os k ∧ d = .lst (R.map fun r => .tup [.int (r.1 : Nat), .obj r.2.1]) ∧ (∀ r ∈ R, h'[r.2.1]? = some (.lst (r.2.2.map lotD))) ∧ Gb 0 h h' ∧ R.length ≤ k + 2 ∧ ∀ r ∈ R, h.length < r.2.1 := by
  unfold m__law_parted c__law_parted
  have en : ent 6 [x, D.int (k : Nat)] = [some x, some (.int (k : Nat)), none, none, none, none] := rfl
  rw [wp_def, en, wps_seq, q_sSet, q_eDct0, then_ok, wps_nx, wps_seq]
  have la2 : ListAt (h ++ [.dI []]) x (os.map lotD) := by
    rcases la with e | ⟨m, e1, e2⟩
    · exact .inl e
    · exact .inr ⟨m, e1, (Gb.app (b := 0)).at (Nat.zero_le _) e2⟩
  have v0 : eV 0 [some x, some (.int (k : Nat)), some (.obj h.length), none, none, none] (h ++ [.dI []]) = .ok x (h ++ [.dI []]) := rfl
  obtain ⟨gs, ei, og⟩ := iter_at v0 la2
  have og' : ∀ g, Gb 0 h g → okG gs g = true := fun g gg => og g fun m e => by
    rcases la with e' | ⟨m', e1, e2⟩
    · rw [e'] at e; cases e
    · rw [e1] at e
      cases e
      rw [gg.at (Nat.zero_le _) e2, (Gb.app (b := 0)).at (Nat.zero_le _) e2]
  simp only [List.set_cons_zero, List.set_cons_succ]
  rw [wps_for, ei, wp_ok]
  refine wps_loop (fun j ρ g => ∃ R a3 a4 a5, PSt h R j (k + 2) g ∧ pl3 R = rowsP (os.take j) k ∧ ρ = [some x, some (.int (k : Nat)), some (.obj h.length), a3, a4, a5]) _ 0 _ _ ?_ ?_ ⟨[], _, _, _, ⟨get_last, by simp, by simp, by simp, by simp, by simp, by simp, .app⟩, rfl, rfl⟩
  · rintro j y ρ g hy ⟨R, a3, a4, a5, P, eR, rfl⟩
    rw [Nat.zero_add] at P eR ⊢
    rw [List.getElem?_map] at hy
    obtain ⟨o, ho, rfl⟩ : ∃ o, os[j]? = some o ∧ lotD o = y := by
      cases z : os[j]? with
      | none => rw [z] at hy; cases hy
      | some o => rw [z] at hy; exact ⟨o, rfl, by injection hy⟩
    have hj := (List.getElem?_eq_some_iff.mp ho).1
    have lo := hn o (List.mem_of_getElem? ho)
    refine ⟨og' g P.gb, [some x, some (.int (k : Nat)), some (.obj h.length), some (lotD o), a4, a5], rfl, ?_⟩
    have sd := std_eq (ρ := [some x, some (.int (k : Nat)), some (.obj h.length), some (lotD o), a4, a5]) (h := g) (o := o) (k := k) (a := 3) (b := 1) (p := 5) (own := [5]) (by omega) (by omega)
      (fun ρ' e => by rcases e with e | ⟨z, e⟩ <;> cases e <;> rfl) (fun ρ' e => by rcases e with e | ⟨z, e⟩ <;> cases e <;> rfl) fun z => ⟨_, rfl, rfl⟩
    have sl := std_lt (o := o) (k := k)
    rw [wps_seq, q_sSet, sd, then_ok, wps_nx]
    simp only [List.set_cons_zero, List.set_cons_succ]
    obtain ⟨g', e, P'⟩ := app3 (ρ := [some x, some (.int (k : Nat)), some (.obj h.length), some (lotD o), some (.int (std o k : Nat)), a5]) (cv := eV 3) P (by omega) (show std o k < k + 2 by omega) (by omega) (fun _ => rfl) (fun _ => rfl) (fun _ => rfl)
    refine wps_of e ⟨_, _, _, _, P', ?_, rfl⟩
    rw [pl3_step, eR, rowsP_take ho]
  · rintro ρ g ⟨R, a3, a4, a5, P, eR, rfl⟩
    refine ⟨og' g P.gb, ?_⟩
    rw [Nat.zero_add, List.length_map] at eR
    rw [List.take_of_length_le (Nat.le_refl _)] at eR
    have few := P.few
    have kd : (R.map fun r => (r.1 : Int)).Nodup := by
      have e : (R.map fun r => (r.1 : Int)) = (R.map (·.1)).map fun m : Nat => (m : Int) := by rw [List.map_map]; rfl
      rw [e]
      exact List.Pairwise.map _ (fun a b (ne : a ≠ b) => show (a : Int) ≠ (b : Int) by omega) P.kd
    have so := sort_3 P.dict kd (by omega)
    have v2 : eV 2 [some x, some (.int (k : Nat)), some (.obj h.length), a3, a4, a5] g = .ok (.obj h.length) g := rfl
    have c := compM (α := Int) (ci := iSeq (frz (nBf sortDF (aC (eV 2) aN)))) (p := .nm 4) (own := [4]) (ce := eTup (aC (eV 4) (aC (e2 itemD (eV 2) (eV 4)) aN))) (ρ := [some x, some (.int (k : Nat)), some (.obj h.length), a3, a4, a5]) (h := g) (xs := usort (R.map fun r => (r.1 : Int))) (g := D.int) (f := fun s => .tup [.int ((getR R s).1 : Nat), .obj (getR R s).2.1])
      (seq_lst (by simp only [eV0, eVs, bind_ok', then_ok, q_e2, q_e1, q_eC, q_aC, q_aN, q_sPar2, q_sPar3, q_sSet, q_sRet, q_eBf, q_nBf, q_eCall, q_tst, q_tru, q_ifV, q_sIf, q_eTup, q_sPass, q_sExp, q_eLm, q_nLst, q_frz, q_thaw, q_iSeq, q_iR2, q_iR3, q_iEnumD, q_iZip, q_andX, q_andT, q_orT, q_notT, q_eCh, q_sPat, q_eSl, q_nSl, q_pS, q_pN, q_sRetN, q_tYes, q_eDct0, okL0, okL1, okL2, okL3, okL4, okL5, okL6, ent, List.map_cons, List.map_nil, List.length_cons, List.length_nil, List.set_cons_zero, List.set_cons_succ, List.replicate, List.cons_append, List.nil_append, Nat.reduceAdd, Nat.reduceSub, Nat.sub_self, Nat.sub_zero, zero_add', ↓reduceIte, Bool.false_eq_true, item0, item1, addD_ii, subD_ii, negD_i, absD_i, ltD_ii, leD_ii, gtD_ii, geD_ii, truD_bl, decide_true, decide_false, so])) (by have := usort_len (R.map fun r => (r.1 : Int)); rw [List.length_map] at this; omega) fun s hs => by
        obtain ⟨m, e⟩ := getR_mem (usort_mem.mp hs)
        have lk := look3_some P.kd m rfl
        have it := item_dI P.dict lk
        rw [e] at it
        refine ⟨_, rfl, ?_⟩
        simp only [wipeD, eV0, eVs, bind_ok', then_ok, q_e2, q_e1, q_eC, q_aC, q_aN, q_sPar2, q_sPar3, q_sSet, q_sRet, q_eBf, q_nBf, q_eCall, q_tst, q_tru, q_ifV, q_sIf, q_eTup, q_sPass, q_sExp, q_eLm, q_nLst, q_frz, q_thaw, q_iSeq, q_iR2, q_iR3, q_iEnumD, q_iZip, q_andX, q_andT, q_orT, q_notT, q_eCh, q_sPat, q_eSl, q_nSl, q_pS, q_pN, q_sRetN, q_tYes, q_eDct0, okL0, okL1, okL2, okL3, okL4, okL5, okL6, ent, List.map_cons, List.map_nil, List.length_cons, List.length_nil, List.set_cons_zero, List.set_cons_succ, List.replicate, List.cons_append, List.nil_append, Nat.reduceAdd, Nat.reduceSub, Nat.sub_self, Nat.sub_zero, zero_add', ↓reduceIte, Bool.false_eq_true, item0, item1, addD_ii, subD_ii, negD_i, absD_i, ltD_ii, leD_ii, gtD_ii, geD_ii, truD_bl, decide_true, decide_false, it]
        rw [e]
    simp only [q_sRet, c, q_frz, bind_ok', wps_then, wp_ok, wps_ret]
    refine ⟨srt3 R, ?_, ?_, fun r hr => ?_, P.gb, ?_, fun r hr => ?_⟩
    · rw [srt3_pl, eR]
      rfl
    · unfold srt3
      rw [List.map_map]
      rfl
    · obtain ⟨s, hs, rfl⟩ := List.mem_map.mp hr
      exact P.cell _ (getR_mem (usort_mem.mp hs)).1
    · unfold srt3
      have := usort_len (R.map fun r => (r.1 : Int))
      rw [List.length_map] at this ⊢
      omega
    · obtain ⟨s, hs, rfl⟩ := List.mem_map.mp hr
      exact P.gt _ (getR_mem (usort_mem.mp hs)).1
end Pl

/-! k07: the best rule of all, looked at backward over all orders -/
namespace Pl
open Dl Sh
local instance : Dl.Tb := ⟨fun _ => []⟩

section
variable {α : Type} {g : α → D} {p : Pat} {ce : Env → M D} {f : α → D} {h : Hs}
theorem lcTG {gs : List (Nat × List D)} (og : okG gs h = true) {ct : Env → M Bool} {t : α → Bool} {ρ : Env} : ∀ {xs : List α}, (∀ x ∈ xs, ∃ ρ1, patD p (g x) ρ = some ρ1 ∧ ct ρ1 h = .ok (t x) h ∧ (t x = true → ce ρ1 h = .ok (f x) h)) → lcF p ct ce gs ρ (xs.map g) h = .ok ((xs.filter t).map f) h
  | [], _ => by
    rw [List.map_nil]
    unfold lcF
    rw [if_pos og]
    rfl
  | x :: xs, k => by
    obtain ⟨ρ1, e, c1, c2⟩ := k x List.mem_cons_self
    rw [List.map_cons]
    unfold lcF
    rw [if_pos og, e]
    show ((ct ρ1 h).nox.bind fun b h1 => if b = true then (ce ρ1 h1).nox.bind fun d h2 => (lcF p ct ce gs ρ (xs.map g) h2).bind fun ds h3 => .ok (d :: ds) h3 else lcF p ct ce gs ρ (xs.map g) h1) = _
    rw [c1]
    show (if t x = true then (ce ρ1 h).nox.bind fun d h2 => (lcF p ct ce gs ρ (xs.map g) h2).bind fun ds h3 => .ok (d :: ds) h3 else lcF p ct ce gs ρ (xs.map g) h) = _
    have ih : lcF p ct ce gs ρ (xs.map g) h = .ok ((xs.filter t).map f) h := lcTG og fun y hy => k y (List.mem_cons_of_mem _ hy)
    by_cases z : t x = true
    · rw [if_pos z, c2 z, List.filter_cons_of_pos z]
      show ((lcF p ct ce gs ρ (xs.map g) h).bind fun ds h3 => .ok (f x :: ds) h3) = _
      rw [ih]
      rfl
    · rw [if_neg z, List.filter_cons_of_neg z]
      exact ih
theorem compTG {cx : Env → M D} {x : D} {ct : Env → M Bool} {t : α → Bool} {own : List Nat} {ρ : Env} {xs : List α} (e : cx ρ h = .ok x h) (la : ListAt h x (xs.map g)) (l : xs.length ≤ 16777216) (k : ∀ x ∈ xs, ∃ ρ1, patD p (g x) (wipeD ρ own) = some ρ1 ∧ ct ρ1 h = .ok (t x) h ∧ (t x = true → ce ρ1 h = .ok (f x) h)) : nLc (iSeq cx) p own ct ce ρ h = .ok ((xs.filter t).map f) h := by
  obtain ⟨gs, ei, og⟩ := iter_at e la
  rw [nLc_eq, ei]
  show (if okLen (xs.map g).length = true then _ else _) = _
  rw [if_pos (okLen_of (by rw [List.length_map]; exact l))]
  exact lcTG (og h fun _ _ => rfl) k
end
theorem item_la2 {h : Hs} {x : D} {xs : List D} {i : Nat} {d : D} (la : ListAt h x xs) (e : xs[i]? = some d) : itemD x (.int i) h = .ok d h := by
  rcases la with rfl | ⟨n, rfl, e2⟩
  · exact item_lst e
  · exact item_obj e2 e
/-! ### parts of orders -/
/-! ### the best rule -/
def firstN (os : List (List Nat)) (k : Nat) : Nat := (os.filter fun o => decide (o.getD k 0 = 0)).length
end Pl

/-! parts by filters -/
namespace Pl
open Dl Sh
local instance : Dl.Tb := ⟨fun _ => []⟩

def stB (k s : Nat) (o : List Nat) : Bool := Nat.beq (std o k) s
theorem stB_t {k s : Nat} {o : List Nat} : stB k s o = true ↔ std o k = s := ⟨Nat.eq_of_beq_eq_true, fun e => by rw [← e]; exact Nat.beq_refl _⟩
theorem stB_f {k s : Nat} {o : List Nat} (e : std o k ≠ s) : stB k s o = false := by
  cases z : stB k s o with
  | false => rfl
  | true => exact absurd (stB_t.mp z) e
structure PFil (k : Nat) (dn : List (List Nat)) (R : PRow) : Prop where
  nd : (R.map (·.1)).Nodup
  fil : ∀ r ∈ R, r.2 = dn.filter (stB k r.1)
  key : ∀ s, s ∈ R.map (·.1) ↔ ∃ o ∈ dn, std o k = s
theorem stepP_fil {k : Nat} {dn : List (List Nat)} {R : PRow} {o : List Nat} (P : PFil k dn R) : PFil k (dn ++ [o]) (stepP R (std o k) o) := by
  by_cases c : R.any (fun r => decide (r.1 = std o k)) = true
  · obtain ⟨q, hq, eq⟩ := List.any_eq_true.mp c
    have eq := of_decide_eq_true eq
    have e : stepP R (std o k) o = R.map (fun r => if r.1 = std o k then (r.1, r.2 ++ [o]) else r) := by
      unfold stepP
      rw [if_pos c]
    have m : (stepP R (std o k) o).map (·.1) = R.map (·.1) := by
      rw [e, List.map_map]
      refine List.map_congr_left fun x _ => ?_
      show (if x.1 = std o k then (x.1, x.2 ++ [o]) else x).1 = _
      split <;> rfl
    refine ⟨by rw [m]; exact P.nd, fun r hr => ?_, fun s => ?_⟩
    · rw [e] at hr
      obtain ⟨x, hx, rfl⟩ := List.mem_map.mp hr
      have f := P.fil x hx
      by_cases z : x.1 = std o k
      · rw [if_pos z]
        show x.2 ++ [o] = (dn ++ [o]).filter (stB k x.1)
        rw [List.filter_append, ← f, List.filter_cons_of_pos (stB_t.mpr z.symm)]
        rfl
      · rw [if_neg z, List.filter_append, ← f, List.filter_cons_of_neg (by rw [stB_f (Ne.symm z)]; simp)]
        simp
    · rw [m, P.key]
      constructor
      · rintro ⟨x, hx, e⟩
        exact ⟨x, List.mem_append_left _ hx, e⟩
      · rintro ⟨x, hx, e⟩
        rcases List.mem_append.mp hx with hx | hx
        · exact ⟨x, hx, e⟩
        · rw [List.mem_singleton.mp hx] at e
          exact (P.key s).mp (by rw [← e, ← eq]; exact List.mem_map_of_mem hq)
  · have c' : R.any (fun r => decide (r.1 = std o k)) = false := by cases z : R.any (fun r => decide (r.1 = std o k)) <;> simp_all
    have no : ∀ r ∈ R, r.1 ≠ std o k := fun r hr e => (List.any_eq_false.mp c' r hr) (decide_eq_true e)
    have e : stepP R (std o k) o = R ++ [(std o k, [o])] := by
      unfold stepP
      rw [c']
      rfl
    rw [e]
    refine ⟨?_, fun r hr => ?_, fun s => ?_⟩
    · rw [List.map_append, List.nodup_append]
      refine ⟨P.nd, by simp, fun a ha b hb => ?_⟩
      obtain ⟨r, hr, rfl⟩ := List.mem_map.mp ha
      rw [List.map_cons, List.map_nil, List.mem_singleton] at hb
      rw [hb]
      exact no r hr
    · rcases List.mem_append.mp hr with hr | hr
      · rw [List.filter_append, ← P.fil r hr, List.filter_cons_of_neg (by rw [stB_f (Ne.symm (no r hr))]; simp)]
        simp
      · rw [List.mem_singleton.mp hr]
        show [o] = (dn ++ [o]).filter (stB k (std o k))
        rw [List.filter_append, List.filter_cons_of_pos (stB_t.mpr rfl)]
        have z : dn.filter (stB k (std o k)) = [] := by
          rw [List.filter_eq_nil_iff]
          intro x hx ex
          obtain ⟨r, hr, er⟩ := List.mem_map.mp ((P.key _).mpr ⟨x, hx, stB_t.mp ex⟩)
          exact no r hr er
        rw [z]
        rfl
    · rw [List.map_append, List.mem_append, P.key]
      constructor
      · rintro (⟨x, hx, e⟩ | h)
        · exact ⟨x, List.mem_append_left _ hx, e⟩
        · rw [List.map_cons, List.map_nil, List.mem_singleton] at h
          exact ⟨o, List.mem_append_right _ (List.mem_singleton.mpr rfl), h.symm⟩
      · rintro ⟨x, hx, e⟩
        rcases List.mem_append.mp hx with hx | hx
        · exact .inl ⟨x, hx, e⟩
        · rw [List.mem_singleton.mp hx] at e
          exact .inr (by rw [← e]; simp)
theorem rowsP_fil (os : List (List Nat)) (k : Nat) : PFil k os (rowsP os k) := by
  have z : ∀ (l dn : List (List Nat)) (R : PRow), PFil k dn R → PFil k (dn ++ l) (l.foldl (fun R o => stepP R (std o k) o) R) := fun l => by
    induction l with
    | nil => intro dn R P; rw [List.append_nil]; exact P
    | cons o l ih =>
      intro dn R P
      have := ih (dn ++ [o]) _ (stepP_fil (o := o) P)
      rw [List.append_assoc] at this
      exact this
  exact z os [] [] ⟨by simp, (fun r hr => by cases hr), fun s => by simp⟩
def partQ (os : List (List Nat)) (k : Nat) : PRow := ((List.range (k + 1)).map fun s => (s + 1, os.filter (stB k (s + 1)))).filter fun r => !r.2.isEmpty
theorem part_eq (os : List (List Nat)) (k : Nat) : partP os k = partQ os k := by
  have P := rowsP_fil os k
  unfold partP partQ
  generalize hR : rowsP os k = R at P
  have g : ∀ s ∈ R.map (fun r => (r.1 : Int)), getP R s = (s.toNat, os.filter (stB k s.toNat)) := fun s hs => by
    obtain ⟨r, hr, rfl⟩ := List.mem_map.mp hs
    unfold getP
    cases z : R.find? (fun q => decide (q.1 = ((r.1 : Nat) : Int).toNat)) with
    | none =>
      rw [List.find?_eq_none] at z
      exact absurd (decide_eq_true (by simp)) (z r hr)
    | some q =>
      have m := List.mem_of_find?_eq_some z
      have p' := List.find?_some z
      have p := of_decide_eq_true p'
      show q = _
      rw [← p, ← P.fil q m]
  have e1 : (usort (R.map fun r => (r.1 : Int))).map (getP R) = (usort (R.map fun r => (r.1 : Int))).map fun s => (s.toNat, os.filter (stB k s.toNat)) := List.map_congr_left fun s hs => g s (usort_mem.mp hs)
  rw [e1, List.filter_map]
  have e2 : usort (R.map fun r => (r.1 : Int)) = ((List.range (k + 1)).filter fun s => !(os.filter (stB k (s + 1))).isEmpty).map fun s => ((s + 1 : Nat) : Int) := by
    refine up_eq (usort_up _) ?_ fun z => ?_
    · refine List.Pairwise.map _ (fun a b (h : a < b) => show ((a + 1 : Nat) : Int) < ((b + 1 : Nat) : Int) by omega) ?_
      exact List.Pairwise.filter _ List.pairwise_lt_range
    · rw [usort_mem]
      constructor
      · intro h
        obtain ⟨r, hr, rfl⟩ := List.mem_map.mp h
        obtain ⟨o, ho, eo⟩ := (P.key r.1).mp (List.mem_map_of_mem hr)
        have l := std_lt (o := o) (k := k)
        have l0 : 1 ≤ std o k := by unfold std; omega
        refine List.mem_map.mpr ⟨r.1 - 1, List.mem_filter.mpr ⟨List.mem_range.mpr (by omega), ?_⟩, by omega⟩
        rw [show r.1 - 1 + 1 = r.1 by omega]
        have : o ∈ os.filter (stB k r.1) := List.mem_filter.mpr ⟨ho, stB_t.mpr eo⟩
        cases q : os.filter (stB k r.1) with
        | nil => rw [q] at this; cases this
        | cons a l => rfl
      · intro h
        obtain ⟨s, hs, rfl⟩ := List.mem_map.mp h
        have hs2 := (List.mem_filter.mp hs).2
        cases q : os.filter (stB k (s + 1)) with
        | nil => rw [q] at hs2; cases hs2
        | cons a l =>
          have ha : a ∈ os.filter (stB k (s + 1)) := by rw [q]; exact List.mem_cons_self
          obtain ⟨h1, h2⟩ := List.mem_filter.mp ha
          obtain ⟨r, hr, er⟩ := List.mem_map.mp ((P.key (s + 1)).mpr ⟨a, h1, stB_t.mp h2⟩)
          exact List.mem_map.mpr ⟨r, hr, by rw [er]⟩
  rw [e2, List.map_map]
  refine List.map_congr_left fun s _ => ?_
  show (((s + 1 : Nat) : Int).toNat, os.filter (stB k ((s + 1 : Nat) : Int).toNat)) = _
  rw [show ((s + 1 : Nat) : Int).toNat = s + 1 by omega]
end Pl

/-! k07: to stop at the first best one from a number on, counted over all orders -/
namespace Pl
open Dl Sh
local instance : Dl.Tb := ⟨fun _ => []⟩

theorem it_ord {o : List Nat} {a : Nat} (l : a < o.length) {h : Hs} : itemD (lotD o) (.int (a : Nat)) h = .ok (.int (o.getD a 0 : Nat)) h := by
  obtain ⟨v, hv⟩ : ∃ v, o[a]? = some v := ⟨_, List.getElem?_eq_getElem l⟩
  have gv : o.getD a 0 = v := by
    rw [List.getD_eq_getElem?_getD, hv]
    rfl
  rw [gv]
  exact item_at (by rw [List.getElem?_map, hv]; rfl)
theorem len_ord {o : List Nat} {h : Hs} : lenD [lotD o] h = .ok (.int (o.length : Nat)) h := by
  have z : lenD [lotD o] h = .ok (.int ((o.map fun m : Nat => D.int m).length : Nat)) h := lenD_tup
  rw [List.length_map] at z
  exact z
end Pl

/-! k09: the least sum of ranks, looked at backward over all orders, kept -/
namespace Pl
open Dl Sh
local instance : Dl.Tb := ⟨fun _ => []⟩

/-! ### what is kept -/
structure KeptD (F : List Nat → Int → D) (h : Hs) (n c : Nat) : Prop where
  at_ : ∃ kvs, nAt h (.obj n) = some kvs ∧ kvs.length ≤ c ∧ ∀ l x d, look kvs (keyN l x) = some d → d = F l x
section
variable {F : List Nat → Int → D} {h h' : Hs} {n c : Nat} {l : List Nat} {x : Int}
theorem KeptD.eq (k : KeptD F h n c) (e : h'[n]? = h[n]?) : KeptD F h' n c := by
  obtain ⟨kvs, k1, k2, k3⟩ := k.at_
  exact ⟨kvs, by rw [nAt_eq e]; exact k1, k2, k3⟩
theorem KeptD.lt (k : KeptD F h n c) : n < h.length := by
  obtain ⟨kvs, k1, k2, k3⟩ := k.at_
  exact nAt_len k1
theorem KeptD.gb (k : KeptD F h n c) (g : Gb 0 h h') : KeptD F h' n c := k.eq (g.keep n (Nat.zero_le _) k.lt)
theorem KeptD.mono {c' : Nat} (k : KeptD F h n c) (l : c ≤ c') : KeptD F h n c' := by
  obtain ⟨kvs, k1, k2, k3⟩ := k.at_
  exact ⟨kvs, k1, by omega, k3⟩
theorem KeptD.new (e : h[n]? = some (.dI [])) : KeptD F h n 0 := by
  refine ⟨[], ?_, Nat.le_refl _, fun l x d e => by simp [look] at e⟩
  show (match h[n]? with
    | some (.dN kvs) => some kvs
    | some (.dI []) => some []
    | _ => none) = some []
  rw [e]
theorem KeptD.ask (k : KeptD F h n c) (l : List Nat) (x : Int) : ∃ b : Bool, ninN (.tup [lotD l, .int x]) (.obj n) h = .ok (.bl (!b)) h ∧ (b = true → itemN (.obj n) (.tup [lotD l, .int x]) h = .ok (F l x) h) := by
  obtain ⟨kvs, k1, k2, k3⟩ := k.at_
  refine ⟨(look kvs (keyN l x)).isSome, ?_, fun b => ?_⟩
  · show (match nkT (.tup [lotD l, .int x]), nAt h (.obj n) with
      | some k, some kvs => Dl.R.ok (D.bl (if true = true then !(look kvs k).isSome else (look kvs k).isSome)) h
      | _, _ => .bad) = _
    rw [nkT_key, k1]
    rfl
  · obtain ⟨d, hd⟩ := Option.isSome_iff_exists.mp b
    show (match nkT (.tup [lotD l, .int x]), nAt h (.obj n) with
      | some k, some kvs => (match look kvs k with
        | some d => Dl.R.ok d h
        | none => .bad)
      | _, _ => .bad) = _
    rw [nkT_key, k1]
    show (match look kvs (keyN l x) with
        | some d => Dl.R.ok d h
        | none => .bad) = _
    rw [hd, k3 l x d hd]
theorem KeptD.put (k : KeptD F h n c) (l : List Nat) (x : Int) (hc : c < 16000000) : ∃ kvs, nAt h (.obj n) = some kvs ∧ kvs.length < 16777216 ∧ KeptD F (h.set n (.dN (putN kvs (keyN l x) (F l x)))) n (c + 1) ∧
    itemN (.obj n) (.tup [lotD l, .int x]) (h.set n (.dN (putN kvs (keyN l x) (F l x)))) = .ok (F l x) (h.set n (.dN (putN kvs (keyN l x) (F l x)))) := by
  obtain ⟨kvs, k1, k2, k3⟩ := k.at_
  have ln := nAt_len k1
  refine ⟨kvs, k1, by omega, ⟨_, nAt_set ln, ?_, fun l' x' d e => ?_⟩, ?_⟩
  · have := putN_len kvs (keyN l x) (F l x)
    omega
  · rw [look_put] at e
    split at e
    · rename_i z
      obtain ⟨rfl, rfl⟩ := keyN_inj z
      exact (Option.some.inj e).symm
    · exact k3 l' x' d e
  · show (match nkT (.tup [lotD l, .int x]), nAt (h.set n (.dN (putN kvs (keyN l x) (F l x)))) (.obj n) with
      | some k, some kvs => (match look kvs k with
        | some d => Dl.R.ok d (h.set n (.dN (putN _ (keyN l x) (F l x))))
        | none => .bad)
      | _, _ => .bad) = _
    rw [nkT_key, nAt_set ln]
    show (match look (putN kvs (keyN l x) (F l x)) (keyN l x) with
        | some d => Dl.R.ok d _
        | none => .bad) = _
    rw [look_put, if_pos rfl]
end
/-! ### orders alike so far -/
def grp (n : Nat) (o : List Nat) : Nat → List (List Nat)
  | 0 => ordAll n
  | k + 1 => (grp n o k).filter (stB k (std o k))
theorem grp_head {n : Nat} {o o1 : List Nat} : ∀ {k : Nat}, o1 ∈ grp n o k → grp n o1 k = grp n o k
  | 0, _ => rfl
  | k + 1, h => by
    obtain ⟨h1, h2⟩ := List.mem_filter.mp h
    have e := grp_head h1
    have s : std o1 k = std o k := stB_t.mp h2
    show (grp n o1 k).filter (stB k (std o1 k)) = (grp n o k).filter (stB k (std o k))
    rw [e, s]
theorem grp_sub {n : Nat} {o : List Nat} : ∀ {k : Nat}, ∀ x ∈ grp n o k, x ∈ ordAll n
  | 0, x, h => h
  | k + 1, x, h => grp_sub x (List.mem_filter.mp h).1
theorem partQ_mem {os : List (List Nat)} {k : Nat} {r : Nat × List (List Nat)} (h : r ∈ partQ os k) : r.2 = os.filter (stB k r.1) ∧ r.2 ≠ [] := by
  obtain ⟨h1, h2⟩ := List.mem_filter.mp h
  obtain ⟨s, hs, rfl⟩ := List.mem_map.mp h1
  refine ⟨rfl, fun e => ?_⟩
  rw [show ((s + 1, os.filter (stB k (s + 1))) : Nat × List (List Nat)).2 = os.filter (stB k (s + 1)) from rfl] at e h2
  rw [e] at h2
  cases h2
/-- some orders, alike up to k, all that are so -/
def Gd (n : Nat) (os : List (List Nat)) (k : Nat) : Prop := ∃ o, os[0]? = some o ∧ os = grp n o k
theorem Gd.part {n k : Nat} {os : List (List Nat)} (g : Gd n os k) {r : Nat × List (List Nat)} (h : r ∈ partQ os k) : Gd n r.2 (k + 1) := by
  obtain ⟨o, ho, eo⟩ := g
  obtain ⟨e, ne⟩ := partQ_mem h
  obtain ⟨o1, h1⟩ : ∃ o1, r.2[0]? = some o1 := ⟨_, List.getElem?_eq_getElem (List.length_pos_iff.mpr ne)⟩
  refine ⟨o1, h1, ?_⟩
  have m : o1 ∈ os.filter (stB k r.1) := by rw [← e]; exact List.mem_of_getElem? h1
  obtain ⟨m1, m2⟩ := List.mem_filter.mp m
  rw [eo] at m1
  have e1 := grp_head m1
  have s := stB_t.mp m2
  rw [e]
  show os.filter (stB k r.1) = (grp n o1 k).filter (stB k (std o1 k))
  rw [e1, s, ← eo]
/-! ### the least sum of ranks -/
end Pl

/-! k09: _law_ranks -/
namespace Pl
open Dl Sh
local instance : Dl.Tb := ⟨fun _ => []⟩

/-- the list stands outside the cell m -/
def ListN (h : Hs) (m : Nat) (x : D) (xs : List D) : Prop := ListAt h x xs ∧ ∀ j, x = .obj j → j ≠ m
theorem ListN.gk {h h' : Hs} {m : Nat} {x : D} {xs : List D} (l : ListN h m x xs) (g : Gk m h h') : ListN h' m x xs := by
  obtain ⟨la, ne⟩ := l
  refine ⟨?_, ne⟩
  rcases la with e | ⟨j, e1, e2⟩
  · exact .inl e
  · exact .inr ⟨j, e1, g.at (ne j e1) e2⟩
theorem Gk.of0 {m : Nat} {h h' : Hs} (g : Gb 0 h h') : Gk m h h' := ⟨g.len, fun j _ l => g.keep j (Nat.zero_le _) l⟩
theorem call3 {mf : List D → M D} {ca cb cc : Env → M D} {ρ : Env} {h h1 : Hs} {x y z d : D} (ea : ca ρ h = .ok x h) (eb : cb ρ h = .ok y h) (ec : cc ρ h = .ok z h) (m : mf [x, y, z] h = .ok d h1) : eCall 3 mf (aC ca (aC cb (aC cc aN))) ρ h = .ok d h1 := by
  rw [q_eCall, q_aC, ea, bind_ok', q_aC, eb, bind_ok', q_aC, ec, bind_ok', q_aN, bind_ok', bind_ok', bind_ok', bind_ok']
  show (if decide (3 = 3) = true then mf [x, y, z] h else .bad) = _
  rw [if_pos (decide_eq_true rfl), m]
theorem call2 {mf : List D → M D} {ce cf : Env → M D} {ρ : Env} {h h1 h2 h3 : Hs} {x y d : D} (e : ce ρ h = .ok x h1) (f : cf ρ h1 = .ok y h2) (m : mf [x, y] h2 = .ok d h3) : eCall 2 mf (aC ce (aC cf aN)) ρ h = .ok d h3 := by
  rw [q_eCall, q_aC, e, bind_ok', q_aC, f, bind_ok', q_aN, bind_ok', bind_ok', bind_ok']
  show (if decide (2 = 2) = true then mf [x, y] h2 else .bad) = _
  rw [if_pos (decide_eq_true rfl), m]
theorem iSeq_call {cc : Env → M D} {ρ : Env} {h h1 : Hs} {xs : List D} (e : cc ρ h = .ok (.lst xs) h1) : iSeq cc ρ h = .ok ⟨xs, []⟩ h1 := by
  rw [q_iSeq, e]
  rfl
theorem part_of {os : List (List Nat)} {k : Nat} {R : Rw3} (e : pl3 R = partP os k) {r : Nat × Nat × List (List Nat)} (hr : r ∈ R) : (r.1, r.2.2) ∈ partQ os k := by
  rw [← part_eq, ← e]
  exact List.mem_map_of_mem (f := fun r : Nat × Nat × List (List Nat) => (r.1, r.2.2)) hr
/-- a part: its list, its orders -/
structure PartAt (n k m : Nat) (os : List (List Nat)) (g : Hs) (r : Nat × Nat × List (List Nat)) : Prop where
  li : ListN g m (.obj r.2.1) (r.2.2.map lotD)
  gd : Gd n r.2.2 (k + 1)
  ln : ∀ o ∈ r.2.2, o.length = n
  le : r.2.2.length ≤ os.length
  ne : r.2.2 ≠ []
end Pl

/-! k09: _law_floor, _law_by_floors -/
namespace Pl
open Dl Sh
local instance : Dl.Tb := ⟨fun _ => []⟩

/-- the parts as laid -/
theorem parts_at {n k m : Nat} {os : List (List Nat)} {h h1 : Hs} {R : Rw3} (gd : Gd n os k) (hn : ∀ o ∈ os, o.length = n) (eR : pl3 R = partP os k) (cl : ∀ r ∈ R, h1[r.2.1]? = some (.lst (r.2.2.map lotD))) (gtR : ∀ r ∈ R, h.length < r.2.1) (mlt : m < h.length) {g : Hs} (gk : Gk m h1 g) {r : Nat × Nat × List (List Nat)} (hm : r ∈ R) : PartAt n k m os g r := by
  have pm := part_of eR hm
  obtain ⟨pe, pne⟩ := partQ_mem pm
  have nem : r.2.1 ≠ m := by have := gtR r hm; omega
  refine ⟨⟨.inr ⟨_, rfl, gk.at nem (cl r hm)⟩, fun j e => by cases e; exact nem⟩, gd.part (r := (r.1, r.2.2)) pm, fun o ho => ?_, ?_, pne⟩
  · have : r.2.2 = os.filter (stB k r.1) := pe
    rw [this] at ho
    exact hn o (List.mem_filter.mp ho).1
  · have : r.2.2 = os.filter (stB k r.1) := pe
    rw [this]
    exact List.length_filter_le _ _
/-! ### to take by floors -/
end Pl

/-! k09: rank_floors; by floors -/
namespace Pl
open Dl Sh
local instance : Dl.Tb := ⟨fun _ => []⟩

end Pl

/-! k09: _law_by_floors -/
namespace Pl
open Dl Sh
local instance : Dl.Tb := ⟨fun _ => []⟩

/-! ### the chain of parts, the numbers -/
end Pl

/-! k08: what is kept by (order, at, left) -/
namespace Pl
open Dl Sh
local instance : Dl.Tb := ⟨fun _ => []⟩

def keyM (l : List Nat) (x y : Int) : PySem.NestedKey := .tup [.tup (l.map fun m => .num (m : Nat)), .num x, .num y]
theorem keyM_inj {l l' : List Nat} {x x' y y' : Int} (e : keyM l x y = keyM l' x' y') : l = l' ∧ x = x' ∧ y = y' := by
  unfold keyM at e
  injection e with e
  injection e with e1 e2
  injection e1 with e1
  injection e2 with e2 e3
  injection e2 with e2
  injection e3 with e3 _
  injection e3 with e3
  exact ⟨num_inj e1, e2, e3⟩
theorem nkT_keyM (l : List Nat) (x y : Int) : nkT (.tup [lotD l, .int x, .int y]) = some (keyM l x y) := by
  show (optAll (nkOf 3) [lotD l, .int x, .int y]).map PySem.NestedKey.tup = _
  have e1 : nkOf 3 (lotD l) = some (.tup (l.map fun m => .num (m : Nat))) := by
    show (optAll (nkOf 2) (l.map fun m => D.int (m : Nat))).map PySem.NestedKey.tup = _
    rw [nk_nums]
    rfl
  have e2 : nkOf 3 (.int x) = some (.num x) := rfl
  have e3 : nkOf 3 (.int y) = some (.num y) := rfl
  unfold optAll
  rw [e1]
  unfold optAll
  rw [e2]
  unfold optAll
  rw [e3]
  rfl
theorem nodup_sub {α : Type} [DecidableEq α] : ∀ (l L : List α), l.Nodup → (∀ x ∈ l, x ∈ L) → l.length ≤ L.length
  | [], L, _, _ => Nat.zero_le _
  | a :: l, L, nd, h => by
    rw [List.nodup_cons] at nd
    have ha := h a List.mem_cons_self
    have z := nodup_sub l (L.erase a) nd.2 fun x hx => by
      have hx' := h x (List.mem_cons_of_mem _ hx)
      have ne : x ≠ a := fun e => nd.1 (e ▸ hx)
      exact (List.mem_erase_of_ne ne).mpr hx'
    rw [List.length_erase_of_mem ha] at z
    have := List.length_pos_of_mem ha
    rw [List.length_cons]
    omega
/-- all keys that can be met -/
def keysM (n : Nat) : List PySem.NestedKey := (ordAll n).flatMap fun o => (List.range (n + 1)).flatMap fun x => (List.range (n + 1)).map fun y => keyM o (x : Nat) (y : Nat)
theorem keysM_mem {n x y : Nat} {o : List Nat} (ho : o ∈ ordAll n) (hx : x ≤ n) (hy : y ≤ n) : keyM o (x : Nat) (y : Nat) ∈ keysM n := by
  unfold keysM
  rw [List.mem_flatMap]
  refine ⟨o, ho, ?_⟩
  rw [List.mem_flatMap]
  refine ⟨x, List.mem_range.mpr (by omega), ?_⟩
  exact List.mem_map.mpr ⟨y, List.mem_range.mpr (by omega), rfl⟩
theorem keysM_len (n : Nat) : (keysM n).length = (ordAll n).length * ((n + 1) * (n + 1)) := by
  have a : ∀ (o : List Nat) (l : List Nat), (l.flatMap fun x : Nat => (List.range (n + 1)).map fun y => keyM o (x : Nat) (y : Nat)).length = l.length * (n + 1) := fun o l => by
    induction l with
    | nil => simp
    | cons x l ih =>
      rw [List.flatMap_cons, List.length_append, ih, List.length_map, List.length_range, List.length_cons, Nat.succ_mul, Nat.add_comm]
  have b : ∀ L : List (List Nat), (L.flatMap fun o => (List.range (n + 1)).flatMap fun x => (List.range (n + 1)).map fun y => keyM o (x : Nat) (y : Nat)).length = L.length * ((n + 1) * (n + 1)) := fun L => by
    induction L with
    | nil => simp
    | cons o L ih =>
      rw [List.flatMap_cons, List.length_append, ih, a, List.length_range, List.length_cons]
      generalize (n + 1) * (n + 1) = c
      rw [Nat.add_mul, Nat.one_mul, Nat.add_comm]
  exact b _
structure KeptM (F : List Nat → Int → Int → D) (n : Nat) (h : Hs) (m : Nat) : Prop where
  at_ : ∃ kvs, nAt h (.obj m) = some kvs ∧ (kvs.map (·.1)).Nodup ∧ (∀ k ∈ kvs.map (·.1), k ∈ keysM n) ∧ ∀ l x y d, look kvs (keyM l x y) = some d → d = F l x y
section
variable {F : List Nat → Int → Int → D} {h h' : Hs} {n m : Nat} {l : List Nat} {x y : Int}
theorem KeptM.eq (k : KeptM F n h m) (e : h'[m]? = h[m]?) : KeptM F n h' m := by
  obtain ⟨kvs, k1, k2⟩ := k.at_
  exact ⟨kvs, by rw [nAt_eq e]; exact k1, k2⟩
theorem KeptM.lt (k : KeptM F n h m) : m < h.length := by
  obtain ⟨kvs, k1, _⟩ := k.at_
  exact nAt_len k1
theorem KeptM.gb (k : KeptM F n h m) (g : Gb 0 h h') : KeptM F n h' m := k.eq (g.keep m (Nat.zero_le _) k.lt)
theorem KeptM.new (e : h[m]? = some (.dI [])) : KeptM F n h m := by
  refine ⟨[], ?_, by simp, by simp, fun l x y d e => by simp [look] at e⟩
  show (match h[m]? with
    | some (.dN kvs) => some kvs
    | some (.dI []) => some []
    | _ => none) = some []
  rw [e]
theorem KeptM.ask (k : KeptM F n h m) (l : List Nat) (x y : Int) : ∃ b : Bool, ninN (.tup [lotD l, .int x, .int y]) (.obj m) h = .ok (.bl (!b)) h ∧ (b = true → itemN (.obj m) (.tup [lotD l, .int x, .int y]) h = .ok (F l x y) h) := by
  obtain ⟨kvs, k1, _, _, k3⟩ := k.at_
  refine ⟨(look kvs (keyM l x y)).isSome, ?_, fun b => ?_⟩
  · show (match nkT (.tup [lotD l, .int x, .int y]), nAt h (.obj m) with
      | some k, some kvs => Dl.R.ok (D.bl (if true = true then !(look kvs k).isSome else (look kvs k).isSome)) h
      | _, _ => .bad) = _
    rw [nkT_keyM, k1]
    rfl
  · obtain ⟨d, hd⟩ := Option.isSome_iff_exists.mp b
    show (match nkT (.tup [lotD l, .int x, .int y]), nAt h (.obj m) with
      | some k, some kvs => (match look kvs k with
        | some d => Dl.R.ok d h
        | none => .bad)
      | _, _ => .bad) = _
    rw [nkT_keyM, k1]
    show (match look kvs (keyM l x y) with
        | some d => Dl.R.ok d h
        | none => .bad) = _
    rw [hd, k3 l x y d hd]
theorem putN_keys (kvs : List (PySem.NestedKey × D)) (k : PySem.NestedKey) (d : D) : (putN kvs k d).map (·.1) = kvs.map (·.1) ∨ (k ∉ kvs.map (·.1) ∧ (putN kvs k d).map (·.1) = kvs.map (·.1) ++ [k]) := by
  unfold putN
  by_cases s : (look kvs k).isSome = true
  · rw [if_pos s, List.map_map]
    refine .inl (List.map_congr_left fun p _ => ?_)
    show (if p.1 = k then (p.1, d) else p).1 = p.1
    split <;> rfl
  · rw [if_neg s, List.map_append]
    refine .inr ⟨fun hm => s ?_, rfl⟩
    obtain ⟨p, hp, e⟩ := List.mem_map.mp hm
    have : (kvs.find? fun q => decide (q.1 = k)).isSome = true := by
      rw [List.find?_isSome]
      exact ⟨p, hp, decide_eq_true e⟩
    unfold look
    rw [Option.isSome_map]
    exact this
theorem KeptM.put (k : KeptM F n h m) (hk : keyM l x y ∈ keysM n) (hL : (keysM n).length < 16777216) : ∃ kvs, nAt h (.obj m) = some kvs ∧ kvs.length < 16777216 ∧ KeptM F n (h.set m (.dN (putN kvs (keyM l x y) (F l x y)))) m ∧
    itemN (.obj m) (.tup [lotD l, .int x, .int y]) (h.set m (.dN (putN kvs (keyM l x y) (F l x y)))) = .ok (F l x y) (h.set m (.dN (putN kvs (keyM l x y) (F l x y)))) := by
  obtain ⟨kvs, k1, nd, km, k3⟩ := k.at_
  have ln := nAt_len k1
  have le := nodup_sub _ _ nd km
  rw [List.length_map] at le
  refine ⟨kvs, k1, by omega, ⟨_, nAt_set ln, ?_, ?_, fun l' x' y' d e => ?_⟩, ?_⟩
  · rcases putN_keys kvs (keyM l x y) (F l x y) with e | ⟨ni, e⟩
    · rw [e]; exact nd
    · rw [e, List.nodup_append]
      refine ⟨nd, by simp, fun a ha b hb => ?_⟩
      rw [List.mem_singleton.mp hb]
      exact fun z => ni (z ▸ ha)
  · rcases putN_keys kvs (keyM l x y) (F l x y) with e | ⟨ni, e⟩
    · rw [e]; exact km
    · rw [e]
      intro a ha
      rcases List.mem_append.mp ha with ha | ha
      · exact km a ha
      · rw [List.mem_singleton.mp ha]; exact hk
  · rw [look_put] at e
    split at e
    · rename_i z
      obtain ⟨rfl, rfl, rfl⟩ := keyM_inj z
      exact (Option.some.inj e).symm
    · exact k3 l' x' y' d e
  · show (match nkT (.tup [lotD l, .int x, .int y]), nAt (h.set m (.dN (putN kvs (keyM l x y) (F l x y)))) (.obj m) with
      | some k, some kvs => (match look kvs k with
        | some d => Dl.R.ok d (h.set m (.dN (putN _ (keyM l x y) (F l x y))))
        | none => .bad)
      | _, _ => .bad) = _
    rw [nkT_keyM, nAt_set ln]
    show (match look (putN kvs (keyM l x y) (F l x y)) (keyM l x y) with
        | some d => Dl.R.ok d _
        | none => .bad) = _
    rw [look_put, if_pos rfl]
end
/-! ### the best rule with picks -/
def winsP (n : Nat) : Nat → List (List Nat) → Nat → Nat → Nat
  | 0, _, _, _ => 0
  | d + 1, os, k, left => if left = 0 then 0 else ((partQ os k).map fun r => if r.1 = 1 then max (winsP n d r.2 (k + 1) left) (firstN r.2 k + winsP n d r.2 (k + 1) (left - 1)) else winsP n d r.2 (k + 1) left).sum
theorem winsP_s (n d : Nat) (os : List (List Nat)) (k left : Nat) : winsP n (d + 1) os k left = if left = 0 then 0 else ((partQ os k).map fun r => if r.1 = 1 then max (winsP n d r.2 (k + 1) left) (firstN r.2 k + winsP n d r.2 (k + 1) (left - 1)) else winsP n d r.2 (k + 1) left).sum := by
  rw [winsP]
theorem winsP_0 (n d : Nat) (os : List (List Nat)) (k : Nat) : winsP n d os k 0 = 0 := by
  cases d with
  | zero => rfl
  | succ d => rw [winsP_s, if_pos rfl]
def FM (n : Nat) (l : List Nat) (x y : Int) : D := .int (winsP n (n - x.toNat) (grp n l x.toNat) x.toNat y.toNat : Nat)
end Pl

/-! k08: _law_wins, _law_taken -/
namespace Pl
open Dl Sh
local instance : Dl.Tb := ⟨fun _ => []⟩

def wkBody (rec : List D → M D) : SM := sSeq (sSet 8 (eCall 4 rec (aC (eV 7) (aC (e2 addD (eV 1) (eC (.int 1))) (aC (eV 2) (aC (eV 3) aN)))))) (sSet 5 (e2 addD (eV 5) (ifV (tst (e2 eqD (eV 6) (eC (.int 1)))) (eBf maxD (aC (eV 8) (aC (eCall 4 (m__law_taken rec) (aC (eV 7) (aC (eV 1) (aC (eV 2) (aC (eV 3) aN))))) aN))) (eV 8))))
theorem wk_code (rec : List D → M D) : c__law_wins_v2 rec = sSeq (sIf (orT (tst (e2 eqD (eV 1) (eBf lenD (aC (e2 itemD (eV 0) (eC (.int 0))) aN)))) (tst (e2 eqD (eV 2) (eC (.int 0))))) (sRet (eC (.int 0))) (sPass)) (sSeq (sSet 4 (eTup (aC (e2 itemD (eV 0) (eC (.int 0))) (aC (eV 1) (aC (eV 2) aN))))) (sSeq (sIf (tst (e2 ninN (eV 4) (eV 3))) (sSeq (sSet 5 (eC (.int 0))) (sSeq (sFor (iSeq (eCall 2 m__law_parted (aC (eV 0) (aC (eV 1) aN)))) (.tp [.nm 6, .nm 7]) (wkBody rec)) (sStoreN (eV 5) (eV 3) (eV 4)))) (sPass)) (sRet (e2 itemN (eV 3) (eV 4))))) := rfl
theorem call4 {mf : List D → M D} {ca cb cc cd : Env → M D} {ρ : Env} {h h1 : Hs} {x y z u d : D} (ea : ca ρ h = .ok x h) (eb : cb ρ h = .ok y h) (ec : cc ρ h = .ok z h) (ed : cd ρ h = .ok u h) (m : mf [x, y, z, u] h = .ok d h1) : eCall 4 mf (aC ca (aC cb (aC cc (aC cd aN)))) ρ h = .ok d h1 := by
  rw [q_eCall, q_aC, ea, bind_ok', q_aC, eb, bind_ok', q_aC, ec, bind_ok', q_aC, ed, bind_ok', q_aN, bind_ok', bind_ok', bind_ok', bind_ok', bind_ok']
  show (if decide (4 = 4) = true then mf [x, y, z, u] h else .bad) = _
  rw [if_pos (decide_eq_true rfl), m]
theorem first_comp4 {h : Hs} {x : D} {os : List (List Nat)} {n k : Nat} {a2 a3 : Option D} (la : ListAt h x (os.map lotD)) (hn : ∀ o ∈ os, o.length = n) (kn : k < n) (l : os.length ≤ 1000) :
    nLc (iSeq (eV 0)) (.nm 4) [4] (tst (e2 eqD (e2 itemD (eV 4) (eV 1)) (eC (.int 0)))) (eV 4) [some x, some (.int (k : Nat)), a2, a3, none] h = .ok ((os.filter fun o => decide (o.getD k 0 = 0)).map lotD) h :=
  compTG (g := lotD) (f := lotD) (t := fun o => decide (o.getD k 0 = 0)) (cx := eV 0) (x := x) rfl la (by omega) fun o ho => by
    have it := it_ord (o := o) (a := k) (by have := hn o ho; omega) (h := h)
    refine ⟨[some x, some (.int (k : Nat)), a2, a3, some (lotD o)], rfl, ?_, fun _ => rfl⟩
    have v4 : eV 4 [some x, some (.int (k : Nat)), a2, a3, some (lotD o)] h = .ok (lotD o) h := rfl
    have v1 : eV 1 [some x, some (.int (k : Nat)), a2, a3, some (lotD o)] h = .ok (.int (k : Nat)) h := rfl
    have dd : decide (((o.getD k 0 : Nat) : Int) = 0) = decide (o.getD k 0 = 0) := decide_eq_decide.mpr (by omega)
    rw [q_tst, q_e2, q_e2, v4, bind_ok', v1, bind_ok', it, bind_ok', q_eC, bind_ok', eqD_ii, bind_ok']
    show Dl.R.ok (decide (((o.getD k 0 : Nat) : Int) = 0)) h = _
    rw [dd]
theorem taken_spec {rec : List D → M D} {x : D} {os : List (List Nat)} {n k left m w : Nat} {h h' : Hs} (la : ListAt h x (os.map lotD)) (hn : ∀ o ∈ os, o.length = n) (kn : k < n) (l : os.length ≤ 1000) (l1 : 1 ≤ left)
    (e : rec [x, .int ((k + 1 : Nat) : Int), .int ((left - 1 : Nat) : Int), .obj m] h = .ok (.int (w : Nat)) h') :
    m__law_taken rec [x, .int (k : Nat), .int (left : Nat), .obj m] h = .ok (.int ((firstN os k + w : Nat) : Int)) h' := by
  refine mdef_ret ?_
  have en : ent 5 [x, D.int (k : Nat), .int (left : Nat), .obj m] = [some x, some (.int (k : Nat)), some (.int (left : Nat)), some (.obj m), none] := rfl
  rw [en]
  unfold c__law_taken
  have c := first_comp4 (a2 := some (.int (left : Nat))) (a3 := some (.obj m)) la hn kn l
  have ek : (k : Int) + 1 = ((k + 1 : Nat) : Int) := by omega
  have el : (left : Int) - 1 = ((left - 1 : Nat) : Int) := by omega
  have v1 : eV 1 [some x, some (.int (k : Nat)), some (.int (left : Nat)), some (.obj m), none] h = .ok (.int (k : Nat)) h := rfl
  have v2 : eV 2 [some x, some (.int (k : Nat)), some (.int (left : Nat)), some (.obj m), none] h = .ok (.int (left : Nat)) h := rfl
  have cl : eCall 4 rec (aC (eV 0) (aC (e2 addD (eV 1) (eC (.int 1))) (aC (e2 subD (eV 2) (eC (.int 1))) (aC (eV 3) aN)))) [some x, some (.int (k : Nat)), some (.int (left : Nat)), some (.obj m), none] h = .ok (.int (w : Nat)) h' := by
    refine call4 (x := x) rfl (y := .int ((k + 1 : Nat) : Int)) ?_ (z := .int ((left - 1 : Nat) : Int)) ?_ (u := .obj m) rfl e
    · rw [q_e2, v1, bind_ok', q_eC, bind_ok', addD_ii, ek]
    · rw [q_e2, v2, bind_ok', q_eC, bind_ok', subD_ii, el]
  rw [q_sRet, q_e2, q_eBf, q_aC, q_frz, c, bind_ok', bind_ok', q_aN, bind_ok', bind_ok', lenD_lst, bind_ok', cl, bind_ok', addD_ii, List.length_map]
  rfl
theorem wk_step {n : Nat} (n6 : n ≤ 6) {d k left : Nat} {rec : List D → M D} {m : Nat} {os : List (List Nat)} {r : Nat × Nat × List (List Nat)} {g : Hs} {x : D} {t : Nat} {a4 a8 : Option D} (kn : k < n) (l1 : 1 ≤ left) (P : PartAt n k m os g r) (lo : os.length ≤ 1000) (K : KeptM (FM n) n g m)
    (ih : ∀ g lf, lf ≤ left → ListN g m (.obj r.2.1) (r.2.2.map lotD) → KeptM (FM n) n g m → ∃ g', rec [.obj r.2.1, .int ((k + 1 : Nat) : Int), .int (lf : Nat), .obj m] g = .ok (.int (winsP n d r.2.2 (k + 1) lf : Nat)) g' ∧ Gk m g g' ∧ KeptM (FM n) n g' m) :
    WpS (wkBody rec [some x, some (.int (k : Nat)), some (.int (left : Nat)), some (.obj m), a4, some (.int (t : Nat)), some (.int (r.1 : Nat)), some (.obj r.2.1), a8] g) (fun ρ g' => Gk m g g' ∧ KeptM (FM n) n g' m ∧ ∃ b8, ρ = [some x, some (.int (k : Nat)), some (.int (left : Nat)), some (.obj m), a4, some (.int ((t + (if r.1 = 1 then max (winsP n d r.2.2 (k + 1) left) (firstN r.2.2 k + winsP n d r.2.2 (k + 1) (left - 1)) else winsP n d r.2.2 (k + 1) left) : Nat) : Int)), some (.int (r.1 : Nat)), some (.obj r.2.1), b8]) fun _ _ => False := by
  obtain ⟨g1, e1, gk1, K1⟩ := ih g left (Nat.le_refl _) P.li K
  have li1 := P.li.gk gk1
  obtain ⟨g2, ep, gk2, K2⟩ := ih g1 (left - 1) (by omega) li1 K1
  have tk := taken_spec li1.1 P.ln kn (by have := P.le; omega) l1 ep
  generalize winsP n d r.2.2 (k + 1) left = w at e1
  generalize firstN r.2.2 k + winsP n d r.2.2 (k + 1) (left - 1) = u at tk
  have ek : (k : Int) + 1 = ((k + 1 : Nat) : Int) := by omega
  have v1 : eV 1 [some x, some (.int (k : Nat)), some (.int (left : Nat)), some (.obj m), a4, some (.int (t : Nat)), some (.int (r.1 : Nat)), some (.obj r.2.1), a8] g = .ok (.int (k : Nat)) g := rfl
  have c1 : eCall 4 rec (aC (eV 7) (aC (e2 addD (eV 1) (eC (.int 1))) (aC (eV 2) (aC (eV 3) aN)))) [some x, some (.int (k : Nat)), some (.int (left : Nat)), some (.obj m), a4, some (.int (t : Nat)), some (.int (r.1 : Nat)), some (.obj r.2.1), a8] g = .ok (.int (w : Nat)) g1 := by
    refine call4 (x := .obj r.2.1) rfl (y := .int ((k + 1 : Nat) : Int)) ?_ (z := .int (left : Nat)) rfl (u := .obj m) rfl e1
    rw [q_e2, v1, bind_ok', q_eC, bind_ok', addD_ii, ek]
  unfold wkBody
  rw [wps_seq, q_sSet, c1, then_ok, wps_nx]
  simp only [List.set_cons_zero, List.set_cons_succ]
  have v5 : ∀ g : Hs, eV 5 [some x, some (.int (k : Nat)), some (.int (left : Nat)), some (.obj m), a4, some (.int (t : Nat)), some (.int (r.1 : Nat)), some (.obj r.2.1), some (.int (w : Nat))] g = .ok (.int (t : Nat)) g := fun _ => rfl
  have v6 : ∀ g : Hs, eV 6 [some x, some (.int (k : Nat)), some (.int (left : Nat)), some (.obj m), a4, some (.int (t : Nat)), some (.int (r.1 : Nat)), some (.obj r.2.1), some (.int (w : Nat))] g = .ok (.int (r.1 : Nat)) g := fun _ => rfl
  have v8 : ∀ g : Hs, eV 8 [some x, some (.int (k : Nat)), some (.int (left : Nat)), some (.obj m), a4, some (.int (t : Nat)), some (.int (r.1 : Nat)), some (.obj r.2.1), some (.int (w : Nat))] g = .ok (.int (w : Nat)) g := fun _ => rfl
  have tt : tst (e2 eqD (eV 6) (eC (.int 1))) [some x, some (.int (k : Nat)), some (.int (left : Nat)), some (.obj m), a4, some (.int (t : Nat)), some (.int (r.1 : Nat)), some (.obj r.2.1), some (.int (w : Nat))] g1 = .ok (decide (r.1 = 1)) g1 := by
    have dd : decide (((r.1 : Nat) : Int) = 1) = decide (r.1 = 1) := decide_eq_decide.mpr (by omega)
    simp only [q_tst, q_e2, v6, q_eC, bind_ok', eqD_ii, truD_bl, dd]
  by_cases z : r.1 = 1
  · rw [decide_eq_true z] at tt
    have c2 : eCall 4 (m__law_taken rec) (aC (eV 7) (aC (eV 1) (aC (eV 2) (aC (eV 3) aN)))) [some x, some (.int (k : Nat)), some (.int (left : Nat)), some (.obj m), a4, some (.int (t : Nat)), some (.int (r.1 : Nat)), some (.obj r.2.1), some (.int (w : Nat))] g1 = .ok (.int (u : Nat)) g2 := call4 (x := .obj r.2.1) rfl (y := .int (k : Nat)) rfl (z := .int (left : Nat)) rfl (u := .obj m) rfl tk
    have mx : maxD [.int (w : Nat), .int (u : Nat)] g2 = .ok (.int ((max w u : Nat) : Int)) g2 := by
      rw [maxD2]
      congr 2
      omega
    rw [if_pos z, q_sSet, q_e2, v5, bind_ok', q_ifV, tt, bind_ok', if_pos rfl, q_eBf, q_aC, v8, bind_ok', q_aC, c2, bind_ok', q_aN, bind_ok', bind_ok', bind_ok', mx, bind_ok', addD_ii, then_ok, wps_nx]
    refine ⟨gk1.trans gk2, K2, some (.int (w : Nat)), ?_⟩
    simp only [List.set_cons_zero, List.set_cons_succ, Int.natCast_add]
  · rw [decide_eq_false z] at tt
    rw [if_neg z, q_sSet, q_e2, v5, bind_ok', q_ifV, tt, bind_ok', if_neg Bool.false_ne_true, v8, bind_ok', addD_ii, then_ok, wps_nx]
    refine ⟨gk1, K1, some (.int (w : Nat)), ?_⟩
    simp only [List.set_cons_zero, List.set_cons_succ, Int.natCast_add]
theorem winsM_spec {n : Nat} (n6 : n ≤ 6) (hL : (keysM n).length < 16777216) : ∀ (f : Nat) (os : List (List Nat)) (k left m : Nat) (x : D) (h : Hs), ListN h m x (os.map lotD) → Gd n os k → (∀ o ∈ os, o.length = n) → k ≤ n → left ≤ n → os.length ≤ 1000 → n + 1 ≤ f + k → KeptM (FM n) n h m →
    ∃ h', r__law_wins_v2 f [x, .int (k : Nat), .int (left : Nat), .obj m] h = .ok (.int (winsP n (n - k) os k left : Nat)) h' ∧ Gk m h h' ∧ KeptM (FM n) n h' m
  | 0, os, k, left, m, x, h, _, _, _, kn, _, _, hf, _ => by omega
  | f + 1, os, k, left, m, x, h, li, gd, hn, kn, ln, lo, hf, K => by
    obtain ⟨o0, ho0, eo⟩ := id gd
    have l0 : o0.length = n := hn o0 (List.mem_of_getElem? ho0)
    have i0 : itemD x (.int 0) h = .ok (lotD o0) h := item_la2 (i := 0) li.1 (by rw [List.getElem?_map, ho0]; rfl)
    have en : ent 9 [x, D.int (k : Nat), .int (left : Nat), .obj m] = [some x, some (.int (k : Nat)), some (.int (left : Nat)), some (.obj m), none, none, none, none, none] := rfl
    suffices w : Wp (r__law_wins_v2 (f + 1) [x, .int (k : Nat), .int (left : Nat), .obj m] h) fun v h' => v = .int (winsP n (n - k) os k left : Nat) ∧ Gk m h h' ∧ KeptM (FM n) n h' m by
      obtain ⟨v, h', e, rfl, g⟩ := wp_ex w
      exact ⟨h', e, g⟩
    show Wp (mDef 9 (c__law_wins_v2 (r__law_wins_v2 f)) [x, .int (k : Nat), .int (left : Nat), .obj m] h) _
    rw [wp_def, en, wk_code, wps_seq]
    have v0 : eV 0 [some x, some (.int (k : Nat)), some (.int (left : Nat)), some (.obj m), none, none, none, none, none] h = .ok x h := rfl
    have v1 : eV 1 [some x, some (.int (k : Nat)), some (.int (left : Nat)), some (.obj m), none, none, none, none, none] h = .ok (.int (k : Nat)) h := rfl
    have v2 : eV 2 [some x, some (.int (k : Nat)), some (.int (left : Nat)), some (.obj m), none, none, none, none, none] h = .ok (.int (left : Nat)) h := rfl
    have t0 : orT (tst (e2 eqD (eV 1) (eBf lenD (aC (e2 itemD (eV 0) (eC (.int 0))) aN)))) (tst (e2 eqD (eV 2) (eC (.int 0)))) [some x, some (.int (k : Nat)), some (.int (left : Nat)), some (.obj m), none, none, none, none, none] h = .ok (decide (k = n ∨ left = 0)) h := by
      by_cases a : k = n
      · have dd : decide ((k : Int) = (n : Int)) = true := decide_eq_true (by omega)
        rw [decide_eq_true (.inl a)]
        simp only [q_orT, q_tst, q_e2, q_eBf, q_aC, q_aN, q_eC, v0, v1, bind_ok', i0, len_ord, l0, eqD_ii, dd, truD_bl, ↓reduceIte]
      · have dd : decide ((k : Int) = (n : Int)) = false := decide_eq_false (by omega)
        have d2 : decide ((left : Int) = 0) = decide (k = n ∨ left = 0) := decide_eq_decide.mpr ⟨fun z => .inr (by omega), fun z => by omega⟩
        simp only [q_orT, q_tst, q_e2, q_eBf, q_aC, q_aN, q_eC, v0, v1, v2, bind_ok', i0, len_ord, l0, eqD_ii, dd, truD_bl, Bool.false_eq_true, ↓reduceIte, d2]
    rw [q_sIf, t0, then_ok]
    by_cases st : k = n ∨ left = 0
    · rw [decide_eq_true st, if_pos rfl, q_sRet, q_eC, then_ok, wps_ret]
      have w0 : winsP n (n - k) os k left = 0 := by
        rcases st with a | a
        · rw [a, Nat.sub_self]; rfl
        · rw [a, winsP_0]
      rw [w0]
      exact ⟨rfl, .refl, K⟩
    · rw [decide_eq_false st, if_neg Bool.false_ne_true]
      have klt : k < n := by omega
      have l1 : 1 ≤ left := by omega
      obtain ⟨d, hd⟩ : ∃ d, n - k = d + 1 := ⟨n - k - 1, by omega⟩
      have fr0 : FM n o0 (k : Nat) (left : Nat) = .int (winsP n (n - k) os k left : Nat) := by
        unfold FM
        rw [show ((k : Nat) : Int).toNat = k by omega, show ((left : Nat) : Int).toNat = left by omega, ← eo]
      have okey : keyM o0 (k : Nat) (left : Nat) ∈ keysM n := by
        refine keysM_mem ?_ (by omega) ln
        have := List.mem_of_getElem? ho0
        rw [eo] at this
        exact grp_sub o0 this
      simp only [sPass, wps_nx]
      rw [wps_seq]
      have pl : eTup (aC (e2 itemD (eV 0) (eC (.int 0))) (aC (eV 1) (aC (eV 2) aN))) [some x, some (.int (k : Nat)), some (.int (left : Nat)), some (.obj m), none, none, none, none, none] h = .ok (.tup [lotD o0, .int (k : Nat), .int (left : Nat)]) h := by
        simp only [q_eTup, q_aC, q_e2, q_eC, q_aN, v0, v1, v2, bind_ok', i0, List.length_cons, List.length_nil, Nat.reduceAdd, zero_add', okL3, ↓reduceIte]
      rw [q_sSet, pl, then_ok, wps_nx, wps_seq]
      simp only [List.set_cons_zero, List.set_cons_succ]
      obtain ⟨b, ni, it⟩ := K.ask o0 (k : Nat) (left : Nat)
      have w4 : eV 4 [some x, some (.int (k : Nat)), some (.int (left : Nat)), some (.obj m), some (.tup [lotD o0, .int (k : Nat), .int (left : Nat)]), none, none, none, none] h = .ok (.tup [lotD o0, .int (k : Nat), .int (left : Nat)]) h := rfl
      have w3 : eV 3 [some x, some (.int (k : Nat)), some (.int (left : Nat)), some (.obj m), some (.tup [lotD o0, .int (k : Nat), .int (left : Nat)]), none, none, none, none] h = .ok (.obj m) h := rfl
      have ts : tst (e2 ninN (eV 4) (eV 3)) [some x, some (.int (k : Nat)), some (.int (left : Nat)), some (.obj m), some (.tup [lotD o0, .int (k : Nat), .int (left : Nat)]), none, none, none, none] h = .ok (!b) h := by
        rw [q_tst, q_e2, w4, bind_ok', w3, bind_ok', ni]
        rfl
      rw [q_sIf, ts, then_ok]
      cases b with
      | true =>
        rw [Bool.not_true, if_neg Bool.false_ne_true]
        simp only [sPass, wps_nx]
        have it := it rfl
        rw [q_sRet, q_e2, w3, bind_ok', w4, bind_ok', it, then_ok, wps_ret]
        exact ⟨fr0, .refl, K⟩
      | false =>
        rw [Bool.not_false, if_pos rfl, wps_seq, q_sSet, q_eC, then_ok, wps_nx, wps_seq]
        simp only [List.set_cons_zero, List.set_cons_succ]
        obtain ⟨v, h1, e1, R, eR, ev, cl, g1, lR, gtR⟩ := wp_ex (parted_spec li.1 hn klt n6 lo)
        subst ev
        have is := iSeq_call (cc := eCall 2 m__law_parted (aC (eV 0) (aC (eV 1) aN))) (ρ := [some x, some (.int (k : Nat)), some (.int (left : Nat)), some (.obj m), some (.tup [lotD o0, .int (k : Nat), .int (left : Nat)]), some (.int 0), none, none, none]) (h := h) (h1 := h1) (xs := R.map fun r => D.tup [.int (r.1 : Nat), .obj r.2.1]) (call2 (x := x) (y := .int (k : Nat)) rfl rfl e1)
        have K1 : KeptM (FM n) n h1 m := K.gb g1
        have mlt := K.lt
        rw [wps_for, is, wp_ok]
        refine wps_loop (fun j ρ g => Gk m h1 g ∧ KeptM (FM n) n g m ∧ ∃ a6 a7 a8, ρ = [some x, some (.int (k : Nat)), some (.int (left : Nat)), some (.obj m), some (.tup [lotD o0, .int (k : Nat), .int (left : Nat)]), some (.int ((((pl3 (R.take j)).map fun r => if r.1 = 1 then max (winsP n d r.2 (k + 1) left) (firstN r.2 k + winsP n d r.2 (k + 1) (left - 1)) else winsP n d r.2 (k + 1) left).sum : Nat) : Int)), a6, a7, a8]) _ 0 _ _ ?_ ?_ ⟨.refl, K1, _, _, _, rfl⟩
        · rintro j y ρ g hy ⟨gk, Kg, a6, a7, a8, rfl⟩
          rw [Nat.zero_add]
          rw [List.getElem?_map] at hy
          obtain ⟨r, hr, rfl⟩ : ∃ r, R[j]? = some r ∧ D.tup [.int (r.1 : Nat), .obj r.2.1] = y := by
            cases z : R[j]? with
            | none => rw [z] at hy; cases hy
            | some r => rw [z] at hy; exact ⟨r, rfl, by injection hy⟩
          have hm := List.mem_of_getElem? hr
          have pm := part_of eR hm
          obtain ⟨pe, pne⟩ := partQ_mem pm
          have nem : r.2.1 ≠ m := by have := gtR r hm; omega
          have P : PartAt n k m os g r := by
            refine ⟨⟨.inr ⟨_, rfl, gk.at nem (cl r hm)⟩, fun j e => by cases e; exact nem⟩, gd.part (r := (r.1, r.2.2)) pm, fun o ho => ?_, ?_, pne⟩
            · have : r.2.2 = os.filter (stB k r.1) := pe
              rw [this] at ho
              exact hn o (List.mem_filter.mp ho).1
            · have : r.2.2 = os.filter (stB k r.1) := pe
              rw [this]
              exact List.length_filter_le _ _
          refine ⟨rfl, [some x, some (.int (k : Nat)), some (.int (left : Nat)), some (.obj m), some (.tup [lotD o0, .int (k : Nat), .int (left : Nat)]), some (.int ((((pl3 (R.take j)).map fun r => if r.1 = 1 then max (winsP n d r.2 (k + 1) left) (firstN r.2 k + winsP n d r.2 (k + 1) (left - 1)) else winsP n d r.2 (k + 1) left).sum : Nat) : Int)), some (.int (r.1 : Nat)), some (.obj r.2.1), a8], rfl, ?_⟩
          have tk : ((pl3 (R.take (j + 1))).map fun r => if r.1 = 1 then max (winsP n d r.2 (k + 1) left) (firstN r.2 k + winsP n d r.2 (k + 1) (left - 1)) else winsP n d r.2 (k + 1) left).sum = ((pl3 (R.take j)).map fun r => if r.1 = 1 then max (winsP n d r.2 (k + 1) left) (firstN r.2 k + winsP n d r.2 (k + 1) (left - 1)) else winsP n d r.2 (k + 1) left).sum + (if r.1 = 1 then max (winsP n d r.2.2 (k + 1) left) (firstN r.2.2 k + winsP n d r.2.2 (k + 1) (left - 1)) else winsP n d r.2.2 (k + 1) left) := by
            rw [List.take_succ, hr]
            show ((pl3 (R.take j ++ [r])).map _).sum = _
            unfold pl3
            rw [List.map_append, List.map_append, List.sum_append]
            rfl
          rw [tk]
          generalize ((pl3 (R.take j)).map fun r => if r.1 = 1 then max (winsP n d r.2 (k + 1) left) (firstN r.2 k + winsP n d r.2 (k + 1) (left - 1)) else winsP n d r.2 (k + 1) left).sum = t
          generalize hb : wkBody _ _ _ = rb
          have st := wk_step n6 (d := d) (rec := r__law_wins_v2 f) (t := t) (x := x) (a4 := some (.tup [lotD o0, .int (k : Nat), .int (left : Nat)])) (a8 := a8) klt l1 P lo Kg fun g lf hlf lig Kg' => by
            have z := winsM_spec n6 hL f r.2.2 (k + 1) lf m (.obj r.2.1) g lig P.gd P.ln (by omega) (by omega) (by have := P.le; omega) (by omega) Kg'
            rw [show n - (k + 1) = d by omega] at z
            exact z
          rw [hb] at st
          refine wps_mono st (fun ρ g' ⟨gk', K', b8, e⟩ => ?_) fun _ _ z => z.elim
          subst e
          exact ⟨gk.trans gk', K', _, _, _, rfl⟩
        · rintro ρ g ⟨gk, Kg, a6, a7, a8, rfl⟩
          refine ⟨rfl, ?_⟩
          rw [Nat.zero_add, List.length_map, List.take_of_length_le (Nat.le_refl _)]
          have sm : ((pl3 R).map fun r => if r.1 = 1 then max (winsP n d r.2 (k + 1) left) (firstN r.2 k + winsP n d r.2 (k + 1) (left - 1)) else winsP n d r.2 (k + 1) left).sum = winsP n (n - k) os k left := by
            rw [eR, part_eq, hd, winsP_s, if_neg (by omega)]
          rw [sm]
          obtain ⟨kvs, p1, p2, p3, p4⟩ := Kg.put okey hL
          rw [fr0] at p3 p4
          generalize winsP n (n - k) os k left = w at p3 p4
          have u5 : ∀ g : Hs, eV 5 [some x, some (.int (k : Nat)), some (.int (left : Nat)), some (.obj m), some (.tup [lotD o0, .int (k : Nat), .int (left : Nat)]), some (.int (w : Nat)), a6, a7, a8] g = .ok (.int (w : Nat)) g := fun _ => rfl
          have u4 : ∀ g : Hs, eV 4 [some x, some (.int (k : Nat)), some (.int (left : Nat)), some (.obj m), some (.tup [lotD o0, .int (k : Nat), .int (left : Nat)]), some (.int (w : Nat)), a6, a7, a8] g = .ok (.tup [lotD o0, .int (k : Nat), .int (left : Nat)]) g := fun _ => rfl
          have u3 : ∀ g : Hs, eV 3 [some x, some (.int (k : Nat)), some (.int (left : Nat)), some (.obj m), some (.tup [lotD o0, .int (k : Nat), .int (left : Nat)]), some (.int (w : Nat)), a6, a7, a8] g = .ok (.obj m) g := fun _ => rfl
          rw [q_sStoreN, u5, then_ok, u3, then_ok, u4, then_ok, nkT_keyM, p1]
          show WpS (if decide (kvs.length < 16777216) = true then _ else _) _ _
          rw [if_pos (decide_eq_true p2), wps_nx, q_sRet, q_e2, u3, bind_ok', u4, bind_ok', p4, then_ok, wps_ret]
          exact ⟨rfl, ((Gk.of0 g1).trans gk).trans .set, p3⟩
end Pl

/-! k08: _law_from -/
namespace Pl
open Dl Sh
local instance : Dl.Tb := ⟨fun _ => []⟩

theorem wp_lcFG {α : Type} {gd : α → D} {f : α → D} {p : Pat} {ce : Env → M D} {gs : List (Nat × List D)} {ρ : Env} (I : Nat → Hs → Prop) (og : ∀ i h, I i h → okG gs h = true) : ∀ (xs : List α) (i : Nat) (h : Hs) {Q : List D → Hs → Prop},
    (∀ j x h, xs[j]? = some x → I (i + j) h → ∃ ρ1, patD p (gd x) ρ = some ρ1 ∧ Wp (ce ρ1 h) fun d h' => d = f x ∧ I (i + j + 1) h') → I i h → (∀ h', I (i + xs.length) h' → Q (xs.map f) h') → Wp (lcF p tYes' ce gs ρ (xs.map gd) h) Q
  | [], i, h, Q, _, st, k => by
    rw [List.map_nil]
    unfold lcF
    rw [if_pos (og _ _ st)]
    exact k h st
  | x :: xs, i, h, Q, step, st, k => by
    obtain ⟨ρ1, e, b⟩ := step 0 x h rfl st
    rw [List.map_cons]
    unfold lcF
    rw [if_pos (og _ _ st), e]
    show Wp ((ce ρ1 h).nox.bind fun d h2 => (lcF p tYes' ce gs ρ (xs.map gd) h2).bind fun ds h3 => .ok (d :: ds) h3) Q
    rw [wp_bind, wp_nox]
    refine wp_mono b fun d h2 ⟨pd, i2⟩ => ?_
    rw [wp_bind]
    refine wp_lcFG (f := f) I og xs (i + 1) h2 (fun j x h hx hI => ?_) i2 fun h3 hI => ?_
    · have z := step (j + 1) x h (by simpa using hx) (by rw [show i + (j + 1) = i + 1 + j by omega]; exact hI)
      rw [show i + (j + 1) + 1 = i + 1 + j + 1 by omega] at z
      exact z
    · rw [wp_ok, pd]
      exact k _ (by rw [List.length_cons, show i + (xs.length + 1) = i + 1 + xs.length by omega]; exact hI)
/-! ### rows -/
def selR (a p : Nat) (r : Nat × List (List Nat)) : Bool := decide (p < a) || decide (r.1 = 1)
def nextL (a p : Nat) (os : List (List Nat)) : List (List (List Nat)) := ((partQ os p).filter (selR a p)).map (·.2)
def rowsL (n a : Nat) : Nat → List (List (List Nat))
  | 0 => [ordAll n]
  | p + 1 => ((rowsL n a p).map (nextL a p)).flatten
/-- a row of things, and what orders each stands for -/
abbrev Rr := List (D × List (List Nat))
def RowAt (n m lv : Nat) (g : Hs) (q : D × List (List Nat)) : Prop := ListN g m q.1 (q.2.map lotD) ∧ Gd n q.2 lv ∧ (∀ o ∈ q.2, o.length = n) ∧ q.2.length ≤ 1000
theorem RowAt.gk {n m lv : Nat} {g g' : Hs} {q : D × List (List Nat)} (r : RowAt n m lv g q) (k : Gk m g g') : RowAt n m lv g' q := ⟨r.1.gk k, r.2⟩
def ff (os : List (List Nat)) (n a left : Nat) : Bool := decide (winsP n (n - (a + 1)) os (a + 1) left ≤ firstN os a + winsP n (n - (a + 1)) os (a + 1) (left - 1))
def okAt (n left a : Nat) : Bool := (rowsL n a (a + 1)).all fun os => ff os n a left
def fmRow : SM := sExp (eLm extD (eV 6) (aC (frz (nLc (iSeq (eCall 2 m__law_parted (aC (eV 7) (aC (eV 5) aN)))) (.tp [.nm 8, .nm 9]) [8, 9] (orT (tst (e2 ltD (eV 5) (eV 3))) (tst (e2 eqD (eV 8) (eC (.int 1))))) (eV 9))) aN))
def fmPlace : SM := sSeq (sSet 6 (thaw (nLst aN))) (sSeq (sFor (iSeq (eV 4)) (.nm 7) (fmRow)) (sSet 4 (eV 6)))
def fmAll : Env → M D := eBf allD (aC (frz (nLc (iSeq (eV 4)) (.nm 7) [7] (tYes') (e2 geD (eCall 4 (m__law_taken m__law_wins_v2) (aC (eV 7) (aC (eV 3) (aC (eV 1) (aC (eV 2) aN))))) (eCall 4 m__law_wins_v2 (aC (eV 7) (aC (e2 addD (eV 3) (eC (.int 1))) (aC (eV 1) (aC (eV 2) aN)))))))) aN)
def fmAt : SM := sSeq (sSet 4 (frz (nLst (aC (eV 0) aN)))) (sSeq (sFor (iR1 (aC (e2 addD (eV 3) (eC (.int 1))) aN)) (.nm 5) (fmPlace)) (sIf (tru fmAll) (sRet (eV 3)) (sPass)))
theorem fm_code : c__law_from_v4 = sSeq (sFor (iR1 (aC (eBf lenD (aC (e2 itemD (eV 0) (eC (.int 0))) aN)) aN)) (.nm 3) (fmAt)) (sRet (eC .non)) := rfl
/-- one row's parts put behind -/
theorem row_step {n a p m L : Nat} {x y rw' : D} {os : List (List Nat)} {g : Hs} {acc : List D} {a1 a2 a8 a9 : Option D} (n6 : n ≤ 6) (pn : p < n) (r : RowAt n m p g (y, os)) (mlt : m < g.length) (eL : g[L]? = some (.lst acc)) (la : acc.length ≤ 100000) :
    ∃ (g' : Hs) (Q : Rr) (b8 b9 : Option D), fmRow [some x, a1, a2, some (.int (a : Nat)), some rw', some (.int (p : Nat)), some (.obj L), some y, a8, a9] g = .nx [some x, a1, a2, some (.int (a : Nat)), some rw', some (.int (p : Nat)), some (.obj L), some y, b8, b9] g' ∧ g'[L]? = some (.lst (acc ++ Q.map (·.1))) ∧ Q.map (·.2) = nextL a p os ∧ (∀ q ∈ Q, RowAt n m (p + 1) g' q) ∧ g.length ≤ g'.length ∧ (∀ j, j ≠ L → j < g.length → g'[j]? = g[j]?) ∧ Q.length ≤ 64 ∧ ∀ q ∈ Q, ∃ c, q.1 = .obj c ∧ g.length < c := by
  obtain ⟨li, gd, hn, lo⟩ := r
  obtain ⟨v, h1, e1, R, eR, ev, cl, g1, lR, gtR⟩ := wp_ex (parted_spec li.1 hn pn n6 lo)
  subst ev
  have hl := (List.getElem?_eq_some_iff.mp eL).1
  have eL1 : h1[L]? = some (.lst acc) := g1.at (Nat.zero_le _) eL
  have hl1 := (List.getElem?_eq_some_iff.mp eL1).1
  have is := iSeq_call (cc := eCall 2 m__law_parted (aC (eV 7) (aC (eV 5) aN))) (ρ := [some x, a1, a2, some (.int (a : Nat)), some rw', some (.int (p : Nat)), some (.obj L), some y, a8, a9]) (h := g) (h1 := h1) (xs := R.map fun r => D.tup [.int (r.1 : Nat), .obj r.2.1]) (call2 (x := y) (y := .int (p : Nat)) rfl rfl e1)
  have c : nLc (iSeq (eCall 2 m__law_parted (aC (eV 7) (aC (eV 5) aN)))) (.tp [.nm 8, .nm 9]) [8, 9] (orT (tst (e2 ltD (eV 5) (eV 3))) (tst (e2 eqD (eV 8) (eC (.int 1))))) (eV 9) [some x, a1, a2, some (.int (a : Nat)), some rw', some (.int (p : Nat)), some (.obj L), some y, a8, a9] g = .ok ((R.filter fun r => selR a p (r.1, r.2.2)).map fun r => .obj r.2.1) h1 := by
    rw [nLc_eq, is]
    show (if okLen (R.map fun r => D.tup [.int (r.1 : Nat), .obj r.2.1]).length = true then _ else _) = _
    rw [if_pos (okLen_of (by rw [List.length_map]; omega))]
    refine lcTG (g := fun r : Nat × Nat × List (List Nat) => D.tup [.int (r.1 : Nat), .obj r.2.1]) (f := fun r => .obj r.2.1) (t := fun r => selR a p (r.1, r.2.2)) okG_nil fun r hr => ?_
    refine ⟨[some x, a1, a2, some (.int (a : Nat)), some rw', some (.int (p : Nat)), some (.obj L), some y, some (.int (r.1 : Nat)), some (.obj r.2.1)], rfl, ?_, fun _ => rfl⟩
    have v5 : eV 5 [some x, a1, a2, some (.int (a : Nat)), some rw', some (.int (p : Nat)), some (.obj L), some y, some (.int (r.1 : Nat)), some (.obj r.2.1)] h1 = .ok (.int (p : Nat)) h1 := rfl
    have v3 : eV 3 [some x, a1, a2, some (.int (a : Nat)), some rw', some (.int (p : Nat)), some (.obj L), some y, some (.int (r.1 : Nat)), some (.obj r.2.1)] h1 = .ok (.int (a : Nat)) h1 := rfl
    have v8 : eV 8 [some x, a1, a2, some (.int (a : Nat)), some rw', some (.int (p : Nat)), some (.obj L), some y, some (.int (r.1 : Nat)), some (.obj r.2.1)] h1 = .ok (.int (r.1 : Nat)) h1 := rfl
    have d1 : decide ((p : Int) < (a : Int)) = decide (p < a) := decide_eq_decide.mpr (by omega)
    have d2 : decide (((r.1 : Nat) : Int) = 1) = decide (r.1 = 1) := decide_eq_decide.mpr (by omega)
    unfold selR
    by_cases z : p < a
    · rw [decide_eq_true z] at d1
      simp only [q_orT, q_tst, q_e2, v5, v3, bind_ok', ltD_ii, truD_bl, d1, ↓reduceIte, decide_eq_true z, Bool.true_or]
    · rw [decide_eq_false z] at d1
      simp only [q_orT, q_tst, q_e2, v5, v3, v8, q_eC, bind_ok', ltD_ii, eqD_ii, truD_bl, d1, d2, Bool.false_eq_true, ↓reduceIte, decide_eq_false z, Bool.false_or]
  have lf : (R.filter fun r => selR a p (r.1, r.2.2)).length ≤ R.length := List.length_filter_le _ _
  have ex := ext_obj (ys := (R.filter fun r => selR a p (r.1, r.2.2)).map fun r => .obj r.2.1) eL1 (by rw [List.length_map]; omega)
  have v6 : eV 6 [some x, a1, a2, some (.int (a : Nat)), some rw', some (.int (p : Nat)), some (.obj L), some y, a8, a9] g = .ok (.obj L) g := rfl
  refine ⟨h1.set L (.lst (acc ++ (R.filter fun r => selR a p (r.1, r.2.2)).map fun r => .obj r.2.1)), (R.filter fun r => selR a p (r.1, r.2.2)).map fun r => (.obj r.2.1, r.2.2), a8, a9, ?_, ?_, ?_, ?_, ?_, ?_, ?_, ?_⟩
  · unfold fmRow
    rw [q_sExp, q_eLm, v6, bind_ok', lstAt_obj eL]
    show ((aC (frz _) aN _ g).bind fun xs h2 => extD (.obj L) xs h2).then _ _ = _
    rw [q_aC, q_frz, c, bind_ok', bind_ok', q_aN, bind_ok', bind_ok', ex]
    rfl
  · rw [List.getElem?_set_self hl1, List.map_map]
    rfl
  · unfold nextL
    rw [← part_eq, ← eR]
    unfold pl3
    rw [List.filter_map, List.map_map, List.map_map]
    rfl
  · intro q hq
    obtain ⟨r, hr, rfl⟩ := List.mem_map.mp hq
    have hrR := (List.mem_filter.mp hr).1
    have P := parts_at gd hn eR cl gtR mlt (Gk.refl (n := m)) hrR
    have gt := gtR r hrR
    refine ⟨⟨?_, P.li.2⟩, P.gd, P.ln, Nat.le_trans P.le lo⟩
    refine .inr ⟨r.2.1, rfl, ?_⟩
    rw [List.getElem?_set_ne (by omega)]
    exact cl r hrR
  · rw [List.length_set]
    exact g1.len
  · intro j hj hl
    rw [List.getElem?_set_ne (Ne.symm hj)]
    exact g1.keep j (Nat.zero_le _) hl
  · rw [List.length_map]
    omega
  · intro q hq
    obtain ⟨r, hr, rfl⟩ := List.mem_map.mp hq
    exact ⟨r.2.1, rfl, gtR r (List.mem_filter.mp hr).1⟩
end Pl

/-! k08: _law_from, its loops -/
namespace Pl
open Dl Sh
local instance : Dl.Tb := ⟨fun _ => []⟩

theorem ListN.og {g g' : Hs} {m : Nat} {x : D} {xs : List D} (l : ListN g m x xs) (k : Gk m g g') : ∀ j, x = .obj j → g'[j]? = g[j]? := fun j e => by
  rcases l.1 with e1 | ⟨i, e1, e2⟩
  · rw [e1] at e; cases e
  · rw [e1] at e
    cases e
    exact k.keep _ (l.2 _ e1) (List.getElem?_eq_some_iff.mp e2).1
theorem place_spec {n a p m : Nat} {x rw' : D} {ds : Rr} {g0 : Hs} {a1 a2 a6 a7 a8 a9 : Option D} (n6 : n ≤ 6) (pn : p < n) (mlt : m < g0.length) (lr : ListN g0 m rw' (ds.map (·.1))) (hd : ds.map (·.2) = rowsL n a p) (rows : ∀ q ∈ ds, RowAt n m p g0 q) (ld : ds.length ≤ 1000) {r0 : SR}
    (hr0 : fmPlace [some x, a1, a2, some (.int (a : Nat)), some rw', some (.int (p : Nat)), a6, a7, a8, a9] g0 = r0) :
    WpS r0 (fun ρ g => Gb 0 g0 g ∧ ∃ (L : Nat) (Q : Rr) (b6 b7 b8 b9 : Option D), ρ = [some x, a1, a2, some (.int (a : Nat)), some (.obj L), some (.int (p : Nat)), b6, b7, b8, b9] ∧ ListN g m (.obj L) (Q.map (·.1)) ∧ Q.map (·.2) = rowsL n a (p + 1) ∧ ∀ q ∈ Q, RowAt n m (p + 1) g q) fun _ _ => False := by
  subst hr0
  unfold fmPlace
  have th : ∀ ρ, thaw (nLst aN) ρ g0 = .ok (.obj g0.length) (g0 ++ [.lst []]) := fun ρ => by
    rw [q_thaw, q_nLst, q_aN, bind_ok']
    rfl
  rw [wps_seq, q_sSet, th, then_ok, wps_nx, wps_seq]
  simp only [List.set_cons_zero, List.set_cons_succ]
  have gb1 : Gb 0 g0 (g0 ++ [DO.lst []]) := .app
  have cell : (g0 ++ [DO.lst []])[g0.length]? = some (.lst []) := get_last
  generalize g0 ++ [DO.lst []] = g1 at gb1 cell
  have lr1 := lr.gk (Gk.of0 gb1)
  have v4 : eV 4 [some x, a1, a2, some (.int (a : Nat)), some rw', some (.int (p : Nat)), some (.obj g0.length), a7, a8, a9] g1 = .ok rw' g1 := rfl
  obtain ⟨gs, ei, og⟩ := iter_at v4 lr1.1
  have og' : ∀ g, Gb 0 g0 g → okG gs g = true := fun g gg => og g fun j e => by
    rcases lr.1 with e1 | ⟨i, e1, e2⟩
    · rw [e1] at e; cases e
    · rw [e1] at e
      cases e
      rw [gg.at (Nat.zero_le _) e2, gb1.at (Nat.zero_le _) e2]
  rw [wps_for, ei, wp_ok]
  refine wps_loop (fun j ρ g => Gb 0 g0 g ∧ ∃ (Q : Rr) (b7 b8 b9 : Option D), ρ = [some x, a1, a2, some (.int (a : Nat)), some rw', some (.int (p : Nat)), some (.obj g0.length), b7, b8, b9] ∧ g[g0.length]? = some (.lst (Q.map (·.1))) ∧ Q.map (·.2) = (((rowsL n a p).take j).map (nextL a p)).flatten ∧ (∀ q ∈ Q, RowAt n m (p + 1) g q ∧ ∃ c, q.1 = .obj c ∧ g0.length < c) ∧ Q.length ≤ 64 * j) _ 0 _ _ ?_ ?_ ⟨gb1, [], _, _, _, rfl, cell, rfl, by simp, by simp⟩
  · rintro j y ρ g hy ⟨gb, Q, b7, b8, b9, rfl, cg, hQ, rQ, lQ⟩
    rw [Nat.zero_add] at hQ lQ ⊢
    rw [List.getElem?_map] at hy
    obtain ⟨q, hq, rfl⟩ : ∃ q, ds[j]? = some q ∧ q.1 = y := by
      cases z : ds[j]? with
      | none => rw [z] at hy; cases hy
      | some q => rw [z] at hy; exact ⟨q, rfl, by injection hy⟩
    have hj := (List.getElem?_eq_some_iff.mp hq).1
    refine ⟨og' g gb, [some x, a1, a2, some (.int (a : Nat)), some rw', some (.int (p : Nat)), some (.obj g0.length), some q.1, b8, b9], rfl, ?_⟩
    have rq := (rows q (List.mem_of_getElem? hq)).gk (Gk.of0 gb)
    obtain ⟨g', Q', c8, c9, e, cg', hQ', rQ', ln', kp, l64, cs⟩ := row_step (x := x) (rw' := rw') (a := a) (a1 := a1) (a2 := a2) (a8 := b8) (a9 := b9) (y := q.1) (os := q.2) n6 pn rq (Nat.lt_of_lt_of_le mlt gb.len) cg (by rw [List.length_map]; omega)
    have lg := (List.getElem?_eq_some_iff.mp cg).1
    have gb' : Gb 0 g0 g' := ⟨Nat.le_trans gb.len ln', fun i _ hi => (kp i (by omega) (Nat.lt_of_lt_of_le hi gb.len)).trans (gb.keep i (Nat.zero_le _) hi)⟩
    refine wps_of e ⟨gb', Q ++ Q', c8 |> fun _ => some q.1, c8, c9, rfl, ?_, ?_, ?_, ?_⟩
    · rw [cg', List.map_append]
    · rw [List.map_append, hQ, hQ', List.take_succ]
      have hx : (rowsL n a p)[j]? = some q.2 := by
        rw [← hd, List.getElem?_map, hq]
        rfl
      rw [hx]
      show _ = (((rowsL n a p).take j ++ [q.2]).map (nextL a p)).flatten
      rw [List.map_append, List.flatten_append]
      simp
    · intro u hu
      rcases List.mem_append.mp hu with hu | hu
      · obtain ⟨r, c, ec, hc⟩ := rQ u hu
        refine ⟨⟨⟨?_, r.1.2⟩, r.2⟩, c, ec, hc⟩
        rcases r.1.1 with z | ⟨i, z1, z2⟩
        · rw [ec] at z; cases z
        · refine .inr ⟨i, z1, ?_⟩
          have : i = c := by rw [ec] at z1; injection z1 with z1; exact z1.symm
          rw [kp i (by omega) (List.getElem?_eq_some_iff.mp z2).1]
          exact z2
      · obtain ⟨c, ec, hc⟩ := cs u hu
        exact ⟨rQ' u hu, c, ec, by omega⟩
    · rw [List.length_append]
      omega
  · rintro ρ g ⟨gb, Q, b7, b8, b9, rfl, cg, hQ, rQ, lQ⟩
    refine ⟨og' g gb, ?_⟩
    have ll : (rowsL n a p).length = ds.length := by rw [← hd, List.length_map]
    rw [Nat.zero_add, List.length_map, ← ll, List.take_of_length_le (Nat.le_refl _)] at hQ
    have v6 : eV 6 [some x, a1, a2, some (.int (a : Nat)), some rw', some (.int (p : Nat)), some (.obj g0.length), b7, b8, b9] g = .ok (.obj g0.length) g := rfl
    rw [q_sSet, v6, then_ok, wps_nx]
    simp only [List.set_cons_zero, List.set_cons_succ]
    exact ⟨gb, g0.length, Q, _, _, _, _, rfl, ⟨.inr ⟨_, rfl, cg⟩, fun j e => by cases e; omega⟩, hQ, fun q hq => (rQ q hq).1⟩
/-! ### is it so for all of them -/
theorem all_spec {n a m left : Nat} {x rw' : D} {ds : Rr} {g0 : Hs} {a5 a6 a7 a8 a9 : Option D} (n6 : n ≤ 6) (hL : (keysM n).length < 16777216) (an : a < n) (l1 : 1 ≤ left) (ln : left ≤ n) (lr : ListN g0 m rw' (ds.map (·.1))) (rows : ∀ q ∈ ds, RowAt n m (a + 1) g0 q) (ld : ds.length ≤ 1000) (K : KeptM (FM n) n g0 m) :
    ∃ g', fmAll [some x, some (.int (left : Nat)), some (.obj m), some (.int (a : Nat)), some rw', a5, a6, a7, a8, a9] g0 = .ok (.bl ((ds.map (·.2)).all fun os => ff os n a left)) g' ∧ Gk m g0 g' ∧ KeptM (FM n) n g' m := by
  suffices w : Wp (fmAll [some x, some (.int (left : Nat)), some (.obj m), some (.int (a : Nat)), some rw', a5, a6, a7, a8, a9] g0) fun v g' => v = .bl ((ds.map (·.2)).all fun os => ff os n a left) ∧ Gk m g0 g' ∧ KeptM (FM n) n g' m by
    obtain ⟨v, g', e, rfl, g⟩ := wp_ex w
    exact ⟨g', e, g⟩
  have v4 : eV 4 [some x, some (.int (left : Nat)), some (.obj m), some (.int (a : Nat)), some rw', a5, a6, a7, a8, a9] g0 = .ok rw' g0 := rfl
  obtain ⟨gs, ei, og⟩ := iter_at v4 lr.1
  unfold fmAll
  rw [q_eBf, wp_bind, q_aC, wp_bind, q_frz, wp_bind, nLc_eq, ei, bind_ok']
  show Wp (if okLen (ds.map (·.1)).length = true then _ else _) _
  rw [if_pos (okLen_of (by rw [List.length_map]; omega))]
  refine wp_lcFG (gd := fun q : D × List (List Nat) => q.1) (f := fun q => .bl (ff q.2 n a left)) (fun _ g => Gk m g0 g ∧ KeptM (FM n) n g m) (fun _ g ⟨gk, _⟩ => og g (lr.og gk)) ds 0 g0 (fun j q g hq ⟨gk, Kg⟩ => ?_) ⟨.refl, K⟩ fun g' ⟨gk, Kg⟩ => ?_
  · have rq := (rows q (List.mem_of_getElem? hq)).gk gk
    obtain ⟨li, gd, hn, lo⟩ := rq
    refine ⟨[some x, some (.int (left : Nat)), some (.obj m), some (.int (a : Nat)), some rw', a5, a6, some q.1, a8, a9], rfl, ?_⟩
    obtain ⟨g1, e1, gk1, K1⟩ := winsM_spec n6 hL 8 q.2 (a + 1) (left - 1) m q.1 g li gd hn (by omega) (by omega) lo (by omega) Kg
    have tk := taken_spec (rec := m__law_wins_v2) li.1 hn an lo l1 e1
    obtain ⟨g2, ep, gk2, K2⟩ := winsM_spec n6 hL 8 q.2 (a + 1) left m q.1 g1 (li.gk gk1) gd hn (by omega) ln lo (by omega) K1
    have ea : (a : Int) + 1 = ((a + 1 : Nat) : Int) := by omega
    have c1 : eCall 4 (m__law_taken m__law_wins_v2) (aC (eV 7) (aC (eV 3) (aC (eV 1) (aC (eV 2) aN)))) [some x, some (.int (left : Nat)), some (.obj m), some (.int (a : Nat)), some rw', a5, a6, some q.1, a8, a9] g = .ok (.int ((firstN q.2 a + winsP n (n - (a + 1)) q.2 (a + 1) (left - 1) : Nat) : Int)) g1 := call4 (x := q.1) rfl (y := .int (a : Nat)) rfl (z := .int (left : Nat)) rfl (u := .obj m) rfl tk
    have v3 : eV 3 [some x, some (.int (left : Nat)), some (.obj m), some (.int (a : Nat)), some rw', a5, a6, some q.1, a8, a9] g1 = .ok (.int (a : Nat)) g1 := rfl
    have c2 : eCall 4 m__law_wins_v2 (aC (eV 7) (aC (e2 addD (eV 3) (eC (.int 1))) (aC (eV 1) (aC (eV 2) aN)))) [some x, some (.int (left : Nat)), some (.obj m), some (.int (a : Nat)), some rw', a5, a6, some q.1, a8, a9] g1 = .ok (.int (winsP n (n - (a + 1)) q.2 (a + 1) left : Nat)) g2 := by
      refine call4 (x := q.1) rfl (y := .int ((a + 1 : Nat) : Int)) ?_ (z := .int (left : Nat)) rfl (u := .obj m) rfl ep
      rw [q_e2, v3, bind_ok', q_eC, bind_ok', addD_ii, ea]
    rw [q_e2, c1, bind_ok', c2, bind_ok', geD_ii, wp_ok]
    refine ⟨?_, (gk.trans gk1).trans gk2, K2⟩
    unfold ff
    congr 1
    exact decide_eq_decide.mpr (by omega)
  · have al := allD_map (fun q : D × List (List Nat) => ff q.2 n a left) ds g'
    have e : (ds.map fun q : D × List (List Nat) => D.bl (ff q.2 n a left)) = ds.map fun q => D.bl ((fun q : D × List (List Nat) => ff q.2 n a left) q) := rfl
    rw [wp_ok, q_aN, wp_bind, wp_ok, wp_ok, al, wp_ok]
    refine ⟨?_, gk, Kg⟩
    rw [List.all_map]
    rfl
end Pl

/-! k08: _law_from -/
namespace Pl
open Dl Sh
local instance : Dl.Tb := ⟨fun _ => []⟩

/-- one number tried -/
theorem at_spec {n a m left : Nat} {x : D} {g0 : Hs} {a4 a5 a6 a7 a8 a9 : Option D} (n6 : n ≤ 6) (hL : (keysM n).length < 16777216) (lb : ∀ p, p ≤ a + 1 → (rowsL n a p).length ≤ 1000) (an : a < n) (l1 : 1 ≤ left) (ln : left ≤ n) (li : ListN g0 m x ((ordAll n).map lotD)) (gd : Gd n (ordAll n) 0) (hn : ∀ o ∈ ordAll n, o.length = n) (lo : (ordAll n).length ≤ 1000) (K : KeptM (FM n) n g0 m) {r0 : SR}
    (hr0 : fmAt [some x, some (.int (left : Nat)), some (.obj m), some (.int (a : Nat)), a4, a5, a6, a7, a8, a9] g0 = r0) :
    WpS r0 (fun ρ g => okAt n left a = false ∧ Gk m g0 g ∧ KeptM (FM n) n g m ∧ ∃ b4 b5 b6 b7 b8 b9, ρ = [some x, some (.int (left : Nat)), some (.obj m), some (.int (a : Nat)), b4, b5, b6, b7, b8, b9]) fun d g => d = .int (a : Nat) ∧ okAt n left a = true ∧ Gk m g0 g ∧ KeptM (FM n) n g m := by
  subst hr0
  unfold fmAt
  have c4 : frz (nLst (aC (eV 0) aN)) [some x, some (.int (left : Nat)), some (.obj m), some (.int (a : Nat)), a4, a5, a6, a7, a8, a9] g0 = .ok (.lst [x]) g0 := by
    have v0 : eV 0 [some x, some (.int (left : Nat)), some (.obj m), some (.int (a : Nat)), a4, a5, a6, a7, a8, a9] g0 = .ok x g0 := rfl
    simp only [q_frz, q_nLst, q_aC, q_aN, v0, bind_ok', List.length_cons, List.length_nil, Nat.reduceAdd, zero_add', okL1, ↓reduceIte]
  rw [wps_seq, q_sSet, c4, then_ok, wps_nx, wps_seq]
  simp only [List.set_cons_zero, List.set_cons_succ]
  have ir : iR1 (aC (e2 addD (eV 3) (eC (.int 1))) aN) [some x, some (.int (left : Nat)), some (.obj m), some (.int (a : Nat)), some (.lst [x]), a5, a6, a7, a8, a9] g0 = .ok ⟨rng 0 1 (a + 1), []⟩ g0 := by
    have v3 : eV 3 [some x, some (.int (left : Nat)), some (.obj m), some (.int (a : Nat)), some (.lst [x]), a5, a6, a7, a8, a9] g0 = .ok (.int (a : Nat)) g0 := rfl
    have e : (a : Int) + 1 = ((a + 1 : Nat) : Int) := by omega
    exact iR1_eq (n := a + 1) (by simp only [q_aC, q_aN, q_e2, q_eC, v3, bind_ok', addD_ii, e]) (by omega)
  rw [wps_for, ir, wp_ok]
  refine wps_loop (fun p ρ g => p ≤ a + 1 ∧ Gb 0 g0 g ∧ ∃ (rw' : D) (ds : Rr) (b5 b6 b7 b8 b9 : Option D), ρ = [some x, some (.int (left : Nat)), some (.obj m), some (.int (a : Nat)), some rw', b5, b6, b7, b8, b9] ∧ ListN g m rw' (ds.map (·.1)) ∧ ds.map (·.2) = rowsL n a p ∧ ∀ q ∈ ds, RowAt n m p g q) _ 0 _ _ ?_ ?_ ⟨Nat.zero_le _, .refl, .lst [x], [(x, ordAll n)], _, _, _, _, _, rfl, ⟨.inl rfl, fun j e => by cases e⟩, rfl, fun q hq => by rw [List.mem_singleton.mp hq]; exact ⟨li, gd, hn, lo⟩⟩
  · rintro p y ρ g hy ⟨_, gb, rw', ds, b5, b6, b7, b8, b9, rfl, lr, hd, rows⟩
    rw [Nat.zero_add] at hd rows ⊢
    have hp := (List.getElem?_eq_some_iff.mp hy).1
    rw [rng_len] at hp
    rw [rng_range, List.getElem?_map, List.getElem?_range hp] at hy
    have hy' : some (natD p) = some y := hy
    have ey : y = natD p := (Option.some.inj hy').symm
    unfold natD at ey
    subst ey
    refine ⟨rfl, [some x, some (.int (left : Nat)), some (.obj m), some (.int (a : Nat)), some rw', some (.int (p : Nat)), b6, b7, b8, b9], rfl, ?_⟩
    have ld : ds.length ≤ 1000 := by
      have := lb p (by omega)
      rw [← hd, List.length_map] at this
      exact this
    generalize hb : fmPlace _ _ = rb
    refine wps_mono (place_spec n6 (by omega) (Nat.lt_of_lt_of_le K.lt gb.len) lr hd rows ld hb) (fun ρ g' ⟨gb', L, Q, c6, c7, c8, c9, e, lq, hq, rq⟩ => ?_) fun _ _ z => z.elim
    subst e
    exact ⟨by omega, gb.trans gb', .obj L, Q, _, _, _, _, _, rfl, lq, hq, rq⟩
  · rintro ρ g ⟨_, gb, rw', ds, b5, b6, b7, b8, b9, rfl, lr, hd, rows⟩
    refine ⟨rfl, ?_⟩
    rw [Nat.zero_add, rng_len] at hd rows
    have ld : ds.length ≤ 1000 := by
      have := lb (a + 1) (Nat.le_refl _)
      rw [← hd, List.length_map] at this
      exact this
    obtain ⟨g', e, gk, K'⟩ := all_spec (a5 := b5) (a6 := b6) (a7 := b7) (a8 := b8) (a9 := b9) (x := x) n6 hL an l1 ln lr rows ld (K.gb gb)
    rw [hd] at e
    have ok : ((rowsL n a (a + 1)).all fun os => ff os n a left) = okAt n left a := rfl
    rw [ok] at e
    have gk' : Gk m g0 g' := (Gk.of0 gb).trans gk
    have v3 : eV 3 [some x, some (.int (left : Nat)), some (.obj m), some (.int (a : Nat)), some rw', b5, b6, b7, b8, b9] g' = .ok (.int (a : Nat)) g' := rfl
    cases z : okAt n left a with
    | true =>
      rw [z] at e
      rw [q_sIf, q_tru, e, bind_ok', truD_bl]
      show WpS (((Dl.R.ok true g').then _ _)) _ _
      rw [then_ok, if_pos rfl, q_sRet, v3, then_ok, wps_ret]
      exact ⟨rfl, rfl, gk', K'⟩
    | false =>
      rw [z] at e
      rw [q_sIf, q_tru, e, bind_ok', truD_bl]
      show WpS (((Dl.R.ok false g').then _ _)) _ _
      rw [then_ok, if_neg Bool.false_ne_true]
      simp only [sPass, wps_nx]
      exact ⟨trivial, gk', K', _, _, _, _, _, _, rfl⟩
/-- the least number from which it is no worse to take -/
theorem from_spec {n v m left : Nat} {x : D} {h : Hs} (n6 : n ≤ 6) (hL : (keysM n).length < 16777216) (lb : ∀ a, a < n → ∀ p, p ≤ a + 1 → (rowsL n a p).length ≤ 1000) (l1 : 1 ≤ left) (ln : left ≤ n) (li : ListN h m x ((ordAll n).map lotD)) (gd : Gd n (ordAll n) 0) (hn : ∀ o ∈ ordAll n, o.length = n) (lo : (ordAll n).length ≤ 1000) (K : KeptM (FM n) n h m)
    (vn : v < n) (vt : okAt n left v = true) (vf : ∀ i, i < v → okAt n left i = false) :
    ∃ h', m__law_from_v4 [x, .int (left : Nat), .obj m] h = .ok (.int (v : Nat)) h' ∧ Gk m h h' ∧ KeptM (FM n) n h' m := by
  suffices w : Wp (m__law_from_v4 [x, .int (left : Nat), .obj m] h) fun d h' => d = .int (v : Nat) ∧ Gk m h h' ∧ KeptM (FM n) n h' m by
    obtain ⟨d, h', e, rfl, g⟩ := wp_ex w
    exact ⟨h', e, g⟩
  obtain ⟨o0, ho0, eo⟩ := id gd
  have l0 : o0.length = n := hn o0 (List.mem_of_getElem? ho0)
  have i0 : itemD x (.int 0) h = .ok (lotD o0) h := item_la2 (i := 0) li.1 (by rw [List.getElem?_map, ho0]; rfl)
  have en : ent 10 [x, D.int (left : Nat), .obj m] = [some x, some (.int (left : Nat)), some (.obj m), none, none, none, none, none, none, none] := rfl
  unfold m__law_from_v4
  rw [wp_def, en, fm_code, wps_seq]
  have ir : iR1 (aC (eBf lenD (aC (e2 itemD (eV 0) (eC (.int 0))) aN)) aN) [some x, some (.int (left : Nat)), some (.obj m), none, none, none, none, none, none, none] h = .ok ⟨rng 0 1 n, []⟩ h := by
    have v0 : eV 0 [some x, some (.int (left : Nat)), some (.obj m), none, none, none, none, none, none, none] h = .ok x h := rfl
    exact iR1_eq (n := n) (by simp only [q_aC, q_aN, q_eBf, q_e2, q_eC, v0, bind_ok', i0, len_ord, l0]) (by omega)
  rw [wps_for, ir, wp_ok]
  refine wps_loop (fun j ρ g => (∀ i, i < j → okAt n left i = false) ∧ Gk m h g ∧ KeptM (FM n) n g m ∧ ∃ b3 b4 b5 b6 b7 b8 b9, ρ = [some x, some (.int (left : Nat)), some (.obj m), b3, b4, b5, b6, b7, b8, b9]) _ 0 _ _ ?_ ?_ ⟨fun i hi => absurd hi (Nat.not_lt_zero _), .refl, K, _, _, _, _, _, _, _, rfl⟩
  · rintro j y ρ g hy ⟨al, gk, Kg, b3, b4, b5, b6, b7, b8, b9, rfl⟩
    rw [Nat.zero_add] at al ⊢
    have hj := (List.getElem?_eq_some_iff.mp hy).1
    rw [rng_len] at hj
    rw [rng_range, List.getElem?_map, List.getElem?_range hj] at hy
    have hy' : some (natD j) = some y := hy
    have ey : y = natD j := (Option.some.inj hy').symm
    unfold natD at ey
    subst ey
    refine ⟨rfl, [some x, some (.int (left : Nat)), some (.obj m), some (.int (j : Nat)), b4, b5, b6, b7, b8, b9], rfl, ?_⟩
    generalize hb : fmAt _ _ = rb
    refine wps_mono (at_spec n6 hL (lb j hj) hj l1 ln (li.gk gk) gd hn lo Kg hb) (fun ρ g' ⟨ok, gk', K', c4, c5, c6, c7, c8, c9, e⟩ => ?_) fun d g' ⟨e, ok, gk', K'⟩ => ?_
    · subst e
      refine ⟨fun i hi => ?_, gk.trans gk', K', _, _, _, _, _, _, _, rfl⟩
      by_cases z : i = j
      · rw [z]; exact ok
      · exact al i (by omega)
    · refine ⟨?_, gk.trans gk', K'⟩
      have : j = v := by
        by_cases a : j < v
        · rw [vf j a] at ok; cases ok
        · by_cases b : v < j
          · rw [al v b] at vt; cases vt
          · omega
      rw [e, this]
  · rintro ρ g ⟨al, gk, Kg, b3, b4, b5, b6, b7, b8, b9, rfl⟩
    rw [Nat.zero_add, rng_len] at al
    rw [al v vn] at vt
    cases vt
end Pl

/-! law k08 -/
namespace Pl
open Dl Sh
local instance : Dl.Tb := ⟨fun _ => []⟩

def k08s_0 : SM := sSet 7 (eCall 2 m__law_low (aC (eCall 4 m__law_wins_v2 (aC (eV 3) (aC (eC (.int 0)) (aC (eV 6) (aC (eV 4) aN))))) (aC (eBf lenD (aC (eV 3) aN)) aN)))
def k08s_1 : SM := sExp (eLm appD (eV 5) (aC (eCall 2 m_chance_with (aC (eV 2) (aC (eV 6) aN))) aN))
def k08s_2 : SM := sIf (notT (tru (eCall 2 m__law_is (aC (e2 itemD (eV 5) (e1 negD (eC (.int 1)))) (aC (eV 7) aN))))) (sRet (eC (.bl false))) (sPass)
def k08s_3 : SM := sSet 8 (eBf tupD (aC (frz (nLc (iR2 (aC (eC (.int 1)) (aC (e2 addD (eV 6) (eC (.int 1))) aN))) (.nm 9) [9] (tYes') (eCall 3 m__law_from_v4 (aC (eV 3) (aC (eV 9) (aC (eV 4) aN)))))) aN))
def k08s_4 : SM := sIf (notT (tru (eCall 2 m__law_is (aC (eCall 2 m_pick_from (aC (eV 2) (aC (eV 6) aN))) (aC (eV 8) aN))))) (sRet (eC (.bl false))) (sPass)
def k08body : SM := sSeq (k08s_0) (sSeq (k08s_1) (sSeq (k08s_2) (sSeq (k08s_3) (k08s_4))))
def k08end : SM := sSeq (sIf (orT (tst (e2 neD (e2 itemD (eV 5) (eC (.int 0))) (eCall 1 m_best_chance (aC (eV 2) aN)))) (tst (e2 neD (e2 itemD (eV 5) (e1 negD (eC (.int 1)))) (eTup (aC (eC (.int 1)) (aC (eC (.int 1)) aN)))))) (sRet (eC (.bl false))) (sPass)) (sRet (e1 notX (eBf anyD (aC (frz (nLc (iZip (aC (eV 5) (aC (eSl (eV 5) (pS (eC (.int 1))) pN) aN))) (.tp [.nm 10, .nm 11]) [10, 11] (tYes') (eCall 2 m__law_less (aC (eV 11) (aC (eV 10) aN))))) aN))))
def k08tail : SM := sSeq (sPat (.tp [.nm 3, .nm 4, .nm 5]) (eTup (aC (eCall 1 m__law_orders (aC (eV 2) aN)) (aC (eDct0) (aC (thaw (nLst aN)) aN))))) (sSeq (sFor (iR2 (aC (eC (.int 1)) (aC (e2 addD (eV 2) (eC (.int 1))) aN))) (.nm 6) (k08body)) (k08end))
theorem k08_code : c_law_k08 = sSeq (sSet 1 (eCall 1 m__law_hand_v2 (aC (eV 0) aN))) (sSeq (sSet 2 (e2 addD (eC (.int 1)) (eCall 2 m__law_draw_v3 (aC (eV 1) (aC (eC (.int 5)) aN))))) (k08tail)) := rfl
/-! ### numbers -/
def kL8 : List Nat := [1, 1, 2, 6, 24, 120]
def f08 (n : Nat) : Bool := (List.range n).all fun k => decide (Rat.divInt ((winsP n n (ordAll n) 0 (k + 1) : Nat) : Int) ((kL8.getD n 0 : Nat) : Int) = hopR n (k + 1) n) && (decide (pickF n k < n) && (okAt n (k + 1) (pickF n k) && (List.range (pickF n k)).all fun i => !okAt n (k + 1) i))
def g08 (n : Nat) : Bool := (List.range n).all fun a => (List.range (a + 2)).all fun p => decide ((rowsL n a p).length ≤ 1000)
def h08 (n : Nat) : Bool := decide (hopR n 1 n = wn (onesR n) (fl (onesR n))) && (decide (hopR n n n = 1) && (decide ((ordAll n).length = kL8.getD n 0) && (List.range (n - 1)).all fun k => !decide (hopR n (k + 2) n < hopR n (k + 1) n)))
theorem f08_1 : f08 1 = true := by decide +kernel
theorem f08_2 : f08 2 = true := by decide +kernel
theorem f08_3 : f08 3 = true := by decide +kernel
theorem f08_4 : f08 4 = true := by decide +kernel
theorem f08_5 : f08 5 = true := by decide +kernel
theorem g08_a : (List.range 6).all g08 = true := by decide +kernel
theorem h08_a : (List.range 5).all (fun n => h08 (n + 1)) = true := by decide +kernel
theorem f08_n {n : Nat} (n1 : 1 ≤ n) (n5 : n ≤ 5) : f08 n = true := by
  match n, n1, n5 with
  | 1, _, _ => exact f08_1
  | 2, _, _ => exact f08_2
  | 3, _, _ => exact f08_3
  | 4, _, _ => exact f08_4
  | 5, _, _ => exact f08_5
structure Num8 (n : Nat) : Prop where
  due : ∀ k, k < n → Rat.divInt ((winsP n n (ordAll n) 0 (k + 1) : Nat) : Int) ((kL8.getD n 0 : Nat) : Int) = hopR n (k + 1) n
  pk : ∀ k, k < n → pickF n k < n
  ok : ∀ k, k < n → okAt n (k + 1) (pickF n k) = true
  no : ∀ k, k < n → ∀ i, i < pickF n k → okAt n (k + 1) i = false
  rl : ∀ a, a < n → ∀ p, p ≤ a + 1 → (rowsL n a p).length ≤ 1000
  one : hopR n 1 n = wn (onesR n) (fl (onesR n))
  all : hopR n n n = 1
  len : (ordAll n).length = kL8.getD n 0
  up : ∀ k, k + 1 < n → ¬ hopR n (k + 2) n < hopR n (k + 1) n
theorem num8 {n : Nat} (n1 : 1 ≤ n) (n5 : n ≤ 5) : Num8 n := by
  have f := List.all_eq_true.mp (f08_n n1 n5)
  have g := List.all_eq_true.mp g08_a n (List.mem_range.mpr (by omega))
  have h := List.all_eq_true.mp h08_a (n - 1) (List.mem_range.mpr (by omega))
  rw [show n - 1 + 1 = n by omega] at h
  unfold h08 at h
  rw [Bool.and_eq_true, Bool.and_eq_true, Bool.and_eq_true] at h
  have f' : ∀ k, k < n → _ := fun k hk => by
    have z := f k (List.mem_range.mpr hk)
    rw [Bool.and_eq_true, Bool.and_eq_true, Bool.and_eq_true] at z
    exact z
  refine ⟨fun k hk => of_decide_eq_true (f' k hk).1, fun k hk => of_decide_eq_true (f' k hk).2.1, fun k hk => (f' k hk).2.2.1, fun k hk i hi => ?_, fun a ha p hp => ?_, of_decide_eq_true h.1, of_decide_eq_true h.2.1, of_decide_eq_true h.2.2.1, fun k hk => ?_⟩
  · have z := List.all_eq_true.mp (f' k hk).2.2.2 i (List.mem_range.mpr hi)
    cases q : okAt n (k + 1) i with
    | false => rfl
    | true => rw [q] at z; cases z
  · unfold g08 at g
    have z := List.all_eq_true.mp (List.all_eq_true.mp g a (List.mem_range.mpr ha)) p (List.mem_range.mpr (by omega))
    exact of_decide_eq_true z
  · have z := List.all_eq_true.mp h.2.2.2 k (List.mem_range.mpr (by omega))
    intro w
    rw [decide_eq_true w] at z
    cases z
theorem kL8_b : ∀ n, n ≤ 5 → 1 ≤ n → 1 ≤ kL8.getD n 0 ∧ kL8.getD n 0 ≤ 120 := by decide
/-! ### pick_from, without refusals -/
theorem skip_chk {n : Nat} {ca : List D → M D} {b : SM} {x y : D} {h : Hs} (e : ca [x, y] h = .ok .non h) : mDef (n + 2) (sSeq (sExp (eCall 2 ca (aC (eV 0) (aC (eV 1) aN)))) b) [x, y] h = mDef (n + 2) b [x, y] h := by
  obtain ⟨r, en⟩ : ∃ r, ent (n + 2) [x, y] = some x :: some y :: r := ⟨_, rfl⟩
  unfold mDef
  rw [en]
  have c : sExp (eCall 2 ca (aC (eV 0) (aC (eV 1) aN))) (some x :: some y :: r) h = .nx (some x :: some y :: r) h := by
    have c0 : eCall 2 ca (aC (eV 0) (aC (eV 1) aN)) (some x :: some y :: r) h = .ok .non h := call2 rfl rfl e
    rw [q_sExp, c0, then_ok]
  rw [seq_nx c]
theorem pick_same {n p : Nat} (p1 : 1 ≤ p) (pn : p ≤ n) (n12 : n ≤ 12) {h : Hs} : m_pick_from [.int n, .int p] h = m_pick_from_v2 [.int n, .int p] h := by
  have a := chk_picksN p1 pn n12 (h := h)
  have b := check_picks p1 pn n12 (h := h)
  unfold m_pick_from m_pick_from_v2 c_pick_from c_pick_from_v2
  rw [skip_chk a, skip_chk b]
theorem pickN {n p : Nat} (p1 : 1 ≤ p) (pn : p ≤ n) (n12 : n ≤ 12) (h : Hs) : ∃ h', m_pick_from [.int n, .int p] h = .ok (lotD ((List.range p).map (pickF n))) h' ∧ Gb 0 h h' := by
  obtain ⟨d, h', e, rfl, g⟩ := wp_ex (pick12 p1 pn n12 (h := h))
  refine ⟨h', ?_, g⟩
  rw [pick_same p1 pn n12, e]
  unfold lotD
  rw [List.map_map]
  rfl
theorem lw_lot {l : List Nat} (hl : l.length ≤ 1000) : Lw 1 (lotD l) := .tup (by rw [List.length_map]; exact hl) fun x hx => by
  obtain ⟨m, _, rfl⟩ := List.mem_map.mp hx
  exact .int _
/-! ### what is told -/
def told (n p : Nat) : List D := (List.range p).map fun k => fr (hopR n (k + 1) n)
theorem told_s (n p : Nat) : told n (p + 1) = told n p ++ [fr (hopR n (p + 1) n)] := by
  unfold told
  rw [List.range_succ, List.map_append]
  rfl
theorem comp08 {n p m : Nat} {g0 : Hs} {x : D} {a0 a1 a2 a5 a7 a8 a9 a10 a11 : Option D} (N : Num8 n) (n6 : n ≤ 5) (n1 : 1 ≤ n) (pn : p ≤ n) (hL : (keysM n).length < 16777216) (li : ListN g0 m x ((ordAll n).map lotD)) (gd : Gd n (ordAll n) 0) (hn : ∀ o ∈ ordAll n, o.length = n) (lo : (ordAll n).length ≤ 1000) (K : KeptM (FM n) n g0 m) {r0 : Dl.R D} (hr0 : eBf tupD (aC (frz (nLc (iR2 (aC (eC (.int 1)) (aC (e2 addD (eV 6) (eC (.int 1))) aN))) (.nm 9) [9] (tYes') (eCall 3 m__law_from_v4 (aC (eV 3) (aC (eV 9) (aC (eV 4) aN)))))) aN) [a0, a1, a2, some x, some (.obj m), a5, some (.int (p : Nat)), a7, a8, a9, a10, a11] g0 = r0) :
    ∃ g', r0 = .ok (lotD ((List.range p).map (pickF n))) g' ∧ Gk m g0 g' ∧ KeptM (FM n) n g' m := by
  suffices w : Wp r0 fun v g' => v = lotD ((List.range p).map (pickF n)) ∧ Gk m g0 g' ∧ KeptM (FM n) n g' m by
    obtain ⟨v, g', e, rfl, g⟩ := wp_ex w
    exact ⟨g', e, g⟩
  rw [← hr0]
  have ci : iR2 (aC (eC (.int 1)) (aC (e2 addD (eV 6) (eC (.int 1))) aN)) [a0, a1, a2, some x, some (.obj m), a5, some (.int (p : Nat)), a7, a8, a9, a10, a11] g0 = .ok ⟨(List.range p).map fun k : Nat => D.int ((k + 1 : Nat) : Int), []⟩ g0 := by
    have v6 : eV 6 [a0, a1, a2, some x, some (.obj m), a5, some (.int (p : Nat)), a7, a8, a9, a10, a11] g0 = .ok (.int (p : Nat)) g0 := rfl
    have ok : (okI 1 && okI ((p : Int) + 1)) = true := by rw [okI_of (by omega) (by omega), okI_of (by omega) (by omega)]; rfl
    have rn : rng 1 1 p = (List.range' 1 p).map fun m : Nat => D.int m := rng_nat p 1
    rw [q_iR2]
    simp only [q_aC, q_aN, q_eC, q_e2, v6, bind_ok', addD_ii, ok, ↓reduceIte]
    have e2' : ((List.range' 1 p).map fun m : Nat => D.int m) = (List.range p).map fun k : Nat => D.int ((k + 1 : Nat) : Int) := by
      rw [List.range'_eq_map_range, List.map_map]
      refine List.map_congr_left fun k _ => ?_
      show D.int ((1 + k : Nat) : Int) = D.int ((k + 1 : Nat) : Int)
      rw [Nat.add_comm]
    rw [show ((p : Int) + 1 - 1).toNat = p by omega, rn, e2']
  rw [q_eBf, wp_bind, q_aC, wp_bind, q_frz, wp_bind, nLc_eq, ci, bind_ok']
  show Wp (if okLen ((List.range p).map fun k : Nat => D.int ((k + 1 : Nat) : Int)).length = true then _ else _) _
  rw [if_pos (okLen_of (by rw [List.length_map, List.length_range]; omega))]
  refine wp_lcF (gd := fun k : Nat => D.int ((k + 1 : Nat) : Int)) (f := fun k => .int (pickF n k : Nat)) (fun _ g => Gk m g0 g ∧ KeptM (FM n) n g m) (List.range p) 0 g0 (fun j k g hk ⟨gk, Kg⟩ => ?_) ⟨.refl, K⟩ fun g' ⟨gk, Kg⟩ => ?_
  · have hj := (List.getElem?_eq_some_iff.mp hk).1
    rw [List.length_range] at hj
    rw [List.getElem?_range hj] at hk
    have ek : j = k := Option.some.inj hk
    subst ek
    refine ⟨[a0, a1, a2, some x, some (.obj m), a5, some (.int (p : Nat)), a7, a8, some (.int ((j + 1 : Nat) : Int)), a10, a11], rfl, ?_⟩
    obtain ⟨g', e, gk', K'⟩ := from_spec (v := pickF n j) (show n ≤ 6 by omega) hL N.rl (show 1 ≤ j + 1 by omega) (show j + 1 ≤ n by omega) (li.gk gk) gd hn lo Kg (N.pk j (by omega)) (N.ok j (by omega)) (N.no j (by omega))
    have c : eCall 3 m__law_from_v4 (aC (eV 3) (aC (eV 9) (aC (eV 4) aN))) [a0, a1, a2, some x, some (.obj m), a5, some (.int (p : Nat)), a7, a8, some (.int ((j + 1 : Nat) : Int)), a10, a11] g = .ok (.int (pickF n j : Nat)) g' := call3 rfl rfl rfl e
    rw [c, wp_ok]
    exact ⟨rfl, gk.trans gk', K'⟩
  · rw [wp_ok, q_aN, wp_bind, wp_ok, wp_ok]
    show Wp (tupD [.lst ((List.range p).map fun k => D.int (pickF n k : Nat))] g') _
    rw [tupD_lst, wp_ok]
    refine ⟨?_, gk, Kg⟩
    unfold lotD
    rw [List.map_map]
    rfl
theorem body08 {n p m T : Nat} {g0 : Hs} {x : D} {a0 a1 a7 a8 a9 a10 a11 : Option D} (N : Num8 n) (n5 : n ≤ 5) (n1 : 1 ≤ n) (pn : p < n) (hL : (keysM n).length < 16777216) (Tm : T ≠ m) (li : ListN g0 m x ((ordAll n).map lotD)) (gd : Gd n (ordAll n) 0) (hn : ∀ o ∈ ordAll n, o.length = n) (lo : (ordAll n).length ≤ 1000) (K : KeptM (FM n) n g0 m) (cT : g0[T]? = some (.lst (told n p))) (xT : ∀ j, x = .obj j → j ≠ T) {r0 : SR}
    (hr0 : k08body [a0, a1, some (.int (n : Nat)), some x, some (.obj m), some (.obj T), some (.int ((p + 1 : Nat) : Int)), a7, a8, a9, a10, a11] g0 = r0) :
    WpS r0 (fun ρ g => ListN g m x ((ordAll n).map lotD) ∧ KeptM (FM n) n g m ∧ g[T]? = some (.lst (told n (p + 1))) ∧ ∃ b7 b8, ρ = [a0, a1, some (.int (n : Nat)), some x, some (.obj m), some (.obj T), some (.int ((p + 1 : Nat) : Int)), b7, b8, a9, a10, a11]) fun _ _ => False := by
  have n6 : n ≤ 6 := by omega
  have kl := kL8_b n n5 n1
  obtain ⟨g1, ew1, gk1, K1⟩ := winsM_spec n6 hL 8 (ordAll n) 0 (p + 1) m x g0 li gd hn (Nat.zero_le _) (by omega) lo (by omega) K
  rw [Nat.sub_zero] at ew1
  have li1 := li.gk gk1
  have ll : lenD [x] g1 = .ok (.int ((ordAll n).length : Nat)) g1 := by
    rcases li1.1 with e | ⟨i, z1, z2⟩
    · rw [e, lenD_lst, List.length_map]
    · rw [z1, lenD_obj z2, List.length_map]
  rw [N.len] at ll
  have lw := low_eq ((winsP n n (ordAll n) 0 (p + 1) : Nat) : Int) ((kL8.getD n 0 : Nat) : Int) g1 (by omega) (Nat.lt_of_le_of_lt (show ((kL8.getD n 0 : Nat) : Int).natAbs ≤ 1000 by omega) (Nat.lt_of_lt_of_le (show 1000 < 2 ^ 10 by decide) (Nat.pow_le_pow_right (by decide) (by decide))))
  rw [N.due p pn] at lw
  have c1 : eCall 2 m__law_low (aC (eCall 4 m__law_wins_v2 (aC (eV 3) (aC (eC (.int 0)) (aC (eV 6) (aC (eV 4) aN))))) (aC (eBf lenD (aC (eV 3) aN)) aN)) [a0, a1, some (.int (n : Nat)), some x, some (.obj m), some (.obj T), some (.int ((p + 1 : Nat) : Int)), a7, a8, a9, a10, a11] g0 = .ok (fr (hopR n (p + 1) n)) g1 := by
    refine call2 (h1 := g1) (x := .int (winsP n n (ordAll n) 0 (p + 1) : Nat)) (call4 (x := x) rfl (y := .int 0) rfl (z := .int ((p + 1 : Nat) : Int)) rfl (u := .obj m) rfl ew1) (h2 := g1) (y := .int (kL8.getD n 0 : Nat)) ?_ lw
    have v3 : eV 3 [a0, a1, some (.int (n : Nat)), some x, some (.obj m), some (.obj T), some (.int ((p + 1 : Nat) : Int)), a7, a8, a9, a10, a11] g1 = .ok x g1 := rfl
    rw [q_eBf, q_aC, v3, bind_ok', q_aN, bind_ok', bind_ok', ll]
  have cT1 : g1[T]? = some (.lst (told n p)) := gk1.at Tm cT
  obtain ⟨d2, g2, e2', rfl, gb2⟩ := wp_ex (chanceN (n := n) (p := p + 1) (by omega) (by omega) (show n ≤ 12 by omega) (h := g1))
  have cT2 : g2[T]? = some (.lst (told n p)) := gb2.at (Nat.zero_le _) cT1
  have lT : (told n p).length = p := by unfold told; rw [List.length_map, List.length_range]
  have ap := app_obj (y := fr (hopR n (p + 1) n)) cT2 (by rw [lT]; omega)
  rw [← told_s] at ap
  have hT := (List.getElem?_eq_some_iff.mp cT2).1
  have s1 : sExp (eLm appD (eV 5) (aC (eCall 2 m_chance_with (aC (eV 2) (aC (eV 6) aN))) aN)) [a0, a1, some (.int (n : Nat)), some x, some (.obj m), some (.obj T), some (.int ((p + 1 : Nat) : Int)), some (fr (hopR n (p + 1) n)), a8, a9, a10, a11] g1 = .nx [a0, a1, some (.int (n : Nat)), some x, some (.obj m), some (.obj T), some (.int ((p + 1 : Nat) : Int)), some (fr (hopR n (p + 1) n)), a8, a9, a10, a11] (g2.set T (.lst (told n (p + 1)))) := by
    have v5 : eV 5 [a0, a1, some (.int (n : Nat)), some x, some (.obj m), some (.obj T), some (.int ((p + 1 : Nat) : Int)), some (fr (hopR n (p + 1) n)), a8, a9, a10, a11] g1 = .ok (.obj T) g1 := rfl
    have cc : eCall 2 m_chance_with (aC (eV 2) (aC (eV 6) aN)) [a0, a1, some (.int (n : Nat)), some x, some (.obj m), some (.obj T), some (.int ((p + 1 : Nat) : Int)), some (fr (hopR n (p + 1) n)), a8, a9, a10, a11] g1 = .ok (fr (hopR n (p + 1) n)) g2 := call2 rfl rfl e2'
    rw [q_sExp, q_eLm, v5, bind_ok', lstAt_obj cT1]
    show ((aC (eCall 2 m_chance_with (aC (eV 2) (aC (eV 6) aN))) aN _ g1).bind fun xs h2 => appD (.obj T) xs h2).then _ _ = _
    rw [q_aC, cc, bind_ok', q_aN, bind_ok', bind_ok', ap]
    rfl
  have cT3 : (g2.set T (.lst (told n (p + 1))))[T]? = some (.lst (told n (p + 1))) := List.getElem?_set_self hT
  have K3 : KeptM (FM n) n (g2.set T (.lst (told n (p + 1)))) m := (K1.gb gb2).eq (List.getElem?_set_ne Tm)
  have li3 : ListN (g2.set T (.lst (told n (p + 1)))) m x ((ordAll n).map lotD) := by
    have l2 := li1.gk (Gk.of0 gb2)
    refine ⟨?_, l2.2⟩
    rcases l2.1 with e | ⟨i, z1, z2⟩
    · exact .inl e
    · exact .inr ⟨i, z1, by rw [List.getElem?_set_ne (Ne.symm (xT i z1))]; exact z2⟩
  generalize g2.set T (.lst (told n (p + 1))) = g3 at s1 cT3 K3 li3
  have il := item_last (h := g3) (n := T) (xs := told n p) (d := fr (hopR n (p + 1) n)) (by rw [← told_s]; exact cT3)
  have c2 : eCall 2 m__law_is (aC (e2 itemD (eV 5) (e1 negD (eC (.int 1)))) (aC (eV 7) aN)) [a0, a1, some (.int (n : Nat)), some x, some (.obj m), some (.obj T), some (.int ((p + 1 : Nat) : Int)), some (fr (hopR n (p + 1) n)), a8, a9, a10, a11] g3 = .ok (.bl true) g3 := by
    have v5 : eV 5 [a0, a1, some (.int (n : Nat)), some x, some (.obj m), some (.obj T), some (.int ((p + 1 : Nat) : Int)), some (fr (hopR n (p + 1) n)), a8, a9, a10, a11] g3 = .ok (.obj T) g3 := rfl
    refine call2 (x := fr (hopR n (p + 1) n)) (y := fr (hopR n (p + 1) n)) ?_ rfl is_fr
    rw [q_e2, v5, bind_ok', q_e1, q_eC, bind_ok', negD_i, bind_ok']
    exact il
  obtain ⟨g4, e4, gk4, K4⟩ := comp08 (p := p + 1) (hr0 := rfl) (a0 := a0) (a1 := a1) (a2 := some (.int (n : Nat))) (a5 := some (.obj T)) (a7 := some (fr (hopR n (p + 1) n))) (a8 := a8) (a9 := a9) (a10 := a10) (a11 := a11) N n5 n1 (by omega) hL li3 gd hn lo K3
  have li4 := li3.gk gk4
  have cT4 := gk4.at Tm cT3
  obtain ⟨g5, e5, gb5⟩ := pickN (n := n) (p := p + 1) (by omega) (by omega) (show n ≤ 12 by omega) g4
  have isl : m__law_is [lotD ((List.range (p + 1)).map (pickF n)), lotD ((List.range (p + 1)).map (pickF n))] g5 = .ok (.bl true) g5 := is_refl (lw_lot (by rw [List.length_map, List.length_range]; omega)) (by decide)
  have c5 : eCall 2 m__law_is (aC (eCall 2 m_pick_from (aC (eV 2) (aC (eV 6) aN))) (aC (eV 8) aN)) [a0, a1, some (.int (n : Nat)), some x, some (.obj m), some (.obj T), some (.int ((p + 1 : Nat) : Int)), some (fr (hopR n (p + 1) n)), some (lotD ((List.range (p + 1)).map (pickF n))), a9, a10, a11] g4 = .ok (.bl true) g5 := call2 (call2 rfl rfl e5) rfl isl
  subst hr0
  unfold k08body k08s_0 k08s_1 k08s_2 k08s_3 k08s_4
  rw [wps_seq, q_sSet, c1, then_ok, wps_nx, wps_seq]
  simp only [List.set_cons_zero, List.set_cons_succ]
  rw [s1, wps_nx, wps_seq, q_sIf, q_notT, q_tru, c2, bind_ok', truD_bl]
  show WpS (((Dl.R.ok false g3).then _ _)) _ _
  rw [then_ok, if_neg Bool.false_ne_true]
  simp only [sPass, wps_nx]
  rw [wps_seq, q_sSet, e4, then_ok, wps_nx]
  simp only [List.set_cons_zero, List.set_cons_succ]
  rw [q_sIf, q_notT, q_tru, c5, bind_ok', truD_bl]
  show WpS (((Dl.R.ok false g5).then _ _)) _ _
  rw [then_ok, if_neg Bool.false_ne_true]
  simp only [sPass, wps_nx]
  exact ⟨li4.gk (Gk.of0 gb5), K4.gb gb5, gb5.at (Nat.zero_le _) cT4, _, _, rfl⟩
theorem zip_mem8 : ∀ (xs : List D) (z : D), z ∈ zipD xs (xs.drop 1) → ∃ k a b, xs[k]? = some a ∧ xs[k + 1]? = some b ∧ z = .tup [a, b]
  | [], z, h => by simp [zipD] at h
  | [_], z, h => by simp [zipD] at h
  | a :: b :: l, z, h => by
    have e : zipD (a :: b :: l) ((a :: b :: l).drop 1) = .tup [a, b] :: zipD (b :: l) ((b :: l).drop 1) := rfl
    rw [e] at h
    rcases List.mem_cons.mp h with h | h
    · exact ⟨0, a, b, rfl, rfl, h⟩
    · obtain ⟨k, u, v, h1, h2, h3⟩ := zip_mem8 (b :: l) z h
      exact ⟨k + 1, u, v, h1, h2, h3⟩
theorem end08 {n m T : Nat} {g0 : Hs} {a0 a1 a3 a4 a6 a7 a8 a9 a10 a11 : Option D} (N : Num8 n) (n5 : n ≤ 5) (n1 : 1 ≤ n) (cT : g0[T]? = some (.lst (told n n))) {r0 : SR}
    (hr0 : k08end [a0, a1, some (.int (n : Nat)), a3, a4, some (.obj T), a6, a7, a8, a9, a10, a11] g0 = r0) :
    WpS r0 (fun _ _ => False) fun d _ => d = .bl true := by
  have at_ : ∀ k, k < n → (told n n)[k]? = some (fr (hopR n (k + 1) n)) := fun k hk => by
    unfold told
    rw [List.getElem?_map, List.getElem?_range hk]
    rfl
  have i0 : ∀ g : Hs, g[T]? = some (.lst (told n n)) → itemD (.obj T) (.int 0) g = .ok (fr (hopR n 1 n)) g := fun g e => item_obj (i := 0) e (at_ 0 (by omega))
  have il : ∀ g : Hs, g[T]? = some (.lst (told n n)) → itemD (.obj T) (.int (-1)) g = .ok (fr (hopR n n n)) g := fun g e => by
    obtain ⟨k, rfl⟩ : ∃ k, n = k + 1 := ⟨n - 1, by omega⟩
    refine item_last (xs := told (k + 1) k) ?_
    rw [e]
    have := told_s (k + 1) k
    rw [this]
  obtain ⟨b, g1, eb, rfl, gb1⟩ := wp_ex (bestN n1 (show n ≤ 12 by omega) (h := g0))
  rw [← N.one] at eb
  have cT1 := gb1.at (Nat.zero_le _) cT
  have f1 : fr (hopR n n n) = .tup [.int 1, .int 1] := by rw [N.all]; rfl
  have v5 : ∀ g, eV 5 [a0, a1, some (.int (n : Nat)), a3, a4, some (.obj T), a6, a7, a8, a9, a10, a11] g = .ok (.obj T) g := fun _ => rfl
  have cb : eCall 1 m_best_chance (aC (eV 2) aN) [a0, a1, some (.int (n : Nat)), a3, a4, some (.obj T), a6, a7, a8, a9, a10, a11] g0 = .ok (fr (hopR n 1 n)) g1 := by
    have v2 : eV 2 [a0, a1, some (.int (n : Nat)), a3, a4, some (.obj T), a6, a7, a8, a9, a10, a11] g0 = .ok (.int (n : Nat)) g0 := rfl
    rw [q_eCall, q_aC, v2, bind_ok', q_aN, bind_ok', bind_ok']
    show (if decide (1 = 1) = true then m_best_chance [.int (n : Nat)] g0 else .bad) = _
    rw [if_pos (decide_eq_true rfl), eb]
  have ne1 : neD (fr (hopR n 1 n)) (fr (hopR n 1 n)) g1 = .ok (.bl false) g1 := by
    rw [neD_fz ((fz_fr _).mono (by decide)) ((fz_fr _).mono (by decide)), decide_eq_true rfl]
    rfl
  have ne2 : neD (.tup [.int 1, .int 1]) (.tup [.int 1, .int 1]) g1 = .ok (.bl false) g1 := by
    rw [neD_fz ((fz_ii 1 1).mono (by decide)) ((fz_ii 1 1).mono (by decide)), decide_eq_true rfl]
    rfl
  have il1 := il g1 cT1
  rw [f1] at il1
  have t : orT (tst (e2 neD (e2 itemD (eV 5) (eC (.int 0))) (eCall 1 m_best_chance (aC (eV 2) aN)))) (tst (e2 neD (e2 itemD (eV 5) (e1 negD (eC (.int 1)))) (eTup (aC (eC (.int 1)) (aC (eC (.int 1)) aN))))) [a0, a1, some (.int (n : Nat)), a3, a4, some (.obj T), a6, a7, a8, a9, a10, a11] g0 = .ok false g1 := by
    simp only [q_orT, q_tst, q_e2, q_e1, v5, q_eC, bind_ok', i0 g0 cT, cb, ne1, truD_bl, Bool.false_eq_true, ↓reduceIte, negD_i, il1, q_eTup, q_aC, q_aN, List.length_cons, List.length_nil, Nat.reduceAdd, zero_add', okL2, ne2]
  have lT : (told n n).length = n := by unfold told; rw [List.length_map, List.length_range]
  have sl : eSl (eV 5) (pS (eC (.int 1))) pN [a0, a1, some (.int (n : Nat)), a3, a4, some (.obj T), a6, a7, a8, a9, a10, a11] g1 = .ok (.lst ((told n n).drop 1)) g1 := by
    have z : sliceD (.obj T) (some 1) none g1 = .ok (.lst ((told n n).drop 1)) g1 := slD_obj_from (m := 1) cT1
    simp only [q_eSl, v5, q_pS, q_pN, q_eC, bind_ok', z]
  have ogT : okG [(T, told n n)] g1 = true := by
    unfold okG
    simp only [List.all_cons, List.all_nil, Bool.and_true]
    rw [cT1]
    exact D.beqs_refl _
  have iz : iZip (aC (eV 5) (aC (eSl (eV 5) (pS (eC (.int 1))) pN) aN)) [a0, a1, some (.int (n : Nat)), a3, a4, some (.obj T), a6, a7, a8, a9, a10, a11] g1 = .ok ⟨zipD (told n n) ((told n n).drop 1), [(T, told n n)]⟩ g1 := by
    have i1 : itOf g1 (.obj T) = some ⟨told n n, [(T, told n n)]⟩ := by
      show (match g1[T]? with
        | some (.lst xs) => some (ItD.mk xs [(T, xs)])
        | _ => none) = _
      rw [cT1]
    rw [q_iZip, q_aC, v5, bind_ok', q_aC, sl, bind_ok', q_aN, bind_ok', bind_ok', bind_ok']
    show (if isT (.obj T) == isT (.lst ((told n n).drop 1)) then (match itOf g1 (.obj T), itOf g1 (.lst ((told n n).drop 1)) with
      | some it, some jt => if okG it.gs g1 && okG jt.gs g1 then Dl.R.ok (ItD.mk (zipD it.items jt.items) (it.gs ++ jt.gs)) g1 else .bad
      | _, _ => .bad) else .bad) = _
    rw [i1]
    show (if okG [(T, told n n)] g1 && okG [] g1 then Dl.R.ok (ItD.mk (zipD (told n n) ((told n n).drop 1)) ([(T, told n n)] ++ [])) g1 else .bad) = _
    rw [ogT]
    rfl
  have c : nLc (iZip (aC (eV 5) (aC (eSl (eV 5) (pS (eC (.int 1))) pN) aN))) (.tp [.nm 10, .nm 11]) [10, 11] (tYes') (eCall 2 m__law_less (aC (eV 11) (aC (eV 10) aN))) [a0, a1, some (.int (n : Nat)), a3, a4, some (.obj T), a6, a7, a8, a9, a10, a11] g1 = .ok ((zipD (told n n) ((told n n).drop 1)).map fun _ => .bl false) g1 := by
    rw [nLc_eq, iz]
    show (if okLen (zipD (told n n) ((told n n).drop 1)).length = true then _ else _) = _
    rw [if_pos (okLen_of (by rw [zipD_len, lT]; omega))]
    refine lcF_pure (f := fun _ => .bl false) ogT fun z hz => ?_
    obtain ⟨k, u, v, h1, h2, rfl⟩ := zip_mem8 _ _ hz
    have hk := (List.getElem?_eq_some_iff.mp h2).1
    rw [lT] at hk
    rw [at_ k (by omega)] at h1
    rw [at_ (k + 1) hk] at h2
    cases h1
    cases h2
    have up := N.up k hk
    refine ⟨[a0, a1, some (.int (n : Nat)), a3, a4, some (.obj T), a6, a7, a8, a9, some (fr (hopR n (k + 1) n)), some (fr (hopR n (k + 1 + 1) n))], rfl, ?_⟩
    have lq := lless_eq (hop_sz n1 (show n ≤ 12 by omega) (Nat.le_refl n) (show k + 1 + 1 ≤ 12 by omega)) (hop_sz n1 (show n ≤ 12 by omega) (Nat.le_refl n) (show k + 1 ≤ 12 by omega)) (by decide) g1
    rw [decide_eq_false up] at lq
    exact call2 rfl rfl lq
  have an := anyD_bls (fun _ : D => false) (zipD (told n n) ((told n n).drop 1)) g1
  have an0 : (zipD (told n n) ((told n n).drop 1)).any (fun _ => false) = false := by
    rw [List.any_eq_false]
    intro z _ h
    cases h
  rw [an0] at an
  subst hr0
  unfold k08end
  rw [wps_seq, q_sIf, t, then_ok, if_neg Bool.false_ne_true]
  simp only [sPass, wps_nx]
  rw [q_sRet, q_e1, q_eBf, q_aC, q_frz, c, bind_ok', bind_ok', q_aN, bind_ok', bind_ok', an, bind_ok']
  rfl
theorem ord08 {n : Nat} (n6 : n ≤ 6) (h : Hs) : ∃ x h1, m__law_orders [.int (n : Nat)] h = .ok x h1 ∧ ListAt h1 x ((ordAll n).map lotD) ∧ Gb 0 h h1 := by
  have lo : m__law_orders = m_all_orders := rfl
  rw [lo]
  generalize exn : D.int (n : Nat) = xn
  have w := orders_spec exn.symm n6 h
  generalize m_all_orders [xn] h = r at w
  cases r with
  | ok x h1 => exact ⟨x, h1, rfl, w.1, w.2.1⟩
  | exc C fs h1 => exact w.elim
  | bad => exact w.elim
theorem tail08 {n : Nat} (n1 : 1 ≤ n) (n5 : n ≤ 5) {h : Hs} {a0 a1 a3 a4 a5 a6 a7 a8 a9 a10 a11 : Option D} {r0 : SR} (hr0 : k08tail [a0, a1, some (.int (n : Nat)), a3, a4, a5, a6, a7, a8, a9, a10, a11] h = r0) :
    WpS r0 (fun _ _ => False) fun d _ => d = .bl true := by
  have N := num8 n1 n5
  have kl := kL8_b n n5 n1
  have n6 : n ≤ 6 := by omega
  obtain ⟨x, h1, eo, la1, g1⟩ := ord08 n6 h
  have hn : ∀ o ∈ ordAll n, o.length = n := fun o ho => (ordAll_arr o ho).len
  have le := N.len
  have lo : (ordAll n).length ≤ 1000 := by omega
  obtain ⟨o0, ho0⟩ : ∃ o, (ordAll n)[0]? = some o := ⟨_, List.getElem?_eq_getElem (by omega)⟩
  have gd : Gd n (ordAll n) 0 := ⟨o0, ho0, rfl⟩
  have hL : (keysM n).length < 16777216 := by
    rw [keysM_len, le]
    have a : kL8.getD n 0 * ((n + 1) * (n + 1)) ≤ 120 * (6 * 6) := Nat.mul_le_mul kl.2 (Nat.mul_le_mul (by omega) (by omega))
    omega
  have co : eCall 1 m__law_orders (aC (eV 2) aN) [a0, a1, some (.int (n : Nat)), a3, a4, a5, a6, a7, a8, a9, a10, a11] h = .ok x h1 := by
    have v2 : eV 2 [a0, a1, some (.int (n : Nat)), a3, a4, a5, a6, a7, a8, a9, a10, a11] h = .ok (.int (n : Nat)) h := rfl
    rw [q_eCall, q_aC, v2, bind_ok', q_aN, bind_ok', bind_ok']
    show (if decide (1 = 1) = true then m__law_orders [.int (n : Nat)] h else .bad) = _
    rw [if_pos (decide_eq_true rfl), eo]
  have ct : eTup (aC (eCall 1 m__law_orders (aC (eV 2) aN)) (aC (eDct0) (aC (thaw (nLst aN)) aN))) [a0, a1, some (.int (n : Nat)), a3, a4, a5, a6, a7, a8, a9, a10, a11] h = .ok (.tup [x, .obj h1.length, .obj (h1 ++ [DO.dI []]).length]) ((h1 ++ [.dI []]) ++ [.lst []]) := by
    rw [q_eTup, q_aC, co, bind_ok', q_aC, q_eDct0, bind_ok', q_aC, q_thaw, q_nLst, q_aN, bind_ok']
    rfl
  have g3 : Gb 0 h1 ((h1 ++ [DO.dI []]) ++ [.lst []]) := (Gb.app).trans .app
  have jl : ∀ j, x = .obj j → j < h1.length := fun j e => by
    rcases la1 with e' | ⟨i, e1, e2⟩
    · rw [e'] at e; cases e
    · rw [e1] at e
      cases e
      exact (List.getElem?_eq_some_iff.mp e2).1
  have li3 : ListN ((h1 ++ [DO.dI []]) ++ [.lst []]) h1.length x ((ordAll n).map lotD) := by
    refine ⟨?_, fun j e => by have := jl j e; omega⟩
    rcases la1 with e' | ⟨i, e1, e2⟩
    · exact .inl e'
    · exact .inr ⟨i, e1, g3.at (Nat.zero_le _) e2⟩
  have K3 : KeptM (FM n) n ((h1 ++ [DO.dI []]) ++ [.lst []]) h1.length := KeptM.new ((Gb.app (b := 0)).at (Nat.zero_le _) get_last)
  have cT3 : ((h1 ++ [DO.dI []]) ++ [DO.lst []])[(h1 ++ [DO.dI []]).length]? = some (.lst (told n 0)) := get_last
  have Tm : (h1 ++ [DO.dI []]).length ≠ h1.length := by rw [List.length_append, List.length_singleton]; omega
  have xT : ∀ j, x = .obj j → j ≠ (h1 ++ [DO.dI []]).length := fun j e => by
    have := jl j e
    rw [List.length_append]
    omega
  generalize (h1 ++ [DO.dI []]) ++ [.lst []] = h3 at ct li3 K3 cT3
  generalize (h1 ++ [DO.dI []]).length = T at ct cT3 Tm xT
  generalize h1.length = m at ct li3 K3 Tm
  have ir : iR2 (aC (eC (.int 1)) (aC (e2 addD (eV 2) (eC (.int 1))) aN)) [a0, a1, some (.int (n : Nat)), some x, some (.obj m), some (.obj T), a6, a7, a8, a9, a10, a11] h3 = .ok ⟨rng 1 1 n, []⟩ h3 := by
    have v2 : eV 2 [a0, a1, some (.int (n : Nat)), some x, some (.obj m), some (.obj T), a6, a7, a8, a9, a10, a11] h3 = .ok (.int (n : Nat)) h3 := rfl
    have ok : (okI 1 && okI ((n : Int) + 1)) = true := by rw [okI_of (by omega) (by omega), okI_of (by omega) (by omega)]; rfl
    rw [q_iR2]
    simp only [q_aC, q_aN, q_eC, q_e2, v2, bind_ok', addD_ii, ok, ↓reduceIte]
    rw [show ((n : Int) + 1 - 1).toNat = n by omega]
  have pd : patD (.tp [.nm 3, .nm 4, .nm 5]) (.tup [x, .obj m, .obj T]) [a0, a1, some (.int (n : Nat)), a3, a4, a5, a6, a7, a8, a9, a10, a11] = some [a0, a1, some (.int (n : Nat)), some x, some (.obj m), some (.obj T), a6, a7, a8, a9, a10, a11] := rfl
  subst hr0
  unfold k08tail
  rw [wps_seq, q_sPat, ct, then_ok, pd]
  simp only [wps_nx]
  rw [wps_seq, wps_for, ir, wp_ok]
  refine wps_loop (fun p ρ g => p ≤ n ∧ ListN g m x ((ordAll n).map lotD) ∧ KeptM (FM n) n g m ∧ g[T]? = some (.lst (told n p)) ∧ ∃ b6 b7 b8, ρ = [a0, a1, some (.int (n : Nat)), some x, some (.obj m), some (.obj T), b6, b7, b8, a9, a10, a11]) _ 0 _ _ ?_ ?_ ⟨Nat.zero_le _, li3, K3, cT3, _, _, _, rfl⟩
  · rintro p y ρ g hy ⟨_, li, K, cT, b6, b7, b8, rfl⟩
    rw [Nat.zero_add] at cT ⊢
    have hp := (List.getElem?_eq_some_iff.mp hy).1
    rw [rng_len] at hp
    rw [rng_at _ _ _ _ hp] at hy
    have ey : y = .int ((p + 1 : Nat) : Int) := by
      have e := (Option.some.inj hy).symm
      rw [show (1 : Int) + (p : Nat) * 1 = ((p + 1 : Nat) : Int) by omega] at e
      exact e
    subst ey
    refine ⟨rfl, [a0, a1, some (.int (n : Nat)), some x, some (.obj m), some (.obj T), some (.int ((p + 1 : Nat) : Int)), b7, b8, a9, a10, a11], rfl, ?_⟩
    generalize hb : k08body _ _ = rb
    refine wps_mono (body08 N n5 n1 hp hL Tm li gd hn lo K cT xT hb) (fun ρ g' ⟨li', K', cT', c7, c8, e⟩ => ?_) fun _ _ z => z.elim
    subst e
    exact ⟨by omega, li', K', cT', _, _, _, rfl⟩
  · rintro ρ g ⟨_, li, K, cT, b6, b7, b8, rfl⟩
    rw [Nat.zero_add, rng_len] at cT
    refine ⟨rfl, ?_⟩
    generalize hb : k08end _ _ = rb
    exact wps_mono (end08 (m := 0) N n5 n1 cT hb) (fun _ _ z => z.elim) fun d h z => z
theorem law_k08 (ns : List Int) (hl : ns.length ≤ 63) (hb : ∀ z ∈ ns, PySem.Builtin.Int.intBits z ≤ 1048576) : ∃ h', m_law_k08 [.scr ns] [] = .ok (.bl true) h' := by
  suffices w : Wp (m_law_k08 [.scr ns] []) fun d _ => d = .bl true by
    obtain ⟨d, h', e, rfl⟩ := wp_ex w
    exact ⟨h', e⟩
  unfold m_law_k08
  rw [k08_code]
  have en : ent 12 [D.scr ns] = [some (.scr ns), none, none, none, none, none, none, none, none, none, none, none] := rfl
  rw [wp_def, en, wps_seq]
  simp only [q_sSet, q_eCall, q_aC, q_aN, eV0, eVs, bind_ok', List.length_cons, List.length_nil, Nat.reduceAdd, zero_add', decide_true, ↓reduceIte, wps_then, List.set_cons_zero, List.set_cons_succ]
  refine hand_spec2 hl hb fun h0 t0 l0 => ?_
  simp only [wps_nx]
  rw [wps_seq]
  simp only [q_sSet, q_e2, q_eC, q_eCall, q_aC, q_aN, eV0, eVs, bind_ok', List.length_cons, List.length_nil, Nat.reduceAdd, zero_add', decide_true, ↓reduceIte, wps_then, wp_bind, wp_ok, List.set_cons_zero, List.set_cons_succ]
  refine hand_b.draw t0 (sides := 5) (by decide) (by decide) (by omega) fun f h5 f0 f1 t5 g5 => ?_
  obtain ⟨n, em⟩ : ∃ n : Nat, 1 + f = (n : Int) := ⟨(1 + f).toNat, by omega⟩
  simp only [addD_ii, wp_ok, wps_nx, em, List.set_cons_zero, List.set_cons_succ]
  generalize hr : k08tail _ _ = r
  exact wps_mono (tail08 (n := n) (by omega) (by omega) hr) (fun _ _ z => z.elim) fun d h z => z
end Pl

namespace Law_k08
open PySem PySem.Spec PyProof.Rows L2 Dl Sh
def own : List (Tg × Tg × Bool) := []
/-! ### the module -/
def top (i : Nat) : Stmt := PySem.Challenge.pw_openorstop_k08_whole_candidates_with_pic.main.body.getD i (.Pass ⟨0, 0, 0, 0⟩)
local instance : Tb := ⟨fun _ => []⟩
structure Md (K : PySem.W.Frag) (mg : Str → Option Value) : Prop where
  c_Trials : Cls K (He.ga K "Trials")
  b_abs : mg "abs" = none
  b_all : mg "all" = none
  b_any : mg "any" = none
  b_bool : mg "bool" = none
  b_dict : mg "dict" = none
  b_enumerate : mg "enumerate" = none
  b_int : mg "int" = none
  b_isinstance : mg "isinstance" = none
  b_len : mg "len" = none
  b_list : mg "list" = none
  b_max : mg "max" = none
  b_range : mg "range" = none
  b_sorted : mg "sorted" = none
  b_tuple : mg "tuple" = none
  b_zip : mg "zip" = none
  g_Trials : mg "Trials" = some (.ref (He.ga K "Trials"))
  g__law_draw : mg "_law_draw" = some (.ref (He.ga K "_law_draw"))
  g__law_from : mg "_law_from" = some (.ref (He.ga K "_law_from"))
  g__law_hand : mg "_law_hand" = some (.ref (He.ga K "_law_hand"))
  g__law_is : mg "_law_is" = some (.ref (He.ga K "_law_is"))
  g__law_less : mg "_law_less" = some (.ref (He.ga K "_law_less"))
  g__law_low : mg "_law_low" = some (.ref (He.ga K "_law_low"))
  g__law_orders : mg "_law_orders" = some (.ref (He.ga K "_law_orders"))
  g__law_parted : mg "_law_parted" = some (.ref (He.ga K "_law_parted"))
  g__law_taken : mg "_law_taken" = some (.ref (He.ga K "_law_taken"))
  g__law_wins : mg "_law_wins" = some (.ref (He.ga K "_law_wins"))
  g_best_chance : mg "best_chance" = some (.ref (He.ga K "best_chance"))
  g_chance_with : mg "chance_with" = some (.ref (He.ga K "chance_with"))
  g_check_n : mg "check_n" = some (.ref (He.ga K "check_n"))
  g_check_picks : mg "check_picks" = some (.ref (He.ga K "check_picks"))
  g_common : mg "common" = some (.ref (He.ga K "common"))
  g_first_from : mg "first_from" = some (.ref (He.ga K "first_from"))
  g_greatest : mg "greatest" = some (.ref (He.ga K "greatest"))
  g_hopes : mg "hopes" = some (.ref (He.ga K "hopes"))
  g_is_fraction : mg "is_fraction" = some (.ref (He.ga K "is_fraction"))
  g_is_integer : mg "is_integer" = some (.ref (He.ga K "is_integer"))
  g_is_less : mg "is_less" = some (.ref (He.ga K "is_less"))
  g_is_share : mg "is_share" = some (.ref (He.ga K "is_share"))
  g_is_tuple : mg "is_tuple" = some (.ref (He.ga K "is_tuple"))
  g_is_within : mg "is_within" = some (.ref (He.ga K "is_within"))
  g_last_shares : mg "last_shares" = some (.ref (He.ga K "last_shares"))
  g_law : mg "law" = some (.ref (He.ga K "law"))
  g_lowest : mg "lowest" = some (.ref (He.ga K "lowest"))
  g_minus : mg "minus" = some (.ref (He.ga K "minus"))
  g_none_from : mg "none_from" = some (.ref (He.ga K "none_from"))
  g_odds_of : mg "odds_of" = some (.ref (He.ga K "odds_of"))
  g_ones_of : mg "ones_of" = some (.ref (He.ga K "ones_of"))
  g_pick_from : mg "pick_from" = some (.ref (He.ga K "pick_from"))
  g_plus : mg "plus" = some (.ref (He.ga K "plus"))
  g_product : mg "product" = some (.ref (He.ga K "product"))
  g_quotient : mg "quotient" = some (.ref (He.ga K "quotient"))
  g_whole_sum : mg "whole_sum" = some (.ref (He.ga K "whole_sum"))
  g_won : mg "won" = some (.ref (He.ga K "won"))
  i_MOST_CANDIDATES : ∃ t, mg "MOST_CANDIDATES" = some (.int 12 t)
  i_MOST_TRIALS : ∃ t, mg "MOST_TRIALS" = some (.int 12 t)
  mk_Trials : Mk K (He.ga K "Trials") (He.ma K (He.ga K "Trials") "__init__")
  n_Trials_chances : NoAttr K (He.ga K "Trials") "chances"
  n_Trials_looked : NoAttr K (He.ga K "Trials") "looked"
  g_NONE : mg "NONE" = some (.ref (He.ga K "NONE"))
  t_NONE : KT K (He.ga K "NONE") ([0, 1].map V.int)
  g_WHOLE : mg "WHOLE" = some (.ref (He.ga K "WHOLE"))
  t_WHOLE : KT K (He.ga K "WHOLE") ([1, 1].map V.int)
  d_Trials___init__ : ∃ fd, FunD K "__init__" "Trials.__init__" (defArgs (inClass (top 24) 0)) (defBody (inClass (top 24) 0)) (defScope (inClass (top 24) 0)) [] [] (He.ma K (He.ga K "Trials") "__init__") fd
  d__law_draw : ∃ fd, FunD K "_law_draw" "_law_draw" (defArgs (top 41)) (defBody (top 41)) (defScope (top 41)) [] [] (He.ga K "_law_draw") fd
  d__law_from : ∃ fd, FunD K "_law_from" "_law_from" (defArgs (top 49)) (defBody (top 49)) (defScope (top 49)) [] [] (He.ga K "_law_from") fd
  d__law_hand : ∃ fd, FunD K "_law_hand" "_law_hand" (defArgs (top 40)) (defBody (top 40)) (defScope (top 40)) [] [] (He.ga K "_law_hand") fd
  d__law_is : ∃ fd, FunD K "_law_is" "_law_is" (defArgs (top 42)) (defBody (top 42)) (defScope (top 42)) [] [] (He.ga K "_law_is") fd
  d__law_less : ∃ fd, FunD K "_law_less" "_law_less" (defArgs (top 44)) (defBody (top 44)) (defScope (top 44)) [] [] (He.ga K "_law_less") fd
  d__law_low : ∃ fd, FunD K "_law_low" "_law_low" (defArgs (top 43)) (defBody (top 43)) (defScope (top 43)) [] [] (He.ga K "_law_low") fd
  d__law_orders : ∃ fd, FunD K "_law_orders" "_law_orders" (defArgs (top 45)) (defBody (top 45)) (defScope (top 45)) [] [] (He.ga K "_law_orders") fd
  d__law_parted : ∃ fd, FunD K "_law_parted" "_law_parted" (defArgs (top 46)) (defBody (top 46)) (defScope (top 46)) [] [] (He.ga K "_law_parted") fd
  d__law_taken : ∃ fd, FunD K "_law_taken" "_law_taken" (defArgs (top 48)) (defBody (top 48)) (defScope (top 48)) [] [] (He.ga K "_law_taken") fd
  d__law_wins : ∃ fd, FunD K "_law_wins" "_law_wins" (defArgs (top 47)) (defBody (top 47)) (defScope (top 47)) [] [] (He.ga K "_law_wins") fd
  d_best_chance : ∃ fd, FunD K "best_chance" "best_chance" (defArgs (top 34)) (defBody (top 34)) (defScope (top 34)) [] [] (He.ga K "best_chance") fd
  d_chance_with : ∃ fd, FunD K "chance_with" "chance_with" (defArgs (top 37)) (defBody (top 37)) (defScope (top 37)) [] [] (He.ga K "chance_with") fd
  d_check_n : ∃ fd, FunD K "check_n" "check_n" (defArgs (top 32)) (defBody (top 32)) (defScope (top 32)) [] [] (He.ga K "check_n") fd
  d_check_picks : ∃ fd, FunD K "check_picks" "check_picks" (defArgs (top 36)) (defBody (top 36)) (defScope (top 36)) [] [] (He.ga K "check_picks") fd
  d_common : ∃ fd, FunD K "common" "common" (defArgs (top 11)) (defBody (top 11)) (defScope (top 11)) [] [] (He.ga K "common") fd
  d_first_from : ∃ fd, FunD K "first_from" "first_from" (defArgs (top 29)) (defBody (top 29)) (defScope (top 29)) [] [] (He.ga K "first_from") fd
  d_greatest : ∃ fd, FunD K "greatest" "greatest" (defArgs (top 18)) (defBody (top 18)) (defScope (top 18)) [] [] (He.ga K "greatest") fd
  d_hopes : ∃ fd, FunD K "hopes" "hopes" (defArgs (top 35)) (defBody (top 35)) (defScope (top 35)) [] [] (He.ga K "hopes") fd
  d_is_fraction : ∃ fd, FunD K "is_fraction" "is_fraction" (defArgs (top 20)) (defBody (top 20)) (defScope (top 20)) [] [] (He.ga K "is_fraction") fd
  d_is_integer : ∃ fd, FunD K "is_integer" "is_integer" (defArgs (top 1)) (defBody (top 1)) (defScope (top 1)) [] [] (He.ga K "is_integer") fd
  d_is_less : ∃ fd, FunD K "is_less" "is_less" (defArgs (top 17)) (defBody (top 17)) (defScope (top 17)) [] [] (He.ga K "is_less") fd
  d_is_share : ∃ fd, FunD K "is_share" "is_share" (defArgs (top 21)) (defBody (top 21)) (defScope (top 21)) [] [] (He.ga K "is_share") fd
  d_is_tuple : ∃ fd, FunD K "is_tuple" "is_tuple" (defArgs (top 3)) (defBody (top 3)) (defScope (top 3)) [] [] (He.ga K "is_tuple") fd
  d_is_within : ∃ fd, FunD K "is_within" "is_within" (defArgs (top 2)) (defBody (top 2)) (defScope (top 2)) [] [] (He.ga K "is_within") fd
  d_last_shares : ∃ fd, FunD K "last_shares" "last_shares" (defArgs (top 26)) (defBody (top 26)) (defScope (top 26)) [] [] (He.ga K "last_shares") fd
  d_law : ∃ fd, FunD K "law" "law" (defArgs (top 50)) (defBody (top 50)) (defScope (top 50)) [] [] (He.ga K "law") fd
  d_lowest : ∃ fd, FunD K "lowest" "lowest" (defArgs (top 12)) (defBody (top 12)) (defScope (top 12)) [] [] (He.ga K "lowest") fd
  d_minus : ∃ fd, FunD K "minus" "minus" (defArgs (top 14)) (defBody (top 14)) (defScope (top 14)) [] [] (He.ga K "minus") fd
  d_none_from : ∃ fd, FunD K "none_from" "none_from" (defArgs (top 25)) (defBody (top 25)) (defScope (top 25)) [] [] (He.ga K "none_from") fd
  d_odds_of : ∃ fd, FunD K "odds_of" "odds_of" (defArgs (top 28)) (defBody (top 28)) (defScope (top 28)) [] [] (He.ga K "odds_of") fd
  d_ones_of : ∃ fd, FunD K "ones_of" "ones_of" (defArgs (top 33)) (defBody (top 33)) (defScope (top 33)) [] [] (He.ga K "ones_of") fd
  d_pick_from : ∃ fd, FunD K "pick_from" "pick_from" (defArgs (top 38)) (defBody (top 38)) (defScope (top 38)) [] [] (He.ga K "pick_from") fd
  d_plus : ∃ fd, FunD K "plus" "plus" (defArgs (top 13)) (defBody (top 13)) (defScope (top 13)) [] [] (He.ga K "plus") fd
  d_product : ∃ fd, FunD K "product" "product" (defArgs (top 15)) (defBody (top 15)) (defScope (top 15)) [] [] (He.ga K "product") fd
  d_quotient : ∃ fd, FunD K "quotient" "quotient" (defArgs (top 16)) (defBody (top 16)) (defScope (top 16)) [] [] (He.ga K "quotient") fd
  d_whole_sum : ∃ fd, FunD K "whole_sum" "whole_sum" (defArgs (top 19)) (defBody (top 19)) (defScope (top 19)) [] [] (He.ga K "whole_sum") fd
  d_won : ∃ fd, FunD K "won" "won" (defArgs (top 27)) (defBody (top 27)) (defScope (top 27)) [] [] (He.ga K "won") fd
  own : OwnF K own
/-! ### each def computes what its function says -/
theorem sc__law_hand_v2 : FnScope ["script", "cells", "cell"] ["script"] (defScope (top 40)) := ⟨rfl, rfl, rfl, by decide +kernel, rfl, by decide +kernel, by decide +kernel⟩
theorem m__law_hand_v2_ok {P : Program} {w : World} {K : PySem.W.Frag} {mg : Str → Option Value} {base : Heap} (Z : Md K mg) : FnD P w K mg base 1 (He.ga K "_law_hand") 1 m__law_hand_v2 := by
  obtain ⟨fd, F⟩ := Z.d__law_hand
  have nd := sc__law_hand_v2.nd
  refine fnD_of F sc__law_hand_v2 rfl (binds_of F fun _ _ _ _ _ _ us hl => match us, hl with | [_], _ => rfl) fun cdv A outer s H E hr gd => ?_
  exact dss_cons (ds_setLc (fun _ _ _ _ q => w_frz q) (own := [("cell", 2)]) rfl nd (di_seq (de_sl (de_v 0) do_none (do_some (de_int)))) (blkOk_by (by kernel_rfl)) (fun _ _ _ _ _ => pg_nm nd) (fun _ _ _ _ _ => dts_nil) (fun _ _ _ _ _ => de_bf o_abs call_abs rfl Z.b_abs boot_abs (da_cons (de_tf o_int call_int1 rfl Z.b_int boot_int (da_cons (de_v 2) da_nil)) da_nil))) (dss_one (ds_ret (de_thaw (dn_lst (da_cons (de_v 1) (da_cons (de_int) (da_cons (de_int) (da_cons (de_add (de_int) (de_mul (de_int) (de_bf o_len c_len rfl Z.b_len boot_len (da_cons (de_v 1) da_nil)))) (da_cons (de_int) da_nil)))))))))

theorem sc__law_draw_v3 : FnScope ["hand", "sides", "cell", "digit", "number"] ["hand", "sides"] (defScope (top 41)) := ⟨rfl, rfl, rfl, by decide +kernel, rfl, by decide +kernel, by decide +kernel⟩
theorem m__law_draw_v3_ok {P : Program} {w : World} {K : PySem.W.Frag} {mg : Str → Option Value} {base : Heap} (Z : Md K mg) : FnD P w K mg base 1 (He.ga K "_law_draw") 2 m__law_draw_v3 := by
  obtain ⟨fd, F⟩ := Z.d__law_draw
  have nd := sc__law_draw_v3.nd
  refine fnD_of F sc__law_draw_v3 rfl (binds_of F fun _ _ _ _ _ _ us hl => match us, hl with | [_, _], _ => rfl) fun cdv A outer s H E hr gd => ?_
  exact dss_cons (ds_if (dt_bool (dw_and (dt_eq (u64 hr) (de_item (u1 hr) (de_v 0) (de_int)) (de_int)) (dw_and1 (dt_lt (de_item (u1 hr) (de_v 0) (de_int)) (de_bf o_len c_len rfl Z.b_len boot_len (da_cons (de_item (u1 hr) (de_v 0) (de_int)) da_nil)))))) (dss_cons (ds_set (i := 2) nd (de_item (u1 hr) (de_item (u1 hr) (de_v 0) (de_int)) (de_item (u1 hr) (de_v 0) (de_int)))) (dss_cons (ds_store (u1 hr) (de_add (de_item (u1 hr) (de_v 0) (de_int)) (de_int)) (de_v 0) (de_int)) (dss_cons (ds_store (u1 hr) (de_mod (de_tf o_int call_int1 rfl Z.b_int boot_int (da_cons (de_add (de_add (de_mul (de_item (u1 hr) (de_v 0) (de_int)) (de_int)) (de_v 2)) (de_int)) da_nil)) (de_int)) (de_v 0) (de_int)) (dss_one (ds_if (dt_ge (de_v 2) (de_pow (de_int) (de_int))) (dss_one (ds_store (u1 hr) (de_v 2) (de_v 0) (de_int))) (dss_nil)))))) (dss_nil)) (dss_cons (ds_if (dt_gt (de_item (u1 hr) (de_v 0) (de_int)) (de_int)) (dss_cons (ds_set (i := 3) nd (de_mod (de_tf o_int call_int1 rfl Z.b_int boot_int (da_cons (de_item (u1 hr) (de_v 0) (de_int)) da_nil)) (de_v 1))) (dss_cons (ds_store (u1 hr) (de_div (de_item (u1 hr) (de_v 0) (de_int)) (de_v 1)) (de_v 0) (de_int)) (dss_one (ds_ret (de_v 3))))) (dss_nil)) (dss_cons (ds_store (u1 hr) (de_add (de_item (u1 hr) (de_v 0) (de_int)) (de_int)) (de_v 0) (de_int)) (dss_cons (ds_set (i := 4) nd (de_mod (de_tf o_int call_int1 rfl Z.b_int boot_int (da_cons (de_mul (de_tf o_int call_int1 rfl Z.b_int boot_int (da_cons (de_add (de_item (u1 hr) (de_v 0) (de_int)) (de_mul (de_int) (de_item (u1 hr) (de_v 0) (de_int)))) da_nil)) (de_int)) da_nil)) (de_int))) (dss_cons (ds_set (i := 4) nd (de_mod (de_tf o_int call_int1 rfl Z.b_int boot_int (da_cons (de_mul (de_v 4) (de_add (de_div (de_v 4) (de_int)) (de_int))) da_nil)) (de_int))) (dss_cons (ds_set (i := 4) nd (de_mod (de_tf o_int call_int1 rfl Z.b_int boot_int (da_cons (de_mul (de_v 4) (de_add (de_div (de_v 4) (de_int)) (de_int))) da_nil)) (de_int))) (dss_one (ds_ret (de_mod (de_tf o_int call_int1 rfl Z.b_int boot_int (da_cons (de_div (de_v 4) (de_int)) da_nil)) (de_v 1)))))))))

theorem sc__law_orders : FnScope ["sides", "found", "turn", "longer", "order", "number"] ["sides"] (defScope (top 45)) := ⟨rfl, rfl, rfl, by decide +kernel, rfl, by decide +kernel, by decide +kernel⟩
theorem m__law_orders_ok {P : Program} {w : World} {K : PySem.W.Frag} {mg : Str → Option Value} {base : Heap} (Z : Md K mg) : FnD P w K mg base 1 (He.ga K "_law_orders") 1 m__law_orders := by
  obtain ⟨fd, F⟩ := Z.d__law_orders
  have nd := sc__law_orders.nd
  refine fnD_of F sc__law_orders rfl (binds_of F fun _ _ _ _ _ _ us hl => match us, hl with | [_], _ => rfl) fun cdv A outer s H E hr gd => ?_
  exact dss_cons (ds_set (i := 1) nd (de_frz (dn_lst (da_cons (de_tup da_nil) da_nil)))) (dss_cons (ds_for (passes_of rfl) rfl (di_range1 rfl Z.b_range (da_cons (de_v 0) da_nil)) (pg_nm nd) (dss_cons (ds_set (i := 3) nd (de_thaw (dn_lst da_nil))) (dss_cons (ds_for (passes_of rfl) rfl (di_seq (de_v 1)) (pg_nm nd) (dss_one (ds_exp (de_ext (de_v 3) (da_cons (de_frz (dn_lc (own := [("number", 5)]) rfl nd (di_range1 rfl Z.b_range (da_cons (de_v 0) da_nil)) (blkOk_by (by kernel_rfl)) (fun _ _ _ _ _ => pg_nm nd) (fun _ _ _ _ _ => dts_one (dt_nin (u65 hr) (de_v 5) (de_v 4))) (fun _ _ _ _ _ => de_add (de_v 4) (de_tup (da_cons (de_v 5) da_nil))))) da_nil))))) (dss_one (ds_set (i := 1) nd (de_v 3)))))) (dss_one (ds_ret (de_v 1))))

theorem sc__law_low : FnScope ["top", "bottom", "one", "other"] ["top", "bottom"] (defScope (top 43)) := ⟨rfl, rfl, rfl, by decide +kernel, rfl, by decide +kernel, by decide +kernel⟩
theorem m__law_low_ok {P : Program} {w : World} {K : PySem.W.Frag} {mg : Str → Option Value} {base : Heap} (Z : Md K mg) : FnD P w K mg base 1 (He.ga K "_law_low") 2 m__law_low := by
  obtain ⟨fd, F⟩ := Z.d__law_low
  have nd := sc__law_low.nd
  refine fnD_of F sc__law_low rfl (binds_of F fun _ _ _ _ _ _ us hl => match us, hl with | [_, _], _ => rfl) fun cdv A outer s H E hr gd => ?_
  exact dss_cons (ds_par2 (i := 2) (j := 3) rfl nd (da_cons (de_bf o_abs call_abs rfl Z.b_abs boot_abs (da_cons (de_v 0) da_nil)) (da_cons (de_v 1) da_nil))) (dss_cons (ds_while (lim := (limI 3)) (passes_of rfl) (dt_gt (de_v 3) (de_int)) (dss_one (ds_par2 (i := 2) (j := 3) rfl nd (da_cons (de_v 3) (da_cons (de_mod (de_tf o_int call_int1 rfl Z.b_int boot_int (da_cons (de_v 2) da_nil)) (de_v 3)) da_nil))))) (dss_one (ds_ret (de_tup (da_cons (de_div (de_v 0) (de_v 2)) (da_cons (de_div (de_v 1) (de_v 2)) da_nil))))))

theorem sc__law_parted : FnScope ["orders", "at", "rows", "order", "standing", "one"] ["orders", "at"] (defScope (top 46)) := ⟨rfl, rfl, rfl, by decide +kernel, rfl, by decide +kernel, by decide +kernel⟩
theorem m__law_parted_ok {P : Program} {w : World} {K : PySem.W.Frag} {mg : Str → Option Value} {base : Heap} (Z : Md K mg) : FnD P w K mg base 1 (He.ga K "_law_parted") 2 m__law_parted := by
  obtain ⟨fd, F⟩ := Z.d__law_parted
  have nd := sc__law_parted.nd
  refine fnD_of F sc__law_parted rfl (binds_of F fun _ _ _ _ _ _ us hl => match us, hl with | [_, _], _ => rfl) fun cdv A outer s H E hr gd => ?_
  exact dss_cons (ds_set (i := 2) nd (de_dct0)) (dss_cons (ds_for (passes_of rfl) rfl (di_seq (de_v 0)) (pg_nm nd) (dss_cons (ds_set (i := 4) nd (de_add (de_int) (de_bf o_len c_len rfl Z.b_len boot_len (da_cons (de_frz (dn_lc (own := [("one", 5)]) rfl nd (di_seq (de_sl (de_v 3) do_none (do_some (de_v 1)))) (blkOk_by (by kernel_rfl)) (fun _ _ _ _ _ => pg_nm nd) (fun _ _ _ _ _ => dts_one (dt_lt (de_v 5) (de_item (u1 hr) (de_v 3) (de_v 1)))) (fun _ _ _ _ _ => de_v 5))) da_nil)))) (dss_one (ds_exp (de_app (de_setd (de_v 2) (de_v 4) (de_thaw (dn_lst da_nil))) (da_cons (de_v 3) da_nil)))))) (dss_one (ds_ret (de_frz (dn_lc (own := [("standing", 4)]) rfl nd (di_seq (de_frz (dn_bf o_sortD (call_sortedDI rfl) rfl Z.b_sorted boot_sorted (da_cons (de_v 2) da_nil)))) (blkOk_by (by kernel_rfl)) (fun _ _ _ _ _ => pg_nm nd) (fun _ _ _ _ _ => dts_nil) (fun _ _ _ _ _ => de_tup (da_cons (de_v 4) (da_cons (de_item (u1 hr) (de_v 2) (de_v 4)) da_nil))))))))

theorem sc__law_taken : FnScope ["orders", "at", "left", "kept", "order"] ["orders", "at", "left", "kept"] (defScope (top 48)) := ⟨rfl, rfl, rfl, by decide +kernel, rfl, by decide +kernel, by decide +kernel⟩
theorem m__law_taken_ok {P : Program} {w : World} {K : PySem.W.Frag} {mg : Str → Option Value} {base : Heap} (Z : Md K mg) {l : Nat} {rec : List D → M D} (ih : FnD P w K mg base l (He.ga K "_law_wins") 4 rec) (hl : 0 ≤ l) : FnD P w K mg base (l + 1) (He.ga K "_law_taken") 4 (m__law_taken rec) := by
  obtain ⟨fd, F⟩ := Z.d__law_taken
  have nd := sc__law_taken.nd
  refine fnD_of F sc__law_taken rfl (binds_of F fun _ _ _ _ _ _ us hl => match us, hl with | [_, _, _, _], _ => rfl) fun cdv A outer s H E hr gd => ?_
  exact dss_one (ds_ret (de_add (de_bf o_len c_len rfl Z.b_len boot_len (da_cons (de_frz (dn_lc (own := [("order", 4)]) rfl nd (di_seq (de_v 0)) (blkOk_by (by kernel_rfl)) (fun _ _ _ _ _ => pg_nm nd) (fun _ _ _ _ _ => dts_one (dt_eq (u64 hr) (de_item (u1 hr) (de_v 4) (de_v 1)) (de_int))) (fun _ _ _ _ _ => de_v 4))) da_nil)) (de_call (ih.mono (by omega)) hr gd (takes_of rfl rfl rfl rfl) Z.g__law_wins rfl (da_cons (de_v 0) (da_cons (de_add (de_v 1) (de_int)) (da_cons (de_sub (de_v 2) (de_int)) (da_cons (de_v 3) da_nil)))))))

theorem sc__law_wins_v2 : FnScope ["orders", "at", "left", "kept", "place", "total", "standing", "some", "go"] ["orders", "at", "left", "kept"] (defScope (top 47)) := ⟨rfl, rfl, rfl, by decide +kernel, rfl, by decide +kernel, by decide +kernel⟩
theorem r__law_wins_v2_ok {P : Program} {w : World} {K : PySem.W.Frag} {mg : Str → Option Value} {base : Heap} (Z : Md K mg) : ∀ j : Nat, FnD P w K mg base (1 + 2 * j) (He.ga K "_law_wins") 4 (r__law_wins_v2 j)
  | 0 => by
    obtain ⟨fd, F⟩ := Z.d__law_wins
    exact fnD_bad F (ps := ["orders", "at", "left", "kept"]) rfl (binds_of F fun _ _ _ _ _ _ us hl => match us, hl with | [_, _, _, _], _ => rfl)
  | j + 1 => by
    have ih := r__law_wins_v2_ok (P := P) (w := w) (base := base) Z j
    obtain ⟨fd, F⟩ := Z.d__law_wins
    have nd := sc__law_wins_v2.nd
    refine FnD.mono (j := 1 + 2 * j + 1 + 1) (fnD_of F sc__law_wins_v2 rfl (binds_of F fun _ _ _ _ _ _ us hl => match us, hl with | [_, _, _, _], _ => rfl) fun cdv A outer s H E hr gd => ?_) (by omega)
    exact dss_cons (ds_if (dt_bool (dw_or (dt_eq (u64 hr) (de_v 1) (de_bf o_len c_len rfl Z.b_len boot_len (da_cons (de_item (u1 hr) (de_v 0) (de_int)) da_nil))) (dw_or1 (dt_eq (u64 hr) (de_v 2) (de_int))))) (dss_one (ds_ret (de_int))) (dss_nil)) (dss_cons (ds_set (i := 4) nd (de_tup (da_cons (de_item (u1 hr) (de_v 0) (de_int)) (da_cons (de_v 1) (da_cons (de_v 2) da_nil))))) (dss_cons (ds_if (dt_ninN (u64 hr) (de_v 4) (de_v 3)) (dss_cons (ds_set (i := 5) nd (de_int)) (dss_cons (ds_for (passes_of rfl) rfl (di_seq (de_call ((m__law_parted_ok Z).mono (by omega)) hr gd (takes_of rfl rfl rfl rfl) Z.g__law_parted rfl (da_cons (de_v 0) (da_cons (de_v 1) da_nil)))) (pg_tp rfl (pgs_co (pg_nm nd) (pgs_co (pg_nm nd) (pgs_no)))) (dss_cons (ds_set (i := 8) nd (de_call (ih.mono (by omega)) hr gd (takes_of rfl rfl rfl rfl) Z.g__law_wins rfl (da_cons (de_v 7) (da_cons (de_add (de_v 1) (de_int)) (da_cons (de_v 2) (da_cons (de_v 3) da_nil)))))) (dss_one (ds_set (i := 5) nd (de_add (de_v 5) (de_if (dt_eq (u64 hr) (de_v 6) (de_int)) (de_bf o_max (c_max rfl) rfl Z.b_max boot_max (da_cons (de_v 8) (da_cons (de_call ((m__law_taken_ok Z ih (by omega)).mono (by omega)) hr gd (takes_of rfl rfl rfl rfl) Z.g__law_taken rfl (da_cons (de_v 7) (da_cons (de_v 1) (da_cons (de_v 2) (da_cons (de_v 3) da_nil))))) da_nil))) (de_v 8))))))) (dss_one (ds_storeN (u64 hr) (de_v 5) (de_v 3) (de_v 4))))) (dss_nil)) (dss_one (ds_ret (de_itemN (u64 hr) (de_v 3) (de_v 4))))))
theorem m__law_wins_v2_ok {P : Program} {w : World} {K : PySem.W.Frag} {mg : Str → Option Value} {base : Heap} (Z : Md K mg) : FnD P w K mg base 17 (He.ga K "_law_wins") 4 m__law_wins_v2 := r__law_wins_v2_ok Z 8

theorem sc_is_integer : FnScope ["thing"] ["thing"] (defScope (top 1)) := ⟨rfl, rfl, rfl, by decide +kernel, rfl, by decide +kernel, by decide +kernel⟩
theorem m_is_integer_ok {P : Program} {w : World} {K : PySem.W.Frag} {mg : Str → Option Value} {base : Heap} (Z : Md K mg) : FnD P w K mg base 1 (He.ga K "is_integer") 1 m_is_integer := by
  obtain ⟨fd, F⟩ := Z.d_is_integer
  have nd := sc_is_integer.nd
  refine fnD_of F sc_is_integer rfl (binds_of F fun _ _ _ _ _ _ us hl => match us, hl with | [_], _ => rfl) fun cdv A outer s H E hr gd => ?_
  exact dss_one (ds_ret (de_andX (de_bf (o_isi (own := []) own_nil) call_isi rfl Z.b_isinstance boot_isinstance (da_cons (de_v 0) (da_cons (de_ty rfl Z.b_int boot_int) da_nil))) (de_one (de_notX (de_bf (o_isi (own := []) own_nil) call_isi rfl Z.b_isinstance boot_isinstance (da_cons (de_v 0) (da_cons (de_ty rfl Z.b_bool boot_bool) da_nil)))))))

theorem sc_is_within : FnScope ["thing", "low", "high"] ["thing", "low", "high"] (defScope (top 2)) := ⟨rfl, rfl, rfl, by decide +kernel, rfl, by decide +kernel, by decide +kernel⟩
theorem m_is_within_ok {P : Program} {w : World} {K : PySem.W.Frag} {mg : Str → Option Value} {base : Heap} (Z : Md K mg) : FnD P w K mg base 2 (He.ga K "is_within") 3 m_is_within := by
  obtain ⟨fd, F⟩ := Z.d_is_within
  have nd := sc_is_within.nd
  refine fnD_of F sc_is_within rfl (binds_of F fun _ _ _ _ _ _ us hl => match us, hl with | [_, _, _], _ => rfl) fun cdv A outer s H E hr gd => ?_
  exact dss_one (ds_ret (de_andX (de_call ((m_is_integer_ok Z).mono (by decide)) hr gd (takes_of rfl rfl rfl rfl) Z.g_is_integer rfl (da_cons (de_v 0) da_nil)) (de_one (de_lele (de_v 1) (de_v 0) (de_v 2)))))

theorem sc_check_n : FnScope ["n"] ["n"] (defScope (top 32)) := ⟨rfl, rfl, rfl, by decide +kernel, rfl, by decide +kernel, by decide +kernel⟩
theorem m_check_n_ok {P : Program} {w : World} {K : PySem.W.Frag} {mg : Str → Option Value} {base : Heap} (Z : Md K mg) : FnD P w K mg base 3 (He.ga K "check_n") 1 m_check_n := by
  obtain ⟨fd, F⟩ := Z.d_check_n
  have nd := sc_check_n.nd
  refine fnD_of F sc_check_n rfl (binds_of F fun _ _ _ _ _ _ us hl => match us, hl with | [_], _ => rfl) fun cdv A outer s H E hr gd => ?_
  exact dss_one (ds_if (dt_not (dt_tru (de_call ((m_is_within_ok Z).mono (by decide)) hr gd (takes_of rfl rfl rfl rfl) Z.g_is_within rfl (da_cons (de_v 0) (da_cons (de_int) (da_cons (de_gint rfl Z.i_MOST_CANDIDATES) da_nil)))))) (dss_one (ds_never)) (dss_nil))

theorem sc_check_picks : FnScope ["n", "picks"] ["n", "picks"] (defScope (top 36)) := ⟨rfl, rfl, rfl, by decide +kernel, rfl, by decide +kernel, by decide +kernel⟩
theorem m_check_picks_ok {P : Program} {w : World} {K : PySem.W.Frag} {mg : Str → Option Value} {base : Heap} (Z : Md K mg) : FnD P w K mg base 4 (He.ga K "check_picks") 2 m_check_picks := by
  obtain ⟨fd, F⟩ := Z.d_check_picks
  have nd := sc_check_picks.nd
  refine fnD_of F sc_check_picks rfl (binds_of F fun _ _ _ _ _ _ us hl => match us, hl with | [_, _], _ => rfl) fun cdv A outer s H E hr gd => ?_
  exact dss_cons (ds_exp (de_call ((m_check_n_ok Z).mono (by decide)) hr gd (takes_of rfl rfl rfl rfl) Z.g_check_n rfl (da_cons (de_v 0) da_nil))) (dss_one (ds_if (dt_not (dt_tru (de_call ((m_is_within_ok Z).mono (by decide)) hr gd (takes_of rfl rfl rfl rfl) Z.g_is_within rfl (da_cons (de_v 1) (da_cons (de_int) (da_cons (de_v 0) da_nil)))))) (dss_one (ds_never)) (dss_nil)))

theorem sc_common : FnScope ["one", "other"] ["one", "other"] (defScope (top 11)) := ⟨rfl, rfl, rfl, by decide +kernel, rfl, by decide +kernel, by decide +kernel⟩
theorem m_common_ok {P : Program} {w : World} {K : PySem.W.Frag} {mg : Str → Option Value} {base : Heap} (Z : Md K mg) : FnD P w K mg base 1 (He.ga K "common") 2 m_common := by
  obtain ⟨fd, F⟩ := Z.d_common
  have nd := sc_common.nd
  refine fnD_of F sc_common rfl (binds_of F fun _ _ _ _ _ _ us hl => match us, hl with | [_, _], _ => rfl) fun cdv A outer s H E hr gd => ?_
  exact dss_cons (ds_par2 (i := 0) (j := 1) rfl nd (da_cons (de_bf o_abs call_abs rfl Z.b_abs boot_abs (da_cons (de_v 0) da_nil)) (da_cons (de_bf o_abs call_abs rfl Z.b_abs boot_abs (da_cons (de_v 1) da_nil)) da_nil))) (dss_cons (ds_while (lim := (limI 1)) (passes_of rfl) (dt_gt (de_v 1) (de_int)) (dss_one (ds_par2 (i := 0) (j := 1) rfl nd (da_cons (de_v 1) (da_cons (de_mod (de_v 0) (de_v 1)) da_nil))))) (dss_one (ds_ret (de_v 0))))

theorem sc_lowest : FnScope ["top", "bottom", "by"] ["top", "bottom"] (defScope (top 12)) := ⟨rfl, rfl, rfl, by decide +kernel, rfl, by decide +kernel, by decide +kernel⟩
theorem m_lowest_ok {P : Program} {w : World} {K : PySem.W.Frag} {mg : Str → Option Value} {base : Heap} (Z : Md K mg) : FnD P w K mg base 2 (He.ga K "lowest") 2 m_lowest := by
  obtain ⟨fd, F⟩ := Z.d_lowest
  have nd := sc_lowest.nd
  refine fnD_of F sc_lowest rfl (binds_of F fun _ _ _ _ _ _ us hl => match us, hl with | [_, _], _ => rfl) fun cdv A outer s H E hr gd => ?_
  exact dss_cons (ds_if (dt_lt (de_v 1) (de_int)) (dss_one (ds_par2 (i := 0) (j := 1) rfl nd (da_cons (de_neg (de_v 0)) (da_cons (de_neg (de_v 1)) da_nil)))) (dss_nil)) (dss_cons (ds_set (i := 2) nd (de_call ((m_common_ok Z).mono (by decide)) hr gd (takes_of rfl rfl rfl rfl) Z.g_common rfl (da_cons (de_v 0) (da_cons (de_v 1) da_nil)))) (dss_one (ds_ret (de_tup (da_cons (de_div (de_v 0) (de_v 2)) (da_cons (de_div (de_v 1) (de_v 2)) da_nil))))))

theorem sc_plus : FnScope ["one", "other"] ["one", "other"] (defScope (top 13)) := ⟨rfl, rfl, rfl, by decide +kernel, rfl, by decide +kernel, by decide +kernel⟩
theorem m_plus_ok {P : Program} {w : World} {K : PySem.W.Frag} {mg : Str → Option Value} {base : Heap} (Z : Md K mg) : FnD P w K mg base 3 (He.ga K "plus") 2 m_plus := by
  obtain ⟨fd, F⟩ := Z.d_plus
  have nd := sc_plus.nd
  refine fnD_of F sc_plus rfl (binds_of F fun _ _ _ _ _ _ us hl => match us, hl with | [_, _], _ => rfl) fun cdv A outer s H E hr gd => ?_
  exact dss_one (ds_ret (de_call ((m_lowest_ok Z).mono (by decide)) hr gd (takes_of rfl rfl rfl rfl) Z.g_lowest rfl (da_cons (de_add (de_mul (de_item (u1 hr) (de_v 0) (de_int)) (de_item (u1 hr) (de_v 1) (de_int))) (de_mul (de_item (u1 hr) (de_v 1) (de_int)) (de_item (u1 hr) (de_v 0) (de_int)))) (da_cons (de_mul (de_item (u1 hr) (de_v 0) (de_int)) (de_item (u1 hr) (de_v 1) (de_int))) da_nil))))

theorem sc_is_less : FnScope ["one", "other"] ["one", "other"] (defScope (top 17)) := ⟨rfl, rfl, rfl, by decide +kernel, rfl, by decide +kernel, by decide +kernel⟩
theorem m_is_less_ok {P : Program} {w : World} {K : PySem.W.Frag} {mg : Str → Option Value} {base : Heap} (Z : Md K mg) : FnD P w K mg base 1 (He.ga K "is_less") 2 m_is_less := by
  obtain ⟨fd, F⟩ := Z.d_is_less
  have nd := sc_is_less.nd
  refine fnD_of F sc_is_less rfl (binds_of F fun _ _ _ _ _ _ us hl => match us, hl with | [_, _], _ => rfl) fun cdv A outer s H E hr gd => ?_
  exact dss_one (ds_ret (de_lt (de_mul (de_item (u1 hr) (de_v 0) (de_int)) (de_item (u1 hr) (de_v 1) (de_int))) (de_mul (de_item (u1 hr) (de_v 1) (de_int)) (de_item (u1 hr) (de_v 0) (de_int)))))

theorem sc_greatest : FnScope ["one", "other"] ["one", "other"] (defScope (top 18)) := ⟨rfl, rfl, rfl, by decide +kernel, rfl, by decide +kernel, by decide +kernel⟩
theorem m_greatest_ok {P : Program} {w : World} {K : PySem.W.Frag} {mg : Str → Option Value} {base : Heap} (Z : Md K mg) : FnD P w K mg base 2 (He.ga K "greatest") 2 m_greatest := by
  obtain ⟨fd, F⟩ := Z.d_greatest
  have nd := sc_greatest.nd
  refine fnD_of F sc_greatest rfl (binds_of F fun _ _ _ _ _ _ us hl => match us, hl with | [_, _], _ => rfl) fun cdv A outer s H E hr gd => ?_
  exact dss_one (ds_ret (de_if (dt_tru (de_call ((m_is_less_ok Z).mono (by decide)) hr gd (takes_of rfl rfl rfl rfl) Z.g_is_less rfl (da_cons (de_v 0) (da_cons (de_v 1) da_nil)))) (de_v 1) (de_v 0)))

theorem sc_product : FnScope ["one", "other"] ["one", "other"] (defScope (top 15)) := ⟨rfl, rfl, rfl, by decide +kernel, rfl, by decide +kernel, by decide +kernel⟩
theorem m_product_ok {P : Program} {w : World} {K : PySem.W.Frag} {mg : Str → Option Value} {base : Heap} (Z : Md K mg) : FnD P w K mg base 3 (He.ga K "product") 2 m_product := by
  obtain ⟨fd, F⟩ := Z.d_product
  have nd := sc_product.nd
  refine fnD_of F sc_product rfl (binds_of F fun _ _ _ _ _ _ us hl => match us, hl with | [_, _], _ => rfl) fun cdv A outer s H E hr gd => ?_
  exact dss_one (ds_ret (de_call ((m_lowest_ok Z).mono (by decide)) hr gd (takes_of rfl rfl rfl rfl) Z.g_lowest rfl (da_cons (de_mul (de_item (u1 hr) (de_v 0) (de_int)) (de_item (u1 hr) (de_v 1) (de_int))) (da_cons (de_mul (de_item (u1 hr) (de_v 0) (de_int)) (de_item (u1 hr) (de_v 1) (de_int))) da_nil))))

theorem sc_hopes : FnScope ["n", "picks", "rows", "left", "row", "at", "taken", "best"] ["n", "picks"] (defScope (top 35)) := ⟨rfl, rfl, rfl, by decide +kernel, rfl, by decide +kernel, by decide +kernel⟩
theorem m_hopes_ok {P : Program} {w : World} {K : PySem.W.Frag} {mg : Str → Option Value} {base : Heap} (Z : Md K mg) : FnD P w K mg base 4 (He.ga K "hopes") 2 m_hopes := by
  obtain ⟨fd, F⟩ := Z.d_hopes
  have nd := sc_hopes.nd
  refine fnD_of F sc_hopes rfl (binds_of F fun _ _ _ _ _ _ us hl => match us, hl with | [_, _], _ => rfl) fun cdv A outer s H E hr gd => ?_
  exact dss_cons (ds_set (i := 2) nd (de_thaw (dn_lst (da_cons (de_mul (de_frz (dn_lst (da_cons (de_gtup (is := [0, 1]) rfl Z.g_NONE Z.t_NONE) da_nil))) (de_add (de_v 0) (de_int))) da_nil)))) (dss_cons (ds_for (passes_of rfl) rfl (di_range1 rfl Z.b_range (da_cons (de_v 1) da_nil)) (pg_nm nd) (dss_cons (ds_set (i := 4) nd (de_thaw (dn_rep (de_frz (dn_lst (da_cons (de_gtup (is := [0, 1]) rfl Z.g_NONE Z.t_NONE) da_nil))) (de_add (de_v 0) (de_int))))) (dss_cons (ds_for (passes_of rfl) rfl (di_range3 rfl Z.b_range (da_cons (de_sub (de_v 0) (de_int)) (da_cons (de_neg (de_int)) (da_cons (de_neg (de_int)) da_nil)))) (pg_nm nd) (dss_cons (ds_set (i := 6) nd (de_call ((m_plus_ok Z).mono (by decide)) hr gd (takes_of rfl rfl rfl rfl) Z.g_plus rfl (da_cons (de_call ((m_lowest_ok Z).mono (by decide)) hr gd (takes_of rfl rfl rfl rfl) Z.g_lowest rfl (da_cons (de_add (de_v 5) (de_int)) (da_cons (de_v 0) da_nil))) (da_cons (de_item (u1 hr) (de_item (u1 hr) (de_v 2) (de_v 3)) (de_add (de_v 5) (de_int))) da_nil)))) (dss_cons (ds_set (i := 7) nd (de_call ((m_greatest_ok Z).mono (by decide)) hr gd (takes_of rfl rfl rfl rfl) Z.g_greatest rfl (da_cons (de_item (u1 hr) (de_v 4) (de_add (de_v 5) (de_int))) (da_cons (de_v 6) da_nil)))) (dss_one (ds_store (u1 hr) (de_call ((m_plus_ok Z).mono (by decide)) hr gd (takes_of rfl rfl rfl rfl) Z.g_plus rfl (da_cons (de_call ((m_product_ok Z).mono (by decide)) hr gd (takes_of rfl rfl rfl rfl) Z.g_product rfl (da_cons (de_tup (da_cons (de_int) (da_cons (de_add (de_v 5) (de_int)) da_nil))) (da_cons (de_v 7) da_nil))) (da_cons (de_call ((m_product_ok Z).mono (by decide)) hr gd (takes_of rfl rfl rfl rfl) Z.g_product rfl (da_cons (de_call ((m_lowest_ok Z).mono (by decide)) hr gd (takes_of rfl rfl rfl rfl) Z.g_lowest rfl (da_cons (de_v 5) (da_cons (de_add (de_v 5) (de_int)) da_nil))) (da_cons (de_item (u1 hr) (de_v 4) (de_add (de_v 5) (de_int))) da_nil))) da_nil))) (de_v 4) (de_v 5)))))) (dss_one (ds_exp (de_app (de_v 2) (da_cons (de_v 4) da_nil))))))) (dss_one (ds_ret (de_v 2))))

theorem sc_chance_with : FnScope ["n", "picks"] ["n", "picks"] (defScope (top 37)) := ⟨rfl, rfl, rfl, by decide +kernel, rfl, by decide +kernel, by decide +kernel⟩
theorem m_chance_with_ok {P : Program} {w : World} {K : PySem.W.Frag} {mg : Str → Option Value} {base : Heap} (Z : Md K mg) : FnD P w K mg base 5 (He.ga K "chance_with") 2 m_chance_with := by
  obtain ⟨fd, F⟩ := Z.d_chance_with
  have nd := sc_chance_with.nd
  refine fnD_of F sc_chance_with rfl (binds_of F fun _ _ _ _ _ _ us hl => match us, hl with | [_, _], _ => rfl) fun cdv A outer s H E hr gd => ?_
  exact dss_cons (ds_exp (de_call ((m_check_picks_ok Z).mono (by decide)) hr gd (takes_of rfl rfl rfl rfl) Z.g_check_picks rfl (da_cons (de_v 0) (da_cons (de_v 1) da_nil)))) (dss_one (ds_ret (de_item (u1 hr) (de_item (u1 hr) (de_call ((m_hopes_ok Z).mono (by decide)) hr gd (takes_of rfl rfl rfl rfl) Z.g_hopes rfl (da_cons (de_v 0) (da_cons (de_v 1) da_nil))) (de_v 1)) (de_int))))

theorem sc__law_is : FnScope ["one", "other", "mine", "yours", "key"] ["one", "other"] (defScope (top 42)) := ⟨rfl, rfl, rfl, by decide +kernel, rfl, by decide +kernel, by decide +kernel⟩
theorem r__law_is_ok {P : Program} {w : World} {K : PySem.W.Frag} {mg : Str → Option Value} {base : Heap} (Z : Md K mg) : ∀ j : Nat, FnD P w K mg base (0 + 1 * j) (He.ga K "_law_is") 2 (r__law_is j)
  | 0 => by
    obtain ⟨fd, F⟩ := Z.d__law_is
    exact fnD_bad F (ps := ["one", "other"]) rfl (binds_of F fun _ _ _ _ _ _ us hl => match us, hl with | [_, _], _ => rfl)
  | j + 1 => by
    have ih := r__law_is_ok (P := P) (w := w) (base := base) Z j
    obtain ⟨fd, F⟩ := Z.d__law_is
    have nd := sc__law_is.nd
    refine FnD.mono (j := 0 + 1 * j + 0 + 1) (fnD_of F sc__law_is rfl (binds_of F fun _ _ _ _ _ _ us hl => match us, hl with | [_, _], _ => rfl) fun cdv A outer s H E hr gd => ?_) (by omega)
    exact dss_cons (ds_if (dt_bool (dw_or (dt_tru (de_bf (o_isi (own := []) own_nil) call_isi rfl Z.b_isinstance boot_isinstance (da_cons (de_v 0) (da_cons (de_ty rfl Z.b_bool boot_bool) da_nil)))) (dw_or1 (dt_tru (de_bf (o_isi (own := []) own_nil) call_isi rfl Z.b_isinstance boot_isinstance (da_cons (de_v 1) (da_cons (de_ty rfl Z.b_bool boot_bool) da_nil))))))) (dss_one (ds_ret (de_andX (de_bf (o_isi (own := []) own_nil) call_isi rfl Z.b_isinstance boot_isinstance (da_cons (de_v 0) (da_cons (de_ty rfl Z.b_bool boot_bool) da_nil))) (de_andX (de_bf (o_isi (own := []) own_nil) call_isi rfl Z.b_isinstance boot_isinstance (da_cons (de_v 1) (da_cons (de_ty rfl Z.b_bool boot_bool) da_nil))) (de_one (de_eq (u64 hr) (de_v 0) (de_v 1))))))) (dss_nil)) (dss_cons (ds_if (dt_bool (dw_or (dt_tru (de_bf (o_isi (own := []) own_nil) call_isi rfl Z.b_isinstance boot_isinstance (da_cons (de_v 0) (da_cons (de_ty rfl Z.b_tuple boot_tuple) da_nil)))) (dw_or1 (dt_tru (de_bf (o_isi (own := []) own_nil) call_isi rfl Z.b_isinstance boot_isinstance (da_cons (de_v 0) (da_cons (de_ty rfl Z.b_list boot_list) da_nil))))))) (dss_cons (ds_if (dt_bool (dw_or (dt_ne (u64 hr) (de_bf (o_isi (own := []) own_nil) call_isi rfl Z.b_isinstance boot_isinstance (da_cons (de_v 0) (da_cons (de_ty rfl Z.b_tuple boot_tuple) da_nil))) (de_bf (o_isi (own := []) own_nil) call_isi rfl Z.b_isinstance boot_isinstance (da_cons (de_v 1) (da_cons (de_ty rfl Z.b_tuple boot_tuple) da_nil)))) (dw_or1 (dt_ne (u64 hr) (de_bf (o_isi (own := []) own_nil) call_isi rfl Z.b_isinstance boot_isinstance (da_cons (de_v 0) (da_cons (de_ty rfl Z.b_list boot_list) da_nil))) (de_bf (o_isi (own := []) own_nil) call_isi rfl Z.b_isinstance boot_isinstance (da_cons (de_v 1) (da_cons (de_ty rfl Z.b_list boot_list) da_nil))))))) (dss_one (ds_ret (de_bl))) (dss_nil)) (dss_one (ds_ret (de_andX (de_eq (u64 hr) (de_bf o_len c_len rfl Z.b_len boot_len (da_cons (de_v 0) da_nil)) (de_bf o_len c_len rfl Z.b_len boot_len (da_cons (de_v 1) da_nil))) (de_one (de_bf o_all (cr_all rfl) rfl Z.b_all boot_all (da_cons (de_frz (dn_lc (own := [("mine", 2), ("yours", 3)]) rfl nd (di_zip rfl Z.b_zip (da_cons (de_v 0) (da_cons (de_v 1) da_nil))) (blkOk_by (by kernel_rfl)) (fun _ _ _ _ _ => pg_tp rfl (pgs_co (pg_nm nd) (pgs_co (pg_nm nd) (pgs_no)))) (fun _ _ _ _ _ => dts_nil) (fun _ _ _ _ _ => de_call (ih.mono (by omega)) hr gd takes0 Z.g__law_is rfl (da_cons (de_v 2) (da_cons (de_v 3) da_nil))))) da_nil))))))) (dss_nil)) (dss_cons (ds_if (dt_tru (de_bf (o_isi (own := []) own_nil) call_isi rfl Z.b_isinstance boot_isinstance (da_cons (de_v 0) (da_cons (de_ty rfl Z.b_dict boot_dict) da_nil)))) (dss_cons (ds_if (dt_bool (dw_or (dt_not (dt_tru (de_bf (o_isi (own := []) own_nil) call_isi rfl Z.b_isinstance boot_isinstance (da_cons (de_v 1) (da_cons (de_ty rfl Z.b_dict boot_dict) da_nil))))) (dw_or1 (dt_ne (u64 hr) (de_bf o_len c_len rfl Z.b_len boot_len (da_cons (de_v 0) da_nil)) (de_bf o_len c_len rfl Z.b_len boot_len (da_cons (de_v 1) da_nil)))))) (dss_one (ds_ret (de_bl))) (dss_nil)) (dss_one (ds_ret (de_bf o_all (cr_all rfl) rfl Z.b_all boot_all (da_cons (de_frz (dn_lc (own := [("key", 4)]) rfl nd (di_seq (de_v 0)) (blkOk_by (by kernel_rfl)) (fun _ _ _ _ _ => pg_nm nd) (fun _ _ _ _ _ => dts_nil) (fun _ _ _ _ _ => de_andX (de_in (u65 hr) (de_v 4) (de_v 1)) (de_one (de_call (ih.mono (by omega)) hr gd takes0 Z.g__law_is rfl (da_cons (de_item (u1 hr) (de_v 0) (de_v 4)) (da_cons (de_item (u1 hr) (de_v 1) (de_v 4)) da_nil))))))) da_nil))))) (dss_nil)) (dss_one (ds_ret (de_andX (de_eq (u64 hr) (de_bf (o_isi (own := []) own_nil) call_isi rfl Z.b_isinstance boot_isinstance (da_cons (de_v 0) (da_cons (de_ty rfl Z.b_int boot_int) da_nil))) (de_bf (o_isi (own := []) own_nil) call_isi rfl Z.b_isinstance boot_isinstance (da_cons (de_v 1) (da_cons (de_ty rfl Z.b_int boot_int) da_nil)))) (de_one (de_eq (u64 hr) (de_v 0) (de_v 1))))))))
theorem m__law_is_ok {P : Program} {w : World} {K : PySem.W.Frag} {mg : Str → Option Value} {base : Heap} (Z : Md K mg) : FnD P w K mg base 12 (He.ga K "_law_is") 2 m__law_is := r__law_is_ok Z 12

theorem sc__law_from_v4 : FnScope ["orders", "left", "kept", "at", "rows", "place", "later", "some", "standing", "part"] ["orders", "left", "kept"] (defScope (top 49)) := ⟨rfl, rfl, rfl, by decide +kernel, rfl, by decide +kernel, by decide +kernel⟩
theorem m__law_from_v4_ok {P : Program} {w : World} {K : PySem.W.Frag} {mg : Str → Option Value} {base : Heap} (Z : Md K mg) : FnD P w K mg base 19 (He.ga K "_law_from") 3 m__law_from_v4 := by
  obtain ⟨fd, F⟩ := Z.d__law_from
  have nd := sc__law_from_v4.nd
  refine fnD_of F sc__law_from_v4 rfl (binds_of F fun _ _ _ _ _ _ us hl => match us, hl with | [_, _, _], _ => rfl) fun cdv A outer s H E hr gd => ?_
  exact dss_cons (ds_for (passes_of rfl) rfl (di_range1 rfl Z.b_range (da_cons (de_bf o_len c_len rfl Z.b_len boot_len (da_cons (de_item (u1 hr) (de_v 0) (de_int)) da_nil)) da_nil)) (pg_nm nd) (dss_cons (ds_set (i := 4) nd (de_frz (dn_lst (da_cons (de_v 0) da_nil)))) (dss_cons (ds_for (passes_of rfl) rfl (di_range1 rfl Z.b_range (da_cons (de_add (de_v 3) (de_int)) da_nil)) (pg_nm nd) (dss_cons (ds_set (i := 6) nd (de_thaw (dn_lst da_nil))) (dss_cons (ds_for (passes_of rfl) rfl (di_seq (de_v 4)) (pg_nm nd) (dss_one (ds_exp (de_ext (de_v 6) (da_cons (de_frz (dn_lc (own := [("standing", 8), ("part", 9)]) rfl nd (di_seq (de_call ((m__law_parted_ok Z).mono (by decide)) hr gd (takes_of rfl rfl rfl rfl) Z.g__law_parted rfl (da_cons (de_v 7) (da_cons (de_v 5) da_nil)))) (blkOk_by (by kernel_rfl)) (fun _ _ _ _ _ => pg_tp rfl (pgs_co (pg_nm nd) (pgs_co (pg_nm nd) (pgs_no)))) (fun _ _ _ _ _ => dts_one (dt_bool (dw_or (dt_lt (de_v 5) (de_v 3)) (dw_or1 (dt_eq (u64 hr) (de_v 8) (de_int)))))) (fun _ _ _ _ _ => de_v 9))) da_nil))))) (dss_one (ds_set (i := 4) nd (de_v 6)))))) (dss_one (ds_if (dt_tru (de_bf o_all (cr_all rfl) rfl Z.b_all boot_all (da_cons (de_frz (dn_lc (own := [("some", 7)]) rfl nd (di_seq (de_v 4)) (blkOk_by (by kernel_rfl)) (fun _ _ _ _ _ => pg_nm nd) (fun _ _ _ _ _ => dts_nil) (fun _ _ _ _ _ => de_ge (de_call ((m__law_taken_ok Z (m__law_wins_v2_ok Z) (by decide)).mono (by decide)) hr gd takes0 Z.g__law_taken rfl (da_cons (de_v 7) (da_cons (de_v 3) (da_cons (de_v 1) (da_cons (de_v 2) da_nil))))) (de_call ((m__law_wins_v2_ok Z).mono (by decide)) hr gd takes0 Z.g__law_wins rfl (da_cons (de_v 7) (da_cons (de_add (de_v 3) (de_int)) (da_cons (de_v 1) (da_cons (de_v 2) da_nil)))))))) da_nil))) (dss_one (ds_ret (de_v 3))) (dss_nil)))))) (dss_one (ds_ret (de_non)))

theorem sc_pick_from : FnScope ["n", "picks", "rows", "found", "left", "row", "less", "some", "at"] ["n", "picks"] (defScope (top 38)) := ⟨rfl, rfl, rfl, by decide +kernel, rfl, by decide +kernel, by decide +kernel⟩
theorem m_pick_from_ok {P : Program} {w : World} {K : PySem.W.Frag} {mg : Str → Option Value} {base : Heap} (Z : Md K mg) : FnD P w K mg base 5 (He.ga K "pick_from") 2 m_pick_from := by
  obtain ⟨fd, F⟩ := Z.d_pick_from
  have nd := sc_pick_from.nd
  refine fnD_of F sc_pick_from rfl (binds_of F fun _ _ _ _ _ _ us hl => match us, hl with | [_, _], _ => rfl) fun cdv A outer s H E hr gd => ?_
  exact dss_cons (ds_exp (de_call ((m_check_picks_ok Z).mono (by decide)) hr gd (takes_of rfl rfl rfl rfl) Z.g_check_picks rfl (da_cons (de_v 0) (da_cons (de_v 1) da_nil)))) (dss_cons (ds_par2 (i := 2) (j := 3) rfl nd (da_cons (de_call ((m_hopes_ok Z).mono (by decide)) hr gd (takes_of rfl rfl rfl rfl) Z.g_hopes rfl (da_cons (de_v 0) (da_cons (de_v 1) da_nil))) (da_cons (de_thaw (dn_lst da_nil)) da_nil))) (dss_cons (ds_for (passes_of rfl) rfl (di_range2 rfl Z.b_range (da_cons (de_int) (da_cons (de_add (de_v 1) (de_int)) da_nil))) (pg_nm nd) (dss_cons (ds_pat (de_tup (da_cons (de_item (u1 hr) (de_v 2) (de_v 4)) (da_cons (de_item (u1 hr) (de_v 2) (de_sub (de_v 4) (de_int))) da_nil))) (pg_tp rfl (pgs_co (pg_nm nd) (pgs_co (pg_nm nd) (pgs_no))))) (dss_cons (ds_setLc (fun _ _ _ _ q => w_frz q) (own := [("at", 8)]) rfl nd (di_range1 rfl Z.b_range (da_cons (de_v 0) da_nil)) (blkOk_by (by kernel_rfl)) (fun _ _ _ _ _ => pg_nm nd) (fun _ _ _ _ _ => dts_one (dt_not (dt_tru (de_call ((m_is_less_ok Z).mono (by decide)) hr gd takes0 Z.g_is_less rfl (da_cons (de_call ((m_plus_ok Z).mono (by decide)) hr gd takes0 Z.g_plus rfl (da_cons (de_call ((m_lowest_ok Z).mono (by decide)) hr gd takes0 Z.g_lowest rfl (da_cons (de_add (de_v 8) (de_int)) (da_cons (de_v 0) da_nil))) (da_cons (de_item (u1 hr) (de_v 6) (de_add (de_v 8) (de_int))) da_nil))) (da_cons (de_item (u1 hr) (de_v 5) (de_add (de_v 8) (de_int))) da_nil)))))) (fun _ _ _ _ _ => de_v 8)) (dss_one (ds_exp (de_app (de_v 3) (da_cons (de_item (u1 hr) (de_v 7) (de_int)) da_nil))))))) (dss_one (ds_ret (de_tf o_tup call_tuple_of rfl Z.b_tuple boot_tuple (da_cons (de_v 3) da_nil))))))

theorem sc_is_tuple : FnScope ["thing", "least", "most"] ["thing", "least", "most"] (defScope (top 3)) := ⟨rfl, rfl, rfl, by decide +kernel, rfl, by decide +kernel, by decide +kernel⟩
theorem m_is_tuple_ok {P : Program} {w : World} {K : PySem.W.Frag} {mg : Str → Option Value} {base : Heap} (Z : Md K mg) : FnD P w K mg base 1 (He.ga K "is_tuple") 3 m_is_tuple := by
  obtain ⟨fd, F⟩ := Z.d_is_tuple
  have nd := sc_is_tuple.nd
  refine fnD_of F sc_is_tuple rfl (binds_of F fun _ _ _ _ _ _ us hl => match us, hl with | [_, _, _], _ => rfl) fun cdv A outer s H E hr gd => ?_
  exact dss_one (ds_ret (de_andX (de_bf (o_isi (own := []) own_nil) call_isi rfl Z.b_isinstance boot_isinstance (da_cons (de_v 0) (da_cons (de_ty rfl Z.b_tuple boot_tuple) da_nil))) (de_one (de_lele (de_v 1) (de_bf o_len c_len rfl Z.b_len boot_len (da_cons (de_v 0) da_nil)) (de_v 2)))))

theorem sc_is_fraction : FnScope ["thing", "one"] ["thing"] (defScope (top 20)) := ⟨rfl, rfl, rfl, by decide +kernel, rfl, by decide +kernel, by decide +kernel⟩
theorem m_is_fraction_ok {P : Program} {w : World} {K : PySem.W.Frag} {mg : Str → Option Value} {base : Heap} (Z : Md K mg) : FnD P w K mg base 2 (He.ga K "is_fraction") 1 m_is_fraction := by
  obtain ⟨fd, F⟩ := Z.d_is_fraction
  have nd := sc_is_fraction.nd
  refine fnD_of F sc_is_fraction rfl (binds_of F fun _ _ _ _ _ _ us hl => match us, hl with | [_], _ => rfl) fun cdv A outer s H E hr gd => ?_
  exact dss_cons (ds_if (dt_bool (dw_or (dt_not (dt_tru (de_call ((m_is_tuple_ok Z).mono (by decide)) hr gd (takes_of rfl rfl rfl rfl) Z.g_is_tuple rfl (da_cons (de_v 0) (da_cons (de_int) (da_cons (de_int) da_nil)))))) (dw_or (dt_not (dt_tru (de_bf o_all (cr_all rfl) rfl Z.b_all boot_all (da_cons (de_frz (dn_lc (own := [("one", 1)]) rfl nd (di_seq (de_v 0)) (blkOk_by (by kernel_rfl)) (fun _ _ _ _ _ => pg_nm nd) (fun _ _ _ _ _ => dts_nil) (fun _ _ _ _ _ => de_call ((m_is_integer_ok Z).mono (by decide)) hr gd takes0 Z.g_is_integer rfl (da_cons (de_v 1) da_nil)))) da_nil)))) (dw_or1 (dt_lt (de_item (u1 hr) (de_v 0) (de_int)) (de_int)))))) (dss_one (ds_ret (de_bl))) (dss_nil)) (dss_one (ds_ret (de_eq (u64 hr) (de_call ((m_common_ok Z).mono (by decide)) hr gd (takes_of rfl rfl rfl rfl) Z.g_common rfl (da_cons (de_item (u1 hr) (de_v 0) (de_int)) (da_cons (de_item (u1 hr) (de_v 0) (de_int)) da_nil))) (de_int))))

theorem sc_is_share : FnScope ["thing"] ["thing"] (defScope (top 21)) := ⟨rfl, rfl, rfl, by decide +kernel, rfl, by decide +kernel, by decide +kernel⟩
theorem m_is_share_ok {P : Program} {w : World} {K : PySem.W.Frag} {mg : Str → Option Value} {base : Heap} (Z : Md K mg) : FnD P w K mg base 3 (He.ga K "is_share") 1 m_is_share := by
  obtain ⟨fd, F⟩ := Z.d_is_share
  have nd := sc_is_share.nd
  refine fnD_of F sc_is_share rfl (binds_of F fun _ _ _ _ _ _ us hl => match us, hl with | [_], _ => rfl) fun cdv A outer s H E hr gd => ?_
  exact dss_one (ds_ret (de_andX (de_call ((m_is_fraction_ok Z).mono (by decide)) hr gd (takes_of rfl rfl rfl rfl) Z.g_is_fraction rfl (da_cons (de_v 0) da_nil)) (de_one (de_lele (de_int) (de_item (u1 hr) (de_v 0) (de_int)) (de_item (u1 hr) (de_v 0) (de_int))))))

theorem sc_Trials___init__ : FnScope ["self", "chances", "chance"] ["self", "chances"] (defScope (inClass (top 24) 0)) := ⟨rfl, rfl, rfl, by decide +kernel, rfl, by decide +kernel, by decide +kernel⟩
theorem m_Trials___init___ok {P : Program} {w : World} {K : PySem.W.Frag} {mg : Str → Option Value} {base : Heap} (Z : Md K mg) : FnD P w K mg base 4 (He.ma K (He.ga K "Trials") "__init__") 2 m_Trials___init__ := by
  obtain ⟨fd, F⟩ := Z.d_Trials___init__
  have nd := sc_Trials___init__.nd
  refine fnD_of F sc_Trials___init__ rfl (binds_of F fun _ _ _ _ _ _ us hl => match us, hl with | [_, _], _ => rfl) fun cdv A outer s H E hr gd => ?_
  exact dss_cons (ds_if (dt_bool (dw_or (dt_not (dt_tru (de_call ((m_is_tuple_ok Z).mono (by decide)) hr gd (takes_of rfl rfl rfl rfl) Z.g_is_tuple rfl (da_cons (de_v 1) (da_cons (de_int) (da_cons (de_gint rfl Z.i_MOST_TRIALS) da_nil)))))) (dw_or1 (dt_not (dt_tru (de_bf o_all (cr_all rfl) rfl Z.b_all boot_all (da_cons (de_frz (dn_lc (own := [("chance", 2)]) rfl nd (di_seq (de_v 1)) (blkOk_by (by kernel_rfl)) (fun _ _ _ _ _ => pg_nm nd) (fun _ _ _ _ _ => dts_nil) (fun _ _ _ _ _ => de_call ((m_is_share_ok Z).mono (by decide)) hr gd takes0 Z.g_is_share rfl (da_cons (de_v 2) da_nil)))) da_nil))))))) (dss_one (ds_never)) (dss_nil)) (dss_cons (ds_fld Z.c_Trials Z.n_Trials_chances (de_v 1) (de_v 0)) (dss_one (ds_fld Z.c_Trials Z.n_Trials_looked (de_dct0) (de_v 0))))

theorem sc_ones_of : FnScope ["n", "at"] ["n"] (defScope (top 33)) := ⟨rfl, rfl, rfl, by decide +kernel, rfl, by decide +kernel, by decide +kernel⟩
theorem m_ones_of_ok {P : Program} {w : World} {K : PySem.W.Frag} {mg : Str → Option Value} {base : Heap} (Z : Md K mg) : FnD P w K mg base 6 (He.ga K "ones_of") 1 m_ones_of := by
  obtain ⟨fd, F⟩ := Z.d_ones_of
  have nd := sc_ones_of.nd
  refine fnD_of F sc_ones_of rfl (binds_of F fun _ _ _ _ _ _ us hl => match us, hl with | [_], _ => rfl) fun cdv A outer s H E hr gd => ?_
  exact dss_one (ds_ret (de_make (k := 4) ((m_Trials___init___ok Z).mono (by decide)) Z.mk_Trials hr gd (takes_of rfl rfl rfl rfl) Z.g_Trials rfl (da_cons (de_tf o_tup call_tuple_of rfl Z.b_tuple boot_tuple (da_cons (de_frz (dn_lc (own := [("at", 1)]) rfl nd (di_range1 rfl Z.b_range (da_cons (de_v 0) da_nil)) (blkOk_by (by kernel_rfl)) (fun _ _ _ _ _ => pg_nm nd) (fun _ _ _ _ _ => dts_nil) (fun _ _ _ _ _ => de_tup (da_cons (de_int) (da_cons (de_add (de_v 1) (de_int)) da_nil))))) da_nil)) da_nil)))

theorem sc_minus : FnScope ["one", "other"] ["one", "other"] (defScope (top 14)) := ⟨rfl, rfl, rfl, by decide +kernel, rfl, by decide +kernel, by decide +kernel⟩
theorem m_minus_ok {P : Program} {w : World} {K : PySem.W.Frag} {mg : Str → Option Value} {base : Heap} (Z : Md K mg) : FnD P w K mg base 3 (He.ga K "minus") 2 m_minus := by
  obtain ⟨fd, F⟩ := Z.d_minus
  have nd := sc_minus.nd
  refine fnD_of F sc_minus rfl (binds_of F fun _ _ _ _ _ _ us hl => match us, hl with | [_, _], _ => rfl) fun cdv A outer s H E hr gd => ?_
  exact dss_one (ds_ret (de_call ((m_lowest_ok Z).mono (by decide)) hr gd (takes_of rfl rfl rfl rfl) Z.g_lowest rfl (da_cons (de_sub (de_mul (de_item (u1 hr) (de_v 0) (de_int)) (de_item (u1 hr) (de_v 1) (de_int))) (de_mul (de_item (u1 hr) (de_v 1) (de_int)) (de_item (u1 hr) (de_v 0) (de_int)))) (da_cons (de_mul (de_item (u1 hr) (de_v 0) (de_int)) (de_item (u1 hr) (de_v 1) (de_int))) da_nil))))

theorem sc_none_from : FnScope ["trials", "number", "found", "chance"] ["trials", "number"] (defScope (top 25)) := ⟨rfl, rfl, rfl, by decide +kernel, rfl, by decide +kernel, by decide +kernel⟩
theorem m_none_from_ok {P : Program} {w : World} {K : PySem.W.Frag} {mg : Str → Option Value} {base : Heap} (Z : Md K mg) : FnD P w K mg base 4 (He.ga K "none_from") 2 m_none_from := by
  obtain ⟨fd, F⟩ := Z.d_none_from
  have nd := sc_none_from.nd
  refine fnD_of F sc_none_from rfl (binds_of F fun _ _ _ _ _ _ us hl => match us, hl with | [_, _], _ => rfl) fun cdv A outer s H E hr gd => ?_
  exact dss_cons (ds_set (i := 2) nd (de_gtup (is := [1, 1]) rfl Z.g_WHOLE Z.t_WHOLE)) (dss_cons (ds_for (passes_of rfl) rfl (di_seq (de_sl (de_fld Z.c_Trials Z.n_Trials_chances (de_v 0)) (do_some (de_v 1)) do_none)) (pg_nm nd) (dss_one (ds_set (i := 2) nd (de_call ((m_product_ok Z).mono (by decide)) hr gd (takes_of rfl rfl rfl rfl) Z.g_product rfl (da_cons (de_v 2) (da_cons (de_call ((m_minus_ok Z).mono (by decide)) hr gd (takes_of rfl rfl rfl rfl) Z.g_minus rfl (da_cons (de_gtup (is := [1, 1]) rfl Z.g_WHOLE Z.t_WHOLE) (da_cons (de_v 3) da_nil))) da_nil)))))) (dss_one (ds_ret (de_v 2))))

theorem sc_last_shares : FnScope ["trials", "number", "chance"] ["trials"] (defScope (top 26)) := ⟨rfl, rfl, rfl, by decide +kernel, rfl, by decide +kernel, by decide +kernel⟩
theorem m_last_shares_ok {P : Program} {w : World} {K : PySem.W.Frag} {mg : Str → Option Value} {base : Heap} (Z : Md K mg) : FnD P w K mg base 5 (He.ga K "last_shares") 1 m_last_shares := by
  obtain ⟨fd, F⟩ := Z.d_last_shares
  have nd := sc_last_shares.nd
  refine fnD_of F sc_last_shares rfl (binds_of F fun _ _ _ _ _ _ us hl => match us, hl with | [_], _ => rfl) fun cdv A outer s H E hr gd => ?_
  exact dss_one (ds_ret (de_frz (dn_lc (own := [("number", 1), ("chance", 2)]) rfl nd (di_enumA rfl Z.b_enumerate (da_cons (de_fld Z.c_Trials Z.n_Trials_chances (de_v 0)) da_nil)) (blkOk_by (by kernel_rfl)) (fun _ _ _ _ _ => pg_tp rfl (pgs_co (pg_nm nd) (pgs_co (pg_nm nd) (pgs_no)))) (fun _ _ _ _ _ => dts_nil) (fun _ _ _ _ _ => de_call ((m_product_ok Z).mono (by decide)) hr gd takes0 Z.g_product rfl (da_cons (de_v 2) (da_cons (de_call ((m_none_from_ok Z).mono (by decide)) hr gd takes0 Z.g_none_from rfl (da_cons (de_v 0) (da_cons (de_add (de_v 1) (de_int)) da_nil))) da_nil))))))

theorem sc_won : FnScope ["trials", "lot", "found", "rests", "still", "number"] ["trials", "lot"] (defScope (top 27)) := ⟨rfl, rfl, rfl, by decide +kernel, rfl, by decide +kernel, by decide +kernel⟩
theorem m_won_ok {P : Program} {w : World} {K : PySem.W.Frag} {mg : Str → Option Value} {base : Heap} (Z : Md K mg) : FnD P w K mg base 6 (He.ga K "won") 2 m_won := by
  obtain ⟨fd, F⟩ := Z.d_won
  have nd := sc_won.nd
  refine fnD_of F sc_won rfl (binds_of F fun _ _ _ _ _ _ us hl => match us, hl with | [_, _], _ => rfl) fun cdv A outer s H E hr gd => ?_
  exact dss_cons (ds_par2 (i := 2) (j := 3) rfl nd (da_cons (de_gtup (is := [0, 1]) rfl Z.g_NONE Z.t_NONE) (da_cons (de_call ((m_last_shares_ok Z).mono (by decide)) hr gd (takes_of rfl rfl rfl rfl) Z.g_last_shares rfl (da_cons (de_v 0) da_nil)) da_nil))) (dss_cons (ds_set (i := 4) nd (de_gtup (is := [1, 1]) rfl Z.g_WHOLE Z.t_WHOLE)) (dss_cons (ds_for (passes_of rfl) rfl (di_seq (de_v 1)) (pg_nm nd) (dss_cons (ds_set (i := 2) nd (de_call ((m_plus_ok Z).mono (by decide)) hr gd (takes_of rfl rfl rfl rfl) Z.g_plus rfl (da_cons (de_v 2) (da_cons (de_call ((m_product_ok Z).mono (by decide)) hr gd (takes_of rfl rfl rfl rfl) Z.g_product rfl (da_cons (de_v 4) (da_cons (de_item (u1 hr) (de_v 3) (de_v 5)) da_nil))) da_nil)))) (dss_one (ds_set (i := 4) nd (de_call ((m_product_ok Z).mono (by decide)) hr gd (takes_of rfl rfl rfl rfl) Z.g_product rfl (da_cons (de_v 4) (da_cons (de_call ((m_minus_ok Z).mono (by decide)) hr gd (takes_of rfl rfl rfl rfl) Z.g_minus rfl (da_cons (de_gtup (is := [1, 1]) rfl Z.g_WHOLE Z.t_WHOLE) (da_cons (de_item (u1 hr) (de_fld Z.c_Trials Z.n_Trials_chances (de_v 0)) (de_v 5)) da_nil))) da_nil))))))) (dss_one (ds_ret (de_v 2)))))

theorem sc_quotient : FnScope ["one", "other"] ["one", "other"] (defScope (top 16)) := ⟨rfl, rfl, rfl, by decide +kernel, rfl, by decide +kernel, by decide +kernel⟩
theorem m_quotient_ok {P : Program} {w : World} {K : PySem.W.Frag} {mg : Str → Option Value} {base : Heap} (Z : Md K mg) : FnD P w K mg base 3 (He.ga K "quotient") 2 m_quotient := by
  obtain ⟨fd, F⟩ := Z.d_quotient
  have nd := sc_quotient.nd
  refine fnD_of F sc_quotient rfl (binds_of F fun _ _ _ _ _ _ us hl => match us, hl with | [_, _], _ => rfl) fun cdv A outer s H E hr gd => ?_
  exact dss_one (ds_ret (de_call ((m_lowest_ok Z).mono (by decide)) hr gd (takes_of rfl rfl rfl rfl) Z.g_lowest rfl (da_cons (de_mul (de_item (u1 hr) (de_v 0) (de_int)) (de_item (u1 hr) (de_v 1) (de_int))) (da_cons (de_mul (de_item (u1 hr) (de_v 0) (de_int)) (de_item (u1 hr) (de_v 1) (de_int))) da_nil))))

theorem sc_odds_of : FnScope ["chance"] ["chance"] (defScope (top 28)) := ⟨rfl, rfl, rfl, by decide +kernel, rfl, by decide +kernel, by decide +kernel⟩
theorem m_odds_of_ok {P : Program} {w : World} {K : PySem.W.Frag} {mg : Str → Option Value} {base : Heap} (Z : Md K mg) : FnD P w K mg base 4 (He.ga K "odds_of") 1 m_odds_of := by
  obtain ⟨fd, F⟩ := Z.d_odds_of
  have nd := sc_odds_of.nd
  refine fnD_of F sc_odds_of rfl (binds_of F fun _ _ _ _ _ _ us hl => match us, hl with | [_], _ => rfl) fun cdv A outer s H E hr gd => ?_
  exact dss_one (ds_ret (de_if (dt_eq (u64 hr) (de_v 0) (de_gtup (is := [1, 1]) rfl Z.g_WHOLE Z.t_WHOLE)) (de_non) (de_call ((m_quotient_ok Z).mono (by decide)) hr gd (takes_of rfl rfl rfl rfl) Z.g_quotient rfl (da_cons (de_v 0) (da_cons (de_call ((m_minus_ok Z).mono (by decide)) hr gd (takes_of rfl rfl rfl rfl) Z.g_minus rfl (da_cons (de_gtup (is := [1, 1]) rfl Z.g_WHOLE Z.t_WHOLE) (da_cons (de_v 0) da_nil))) da_nil)))))

theorem sc_whole_sum : FnScope ["fractions", "found", "one"] ["fractions"] (defScope (top 19)) := ⟨rfl, rfl, rfl, by decide +kernel, rfl, by decide +kernel, by decide +kernel⟩
theorem m_whole_sum_ok {P : Program} {w : World} {K : PySem.W.Frag} {mg : Str → Option Value} {base : Heap} (Z : Md K mg) : FnD P w K mg base 4 (He.ga K "whole_sum") 1 m_whole_sum := by
  obtain ⟨fd, F⟩ := Z.d_whole_sum
  have nd := sc_whole_sum.nd
  refine fnD_of F sc_whole_sum rfl (binds_of F fun _ _ _ _ _ _ us hl => match us, hl with | [_], _ => rfl) fun cdv A outer s H E hr gd => ?_
  exact dss_cons (ds_set (i := 1) nd (de_gtup (is := [0, 1]) rfl Z.g_NONE Z.t_NONE)) (dss_cons (ds_for (passes_of rfl) rfl (di_seq (de_v 0)) (pg_nm nd) (dss_one (ds_set (i := 1) nd (de_call ((m_plus_ok Z).mono (by decide)) hr gd (takes_of rfl rfl rfl rfl) Z.g_plus rfl (da_cons (de_v 1) (da_cons (de_v 2) da_nil)))))) (dss_one (ds_ret (de_v 1))))

theorem sc_first_from : FnScope ["trials", "number", "some", "chance"] ["trials"] (defScope (top 29)) := ⟨rfl, rfl, rfl, by decide +kernel, rfl, by decide +kernel, by decide +kernel⟩
theorem m_first_from_ok {P : Program} {w : World} {K : PySem.W.Frag} {mg : Str → Option Value} {base : Heap} (Z : Md K mg) : FnD P w K mg base 5 (He.ga K "first_from") 1 m_first_from := by
  obtain ⟨fd, F⟩ := Z.d_first_from
  have nd := sc_first_from.nd
  refine fnD_of F sc_first_from rfl (binds_of F fun _ _ _ _ _ _ us hl => match us, hl with | [_], _ => rfl) fun cdv A outer s H E hr gd => ?_
  exact dss_cons (ds_for (passes_of rfl) rfl (di_range3 rfl Z.b_range (da_cons (de_sub (de_bf o_len c_len rfl Z.b_len boot_len (da_cons (de_fld Z.c_Trials Z.n_Trials_chances (de_v 0)) da_nil)) (de_int)) (da_cons (de_neg (de_int)) (da_cons (de_neg (de_int)) da_nil)))) (pg_nm nd) (dss_cons (ds_setLc (fun _ _ _ _ q => w_frz q) (own := [("chance", 3)]) rfl nd (di_seq (de_sl (de_fld Z.c_Trials Z.n_Trials_chances (de_v 0)) (do_some (de_v 1)) do_none)) (blkOk_by (by kernel_rfl)) (fun _ _ _ _ _ => pg_nm nd) (fun _ _ _ _ _ => dts_nil) (fun _ _ _ _ _ => de_call ((m_odds_of_ok Z).mono (by decide)) hr gd takes0 Z.g_odds_of rfl (da_cons (de_v 3) da_nil))) (dss_one (ds_if (dt_bool (dw_or (dt_in (u65 hr) (de_non) (de_v 2)) (dw_or1 (dt_not (dt_tru (de_call ((m_is_less_ok Z).mono (by decide)) hr gd (takes_of rfl rfl rfl rfl) Z.g_is_less rfl (da_cons (de_call ((m_whole_sum_ok Z).mono (by decide)) hr gd (takes_of rfl rfl rfl rfl) Z.g_whole_sum rfl (da_cons (de_v 2) da_nil)) (da_cons (de_gtup (is := [1, 1]) rfl Z.g_WHOLE Z.t_WHOLE) da_nil)))))))) (dss_one (ds_ret (de_v 1))) (dss_nil))))) (dss_one (ds_ret (de_int)))

theorem sc_best_chance : FnScope ["n", "trials"] ["n"] (defScope (top 34)) := ⟨rfl, rfl, rfl, by decide +kernel, rfl, by decide +kernel, by decide +kernel⟩
theorem m_best_chance_ok {P : Program} {w : World} {K : PySem.W.Frag} {mg : Str → Option Value} {base : Heap} (Z : Md K mg) : FnD P w K mg base 7 (He.ga K "best_chance") 1 m_best_chance := by
  obtain ⟨fd, F⟩ := Z.d_best_chance
  have nd := sc_best_chance.nd
  refine fnD_of F sc_best_chance rfl (binds_of F fun _ _ _ _ _ _ us hl => match us, hl with | [_], _ => rfl) fun cdv A outer s H E hr gd => ?_
  exact dss_cons (ds_exp (de_call ((m_check_n_ok Z).mono (by decide)) hr gd (takes_of rfl rfl rfl rfl) Z.g_check_n rfl (da_cons (de_v 0) da_nil))) (dss_cons (ds_set (i := 1) nd (de_call ((m_ones_of_ok Z).mono (by decide)) hr gd (takes_of rfl rfl rfl rfl) Z.g_ones_of rfl (da_cons (de_v 0) da_nil))) (dss_one (ds_ret (de_call ((m_won_ok Z).mono (by decide)) hr gd (takes_of rfl rfl rfl rfl) Z.g_won rfl (da_cons (de_v 1) (da_cons (de_tupRg rfl rfl Z.b_tuple (dr_2 rfl Z.b_range (de_call ((m_first_from_ok Z).mono (by decide)) hr gd (takes_of rfl rfl rfl rfl) Z.g_first_from rfl (da_cons (de_v 1) da_nil)) (de_v 0))) da_nil))))))

theorem sc__law_less : FnScope ["one", "other"] ["one", "other"] (defScope (top 44)) := ⟨rfl, rfl, rfl, by decide +kernel, rfl, by decide +kernel, by decide +kernel⟩
theorem m__law_less_ok {P : Program} {w : World} {K : PySem.W.Frag} {mg : Str → Option Value} {base : Heap} (Z : Md K mg) : FnD P w K mg base 1 (He.ga K "_law_less") 2 m__law_less := by
  obtain ⟨fd, F⟩ := Z.d__law_less
  have nd := sc__law_less.nd
  refine fnD_of F sc__law_less rfl (binds_of F fun _ _ _ _ _ _ us hl => match us, hl with | [_, _], _ => rfl) fun cdv A outer s H E hr gd => ?_
  exact dss_one (ds_ret (de_lt (de_mul (de_item (u1 hr) (de_v 0) (de_int)) (de_item (u1 hr) (de_v 1) (de_int))) (de_mul (de_item (u1 hr) (de_v 1) (de_int)) (de_item (u1 hr) (de_v 0) (de_int)))))

theorem sc_law_k08 : FnScope ["script", "hand", "n", "orders", "kept", "told", "picks", "due", "rows", "left", "one", "later"] ["script"] (defScope (top 50)) := ⟨rfl, rfl, rfl, by decide +kernel, rfl, by decide +kernel, by decide +kernel⟩
theorem m_law_k08_ok {P : Program} {w : World} {K : PySem.W.Frag} {mg : Str → Option Value} {base : Heap} (Z : Md K mg) : FnD P w K mg base 20 (He.ga K "law") 1 m_law_k08 := by
  obtain ⟨fd, F⟩ := Z.d_law
  have nd := sc_law_k08.nd
  refine fnD_of F sc_law_k08 rfl (binds_of F fun _ _ _ _ _ _ us hl => match us, hl with | [_], _ => rfl) fun cdv A outer s H E hr gd => ?_
  exact dss_cons (ds_set (i := 1) nd (de_call ((m__law_hand_v2_ok Z).mono (by decide)) hr gd (takes_of rfl rfl rfl rfl) Z.g__law_hand rfl (da_cons (de_v 0) da_nil))) (dss_cons (ds_set (i := 2) nd (de_add (de_int) (de_call ((m__law_draw_v3_ok Z).mono (by decide)) hr gd (takes_of rfl rfl rfl rfl) Z.g__law_draw rfl (da_cons (de_v 1) (da_cons (de_int) da_nil))))) (dss_cons (ds_pat (de_tup (da_cons (de_call ((m__law_orders_ok Z).mono (by decide)) hr gd (takes_of rfl rfl rfl rfl) Z.g__law_orders rfl (da_cons (de_v 2) da_nil)) (da_cons (de_dct0) (da_cons (de_thaw (dn_lst da_nil)) da_nil)))) (pg_tp rfl (pgs_co (pg_nm nd) (pgs_co (pg_nm nd) (pgs_co (pg_nm nd) (pgs_no)))))) (dss_cons (ds_for (passes_of rfl) rfl (di_range2 rfl Z.b_range (da_cons (de_int) (da_cons (de_add (de_v 2) (de_int)) da_nil))) (pg_nm nd) (dss_cons (ds_set (i := 7) nd (de_call ((m__law_low_ok Z).mono (by decide)) hr gd (takes_of rfl rfl rfl rfl) Z.g__law_low rfl (da_cons (de_call ((m__law_wins_v2_ok Z).mono (by decide)) hr gd (takes_of rfl rfl rfl rfl) Z.g__law_wins rfl (da_cons (de_v 3) (da_cons (de_int) (da_cons (de_v 6) (da_cons (de_v 4) da_nil))))) (da_cons (de_bf o_len c_len rfl Z.b_len boot_len (da_cons (de_v 3) da_nil)) da_nil)))) (dss_cons (ds_exp (de_app (de_v 5) (da_cons (de_call ((m_chance_with_ok Z).mono (by decide)) hr gd (takes_of rfl rfl rfl rfl) Z.g_chance_with rfl (da_cons (de_v 2) (da_cons (de_v 6) da_nil))) da_nil))) (dss_cons (ds_if (dt_not (dt_tru (de_call ((m__law_is_ok Z).mono (by decide)) hr gd (takes_of rfl rfl rfl rfl) Z.g__law_is rfl (da_cons (de_item (u1 hr) (de_v 5) (de_neg (de_int))) (da_cons (de_v 7) da_nil))))) (dss_one (ds_ret (de_bl))) (dss_nil)) (dss_cons (ds_set (i := 8) nd (de_tf o_tup call_tuple_of rfl Z.b_tuple boot_tuple (da_cons (de_frz (dn_lc (own := [("left", 9)]) rfl nd (di_range2 rfl Z.b_range (da_cons (de_int) (da_cons (de_add (de_v 6) (de_int)) da_nil))) (blkOk_by (by kernel_rfl)) (fun _ _ _ _ _ => pg_nm nd) (fun _ _ _ _ _ => dts_nil) (fun _ _ _ _ _ => de_call ((m__law_from_v4_ok Z).mono (by decide)) hr gd takes0 Z.g__law_from rfl (da_cons (de_v 3) (da_cons (de_v 9) (da_cons (de_v 4) da_nil)))))) da_nil))) (dss_one (ds_if (dt_not (dt_tru (de_call ((m__law_is_ok Z).mono (by decide)) hr gd (takes_of rfl rfl rfl rfl) Z.g__law_is rfl (da_cons (de_call ((m_pick_from_ok Z).mono (by decide)) hr gd (takes_of rfl rfl rfl rfl) Z.g_pick_from rfl (da_cons (de_v 2) (da_cons (de_v 6) da_nil))) (da_cons (de_v 8) da_nil))))) (dss_one (ds_ret (de_bl))) (dss_nil)))))))) (dss_cons (ds_if (dt_bool (dw_or (dt_ne (u64 hr) (de_item (u1 hr) (de_v 5) (de_int)) (de_call ((m_best_chance_ok Z).mono (by decide)) hr gd (takes_of rfl rfl rfl rfl) Z.g_best_chance rfl (da_cons (de_v 2) da_nil))) (dw_or1 (dt_ne (u64 hr) (de_item (u1 hr) (de_v 5) (de_neg (de_int))) (de_tup (da_cons (de_int) (da_cons (de_int) da_nil))))))) (dss_one (ds_ret (de_bl))) (dss_nil)) (dss_one (ds_ret (de_notX (de_bf o_any (cr_any rfl) rfl Z.b_any boot_any (da_cons (de_frz (dn_lc (own := [("one", 10), ("later", 11)]) rfl nd (di_zip rfl Z.b_zip (da_cons (de_v 5) (da_cons (de_sl (de_v 5) (do_some (de_int)) do_none) da_nil))) (blkOk_by (by kernel_rfl)) (fun _ _ _ _ _ => pg_tp rfl (pgs_co (pg_nm nd) (pgs_co (pg_nm nd) (pgs_no)))) (fun _ _ _ _ _ => dts_nil) (fun _ _ _ _ _ => de_call ((m__law_less_ok Z).mono (by decide)) hr gd takes0 Z.g__law_less rfl (da_cons (de_v 11) (da_cons (de_v 10) da_nil))))) da_nil)))))))))

/-! ### the head -/
def dd_Trials___init__ : He.DefD := ⟨("Trials", some "__init__"), "__init__", "Trials.__init__", defArgs (inClass (top 24) 0), defBody (inClass (top 24) 0), defScope (inClass (top 24) 0), [], []⟩
def dd__law_draw : He.DefD := ⟨("_law_draw", none), "_law_draw", "_law_draw", defArgs (top 41), defBody (top 41), defScope (top 41), [], []⟩
def dd__law_from : He.DefD := ⟨("_law_from", none), "_law_from", "_law_from", defArgs (top 49), defBody (top 49), defScope (top 49), [], []⟩
def dd__law_hand : He.DefD := ⟨("_law_hand", none), "_law_hand", "_law_hand", defArgs (top 40), defBody (top 40), defScope (top 40), [], []⟩
def dd__law_is : He.DefD := ⟨("_law_is", none), "_law_is", "_law_is", defArgs (top 42), defBody (top 42), defScope (top 42), [], []⟩
def dd__law_less : He.DefD := ⟨("_law_less", none), "_law_less", "_law_less", defArgs (top 44), defBody (top 44), defScope (top 44), [], []⟩
def dd__law_low : He.DefD := ⟨("_law_low", none), "_law_low", "_law_low", defArgs (top 43), defBody (top 43), defScope (top 43), [], []⟩
def dd__law_orders : He.DefD := ⟨("_law_orders", none), "_law_orders", "_law_orders", defArgs (top 45), defBody (top 45), defScope (top 45), [], []⟩
def dd__law_parted : He.DefD := ⟨("_law_parted", none), "_law_parted", "_law_parted", defArgs (top 46), defBody (top 46), defScope (top 46), [], []⟩
def dd__law_taken : He.DefD := ⟨("_law_taken", none), "_law_taken", "_law_taken", defArgs (top 48), defBody (top 48), defScope (top 48), [], []⟩
def dd__law_wins : He.DefD := ⟨("_law_wins", none), "_law_wins", "_law_wins", defArgs (top 47), defBody (top 47), defScope (top 47), [], []⟩
def dd_best_chance : He.DefD := ⟨("best_chance", none), "best_chance", "best_chance", defArgs (top 34), defBody (top 34), defScope (top 34), [], []⟩
def dd_chance_with : He.DefD := ⟨("chance_with", none), "chance_with", "chance_with", defArgs (top 37), defBody (top 37), defScope (top 37), [], []⟩
def dd_check_n : He.DefD := ⟨("check_n", none), "check_n", "check_n", defArgs (top 32), defBody (top 32), defScope (top 32), [], []⟩
def dd_check_picks : He.DefD := ⟨("check_picks", none), "check_picks", "check_picks", defArgs (top 36), defBody (top 36), defScope (top 36), [], []⟩
def dd_common : He.DefD := ⟨("common", none), "common", "common", defArgs (top 11), defBody (top 11), defScope (top 11), [], []⟩
def dd_first_from : He.DefD := ⟨("first_from", none), "first_from", "first_from", defArgs (top 29), defBody (top 29), defScope (top 29), [], []⟩
def dd_greatest : He.DefD := ⟨("greatest", none), "greatest", "greatest", defArgs (top 18), defBody (top 18), defScope (top 18), [], []⟩
def dd_hopes : He.DefD := ⟨("hopes", none), "hopes", "hopes", defArgs (top 35), defBody (top 35), defScope (top 35), [], []⟩
def dd_is_fraction : He.DefD := ⟨("is_fraction", none), "is_fraction", "is_fraction", defArgs (top 20), defBody (top 20), defScope (top 20), [], []⟩
def dd_is_integer : He.DefD := ⟨("is_integer", none), "is_integer", "is_integer", defArgs (top 1), defBody (top 1), defScope (top 1), [], []⟩
def dd_is_less : He.DefD := ⟨("is_less", none), "is_less", "is_less", defArgs (top 17), defBody (top 17), defScope (top 17), [], []⟩
def dd_is_share : He.DefD := ⟨("is_share", none), "is_share", "is_share", defArgs (top 21), defBody (top 21), defScope (top 21), [], []⟩
def dd_is_tuple : He.DefD := ⟨("is_tuple", none), "is_tuple", "is_tuple", defArgs (top 3), defBody (top 3), defScope (top 3), [], []⟩
def dd_is_within : He.DefD := ⟨("is_within", none), "is_within", "is_within", defArgs (top 2), defBody (top 2), defScope (top 2), [], []⟩
def dd_last_shares : He.DefD := ⟨("last_shares", none), "last_shares", "last_shares", defArgs (top 26), defBody (top 26), defScope (top 26), [], []⟩
def dd_law : He.DefD := ⟨("law", none), "law", "law", defArgs (top 50), defBody (top 50), defScope (top 50), [], []⟩
def dd_lowest : He.DefD := ⟨("lowest", none), "lowest", "lowest", defArgs (top 12), defBody (top 12), defScope (top 12), [], []⟩
def dd_minus : He.DefD := ⟨("minus", none), "minus", "minus", defArgs (top 14), defBody (top 14), defScope (top 14), [], []⟩
def dd_none_from : He.DefD := ⟨("none_from", none), "none_from", "none_from", defArgs (top 25), defBody (top 25), defScope (top 25), [], []⟩
def dd_odds_of : He.DefD := ⟨("odds_of", none), "odds_of", "odds_of", defArgs (top 28), defBody (top 28), defScope (top 28), [], []⟩
def dd_ones_of : He.DefD := ⟨("ones_of", none), "ones_of", "ones_of", defArgs (top 33), defBody (top 33), defScope (top 33), [], []⟩
def dd_pick_from : He.DefD := ⟨("pick_from", none), "pick_from", "pick_from", defArgs (top 38), defBody (top 38), defScope (top 38), [], []⟩
def dd_plus : He.DefD := ⟨("plus", none), "plus", "plus", defArgs (top 13), defBody (top 13), defScope (top 13), [], []⟩
def dd_product : He.DefD := ⟨("product", none), "product", "product", defArgs (top 15), defBody (top 15), defScope (top 15), [], []⟩
def dd_quotient : He.DefD := ⟨("quotient", none), "quotient", "quotient", defArgs (top 16), defBody (top 16), defScope (top 16), [], []⟩
def dd_whole_sum : He.DefD := ⟨("whole_sum", none), "whole_sum", "whole_sum", defArgs (top 19), defBody (top 19), defScope (top 19), [], []⟩
def dd_won : He.DefD := ⟨("won", none), "won", "won", defArgs (top 27), defBody (top 27), defScope (top 27), [], []⟩
def fn : List He.DefD := [dd_Trials___init__, dd__law_draw, dd__law_from, dd__law_hand, dd__law_is, dd__law_less, dd__law_low, dd__law_orders, dd__law_parted, dd__law_taken, dd__law_wins, dd_best_chance, dd_chance_with, dd_check_n, dd_check_picks, dd_common, dd_first_from, dd_greatest, dd_hopes, dd_is_fraction, dd_is_integer, dd_is_less, dd_is_share, dd_is_tuple, dd_is_within, dd_last_shares, dd_law, dd_lowest, dd_minus, dd_none_from, dd_odds_of, dd_ones_of, dd_pick_from, dd_plus, dd_product, dd_quotient, dd_whole_sum, dd_won]
def fa : List He.Fa := [.cls "Trials", .free "abs", .free "all", .free "any", .free "bool", .free "dict", .free "enumerate", .free "int", .free "isinstance", .free "len", .free "list", .free "max", .free "range", .free "sorted", .free "tuple", .free "zip", .glo "Trials", .glo "_law_draw", .glo "_law_from", .glo "_law_hand", .glo "_law_is", .glo "_law_less", .glo "_law_low", .glo "_law_orders", .glo "_law_parted", .glo "_law_taken", .glo "_law_wins", .glo "best_chance", .glo "chance_with", .glo "check_n", .glo "check_picks", .glo "common", .glo "first_from", .glo "greatest", .glo "hopes", .glo "is_fraction", .glo "is_integer", .glo "is_less", .glo "is_share", .glo "is_tuple", .glo "is_within", .glo "last_shares", .glo "law", .glo "lowest", .glo "minus", .glo "none_from", .glo "odds_of", .glo "ones_of", .glo "pick_from", .glo "plus", .glo "product", .glo "quotient", .glo "whole_sum", .glo "won", .int "MOST_CANDIDATES" 12, .int "MOST_TRIALS" 12, .mkr "Trials", .noat "Trials" "chances", .noat "Trials" "looked", .glo "NONE", .glo "WHOLE"]
def ex (K : PySem.W.Frag) : Bool := (He.tupB K "NONE" ([0, 1].map He.Dv.int)) && (He.tupB K "WHOLE" ([1, 1].map He.Dv.int)) && (ownB own K)
theorem ex_0 {K : PySem.W.Frag} (h : ex K = true) : He.tupB K "NONE" ([0, 1].map He.Dv.int) = true := (He.ba (He.ba h).1).1
theorem ex_1 {K : PySem.W.Frag} (h : ex K = true) : He.tupB K "WHOLE" ([1, 1].map He.Dv.int) = true := (He.ba (He.ba h).1).2
theorem ex_2 {K : PySem.W.Frag} (h : ex K = true) : ownB own K = true := (He.ba h).2
theorem own_ok {K : PySem.W.Frag} (h : ex K = true) : OwnF K own := ownB_ok (ex_2 h)
theorem md_of {K : PySem.W.Frag} {mg : Str → Option Value} {h : Heap} (X : K.In h) (G : h.Ns mainGlobals mg) (c : SaysE fa fn ex K) : Md K mg := ⟨He.cls_ok (c.d.fact 0 rfl),
  He.free_ok X G (c.d.fact 1 rfl),
  He.free_ok X G (c.d.fact 2 rfl),
  He.free_ok X G (c.d.fact 3 rfl),
  He.free_ok X G (c.d.fact 4 rfl),
  He.free_ok X G (c.d.fact 5 rfl),
  He.free_ok X G (c.d.fact 6 rfl),
  He.free_ok X G (c.d.fact 7 rfl),
  He.free_ok X G (c.d.fact 8 rfl),
  He.free_ok X G (c.d.fact 9 rfl),
  He.free_ok X G (c.d.fact 10 rfl),
  He.free_ok X G (c.d.fact 11 rfl),
  He.free_ok X G (c.d.fact 12 rfl),
  He.free_ok X G (c.d.fact 13 rfl),
  He.free_ok X G (c.d.fact 14 rfl),
  He.free_ok X G (c.d.fact 15 rfl),
  He.glo_ok X G (c.d.fact 16 rfl),
  He.glo_ok X G (c.d.fact 17 rfl),
  He.glo_ok X G (c.d.fact 18 rfl),
  He.glo_ok X G (c.d.fact 19 rfl),
  He.glo_ok X G (c.d.fact 20 rfl),
  He.glo_ok X G (c.d.fact 21 rfl),
  He.glo_ok X G (c.d.fact 22 rfl),
  He.glo_ok X G (c.d.fact 23 rfl),
  He.glo_ok X G (c.d.fact 24 rfl),
  He.glo_ok X G (c.d.fact 25 rfl),
  He.glo_ok X G (c.d.fact 26 rfl),
  He.glo_ok X G (c.d.fact 27 rfl),
  He.glo_ok X G (c.d.fact 28 rfl),
  He.glo_ok X G (c.d.fact 29 rfl),
  He.glo_ok X G (c.d.fact 30 rfl),
  He.glo_ok X G (c.d.fact 31 rfl),
  He.glo_ok X G (c.d.fact 32 rfl),
  He.glo_ok X G (c.d.fact 33 rfl),
  He.glo_ok X G (c.d.fact 34 rfl),
  He.glo_ok X G (c.d.fact 35 rfl),
  He.glo_ok X G (c.d.fact 36 rfl),
  He.glo_ok X G (c.d.fact 37 rfl),
  He.glo_ok X G (c.d.fact 38 rfl),
  He.glo_ok X G (c.d.fact 39 rfl),
  He.glo_ok X G (c.d.fact 40 rfl),
  He.glo_ok X G (c.d.fact 41 rfl),
  He.glo_ok X G (c.d.fact 42 rfl),
  He.glo_ok X G (c.d.fact 43 rfl),
  He.glo_ok X G (c.d.fact 44 rfl),
  He.glo_ok X G (c.d.fact 45 rfl),
  He.glo_ok X G (c.d.fact 46 rfl),
  He.glo_ok X G (c.d.fact 47 rfl),
  He.glo_ok X G (c.d.fact 48 rfl),
  He.glo_ok X G (c.d.fact 49 rfl),
  He.glo_ok X G (c.d.fact 50 rfl),
  He.glo_ok X G (c.d.fact 51 rfl),
  He.glo_ok X G (c.d.fact 52 rfl),
  He.glo_ok X G (c.d.fact 53 rfl),
  He.int_ok X G (c.d.fact 54 rfl),
  He.int_ok X G (c.d.fact 55 rfl),
  He.mkr_ok (c.d.fact 56 rfl),
  He.noat_ok (c.d.fact 57 rfl),
  He.noat_ok (c.d.fact 58 rfl),
  He.glo_ok X G (c.d.fact 59 rfl),
  tup_kt (ex_0 c.e),
  He.glo_ok X G (c.d.fact 60 rfl),
  tup_kt (ex_1 c.e),
  c.d.def_ 0 (d := dd_Trials___init__) rfl,
  c.d.def_ 1 (d := dd__law_draw) rfl,
  c.d.def_ 2 (d := dd__law_from) rfl,
  c.d.def_ 3 (d := dd__law_hand) rfl,
  c.d.def_ 4 (d := dd__law_is) rfl,
  c.d.def_ 5 (d := dd__law_less) rfl,
  c.d.def_ 6 (d := dd__law_low) rfl,
  c.d.def_ 7 (d := dd__law_orders) rfl,
  c.d.def_ 8 (d := dd__law_parted) rfl,
  c.d.def_ 9 (d := dd__law_taken) rfl,
  c.d.def_ 10 (d := dd__law_wins) rfl,
  c.d.def_ 11 (d := dd_best_chance) rfl,
  c.d.def_ 12 (d := dd_chance_with) rfl,
  c.d.def_ 13 (d := dd_check_n) rfl,
  c.d.def_ 14 (d := dd_check_picks) rfl,
  c.d.def_ 15 (d := dd_common) rfl,
  c.d.def_ 16 (d := dd_first_from) rfl,
  c.d.def_ 17 (d := dd_greatest) rfl,
  c.d.def_ 18 (d := dd_hopes) rfl,
  c.d.def_ 19 (d := dd_is_fraction) rfl,
  c.d.def_ 20 (d := dd_is_integer) rfl,
  c.d.def_ 21 (d := dd_is_less) rfl,
  c.d.def_ 22 (d := dd_is_share) rfl,
  c.d.def_ 23 (d := dd_is_tuple) rfl,
  c.d.def_ 24 (d := dd_is_within) rfl,
  c.d.def_ 25 (d := dd_last_shares) rfl,
  c.d.def_ 26 (d := dd_law) rfl,
  c.d.def_ 27 (d := dd_lowest) rfl,
  c.d.def_ 28 (d := dd_minus) rfl,
  c.d.def_ 29 (d := dd_none_from) rfl,
  c.d.def_ 30 (d := dd_odds_of) rfl,
  c.d.def_ 31 (d := dd_ones_of) rfl,
  c.d.def_ 32 (d := dd_pick_from) rfl,
  c.d.def_ 33 (d := dd_plus) rfl,
  c.d.def_ 34 (d := dd_product) rfl,
  c.d.def_ 35 (d := dd_quotient) rfl,
  c.d.def_ 36 (d := dd_whole_sum) rfl,
  c.d.def_ 37 (d := dd_won) rfl,
  own_ok c.e⟩
abbrev R0 : PySem.W.OpenRow := PySem.W.OpenLaw.row PySem.Challenge.rw_openorstop_k08_whole_candidates_with_pic
abbrev hk : PySem.W.Hook := hookE 6 fa fn ex
def ob (s : PySem.W.SharedT) : AlE := obsE 6 fa fn ex (HandSHeadRun.getT s)
theorem ob_eq (s : PySem.W.SharedT) : ob s = hk.obs s.abs := obsE_eq (HandSHeadRun.getT_eq s)
abbrev loose0 : List Str := ["is_integer", "is_within", "is_tuple", "ChanceError", "BadTrials", "NoNumber", "NONE", "WHOLE", "common", "lowest", "plus", "minus"]
abbrev loose1 : List Str := ["product", "quotient", "is_less", "greatest", "whole_sum", "is_fraction", "is_share", "MOST_TRIALS", "Trials", "none_from", "last_shares", "won"]
abbrev loose2 : List Str := ["odds_of", "first_from", "MOST_CANDIDATES", "check_n", "ones_of", "best_chance", "hopes", "check_picks", "chance_with", "pick_from", "_law_hand", "_law_draw"]
abbrev loose3 : List Str := ["_law_is", "_law_low", "_law_less", "_law_orders", "_law_parted", "_law_wins", "_law_taken", "_law_from"]
abbrev loose : List Str := loose0 ++ loose1 ++ loose2 ++ loose3
theorem run (w : World) : HandSHeadRun.RunEq R0 (PySem.W.view R0.prog [50]) hk ob 8000 loose w := by
  intro os
  kernel_rfl
end Law_k08
local instance : Dl.Tb := ⟨fun _ => []⟩
open PySem PySem.W PySem.Calls PyProof.Rows
theorem Law_k08_of (hm : ∀ ns : List Int, ns.length ≤ 63 → (∀ z ∈ ns, Builtin.Int.intBits z ≤ 1048576) → ∃ h', Sh.m_law_k08 [.scr ns] [] = .ok (.bl true) h') : PySem.Challenge.rw_openorstop_k08_whole_candidates_with_pic.Holds := by
  w_on; o_law
  refine HandSHeadRun.head_any (r := OpenLaw.row PySem.Challenge.rw_openorstop_k08_whole_candidates_with_pic) (q := view (OpenLaw.row PySem.Challenge.rw_openorstop_k08_whole_candidates_with_pic).prog [50]) (H := Law_k08.hk) (ob := Law_k08.ob) (M := 8000) (loose := Law_k08.loose) (d := HandSHeadRun.topDef (OpenLaw.row PySem.Challenge.rw_openorstop_k08_whole_candidates_with_pic).prog 50) (kwd := []) Law_k08.ob_eq
    (by kernel_rfl) (fun s => by kernel_rfl) Law_k08.run (by kernel_rfl) (by kernel_rfl) (by kernel_rfl) (by rfl) (by first | assumption | decide +kernel) (by decide +kernel) ⟨rfl, rfl, rfl, rfl, rfl, by decide +kernel⟩ ?hw ?hc
  case hw => w_witness2
  case hc =>
    refine Dl.walk_law (l := PySem.Challenge.rw_openorstop_k08_whole_candidates_with_pic) (n := 63) (k := 20) (m := Sh.m_law_k08) (fun _ => rfl) rfl (by decide) (by kernel_rfl) ⟨rfl, by decide, by decide⟩ ?F hm
    intro w mg fa h Y G hmg0
    obtain ⟨K, KX, c⟩ := Y
    have Z := Law_k08.md_of KX G c
    have hmg : mg ("law" : PySem.Str) = some (.ref fa) := by
      have e : (HandSHeadRun.topDef (OpenLaw.row PySem.Challenge.rw_openorstop_k08_whole_candidates_with_pic).prog 50).name = ("law" : PySem.Str) := by kernel_rfl
      rw [← e]
      exact hmg0
    have e := hmg.symm.trans Z.g_law
    cases e
    exact ⟨K, KX, fun base _ _ => Law_k08.m_law_k08_ok Z⟩

theorem PySem.Challenge.cw_openorstop_k08_whole_candidates_with_pic_holds : PySem.Challenge.rw_openorstop_k08_whole_candidates_with_pic.Holds :=
  Law_k08_of fun ns hl hb => Pl.law_k08 ns hl hb
