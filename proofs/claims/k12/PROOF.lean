import PyProof.Rows.All
import Wide.All
import OpenK.AllK
import Wide.FinOn
import HandS.ForMost
import HandS.Walk
import HandS.TupAny
import HandS.Wide
import HandS.WideBits
import HandS.Zip
import HandS.Exc
import HandS.WordsExc
import HandS.Defaults
import HandS.HeadHook2
import KE.KDictKeyed
import HandS.Lambda
import HandS.Deep
import HandS.TupMul
import HandS.Style
import HandS.Conv
import HandS.Flow
import HandS.ExcOwn
import HandS.IsInst
import HandS.More
import HandS.Small
import HandS.WordsDict
import HandS.SortInts
import PyProof.ReprRoads
import HandS.RaiseMore
import HandS.EndBits
import HandS.HeadEnd
import HandS.Head0
import HandS.Head1
import HandS.Head2
import HandS.Words
import KE.SortData
import KE.GoesEnum
import KE.GoesMore
import HandS.Strs
import HandS.SetFor
import HandS.Dict
import HandS.Iter
import KE.KExcSuper
import HandS.TryOnly
import HandS.TryMany
import HandS.ExcIs
import PyProof.ListMulRoad
import PyProof.FactsAll.tuple_2
import KE.DataFind
import HandS.EndTab
import HandS.HeadWalk
import HandS.DictTup
import KE.KDictZip
import HandS.GenList
import PyProof.FitsInt
import PyProof.Rows.ReprOcc
import PySem.Challenge.RW_openorstop_k12_whole_floors_and_worth_by
set_option Elab.async false
set_option linter.all false
set_option maxHeartbeats 4000000
set_option maxRecDepth 100000
/-! The D layer, 1: Python's values as plain data, computations as plain functions, what they have to do with the hand layer. -/
namespace Dl
open PySem PySem.Spec PyProof.Rows L2

/-! ### data -/
inductive D where
  | non | bl (b : Bool) | int (i : Int) | str (x : Str) | ty (n : String) | glo (x : Str)
  | tup (xs : List D) | lst (xs : List D) | obj (n : Nat) | scr (ns : List Int) | exn (a : Nat)
inductive DO where
  | lst (xs : List D)
  | ins (C : Str) (fs : List (Str × D))
  | dI (kvs : List (Key × D))
  | dF (kvs : List (Key × D))
  | dN (kvs : List (NestedKey × D))
abbrev Hs := List DO
inductive R (α : Type) where
  | ok (a : α) (h : Hs) | exc (C : Str) (fs : List (Str × D)) (h : Hs) | bad
abbrev M (α : Type) := Hs → R α
def R.bind {α β : Type} (r : R α) (f : α → M β) : R β := match r with
  | .ok a h => f a h
  | .exc C fs h => .exc C fs h
  | .bad => .bad
abbrev Env := List (Option D)

/-! ### what stands for what -/
/-- where the changing things stand, by number; lists that are being made -/
structure Ix where
  os : List Addr
  rs : List Addr
def Ix.fz (ι : Ix) (a : Addr) : Prop := a ∉ ι.os ∧ a ∉ ι.rs
def KT (K : PySem.W.Frag) (a : Addr) (xs : List V) : Prop :=
  ∃ (o : Obj) (its : Array Value) (n : Nat), K.lookup a = some o ∧ o.cls = .type "tuple" ∧ o.data = .seq its n ∧ its.size ≤ sizeLine ∧ Vals xs its.toList
def KL (K : PySem.W.Frag) (a : Addr) (xs : List V) : Prop :=
  ∃ (o : Obj) (its : Array Value) (n : Nat), K.lookup a = some o ∧ o.cls = .type "list" ∧ o.dict = none ∧ o.data = .seq its n ∧ its.size ≤ sizeLine ∧ Vals xs its.toList
def TupAt (K : PySem.W.Frag) (ι : Ix) (H : Hp) (a : Addr) (xs : List V) : Prop := (ι.fz a ∧ Rd H a (.tup xs)) ∨ KT K a xs
def LstAt (ι : Ix) (H : Hp) (a : Addr) (xs : List V) : Prop := ι.fz a ∧ H a = some (.lst xs)
/-- the script: it is read alone -/
def ScrAt (K : PySem.W.Frag) (ι : Ix) (H : Hp) (a : Addr) (xs : List V) : Prop := (ι.fz a ∧ Rd H a (.lst xs)) ∨ KL K a xs
mutual
inductive RD (K : PySem.W.Frag) (ι : Ix) (H : Hp) : D → V → Prop
  | non : RD K ι H .non .non
  | bl (b : Bool) : RD K ι H (.bl b) (.bl b)
  | int (i : Int) : RD K ι H (.int i) (.int i)
  | str (x : Str) : RD K ι H (.str x) (.str x)
  | ty (n : String) : RD K ι H (.ty n) (.ty n)
  | glo (x : Str) : RD K ι H (.glo x) (.ref (He.ga K x))
  | tup {a : Addr} {vs : List V} {xs : List D} : TupAt K ι H a vs → RDs K ι H xs vs → RD K ι H (.tup xs) (.ref a)
  | lst {a : Addr} {vs : List V} {xs : List D} : LstAt ι H a vs → RDs K ι H xs vs → RD K ι H (.lst xs) (.ref a)
  | obj {n : Nat} {a : Addr} : ι.os[n]? = some a → RD K ι H (.obj n) (.ref a)
  | scr {a : Addr} {ns : List Int} : ScrAt K ι H a (ns.map V.int) → RD K ι H (.scr ns) (.ref a)
  | exn (a : Addr) : RD K ι H (.exn a) (.ref a)
inductive RDs (K : PySem.W.Frag) (ι : Ix) (H : Hp) : List D → List V → Prop
  | nil : RDs K ι H [] []
  | cons {x : D} {xs : List D} {v : V} {vs : List V} : RD K ι H x v → RDs K ι H xs vs → RDs K ι H (x :: xs) (v :: vs)
end
/-- a key without texts, as deep as n -/
def optAll {α β : Type} (f : α → Option β) : List α → Option (List β)
  | [] => some []
  | x :: xs => (match f x, optAll f xs with
    | some y, some ys => some (y :: ys)
    | _, _ => none)
def nkOf : Nat → D → Option NestedKey
  | 0, d => (match d with
    | .int i => some (.num i)
    | _ => none)
  | n + 1, d => (match d with
    | .int i => some (.num i)
    | .tup xs => (optAll (nkOf n) xs).map .tup
    | _ => none)
/-- the one object of a dict whose keys are tuples -/
def NDict (a : Addr) (xs : List (NestedKey × Addr × Value)) (h : Heap) : Prop := (a == sysModules) = false ∧ xs.length ≤ sizeLine ∧ (xs.map (·.1)).Nodup ∧
  ∃ o es ep, h.get? a = some o ∧ o.ExactDict ∧ o.data = .dict es ep ∧ ∀ w : World, es.toList = xs.map fun x => (⟨x.1.hash w, .ref x.2.1, x.2.2⟩ : DictEntry)
def RN (K : PySem.W.Frag) (ι : Ix) (H : Hp) : List (NestedKey × D) → List (NestedKey × Addr × Value) → Prop :=
  Paired fun (p : NestedKey × D) (q : NestedKey × Addr × Value) => p.1 = q.1 ∧ (∃ kd, nkOf 4 kd = some p.1 ∧ RD K ι H kd (.ref q.2.1)) ∧ ∃ v, RelV v q.2.2 ∧ RD K ι H p.2 v
/-- fields, pairs of a dict -/
def RF {κ : Type} (K : PySem.W.Frag) (ι : Ix) (H : Hp) : List (κ × D) → List (κ × V) → Prop := Paired fun (p : κ × D) (q : κ × V) => p.1 = q.1 ∧ RD K ι H p.2 q.2
def CellOk (K : PySem.W.Frag) (ι : Ix) (H : Hp) (a : Addr) : DO → Prop
  | .lst xs => ∃ vs, H a = some (.lst vs) ∧ RDs K ι H xs vs
  | .ins C fs => ∃ dx us, H a = some (.ins (He.ga K C) dx us) ∧ RF K ι H fs us
  | .dI kvs => ∃ us, H a = some (.dK us) ∧ RF K ι H kvs us
  | .dF kvs => ∃ od us, H a = some (.frz od (.dK us)) ∧ RF K ι H kvs us
  | .dN kvs => ∃ xs, H a = some (.ext (NDict a xs)) ∧ RN K ι H kvs xs
/-- the tables of code objects that a law's lambdas stand in, by the program's fragment (none in most laws) -/
class Tb where
  ts : PySem.W.Frag → List (Addr × Str)
variable [Tb]
def NT (o : HO) : Prop := ∀ ps, o ≠ .tbl ps
def TabOk (ι : Ix) (H : Hp) (P : Addr) (q : Str) : Prop := ∃ ps : Array Value, H P = some (.tbl ps) ∧ TriplesOk ps.toList ∧
  ∀ (pos : Pos) (cv : Value), codeAmong pos ps.toList = some cv → ∃ c, cv = .ref c ∧ H c = some (LamX.CodeO c q) ∧ ι.fz c
structure Rel (K : PySem.W.Frag) (ι : Ix) (h : Hs) (H : Hp) : Prop where
  len : ι.os.length = h.length
  nd : ι.os.Nodup
  cell : ∀ (n : Nat) (a : Addr) (o : DO), ι.os[n]? = some a → h[n]? = some o → CellOk K ι H a o
  res : ∀ a, a ∈ ι.rs → H a ≠ none
  tab : ∀ p, p ∈ Tb.ts K → p.1 ∈ ι.rs ∧ TabOk ι H p.1 p.2
/-- what stood stands: all but the changing things -/
structure Ext (ι : Ix) (H : Hp) (ι' : Ix) (H' : Hp) : Prop where
  pre : ∃ t, ι'.os = ι.os ++ t
  rs : ι'.rs = ι.rs
  keep : ∀ a o, H a = some o → a ∉ ι.os → (a ∈ ι.rs → NT o) → H' a = some o
  new : ∀ a, a ∈ ι'.os → a ∈ ι.os ∨ H a = none
  frz : ∀ a od u, H a = some (.frz od u) → H' a = some (.frz od u)
  dom : ∀ a, H a ≠ none → H' a ≠ none
theorem Ext.refl {ι : Ix} {H : Hp} : Ext ι H ι H := ⟨⟨[], by simp⟩, rfl, fun _ _ h _ _ => h, fun _ h => .inl h, fun _ _ _ h => h, fun _ h => h⟩
theorem Ext.trans {ι ι1 ι2 : Ix} {H H1 H2 : Hp} (a : Ext ι H ι1 H1) (b : Ext ι1 H1 ι2 H2) : Ext ι H ι2 H2 := by
  have back : ∀ x, x ∈ ι1.os → x ∉ ι.os → H x = none := fun x h n => (a.new x h).elim (fun z => absurd z n) id
  refine ⟨?_, b.rs.trans a.rs, fun x o h n r => ?_, fun x h => ?_, fun x od u h => b.frz x od u (a.frz x od u h), fun x n => b.dom x (a.dom x n)⟩
  · obtain ⟨t, e⟩ := a.pre
    obtain ⟨u, e2⟩ := b.pre
    exact ⟨t ++ u, by rw [e2, e, List.append_assoc]⟩
  · refine b.keep x o (a.keep x o h n r) (fun z => ?_) fun m => r (by rw [← a.rs]; exact m)
    rw [back x z n] at h
    cases h
  · rcases b.new x h with z | z
    · exact a.new x z
    · by_cases hx : x ∈ ι.os
      · exact .inl hx
      · refine .inr ?_
        cases q : H x with
        | none => rfl
        | some o => exact absurd z (a.dom x (by rw [q]; exact fun y => nomatch y))
theorem Ext.get {ι ι' : Ix} {H H' : Hp} (e : Ext ι H ι' H') {n : Nat} {a : Addr} (h : ι.os[n]? = some a) : ι'.os[n]? = some a := by
  obtain ⟨t, e1⟩ := e.pre
  rw [e1]
  have := (List.getElem?_eq_some_iff.mp h).1
  rw [List.getElem?_append_left this]
  exact h
/-- what a value stands on is kept -/
structure Up (ι : Ix) (H : Hp) (ι' : Ix) (H' : Hp) : Prop where
  get : ∀ (n : Nat) a, ι.os[n]? = some a → ι'.os[n]? = some a
  keep : ∀ a o, H a = some o → ι.fz a → H' a = some o ∧ ι'.fz a
/-- and what is locked stays so -/
structure UpF (ι : Ix) (H : Hp) (ι' : Ix) (H' : Hp) : Prop where
  up : Up ι H ι' H'
  frz : ∀ a od u, H a = some (.frz od u) → H' a = some (.frz od u)
theorem Ext.up {ι ι' : Ix} {H H' : Hp} (e : Ext ι H ι' H') : Up ι H ι' H' := by
  refine ⟨fun n a h => e.get h, fun a o h f => ⟨e.keep a o h f.1 fun m => absurd m f.2, ⟨fun z => ?_, by rw [e.rs]; exact f.2⟩⟩⟩
  rcases e.new a z with y | y
  · exact f.1 y
  · rw [h] at y
    cases y
theorem TabOk.up {ι ι' : Ix} {H H' : Hp} {P : Addr} {q : Str} (t : TabOk ι H P q) (u : Up ι H ι' H') (e : H' P = H P) : TabOk ι' H' P q := by
  obtain ⟨ps, h1, h2, h3⟩ := t
  refine ⟨ps, e.trans h1, h2, fun pos cv hc => ?_⟩
  obtain ⟨c, c1, c2, c3⟩ := h3 pos cv hc
  exact ⟨c, c1, (u.keep c _ c2 c3).1, (u.keep c _ c2 c3).2⟩
theorem TabOk.ne {ι : Ix} {H : Hp} {P : Addr} {q : Str} (t : TabOk ι H P q) : H P ≠ none := by
  obtain ⟨ps, h1, _⟩ := t
  rw [h1]
  exact fun z => nomatch z
theorem TabOk.nt {ι : Ix} {H : Hp} {P : Addr} {q : Str} (t : TabOk ι H P q) {o : HO} (e : H P = some o) (n : NT o) : False := by
  obtain ⟨ps, h1, _⟩ := t
  rw [h1] at e
  exact n ps (Option.some.inj e).symm
theorem Ext.upF {ι ι' : Ix} {H H' : Hp} (e : Ext ι H ι' H') : UpF ι H ι' H' := ⟨e.up, e.frz⟩
section
variable {K : PySem.W.Frag} {ι ι' : Ix} {H H' : Hp}
theorem Up.rd {a : Addr} {u : HO} (e : Up ι H ι' H') (n : ι.fz a) (h : Rd H a u) : ι'.fz a ∧ Rd H' a u := by
  rcases h with h | ⟨o, h⟩
  · exact ⟨(e.keep _ _ h n).2, .inl (e.keep _ _ h n).1⟩
  · exact ⟨(e.keep _ _ h n).2, .inr ⟨o, (e.keep _ _ h n).1⟩⟩
theorem TupAt.up {a : Addr} {vs : List V} (e : Up ι H ι' H') (h : TupAt K ι H a vs) : TupAt K ι' H' a vs := by
  rcases h with ⟨n, h⟩ | h
  · exact .inl (e.rd n h)
  · exact .inr h
theorem LstAt.up {a : Addr} {vs : List V} (e : Up ι H ι' H') (h : LstAt ι H a vs) : LstAt ι' H' a vs := ⟨(e.keep _ _ h.2 h.1).2, (e.keep _ _ h.2 h.1).1⟩
theorem ScrAt.up {a : Addr} {vs : List V} (e : Up ι H ι' H') (h : ScrAt K ι H a vs) : ScrAt K ι' H' a vs := by
  rcases h with ⟨n, h⟩ | h
  · exact .inl (e.rd n h)
  · exact .inr h
theorem TupAt.sq {a : Addr} {vs : List V} (h : TupAt K ι H a vs) : SqT K H a vs := by
  rcases h with ⟨_, h⟩ | h
  · exact .inl h
  · exact .inr h
theorem LstAt.sq {a : Addr} {vs : List V} (h : LstAt ι H a vs) : SqL K H a vs := .inl (.inl h.2)
theorem ScrAt.sq {a : Addr} {vs : List V} (h : ScrAt K ι H a vs) : SqL K H a vs := by
  rcases h with ⟨_, h⟩ | h
  · exact .inl h
  · exact .inr h
mutual
theorem RD.up (e : Up ι H ι' H') : ∀ {d : D} {v : V}, RD K ι H d v → RD K ι' H' d v
  | _, _, .non => .non
  | _, _, .bl b => .bl b
  | _, _, .int i => .int i
  | _, _, .str x => .str x
  | _, _, .ty n => .ty n
  | _, _, .glo x => .glo x
  | _, _, .tup h r => .tup (h.up e) (RDs.up e r)
  | _, _, .lst h r => .lst (h.up e) (RDs.up e r)
  | _, _, .obj h => .obj (e.get _ _ h)
  | _, _, .scr h => .scr (h.up e)
  | _, _, .exn a => .exn a
theorem RDs.up (e : Up ι H ι' H') : ∀ {ds : List D} {vs : List V}, RDs K ι H ds vs → RDs K ι' H' ds vs
  | _, _, .nil => .nil
  | _, _, .cons h r => .cons (RD.up e h) (RDs.up e r)
end
theorem RD.mono (e : Ext ι H ι' H') {d : D} {v : V} (h : RD K ι H d v) : RD K ι' H' d v := h.up e.up
theorem RDs.mono (e : Ext ι H ι' H') {d : List D} {v : List V} (h : RDs K ι H d v) : RDs K ι' H' d v := h.up e.up
theorem RF.up {κ : Type} (e : Up ι H ι' H') {fs : List (κ × D)} {us : List (κ × V)} (h : RF K ι H fs us) : RF K ι' H' fs us := Paired.mapP h fun _ _ z => ⟨z.1, z.2.up e⟩
theorem RN.up (e : Up ι H ι' H') {fs : List (NestedKey × D)} {us : List (NestedKey × Addr × Value)} (h : RN K ι H fs us) : RN K ι' H' fs us := Paired.mapP h fun _ _ ⟨z1, ⟨kd, z2, z3⟩, v, z4, z5⟩ => ⟨z1, ⟨kd, z2, z3.up e⟩, v, z4, z5.up e⟩
theorem RF.mono {κ : Type} (e : Ext ι H ι' H') {fs : List (κ × D)} {us : List (κ × V)} (h : RF K ι H fs us) : RF K ι' H' fs us := h.up e.up
theorem RDs.length : ∀ {ds : List D} {vs : List V}, RDs K ι H ds vs → ds.length = vs.length
  | _, _, .nil => rfl
  | _, _, .cons _ r => by rw [List.length_cons, List.length_cons, r.length]
theorem RDs.get : ∀ {ds : List D} {vs : List V} {i : Nat} {d : D}, RDs K ι H ds vs → ds[i]? = some d → ∃ v, vs[i]? = some v ∧ RD K ι H d v
  | _, _, _, _, .nil, e => by simp at e
  | _, _, 0, _, .cons h _, e => by simp at e; subst e; exact ⟨_, rfl, h⟩
  | _, _, i + 1, d, .cons _ r, e => by
    obtain ⟨v, h1, h2⟩ := RDs.get (i := i) (d := d) r (by simpa using e)
    exact ⟨v, by simpa using h1, h2⟩
theorem RDs.getV : ∀ {ds : List D} {vs : List V} {i : Nat} {v : V}, RDs K ι H ds vs → vs[i]? = some v → ∃ d, ds[i]? = some d ∧ RD K ι H d v
  | _, _, _, _, .nil, e => by simp at e
  | _, _, 0, _, .cons h _, e => by simp at e; subst e; exact ⟨_, rfl, h⟩
  | _, _, i + 1, d, .cons _ r, e => by
    obtain ⟨v, h1, h2⟩ := RDs.getV (i := i) (v := d) r (by simpa using e)
    exact ⟨v, by simpa using h1, h2⟩
theorem RDs.append : ∀ {xs ys : List D} {us ws : List V}, RDs K ι H xs us → RDs K ι H ys ws → RDs K ι H (xs ++ ys) (us ++ ws)
  | _, _, _, _, .nil, s => s
  | _, _, _, _, .cons h r, s => .cons h (RDs.append r s)
theorem RDs.take : ∀ {xs : List D} {us : List V} (n : Nat), RDs K ι H xs us → RDs K ι H (xs.take n) (us.take n)
  | _, _, 0, _ => .nil
  | _, _, _ + 1, .nil => .nil
  | _, _, n + 1, .cons h r => .cons h (RDs.take n r)
theorem RDs.drop : ∀ {xs : List D} {us : List V} (n : Nat), RDs K ι H xs us → RDs K ι H (xs.drop n) (us.drop n)
  | _, _, 0, r => r
  | _, _, _ + 1, .nil => .nil
  | _, _, n + 1, .cons _ r => RDs.drop n r
theorem RDs.set {x : D} {u : V} (h : RD K ι H x u) : ∀ {xs : List D} {us : List V} (i : Nat), RDs K ι H xs us → RDs K ι H (xs.set i x) (us.set i u)
  | _, _, _, .nil => .nil
  | _, _, 0, .cons _ r => .cons h r
  | _, _, i + 1, .cons g r => .cons g (RDs.set h i r)
theorem RDs.reverse {xs : List D} {us : List V} (h : RDs K ι H xs us) : RDs K ι H xs.reverse us.reverse := by
  induction xs generalizing us with
  | nil => cases h; exact .nil
  | cons x xs ih =>
    cases h with
    | cons h r =>
      rw [List.reverse_cons, List.reverse_cons]
      exact (ih r).append (.cons h .nil)
theorem RDs.rep {xs : List D} {us : List V} (h : RDs K ι H xs us) : ∀ k : Nat, RDs K ι H (List.replicate k xs).flatten (List.replicate k us).flatten
  | 0 => .nil
  | k + 1 => by
    rw [List.replicate_succ, List.replicate_succ, List.flatten_cons, List.flatten_cons]
    exact h.append (RDs.rep h k)
theorem RDs.nil_iff {xs : List D} {us : List V} (r : RDs K ι H xs us) : us = [] ↔ xs = [] := by
  cases r with
  | nil => simp
  | cons _ _ => simp
theorem RDs.ints : ∀ {ns : List Int} {us : List V}, RDs K ι H (ns.map D.int) us → us = ns.map V.int
  | [], _, .nil => rfl
  | n :: ns, _, .cons h r => by
    cases h
    rw [List.map_cons, RDs.ints r]
theorem RDs.ofInts : ∀ {ns : List Int}, RDs K ι H (ns.map D.int) (ns.map V.int)
  | [] => .nil
  | n :: ns => .cons (.int n) RDs.ofInts
end

/-! ### the slots -/
def RS (K : PySem.W.Frag) (ι : Ix) (H : Hp) (ρ : Env) (σ : L2.St) : Prop := ρ.length = σ.length ∧ ∀ (i : Nat) (d : D), ρ[i]? = some (some d) → ∃ v, σ[i]? = some (some v) ∧ RD K ι H d v
section
variable {K : PySem.W.Frag} {ι ι' : Ix} {H H' : Hp} {ρ : Env} {σ : L2.St}
theorem RS.mono (e : Ext ι H ι' H') (h : RS K ι H ρ σ) : RS K ι' H' ρ σ := ⟨h.1, fun i d g => let ⟨v, h1, h2⟩ := h.2 i d g; ⟨v, h1, h2.mono e⟩⟩
theorem RS.set {d : D} {v : V} (h : RS K ι H ρ σ) (i : Nat) (r : RD K ι H d v) : RS K ι H (ρ.set i (some d)) (σ.set i (some v)) := by
  refine ⟨by rw [List.length_set, List.length_set]; exact h.1, fun j d' g => ?_⟩
  by_cases e : i = j
  · subst e
    by_cases hi : i < ρ.length
    · rw [List.getElem?_set_self hi] at g
      cases g
      exact ⟨v, List.getElem?_set_self (by rw [← h.1]; exact hi), r⟩
    · rw [List.getElem?_eq_none (by rw [List.length_set]; omega)] at g
      cases g
  · rw [List.getElem?_set_ne e] at g
    rw [List.getElem?_set_ne e]
    exact h.2 j d' g
end

/-! ### what is wanted behind a computation -/
abbrev XD (K : PySem.W.Frag) (ι : Ix) (H : Hp) (fs : List (Str × D)) (od : Option Addr) : Prop :=
  (fs = [] ∧ od = none) ∨ ∃ d us, fs ≠ [] ∧ od = some d ∧ H d = some (.xd us) ∧ ι.fz d ∧ RF K ι H fs us
def Post {α β : Type} (K : PySem.W.Frag) (W : XK) (RA : Ix → Hp → α → β → Prop) (r : R α) (ι : Ix) (H : Hp) (Q : β → Hp → Prop) : Prop :=
  match r with
  | .ok a h' => ∀ ι' H' b, Ext ι H ι' H' → Rel K ι' h' H' → RA ι' H' a b → Q b H'
  | .exc C fs h' => ∀ ι' H' od, Ext ι H ι' H' → Rel K ι' h' H' → XD K ι' H' fs od → W (.ref (He.ga K C)) od H'
  | .bad => False
section
variable {K : PySem.W.Frag} {W : XK} {ι ι1 : Ix} {H H1 : Hp} {α β γ δ : Type} {RA : Ix → Hp → α → β → Prop} {RB : Ix → Hp → γ → δ → Prop}
theorem Post.ext {r : R α} {Q : β → Hp → Prop} (p : Post K W RA r ι H Q) (e : Ext ι H ι1 H1) : Post K W RA r ι1 H1 Q := by
  cases r with
  | ok a h => exact fun ι' H' b e' => p ι' H' b (e.trans e')
  | exc C fs h => exact fun ι' H' od e' => p ι' H' od (e.trans e')
  | bad => exact p
theorem Post.bind {r : R α} {f : α → M γ} {Q : δ → Hp → Prop} (p : Post K W RB (r.bind f) ι H Q) :
    Post K W RA r ι H (fun b H1 => ∃ ι1 h1 a, Ext ι H ι1 H1 ∧ Rel K ι1 h1 H1 ∧ RA ι1 H1 a b ∧ Post K W RB (f a h1) ι1 H1 Q) := by
  cases r with
  | ok a h => exact fun ι' H' b e R ra => ⟨ι', h, a, e, R, ra, Post.ext p e⟩
  | exc C fs h => exact p
  | bad => exact p
theorem Post.imp {r : R α} {Q Q' : β → Hp → Prop} (p : Post K W RA r ι H Q) (q : ∀ b H, Q b H → Q' b H) : Post K W RA r ι H Q' := by
  cases r with
  | ok a h => exact fun ι' H' b e R ra => q _ _ (p ι' H' b e R ra)
  | exc C fs h => exact p
  | bad => exact p
theorem Post.ok {a : α} {h : Hs} {b : β} {Q : β → Hp → Prop} (p : Post K W RA (.ok a h) ι H Q) (R : Rel K ι h H) (ra : RA ι H a b) : Q b H := p ι H b .refl R ra
end

/-- an expression, a test, arguments as computations -/
def wE (K : PySem.W.Frag) (W : WX) (c : Env → M D) : TE := fun σ H Q => ∃ ι h ρ, Rel K ι h H ∧ RS K ι H ρ σ ∧ Post K (fun x d H' => W x d σ H') (RD K) (c ρ h) ι H Q
def wT (K : PySem.W.Frag) (W : WX) (c : Env → M Bool) : TT := fun σ H Q => ∃ ι h ρ, Rel K ι h H ∧ RS K ι H ρ σ ∧ Post K (fun x d H' => W x d σ H') (fun _ _ a b => a = b) (c ρ h) ι H Q
def wA (K : PySem.W.Frag) (W : WX) (c : Env → M (List D)) : TA := fun σ H Q => ∃ ι h ρ, Rel K ι h H ∧ RS K ι H ρ σ ∧ Post K (fun x d H' => W x d σ H') (RDs K) (c ρ h) ι H Q
/-- a list being made at p -/
def Ix.with (ι : Ix) (p : Addr) : Ix := ⟨ι.os, p :: ι.rs⟩
/-- a new list, of which nothing knows yet -/
def PostN (K : PySem.W.Frag) (W : XK) (r : R (List D)) (ι : Ix) (H : Hp) (Q : V → Hp → Prop) : Prop :=
  match r with
  | .ok xs h' => ∀ ι' H' p vs, Ext ι H ι' H' → Rel K (ι'.with p) h' H' → RDs K (ι'.with p) H' xs vs → H' p = some (.lst vs) → p ∉ ι'.os → p ∉ ι'.rs → H p = none → Q (.ref p) H'
  | .exc C fs h' => ∀ ι' H' od, Ext ι H ι' H' → Rel K ι' h' H' → XD K ι' H' fs od → W (.ref (He.ga K C)) od H'
  | .bad => False
def wN (K : PySem.W.Frag) (W : WX) (c : Env → M (List D)) : TE := fun σ H Q => ∃ ι h ρ, Rel K ι h H ∧ RS K ι H ρ σ ∧ PostN K (fun x d H' => W x d σ H') (c ρ h) ι H Q
abbrev DE (X : Cx) (W : WX) (e : Expr) (c : Env → M D) : Prop := PE X e (wE X.K W c)
abbrev DT (X : Cx) (W : WX) (e : Expr) (c : Env → M Bool) : Prop := PT X e (wT X.K W c)
abbrev DA (X : Cx) (W : WX) (es : List Expr) (c : Env → M (List D)) : Prop := PA X es (wA X.K W c)
abbrev DN (X : Cx) (W : WX) (e : Expr) (c : Env → M (List D)) : Prop := PE X e (wN X.K W c)
theorem pe_imp {X : Cx} {e : Expr} {t t' : TE} (h : PE X e t) (w : ∀ σ H Q, t' σ H Q → t σ H Q) : PE X e t' := ⟨fun pins s σ H Q I z => h.run pins s σ H Q I (w σ H Q z)⟩
theorem pt_imp {X : Cx} {e : Expr} {t t' : TT} (h : PT X e t) (w : ∀ σ H Q, t' σ H Q → t σ H Q) : PT X e t' := ⟨fun pins s σ H Q I z => h.run pins s σ H Q I (w σ H Q z)⟩
theorem pa_imp {X : Cx} {e : List Expr} {t t' : TA} (h : PA X e t) (w : ∀ σ H Q, t' σ H Q → t σ H Q) : PA X e t' := ⟨fun pos pins s σ H Q I z => h.run pos pins s σ H Q I (w σ H Q z)⟩

/-! ### names, constants -/
def eV (i : Nat) : Env → M D := fun ρ h => match ρ[i]? with
  | some (some d) => .ok d h
  | _ => .bad
def eC (d : D) : Env → M D := fun _ h => .ok d h
section
variable {X : Cx} {W : WX} {pos : Pos}
theorem de_v (i : Nat) {x : Str} (hN : X.N[i]? = some x := by rfl) (hv : Vis X.env.scope x := by first | exact Or.inl rfl | exact Or.inr (Or.inl rfl) | exact Or.inr (Or.inr rfl)) (hd : (x == ("__debug__" : Str)) = false := by decide)
    (hcd : (x == ("__classdict__" : Str)) = false := by decide) : DE X W (.Name x pos) (eV i) := pe_imp (pv i hN hv hd hcd) fun σ H Q ⟨ι, h, ρ, R, S, p⟩ => by
  unfold eV at p
  cases e : ρ[i]? with
  | none => rw [e] at p; exact p.elim
  | some o =>
    rw [e] at p
    cases o with
    | none => exact p.elim
    | some d =>
      obtain ⟨v, h1, h2⟩ := S.2 i d e
      exact ⟨v, h1, p.ok R h2⟩
theorem de_c {e : Expr} {d : D} {v : V} (hp : PE X e (tC v)) (r : ∀ ι H, RD X.K ι H d v) : DE X W e (eC d) := pe_imp hp fun σ H Q ⟨ι, h, ρ, R, S, p⟩ => Post.ok p R (r ι H)
theorem de_int {i j} : DE X W (.Constant (.int i) j pos) (eC (.int i)) := de_c pe_int fun _ _ => .int i
theorem de_bl {b j} : DE X W (.Constant (.bool b) j pos) (eC (.bl b)) := de_c pe_bl fun _ _ => .bl b
/-- a number of the module -/
theorem de_gint {x : Str} {i : Int} (hg : Gl X x) (hm : ∃ t, X.mg x = some (.int i t)) (hd : (x == ("__debug__" : Str)) = false := by decide) : DE X W (.Name x pos) (eC (.int i)) := by
  obtain ⟨t, hm⟩ := hm
  exact de_c (pe_glob hg hm (v := .int i) ⟨t, rfl⟩ hd) fun _ _ => .int i
/-- a tuple of ints of the module -/
theorem de_gtup {x : Str} {is : List Int} (hg : Gl X x) (hm : X.mg x = some (.ref (He.ga X.K x))) (hk : KT X.K (He.ga X.K x) (is.map V.int)) (hd : (x == ("__debug__" : Str)) = false := by decide) : DE X W (.Name x pos) (eC (.tup (is.map D.int))) :=
  de_c (pe_glob hg hm (v := .ref (He.ga X.K x)) rfl hd) fun _ _ => .tup (.inr hk) RDs.ofInts
/-- a built-in class as a value -/
theorem de_ty {x : Str} {n : String} (hg : Gl X x) (hm : X.mg x = none) (hv : bootBuiltins x = some (.type n)) (hn : x ≠ "__name__" := by decide) (hd : (x == ("__debug__" : Str)) = false := by decide) : DE X W (.Name x pos) (eC (.ty n)) := de_c (pe_bltn hg hm hv (v := .ty n) rfl hn hd) fun _ _ => .ty n
end

/-! ### operators -/
def e2 (f : D → D → M D) (ca cb : Env → M D) : Env → M D := fun ρ h => (ca ρ h).bind fun x h1 => (cb ρ h1).bind fun y h2 => f x y h2
def e1 (f : D → M D) (ca : Env → M D) : Env → M D := fun ρ h => (ca ρ h).bind fun x h1 => f x h1
/-- the operation on values keeps what the function says -/
def Op2 (X : Cx) (g : R2) (f : D → D → M D) : Prop := ∀ (ι : Ix) (h : Hs) (H : Hp) (x y : D) (v u : V) (W : XK) (Q : VK), Rel X.K ι h H → RD X.K ι H x v → RD X.K ι H y u → Post X.K W (RD X.K) (f x y h) ι H Q → g v u H Q
def Op1 (X : Cx) (g : V → Hp → VK → Prop) (f : D → M D) : Prop := ∀ (ι : Ix) (h : Hs) (H : Hp) (x : D) (v : V) (W : XK) (Q : VK), Rel X.K ι h H → RD X.K ι H x v → Post X.K W (RD X.K) (f x h) ι H Q → g v H Q
section
variable {X : Cx} {W : WX} {pos : Pos} {a b : Expr} {ca cb : Env → M D} {f : D → D → M D} {g : R2}
theorem w2 {σ : L2.St} {H : Hp} {Q : VK} (op : Op2 X g f) (h : wE X.K W (e2 f ca cb) σ H Q) : tOp g (wE X.K W ca) (wE X.K W cb) σ H Q := by
  obtain ⟨ι, h, ρ, R, S, p⟩ := h
  refine ⟨ι, h, ρ, R, S, Post.imp (Post.bind p) fun x H1 ⟨ι1, h1, dx, x1, R1, r1, p1⟩ => ?_⟩
  refine ⟨ι1, h1, ρ, R1, S.mono x1, Post.imp (Post.bind p1) fun y H2 ⟨ι2, h2, dy, x2, R2, r2, p2⟩ => ?_⟩
  exact op ι2 h2 H2 dx dy x y _ Q R2 (r1.mono x2) r2 p2
theorem de_bin {o : Operator} (ho : OpR X (binaryOp o) g) (op : Op2 X g f) (ha : DE X W a ca) (hb : DE X W b cb) : DE X W (.BinOp a o b pos) (e2 f ca cb) := pe_imp (pe_op ho ha hb) fun _ _ _ h => w2 op h
theorem de_cmp {o : CmpOp} (ho : OpR X (compareOp o) g) (op : Op2 X g f) (ha : DE X W a ca) (hb : DE X W b cb) (hm : behindInMarks o b = false) : DE X W (.Compare a [o] [b] pos) (e2 f ca cb) := pe_imp (pe_cmpR ho ha hb hm) fun _ _ _ h => w2 op h
theorem de_ix (ho : IxR X g) (op : Op2 X g f) (ha : DE X W a ca) (hb : DE X W b cb) (hs : PlainIx b) : DE X W (.Subscript a b pos) (e2 f ca cb) := pe_imp (pe_ix ho ha hb hs) fun _ _ _ h => w2 op h
theorem de_un {o : UnaryOp} {g : V → Hp → VK → Prop} {f : D → M D} (ho : UnR X (unaryOp o) g) (op : Op1 X g f) (ha : DE X W a ca) : DE X W (.UnaryOp o a pos) (e1 f ca) := pe_imp (pe_un ho ha) fun σ H Q ⟨ι, h, ρ, R, S, p⟩ => by
  refine ⟨ι, h, ρ, R, S, Post.imp (Post.bind p) fun x H1 ⟨ι1, h1, dx, x1, R1, r1, p1⟩ => ?_⟩
  exact op ι1 h1 H1 dx x _ Q R1 r1 p1
end
end Dl

/-! The D layer, 2: operators. -/
namespace Dl
open PySem PySem.Spec PyProof.Rows L2
variable [Tb]

/-! ### lists behind values -/
def items (h : Hs) : D → Option (List D)
  | .lst xs => some xs
  | .obj n => (match h[n]? with
    | some (.lst xs) => some xs
    | _ => none)
  | _ => none
/-- a dict, locked or not: its pairs -/
def dctKV (h : Hs) (n : Nat) : Option (List (Key × D)) := match h[n]? with
  | some (.dI kvs) => some kvs
  | some (.dF kvs) => some kvs
  | _ => none
section
variable {K : PySem.W.Frag} {ι ι' : Ix} {H H' : Hp} {h : Hs} {W : XK}
theorem Rel.at (R : Rel K ι h H) {n : Nat} {a : Addr} {o : DO} (e : ι.os[n]? = some a) (g : h[n]? = some o) : CellOk K ι H a o := R.cell n a o e g
theorem items_ok (R : Rel K ι h H) {x : D} {v : V} {xs : List D} (r : RD K ι H x v) (e : items h x = some xs) : ∃ a vs, v = .ref a ∧ H a = some (.lst vs) ∧ RDs K ι H xs vs := by
  cases r with
  | lst l q =>
    cases e
    exact ⟨_, _, rfl, l.2, q⟩
  | @obj n a g =>
    have e : (match h[n]? with
    | some (.lst xs) => some xs
    | _ => none) = some xs := e
    cases hn : h[n]? with
    | none => rw [hn] at e; cases e
    | some o =>
      rw [hn] at e
      cases o with
      | lst ys =>
        cases e
        obtain ⟨vs, h1, h2⟩ := R.at g hn
        exact ⟨a, vs, rfl, h1, h2⟩
      | _ => cases e
  | _ => cases e
theorem dctKV_rd (R : Rel K ι h H) {n : Nat} {a : Addr} {kvs : List (Key × D)} (g : ι.os[n]? = some a) (e : dctKV h n = some kvs) : ∃ us, Rd H a (.dK us) ∧ RF K ι H kvs us := by
  unfold dctKV at e
  split at e
  · rename_i ks hn
    cases e
    obtain ⟨us, h1, h2⟩ := R.at g hn
    exact ⟨us, .inl h1, h2⟩
  · rename_i ks hn
    cases e
    obtain ⟨od, us, h1, h2⟩ := R.at g hn
    exact ⟨us, .inr ⟨od, h1⟩, h2⟩
  · cases e
/-- an address of a changing thing is tracked -/
theorem Rel.ne (R : Rel K ι h H) {a : Addr} (m : a ∈ ι.os) : H a ≠ none := by
  obtain ⟨n, hn, e⟩ := List.getElem_of_mem m
  have e1 : ι.os[n]? = some a := by rw [List.getElem?_eq_getElem hn, e]
  have hl : n < h.length := by rw [← R.len]; exact hn
  have c := R.cell n a h[n] e1 (by rw [List.getElem?_eq_getElem hl])
  cases q : h[n] with
  | lst xs => rw [q] at c; obtain ⟨vs, h1, _⟩ := c; rw [h1]; exact fun z => nomatch z
  | ins C fs => rw [q] at c; obtain ⟨dx, us, h1, _⟩ := c; rw [h1]; exact fun z => nomatch z
  | dI kvs => rw [q] at c; obtain ⟨us, h1, _⟩ := c; rw [h1]; exact fun z => nomatch z
  | dF kvs => rw [q] at c; obtain ⟨od, us, h1, _⟩ := c; rw [h1]; exact fun z => nomatch z
  | dN kvs => rw [q] at c; obtain ⟨xs, h1, _⟩ := c; rw [h1]; exact fun z => nomatch z
theorem Rel.out (R : Rel K ι h H) {a : Addr} (n : H a = none) : ι.fz a := ⟨fun m => R.ne m n, fun m => R.res a m n⟩
theorem CellOk.up {a : Addr} {o : DO} (e : Up ι H ι' H') (q : H' a = H a) (c : CellOk K ι H a o) : CellOk K ι' H' a o := by
  cases o with
  | lst xs => obtain ⟨vs, h1, h2⟩ := c; exact ⟨vs, q.trans h1, h2.up e⟩
  | ins C fs => obtain ⟨dx, us, h1, h2⟩ := c; exact ⟨dx, us, q.trans h1, h2.up e⟩
  | dI kvs => obtain ⟨us, h1, h2⟩ := c; exact ⟨us, q.trans h1, h2.up e⟩
  | dF kvs => obtain ⟨od, us, h1, h2⟩ := c; exact ⟨od, us, q.trans h1, h2.up e⟩
  | dN kvs => obtain ⟨xs, h1, h2⟩ := c; exact ⟨xs, q.trans h1, h2.up e⟩
theorem CellOk.nt {a : Addr} {o : DO} (c : CellOk K ι H a o) : ∃ u, H a = some u ∧ NT u := by
  cases o with
  | lst xs => obtain ⟨vs, h1, _⟩ := c; exact ⟨_, h1, fun _ z => nomatch z⟩
  | ins C fs => obtain ⟨dx, us, h1, _⟩ := c; exact ⟨_, h1, fun _ z => nomatch z⟩
  | dI kvs => obtain ⟨us, h1, _⟩ := c; exact ⟨_, h1, fun _ z => nomatch z⟩
  | dF kvs => obtain ⟨od, us, h1, _⟩ := c; exact ⟨_, h1, fun _ z => nomatch z⟩
  | dN kvs => obtain ⟨xs, h1, _⟩ := c; exact ⟨_, h1, fun _ z => nomatch z⟩
theorem Rel.cnt (R : Rel K ι h H) {n : Nat} {a : Addr} (e : ι.os[n]? = some a) : ∃ u, H a = some u ∧ NT u := by
  have hl : n < h.length := by rw [← R.len]; exact (List.getElem?_eq_some_iff.mp e).1
  exact (R.cell n a h[n] e (List.getElem?_eq_getElem hl)).nt
/-- a new thing that never changes -/
theorem upd_dom {p : Addr} {o : HO} (a : Addr) (n : H a ≠ none) : upd H p o a ≠ none := by
  by_cases z : a = p
  · rw [z, upd_same]; exact fun y => nomatch y
  · rw [upd_ne z]; exact n
theorem Ext.put {p : Addr} {o : HO} (n : H p = none) : Ext ι H ι (upd H p o) :=
  ⟨⟨[], by simp⟩, rfl, fun a u e _ _ => by rw [upd_ne (ne_of_none e n)]; exact e, fun _ m => .inl m, fun a od u e => by rw [upd_ne (ne_of_none e n)]; exact e, upd_dom⟩
theorem Rel.put {p : Addr} {o : HO} (R : Rel K ι h H) (n : H p = none) : Rel K ι h (upd H p o) :=
  ⟨R.len, R.nd, fun k a u e g => CellOk.up (Ext.put n).up (upd_ne fun z => R.ne (List.mem_of_getElem? e) (by rw [z]; exact n)) (R.cell k a u e g), fun a m => by
    rw [upd_ne fun z => R.res a m (by rw [z]; exact n)]
    exact R.res a m, fun q m => ⟨(R.tab q m).1, (R.tab q m).2.up (Ext.put n).up (upd_ne fun z => (R.tab q m).2.ne (by rw [z]; exact n))⟩⟩
/-- a new list that is being made -/
theorem Up.with {p : Addr} {H2 : Hp} (n : H p = none) (k : ∀ a u, H a = some u → H2 a = some u) : Up ι H (ι.with p) H2 :=
  ⟨fun _ _ e => e, fun a o e f => ⟨k a o e, f.1, fun z => (List.mem_cons.mp z).elim (fun y => by rw [y, n] at e; cases e) f.2⟩⟩
theorem Rel.with {p : Addr} {H2 : Hp} (R : Rel K ι h H) (n : H p = none) (k : ∀ a u, H a = some u → H2 a = some u) (n2 : H2 p ≠ none) : Rel K (ι.with p) h H2 := by
  refine ⟨R.len, R.nd, fun j a u e g => ?_, fun a m => ?_, fun q m => ⟨List.mem_cons_of_mem _ (R.tab q m).1, (R.tab q m).2.up (Up.with n k) ?_⟩⟩
  rotate_right
  · have ne := (R.tab q m).2.ne
    cases z : H q.1 with
    | none => exact absurd z ne
    | some w => exact k q.1 w z
  · refine CellOk.up (Up.with n k) ?_ (R.cell j a u e g)
    have ne := R.ne (List.mem_of_getElem? e)
    cases q : H a with
    | none => exact absurd q ne
    | some w => exact k a w q
  · rcases List.mem_cons.mp m with m | m
    · rw [m]; exact n2
    · have ne := R.res a m
      cases q : H a with
      | none => exact absurd q ne
      | some w => rw [k a w q]; exact fun z => nomatch z
/-- it is made: it stays, or it may change -/
theorem Up.done {p : Addr} : Up (ι.with p) H ι H := ⟨fun _ _ e => e, fun a o e f => ⟨e, f.1, fun z => f.2 (List.mem_cons_of_mem _ z)⟩⟩
theorem Rel.done {p : Addr} {o : HO} (R : Rel K (ι.with p) h H) (ep : H p = some o) (np : NT o := by intro _ z; cases z) : Rel K ι h H := ⟨R.len, R.nd, fun j a u e g => CellOk.up Up.done rfl (R.cell j a u e g), fun a m => R.res a (List.mem_cons_of_mem _ m), fun q m => ⟨(List.mem_cons.mp (R.tab q m).1).elim (fun z => ((R.tab q m).2.nt (by rw [z]; exact ep) np).elim) id, (R.tab q m).2.up Up.done rfl⟩⟩
def Ix.push (ι : Ix) (p : Addr) : Ix := ⟨ι.os ++ [p], ι.rs⟩
theorem getl {α : Type} {l t : List α} {n : Nat} {a : α} (e : l[n]? = some a) : (l ++ t)[n]? = some a := by
  rw [List.getElem?_append_left (List.getElem?_eq_some_iff.mp e).1]
  exact e
theorem Up.push {p : Addr} : Up (ι.with p) H (ι.push p) H :=
  ⟨fun _ _ e => getl e, fun a o e f => ⟨e, fun z => (List.mem_append.mp z).elim f.1 fun y => f.2 (by rw [List.mem_singleton.mp y]; exact List.mem_cons_self), fun z => f.2 (List.mem_cons_of_mem _ z)⟩⟩
theorem Rel.push {p : Addr} {o : DO} (R : Rel K (ι.with p) h H) (n : p ∉ ι.os) (c : CellOk K (ι.push p) H p o) : Rel K (ι.push p) (h ++ [o]) H := by
  have hl : ι.os.length = h.length := R.len
  obtain ⟨u0, ep, np⟩ := c.nt
  refine ⟨by show (ι.os ++ [p]).length = _; rw [List.length_append, List.length_append, hl]; rfl, ?_, fun j a u e g => ?_, fun a m => R.res a (List.mem_cons_of_mem _ m), fun q m => ⟨(List.mem_cons.mp (R.tab q m).1).elim (fun z => ((R.tab q m).2.nt (by rw [z]; exact ep) np).elim) id, (R.tab q m).2.up Up.push rfl⟩⟩
  · show (ι.os ++ [p]).Nodup
    rw [List.nodup_append]
    refine ⟨R.nd, by simp, fun a ha b hb z => ?_⟩
    rw [List.mem_singleton.mp hb] at z
    exact n (z ▸ ha)
  · have e : (ι.os ++ [p])[j]? = some a := e
    by_cases hj : j < ι.os.length
    · rw [List.getElem?_append_left hj] at e
      rw [List.getElem?_append_left (by rw [← hl]; exact hj)] at g
      exact CellOk.up Up.push rfl (R.cell j a u e g)
    · have hl2 := (List.getElem?_eq_some_iff.mp e).1
      rw [List.length_append, List.length_singleton] at hl2
      have hj2 : j = ι.os.length := by omega
      subst hj2
      rw [List.getElem?_append_right (Nat.le_refl _)] at e
      simp at e
      rw [hl, List.getElem?_append_right (Nat.le_refl _)] at g
      simp at g
      subst e g
      exact c
/-- a new changing thing -/
theorem Ext.alloc {p : Addr} {H2 : Hp} (n : H p = none) (k : ∀ a u, H a = some u → H2 a = some u) : Ext ι H (ι.push p) H2 :=
  ⟨⟨[p], rfl⟩, rfl, fun a u e _ _ => k a u e, fun a m => by
    rcases List.mem_append.mp m with m | m
    · exact .inl m
    · exact .inr (by rw [List.mem_singleton.mp m]; exact n), fun a od u e => k a _ e, fun a ne => by
    cases q : H a with
    | none => exact absurd q ne
    | some w => rw [k a w q]; exact fun z => nomatch z⟩
theorem Rel.alloc {p : Addr} {H2 : Hp} {o : DO} (R : Rel K ι h H) (n : H p = none) (k : ∀ a u, H a = some u → H2 a = some u) (n2 : H2 p ≠ none) (c : CellOk K (ι.push p) H2 p o) : Rel K (ι.push p) (h ++ [o]) H2 :=
  Rel.push (R.with n k n2) (R.out n).1 c
theorem push_at {p : Addr} (R : Rel K ι h H) : (ι.push p).os[h.length]? = some p := by
  show (ι.os ++ [p])[h.length]? = some p
  rw [← R.len, List.getElem?_append_right (Nat.le_refl _)]
  simp
/-- a changing thing changed -/
theorem nfr {a : Addr} {o : HO} (e : H a = some o) (n : ∀ od u, o ≠ .frz od u := by intro _ _ z; cases z) : ∀ od u, H a ≠ some (.frz od u) := fun od u z => by
  rw [e] at z
  exact n od u (Option.some.inj z)
theorem Ext.chg {a : Addr} {o : HO} (m : a ∈ ι.os) (nf : ∀ od u, H a ≠ some (.frz od u)) : Ext ι H ι (upd H a o) := ⟨⟨[], by simp⟩, rfl, fun b u e n _ => by rw [upd_ne (fun z => n (by rw [z]; exact m))]; exact e, fun _ m => .inl m, fun b od u e => by rw [upd_ne (fun z => nf od u (by rw [← z]; exact e))]; exact e, upd_dom⟩
theorem Up.chg {a : Addr} {o : HO} (m : a ∈ ι.os) : Up ι H ι (upd H a o) := ⟨fun _ _ e => e, fun b u e f => ⟨by rw [upd_ne (fun z => f.1 (by rw [z]; exact m))]; exact e, f⟩⟩
theorem Rel.chg {n : Nat} {a : Addr} {o : HO} {d : DO} (R : Rel K ι h H) (e : ι.os[n]? = some a) (c : CellOk K ι (upd H a o) a d) : Rel K ι (h.set n d) (upd H a o) := by
  refine ⟨by rw [List.length_set]; exact R.len, R.nd, fun j b u eb g => ?_, fun b m => ?_, fun q m => ⟨(R.tab q m).1, (R.tab q m).2.up (Up.chg (List.mem_of_getElem? e)) (upd_ne fun z => by
    obtain ⟨u0, ep, np⟩ := R.cnt e
    exact (R.tab q m).2.nt (by rw [z]; exact ep) np)⟩⟩
  · by_cases hj : n = j
    · subst hj
      rw [e] at eb
      cases eb
      have hl : n < h.length := by rw [← R.len]; exact (List.getElem?_eq_some_iff.mp e).1
      rw [List.getElem?_set_self hl] at g
      cases g
      exact c
    · rw [List.getElem?_set_ne hj] at g
      have nb : b ≠ a := fun z => hj (nd_ix R.nd e (z ▸ eb))
      exact CellOk.up (Up.chg (List.mem_of_getElem? e)) (upd_ne nb) (R.cell j b u eb g)
  · by_cases z : b = a
    · rw [z, upd_same]
      exact fun z => nomatch z
    · rw [upd_ne z]
      exact R.res b m
/-- Post of a new tuple, a new list that stays -/
theorem Post.tup {xs : List D} {vs : List V} {Q : VK} {p : Addr} (q : Post K W (RD K) (.ok (.tup xs) h) ι H Q) (R : Rel K ι h H) (r : RDs K ι H xs vs) (n : H p = none) : Q (.ref p) (upd H p (.tup vs)) :=
  q ι _ _ (.put n) (R.put n) (.tup (.inl ⟨R.out n, .inl upd_same⟩) (r.mono (.put n)))
theorem Post.lst {xs : List D} {vs : List V} {Q : VK} {p : Addr} (q : Post K W (RD K) (.ok (.lst xs) h) ι H Q) (R : Rel K ι h H) (r : RDs K ι H xs vs) (n : H p = none) : Q (.ref p) (upd H p (.lst vs)) :=
  q ι _ _ (.put n) (R.put n) (.lst ⟨R.out n, upd_same⟩ (r.mono (.put n)))
theorem upd_keep {p : Addr} {o : HO} (n : H p = none) : ∀ a u, H a = some u → upd H p o a = some u := fun a u e => by rw [upd_ne (ne_of_none e n)]; exact e
theorem Ext.back {ι1 : Ix} {H1 : Hp} (e : Ext ι H ι1 H1) {a : Addr} (n : H1 a = none) (m : a ∉ ι.os) : H a = none := by
  cases q : H a with
  | none => rfl
  | some o => exact absurd n (e.dom a (by rw [q]; exact fun y => nomatch y))
/-- a new list, nothing knows of it -/
theorem PostN.new {xs : List D} {vs : List V} {Q : VK} {p : Addr} {ιb : Ix} {Hb : Hp} (q : PostN K W (.ok xs h) ιb Hb Q) (e : Ext ιb Hb ι H) (R : Rel K ι h H) (r : RDs K ι H xs vs) (n : H p = none) : Q (.ref p) (upd H p (.lst vs)) := by
  have o := R.out n
  refine q ι _ p vs (e.trans (.put n)) (R.with n (upd_keep n) (by rw [upd_same]; exact fun z => nomatch z)) (r.up (Up.with n (upd_keep n))) upd_same o.1 o.2 (e.back n fun z => o.1 ?_)
  obtain ⟨t, e1⟩ := e.pre
  rw [e1]
  exact List.mem_append_left _ z
end

/-! ### + - * // % ** -/
def okLen (n : Nat) : Bool := decide (n ≤ 16777216)
theorem okLen_ok {n : Nat} (h : okLen n = true) : n ≤ sizeLine := by
  rw [sizeLine_eq]
  exact of_decide_eq_true h
def addD (x y : D) : M D := fun h => match x, y with
  | .int i, .int j => .ok (.int (i + j)) h
  | .str a, .str b => if okLen (a.length + b.length) then .ok (.str (a ++ b)) h else .bad
  | .tup xs, .tup ys => if okLen (xs.length + ys.length) then .ok (.tup (xs ++ ys)) h else .bad
  | x, y => (match items h x, items h y with
    | some xs, some ys => if okLen (xs.length + ys.length) then .ok (.lst (xs ++ ys)) h else .bad
    | _, _ => .bad)
def subD (x y : D) : M D := fun h => match x, y with
  | .int i, .int j => .ok (.int (i - j)) h
  | _, _ => .bad
def okMul (i j : Int) : Bool := decide (Builtin.Int.intBits i + Builtin.Int.intBits j ≤ 134217728)
def okRep (n : Nat) (k : Int) : Bool := decide (-1000000 ≤ k ∧ k ≤ 1000000 ∧ n * k.toNat ≤ 16777216)
def mulD (x y : D) : M D := fun h => match x, y with
  | .int i, .int j => if okMul i j then .ok (.int (i * j)) h else .bad
  | .tup xs, .int k => if decide (xs ≠ [] ∧ 2 ≤ k ∧ k ≤ 1000 ∧ xs.length ≤ 1000) then .ok (.tup (List.replicate k.toNat xs).flatten) h else .bad
  | x, .int k => (match items h x with
    | some xs => if okRep xs.length k then .ok (.lst (List.replicate k.toNat xs).flatten) h else .bad
    | none => .bad)
  | _, _ => .bad
def okDiv (i j : Int) : Bool := decide (0 < j ∧ (j.natAbs.log2 < 9000 ∨ Builtin.Int.intBits i ≤ Builtin.Int.intBits j + 4000))
def divD (x y : D) : M D := fun h => match x, y with
  | .int i, .int j => if okDiv i j then .ok (.int (i / j)) h else .bad
  | _, _ => .bad
def modD (x y : D) : M D := fun h => match x, y with
  | .int i, .int j => if decide (0 < j) then .ok (.int (i % j)) h else .bad
  | _, _ => .bad
def powD (x y : D) : M D := fun h => match x, y with
  | .int i, .int j => if decide (0 ≤ j ∧ j ≤ 1000000 ∧ i.natAbs < 2 ^ 64) then .ok (.int (i ^ j.toNat)) h else .bad
  | _, _ => .bad
def negD (x : D) : M D := fun h => match x with
  | .int i => .ok (.int (-i)) h
  | _ => .bad
section
variable {X : Cx}
abbrev rAddI : R2 := rI0 fun i j => .int (i + j)
abbrev rAddS : R2 := fun x y H Q => ∃ i j, x = .str i ∧ y = .str j ∧ i.length + j.length ≤ sizeLine ∧ Q (.str (i ++ j)) H
def gAdd (K : PySem.W.Frag) : R2 := fun x y H Q => (rAddI x y H Q ∨ rAddS x y H Q) ∨ (rCatA K x y H Q ∨ rCat x y H Q)
theorem or_add : OpR X (binaryOp .Add) (gAdd X.K) := OpR.or (OpR.or op_add op_add_str) (OpR.or op_catA op_cat)
/-- a guarded end -/
theorem Post.guard {α β : Type} {K : PySem.W.Frag} {W : XK} {RA : Ix → Hp → α → β → Prop} {ι : Ix} {H : Hp} {Q : β → Hp → Prop} {c : Bool} {r : R α} (p : Post K W RA (if c = true then r else .bad) ι H Q) : c = true ∧ Post K W RA r ι H Q := by
  cases c with
  | true => exact ⟨rfl, p⟩
  | false => exact (show False from p).elim
theorem o_add : Op2 X (gAdd X.K) addD := by
  intro ι h H x y v u W Q R rx ry p
  have lists : ∀ {xs ys : List D}, items h x = some xs → items h y = some ys → Post X.K W (RD X.K) (if okLen (xs.length + ys.length) then .ok (.lst (xs ++ ys)) h else .bad) ι H Q → gAdd X.K v u H Q := fun {xs ys} e1 e2 p => by
    obtain ⟨c, p⟩ := p.guard
    obtain ⟨a, vs, rfl, ha, rv⟩ := items_ok R rx e1
    obtain ⟨b, us, rfl, hb, ru⟩ := items_ok R ry e2
    exact .inr (.inr ⟨a, b, vs, us, rfl, rfl, ha, hb, by rw [← rv.length, ← ru.length]; exact okLen_ok c, fun q hq => p.lst R (rv.append ru) hq⟩)
  unfold addD at p
  split at p
  · cases rx
    cases ry
    exact .inl (.inl ⟨_, _, rfl, rfl, p.ok R (.int _)⟩)
  · obtain ⟨c, p⟩ := p.guard
    cases rx
    cases ry
    exact .inl (.inr ⟨_, _, rfl, rfl, okLen_ok c, p.ok R (.str _)⟩)
  · obtain ⟨c, p⟩ := p.guard
    cases rx with
    | tup ta ra =>
      cases ry with
      | tup tb rb =>
        refine .inr (.inl ⟨_, _, _, _, rfl, rfl, ta.sq, tb.sq, by rw [← ra.length, ← rb.length]; exact okLen_ok c, fun z => ?_, fun z1 z => ?_, fun _ _ q hq => p.tup R (ra.append rb) hq⟩)
        · have z1 := ra.nil_iff.mp z
          subst z1
          exact p.ok R (.tup tb rb)
        · have z1 := rb.nil_iff.mp z
          subst z1
          rw [List.append_nil] at p
          exact p.ok R (.tup ta ra)
  · split at p
    · rename_i e1 e2
      exact lists e1 e2 p
    · exact p.elim
abbrev rMulI : R2 := rI CMulX fun i j => .int (i * j)
def gMul (K : PySem.W.Frag) : R2 := fun x y H Q => rMulI x y H Q ∨ (rRepT K x y H Q ∨ rRep x y H Q)
theorem or_mul : OpR X (binaryOp .Mult) (gMul X.K) := OpR.or op_mulX (OpR.or op_repT op_rep)
theorem o_mul : Op2 X (gMul X.K) mulD := by
  intro ι h H x y v u W Q R rx ry p
  unfold mulD at p
  split at p
  · obtain ⟨c, p⟩ := p.guard
    cases rx
    cases ry
    refine .inl ⟨_, _, rfl, rfl, ?_, p.ok R (.int _)⟩
    have c1 := of_decide_eq_true c
    unfold CMulX
    omega
  · obtain ⟨c, p⟩ := p.guard
    obtain ⟨c1, c2, c3, c4⟩ := of_decide_eq_true c
    cases ry
    cases rx with
    | tup ta ra => exact .inr (.inl ⟨_, _, _, rfl, rfl, ta.sq, fun z => c1 (ra.nil_iff.mp z), c2, c3, by rw [← ra.length]; exact c4, fun q hq => p.tup R (ra.rep _) hq⟩)
  · split at p
    · rename_i xs e1
      obtain ⟨c, p⟩ := p.guard
      obtain ⟨c1, c2, c3⟩ := of_decide_eq_true c
      obtain ⟨a, vs, rfl, ha, rv⟩ := items_ok R rx e1
      cases ry
      exact .inr (.inr ⟨_, _, _, rfl, rfl, ha, by omega, by omega, by rw [← rv.length, sizeLine_eq]; exact c3, fun q hq => p.lst R (rv.rep _) hq⟩)
    · exact p.elim
  · exact p.elim
theorem op_fdivX : OpR X (binaryOp .FloorDiv) (rI (fun i j => okDiv i j = true) fun i j => .int (i / j)) := opI fun i j _ _ _ _ _ hc q => by
  obtain ⟨h1, h2⟩ := of_decide_eq_true hc
  refine floordiv_int (by omega) (by rw [Int.fdiv_eq_ediv_of_nonneg i (by omega)]; exact q) ?_
  rcases h2 with h2 | h2
  · exact .inl (PyProof.noPylong_of_log2 h2)
  · exact .inl (divp_ok h1 h2).2
theorem o_div : Op2 X (rI (fun i j => okDiv i j = true) fun i j => .int (i / j)) divD := by
  intro ι h H x y v u W Q R rx ry p
  unfold divD at p
  split at p
  · obtain ⟨c, p⟩ := p.guard
    cases rx
    cases ry
    exact ⟨_, _, rfl, rfl, c, p.ok R (.int _)⟩
  · exact p.elim
theorem o_mod : Op2 X (rI (fun _ j => 0 < j) fun i j => .int (i % j)) modD := by
  intro ι h H x y v u W Q R rx ry p
  unfold modD at p
  split at p
  · obtain ⟨c, p⟩ := p.guard
    cases rx
    cases ry
    exact ⟨_, _, rfl, rfl, of_decide_eq_true c, p.ok R (.int _)⟩
  · exact p.elim
theorem o_pow : Op2 X (rI CPow fun i j => .int (i ^ j.toNat)) powD := by
  intro ι h H x y v u W Q R rx ry p
  unfold powD at p
  split at p
  · obtain ⟨c, p⟩ := p.guard
    cases rx
    cases ry
    exact ⟨_, _, rfl, rfl, (of_decide_eq_true c : _ ∧ _ ∧ _), p.ok R (.int _)⟩
  · exact p.elim
theorem o_neg : Op1 X (rU fun i => .int (-i)) negD := by
  intro ι h H x v W Q R rx p
  unfold negD at p
  split at p
  · cases rx
    exact ⟨_, rfl, p.ok R (.int _)⟩
  · exact p.elim
variable {W : WX} {pos : Pos} {a b : Expr} {ca cb : Env → M D}
theorem de_add (ha : DE X W a ca) (hb : DE X W b cb) : DE X W (.BinOp a .Add b pos) (e2 addD ca cb) := de_bin or_add o_add ha hb
theorem de_mul (ha : DE X W a ca) (hb : DE X W b cb) : DE X W (.BinOp a .Mult b pos) (e2 mulD ca cb) := de_bin or_mul o_mul ha hb
theorem de_div (ha : DE X W a ca) (hb : DE X W b cb) : DE X W (.BinOp a .FloorDiv b pos) (e2 divD ca cb) := de_bin op_fdivX o_div ha hb
theorem de_mod (ha : DE X W a ca) (hb : DE X W b cb) : DE X W (.BinOp a .Mod b pos) (e2 modD ca cb) := de_bin op_mod o_mod ha hb
theorem de_pow (ha : DE X W a ca) (hb : DE X W b cb) : DE X W (.BinOp a .Pow b pos) (e2 powD ca cb) := de_bin op_pow o_pow ha hb
theorem de_neg (ha : DE X W a ca) : DE X W (.UnaryOp .USub a pos) (e1 negD ca) := de_un un_neg o_neg ha
end
end Dl

/-! The D layer, 3: comparisons, tests. -/
namespace Dl
open PySem PySem.Spec PyProof.Rows L2
variable [Tb]

/-- as the library's own data, to a depth -/
def toPy (h : Hs) : Nat → D → Option PyData
  | 0, d => (match d with
    | .non => some .none
    | .bl b => some (.bool b)
    | .int i => some (.int i)
    | .str x => some (.str x)
    | _ => none)
  | n + 1, d => (match d with
    | .non => some .none
    | .bl b => some (.bool b)
    | .int i => some (.int i)
    | .str x => some (.str x)
    | .tup xs => (optAll (toPy h n) xs).map .tuple
    | .lst xs => (optAll (toPy h n) xs).map .list
    | .obj k => (match h[k]? with
      | some (.lst xs) => (optAll (toPy h n) xs).map .list
      | _ => none)
    | _ => none)
section
variable {K : PySem.W.Frag} {ι : Ix} {H : Hp} {h : Hs}
theorem optAll_ok {f : D → Option PyData} (hf : ∀ d v p, RD K ι H d v → f d = some p → Dp K H v p) : ∀ {xs : List D} {vs : List V} {ps : List PyData}, RDs K ι H xs vs → optAll f xs = some ps → DpAll K H vs ps
  | [], _, _, .nil, e => by cases e; exact .nil
  | x :: xs, _, ps, .cons r rs, e => by
    unfold optAll at e
    split at e
    · rename_i y ys h1 h2
      cases e
      exact .cons (hf _ _ _ r h1) (optAll_ok hf rs h2)
    · cases e
theorem toPy_ok (R : Rel K ι h H) : ∀ (n : Nat) (d : D) (v : V) (p : PyData), RD K ι H d v → toPy h n d = some p → Dp K H v p
  | 0, d, v, p, r, e => by
    cases r <;> first
      | (cases e; first | exact .non | exact .bl _ | exact .int _ | exact .str _)
      | (cases e; done)
  | n + 1, d, v, p, r, e => by
    have ih := toPy_ok R n
    cases r with
    | non => cases e; exact .non
    | bl b => cases e; exact .bl _
    | int i => cases e; exact .int _
    | str x => cases e; exact .str _
    | tup t q =>
      obtain ⟨ps, e1, e2⟩ := Option.map_eq_some_iff.mp (show (optAll (toPy h n) _).map PyData.tuple = some p from e)
      subst e2
      exact .tup t.sq (optAll_ok ih q e1)
    | lst l q =>
      obtain ⟨ps, e1, e2⟩ := Option.map_eq_some_iff.mp (show (optAll (toPy h n) _).map PyData.list = some p from e)
      subst e2
      exact .lst l.sq (optAll_ok ih q e1)
    | @obj k a g =>
      have e : (match h[k]? with
      | some (.lst xs) => (optAll (toPy h n) xs).map PyData.list
      | _ => none) = some p := e
      cases hk : h[k]? with
      | none => rw [hk] at e; cases e
      | some o =>
        rw [hk] at e
        cases o with
        | lst xs =>
          obtain ⟨ps, e1, e2⟩ := Option.map_eq_some_iff.mp e
          subst e2
          obtain ⟨vs, h1, h2⟩ := R.at g hk
          exact .lst (SqL.of h1) (optAll_ok ih h2 e1)
        | _ => cases e
    | _ => cases e
end
def pyDepth : Nat := 63
def eqPy (x y : D) (neg : Bool) : M D := fun h => match toPy h pyDepth x, toPy h pyDepth y with
  | some p, some q => if SeqAt.shaped p && SeqAt.shaped q then .ok (.bl (if neg then !PyData.eqv p q else PyData.eqv p q)) h else .bad
  | _, _ => .bad
def eqD (x y : D) : M D := eqPy x y false
def neD (x y : D) : M D := eqPy x y true
def cmpD (f : Int → Int → Bool) (x y : D) : M D := fun h => match x, y with
  | .int i, .int j => .ok (.bl (f i j)) h
  | _, _ => .bad
def ltD := cmpD fun i j => decide (i < j)
def leD := cmpD fun i j => decide (i ≤ j)
def gtD := cmpD fun i j => decide (j < i)
def geD := cmpD fun i j => decide (j ≤ i)
def keyOf : D → Option Key
  | .int i => some (.inl i)
  | .str x => some (.inr x)
  | _ => none
def seqOf (h : Hs) : D → Option (List D)
  | .tup xs => some xs
  | d => items h d
def look {κ : Type} [DecidableEq κ] (kvs : List (κ × D)) (k : κ) : Option D := (kvs.find? fun p => decide (p.1 = k)).map (·.2)
/-- x in y -/
def inGen (neg : Bool) (x y : D) : M D := fun h => match y with
  | .str b => (match x with
    | .str a => .ok (.bl (if neg then !(!(Builtin.Str.occurrences b a 0 b.length 1).isEmpty) else !(Builtin.Str.occurrences b a 0 b.length 1).isEmpty)) h
    | _ => .bad)
  | y => (match seqOf h y with
    | some ys => (match toPy h pyDepth x, optAll (toPy h pyDepth) ys with
      | some p, some ps => if SeqAt.shaped p && SeqAt.shaped (.tuple ps) then .ok (.bl (if neg then !(ps.any fun z => PyData.eqv z p) else ps.any fun z => PyData.eqv z p)) h else .bad
      | _, _ => .bad)
    | none => (match y with
      | .obj n => (match dctKV h n, keyOf x with
        | some kvs, some k => .ok (.bl (if neg then !(look kvs k).isSome else (look kvs k).isSome)) h
        | _, _ => .bad)
      | _ => .bad))
def inD := inGen false
section
variable {X : Cx}
theorem o_eq : Op2 X (rEqD X.K) eqD := by
  intro ι h H x y v u W Q R rx ry p
  unfold eqD eqPy at p
  split at p
  · rename_i a b h1 h2
    obtain ⟨c, p⟩ := p.guard
    obtain ⟨c1, c2⟩ := Bool.and_eq_true_iff.mp c
    exact ⟨a, b, toPy_ok R _ _ _ _ rx h1, toPy_ok R _ _ _ _ ry h2, c1, c2, p.ok R (.bl _)⟩
  · exact p.elim
theorem o_ne : Op2 X (rNeD X.K) neD := by
  intro ι h H x y v u W Q R rx ry p
  unfold neD eqPy at p
  split at p
  · rename_i a b h1 h2
    obtain ⟨c, p⟩ := p.guard
    obtain ⟨c1, c2⟩ := Bool.and_eq_true_iff.mp c
    exact ⟨a, b, toPy_ok R _ _ _ _ rx h1, toPy_ok R _ _ _ _ ry h2, c1, c2, p.ok R (.bl _)⟩
  · exact p.elim
theorem o_cmp {f : Int → Int → Bool} : Op2 X (rI0 fun i j => .bl (f i j)) (cmpD f) := by
  intro ι h H x y v u W Q R rx ry p
  unfold cmpD at p
  split at p
  · cases rx
    cases ry
    exact ⟨_, _, rfl, rfl, p.ok R (.bl _)⟩
  · exact p.elim
/-- in a tuple -/
def rInTD (K : PySem.W.Frag) (neg : Bool) : R2 := fun x y H Q => ∃ d ds, Dp K H x d ∧ Dp K H y (.tuple ds) ∧ SeqAt.shaped d = true ∧ SeqAt.shaped (.tuple ds) = true ∧ Q (.bl (if neg then !(ds.any fun z => PyData.eqv z d) else ds.any fun z => PyData.eqv z d)) H
theorem op_inTD (hu : X.A.units + 65 < cLine) : OpR X (compareOp .In) (rInTD X.K false) := by
  intro pins s σ H x y v u Q I rx ry h
  obtain ⟨d, ds, hd, he, sd, se, q⟩ := h
  obtain ⟨as, r1⟩ := Dp.reads I d x v hd rx
  obtain ⟨bs, r2⟩ := Dp.reads I (.tuple ds) y u he ry
  exact SeqAt.in_tuple_reads r2 r1 (SeqAt.canLay_of_shaped se) (SeqAt.canLay_of_shaped sd) (room_in_shaped sd hu) ⟨.bl _, H, I, rfl, q⟩
end
end Dl

/-! The D layer, 4: in, and or not, displays, calls, fields, subscripts, slices. -/
namespace Dl
open PySem PySem.Spec PyProof.Rows L2
variable [Tb]

section
variable {K : PySem.W.Frag} {ι : Ix} {H : Hp} {h : Hs}
theorem keyOf_kV {x : D} {v : V} {k : Key} (r : RD K ι H x v) (e : keyOf x = some k) : v = kV k := by
  cases r <;> first
    | (cases e; rfl)
    | (cases e; done)
theorem look_rf {κ : Type} [DecidableEq κ] {k : κ} : ∀ {kvs : List (κ × D)} {us : List (κ × V)}, RF K ι H kvs us →
    (∀ d, look kvs k = some d → ∃ v, valV us k = some v ∧ RD K ι H d v) ∧ (look kvs k = none → valV us k = none)
  | _, _, .nil => ⟨fun d e => (nomatch e), fun _ => rfl⟩
  | p :: kvs, q :: us, .cons g r => by
    obtain ⟨i1, i2⟩ := look_rf (k := k) r
    by_cases e : p.1 = k
    · have e2 : q.1 = k := by rw [← g.1]; exact e
      refine ⟨fun d z => ?_, fun z => ?_⟩
      · have z1 : look (p :: kvs) k = some p.2 := by simp [look, List.find?_cons, e]
        rw [z1] at z
        cases z
        exact ⟨q.2, valV_pos e2, g.2⟩
      · have z1 : look (p :: kvs) k = some p.2 := by simp [look, List.find?_cons, e]
        rw [z1] at z
        cases z
    · have e2 : ¬ q.1 = k := by rw [← g.1]; exact e
      have z1 : look (p :: kvs) k = look kvs k := by simp [look, List.find?_cons, e]
      rw [z1, valV_neg e2]
      exact ⟨i1, i2⟩
theorem look_isSome {κ : Type} [DecidableEq κ] {k : κ} {kvs : List (κ × D)} {us : List (κ × V)} (r : RF K ι H kvs us) : (valV us k).isSome = (look kvs k).isSome := by
  obtain ⟨i1, i2⟩ := look_rf (k := k) r
  cases e : look kvs k with
  | none => rw [i2 e] <;> rfl
  | some d =>
    obtain ⟨v, z, _⟩ := i1 d e
    rw [z]
    rfl
theorem seqOf_ok (R : Rel K ι h H) {x : D} {v : V} {xs : List D} (r : RD K ι H x v) (e : seqOf h x = some xs) : ∃ a vs, v = .ref a ∧ (SqL K H a vs ∨ SqT K H a vs) ∧ RDs K ι H xs vs := by
  cases r with
  | tup t q => cases e; exact ⟨_, _, rfl, .inr t.sq, q⟩
  | lst l q => cases e; exact ⟨_, _, rfl, .inl l.sq, q⟩
  | @obj n a g =>
    obtain ⟨a, vs, e1, e2, e3⟩ := items_ok R (.obj g) (show items h (.obj n) = some xs from e)
    exact ⟨a, vs, e1, .inl (SqL.of e2), e3⟩
  | _ => cases e
theorem seqOf_dp (R : Rel K ι h H) {x : D} {v : V} {xs : List D} {ps : List PyData} (r : RD K ι H x v) (e : seqOf h x = some xs) (f : optAll (toPy h pyDepth) xs = some ps) : Dp K H v (.list ps) ∨ Dp K H v (.tuple ps) := by
  obtain ⟨a, vs, rfl, q, rs⟩ := seqOf_ok R r e
  have z := optAll_ok (toPy_ok R pyDepth) rs f
  rcases q with q | q
  · exact .inl (.lst q z)
  · exact .inr (.tup q z)
end
theorem shaped_lt (ps : List PyData) : SeqAt.shaped (.tuple ps) = SeqAt.shaped (.list ps) := by
  unfold SeqAt.shaped
  have e1 : PyData.canLay0 (.tuple ps) = PyData.canLay0 (.list ps) := by simp only [PyData.canLay0]
  have e2 : PyData.depth (.tuple ps) = PyData.depth (.list ps) := by simp only [PyData.depth]
  rw [e1, e2]
section
variable {X : Cx}
def rInDct (neg : Bool) : R2 := fun x y H Q => ∃ a o, y = .ref a ∧ DGet H a x o ∧ Q (.bl (if neg then !o.isSome else o.isSome)) H
theorem op_inDct (hu : X.A.units + 1 < cLine) : OpR X (compareOp .In) (rInDct false) := by
  intro pins s σ H x y v u Q I rx ry h
  obtain ⟨a, o, rfl, g, q⟩ := h
  cases ry
  exact d_in hu I g rx fun s3 I3 => ⟨.bl o.isSome, H, I3, rfl, q⟩
def rInStr (neg : Bool) : R2 := fun x y H Q => ∃ i j, x = .str i ∧ y = .str j ∧ Q (.bl (if neg then !(!(Builtin.Str.occurrences j i 0 j.length 1).isEmpty) else !(Builtin.Str.occurrences j i 0 j.length 1).isEmpty)) H
def rInLD (K : PySem.W.Frag) (neg : Bool) : R2 := fun x y H Q => ∃ d ds, Dp K H x d ∧ Dp K H y (.list ds) ∧ SeqAt.shaped d = true ∧ SeqAt.shaped (.list ds) = true ∧ Q (.bl (if neg then !(ds.any fun z => PyData.eqv z d) else ds.any fun z => PyData.eqv z d)) H
def gIn (K : PySem.W.Frag) (neg : Bool) : R2 := fun x y H Q => (rInLD K neg x y H Q ∨ rInTD K neg x y H Q) ∨ (rInDct neg x y H Q ∨ rInStr neg x y H Q)
theorem or_in (hu : X.A.units + 65 < cLine) : OpR X (compareOp .In) (gIn X.K false) := OpR.or (OpR.or (op_inD hu) (op_inTD hu)) (OpR.or (op_inDct (by omega)) op_in_str)
theorem o_in {neg : Bool} : Op2 X (gIn X.K neg) (inGen neg) := by
  intro ι h H x y v u W Q R rx ry p
  unfold inGen at p
  split at p
  · split at p
    · cases rx
      cases ry
      exact .inr (.inr ⟨_, _, rfl, rfl, p.ok R (.bl _)⟩)
    · exact p.elim
  · split at p
    · rename_i ys e1
      split at p
      · rename_i d ps e2 e3
        obtain ⟨c, p⟩ := p.guard
        obtain ⟨c1, c2⟩ := Bool.and_eq_true_iff.mp c
        rcases seqOf_dp R ry e1 e3 with z | z
        · exact .inl (.inl ⟨d, ps, toPy_ok R _ _ _ _ rx e2, z, c1, by rw [← shaped_lt]; exact c2, p.ok R (.bl _)⟩)
        · exact .inl (.inr ⟨d, ps, toPy_ok R _ _ _ _ rx e2, z, c1, c2, p.ok R (.bl _)⟩)
      · exact p.elim
    · split at p
      · split at p
        · rename_i n kvs k e1 e2
          cases ry with
          | obj g =>
            obtain ⟨us, h1, h2⟩ := dctKV_rd R g e1
            refine .inr (.inl ⟨_, valV us k, rfl, ?_, ?_⟩)
            · rw [keyOf_kV rx e2]
              exact .inl ⟨us, k, h1, rfl, rfl⟩
            · rw [look_isSome h2]
              exact p.ok R (.bl _)
        · exact p.elim
      · exact p.elim
variable {W : WX} {pos : Pos} {a b c : Expr} {ca cb cc : Env → M D}
theorem de_eq (hu : X.A.units + 64 < cLine) (ha : DE X W a ca) (hb : DE X W b cb) : DE X W (.Compare a [.Eq] [b] pos) (e2 eqD ca cb) := de_cmp (op_eqD hu) o_eq ha hb (nomark _)
theorem de_lt (ha : DE X W a ca) (hb : DE X W b cb) : DE X W (.Compare a [.Lt] [b] pos) (e2 ltD ca cb) := de_cmp op_lt o_cmp ha hb (nomark _)
theorem de_gt (ha : DE X W a ca) (hb : DE X W b cb) : DE X W (.Compare a [.Gt] [b] pos) (e2 gtD ca cb) := de_cmp op_gt o_cmp ha hb (nomark _)
theorem de_in (hu : X.A.units + 65 < cLine) (ha : DE X W a ca) (hb : DE X W b cb) (hm : behindInMarks .In b = false := by with_unfolding_all rfl) : DE X W (.Compare a [.In] [b] pos) (e2 inD ca cb) := de_cmp (or_in hu) o_in ha hb hm
/-- a <= b <= c -/
def eCh (f g : D → D → M D) (ca cb cc : Env → M D) : Env → M D := fun ρ h => (ca ρ h).bind fun x h1 => (cb ρ h1).bind fun y h2 => (f x y h2).bind fun z h3 => match z with
  | .bl true => (cc ρ h3).bind fun w h4 => g y w h4
  | .bl false => .ok (.bl false) h3
  | _ => .bad
theorem de_chain {o o' : CmpOp} {f g : D → D → M D} {r r' : R2} (ho : OpR X (compareOp o) r) (ho' : OpR X (compareOp o') r') (op : Op2 X r f) (op' : Op2 X r' g) (ha : DE X W a ca) (hb : DE X W b cb) (hc : DE X W c cc)
    (hm : lastMarks [o, o'] [b, c] = false) : DE X W (.Compare a [o, o'] [b, c] pos) (eCh f g ca cb cc) := pe_imp (pe_chain ho ho' ha hb hc hm) fun σ H Q ⟨ι, h, ρ, R, S, p⟩ => by
  refine ⟨ι, h, ρ, R, S, Post.imp (Post.bind p) fun x H1 ⟨ι1, h1, dx, x1, R1, r1, p1⟩ => ?_⟩
  refine ⟨ι1, h1, ρ, R1, S.mono x1, Post.imp (Post.bind p1) fun y H2 ⟨ι2, h2, dy, x2, R2, r2, p2⟩ => ?_⟩
  refine op ι2 h2 H2 dx dy x y _ _ R2 (r1.mono x2) r2 (Post.imp (Post.bind p2) fun z H3 ⟨ι3, h3, dz, x3, R3, r3, p3⟩ => ?_)
  split at p3
  · cases r3
    refine ⟨true, rfl, ?_⟩
    rw [if_pos rfl]
    refine ⟨ι3, h3, ρ, R3, S.mono ((x1.trans x2).trans x3), Post.imp (Post.bind p3) fun w H4 ⟨ι4, h4, dw, x4, R4, r4, p4⟩ => ?_⟩
    exact op' ι4 h4 H4 dy dw y w _ _ R4 (r2.mono (x3.trans x4)) r4 p4
  · cases r3
    refine ⟨false, rfl, ?_⟩
    rw [if_neg Bool.false_ne_true]
    exact p3.ok R3 (.bl _)
  · exact p3.elim
theorem de_lele (ha : DE X W a ca) (hb : DE X W b cb) (hc : DE X W c cc) (hm : lastMarks [.LtE, .LtE] [b, c] = false := by with_unfolding_all rfl) : DE X W (.Compare a [.LtE, .LtE] [b, c] pos) (eCh leD leD ca cb cc) := de_chain op_le op_le o_cmp o_cmp ha hb hc hm
/-! ### and, or, not, if as values and as tests -/
def tst (ca : Env → M D) : Env → M Bool := fun ρ h => (ca ρ h).bind fun x h1 => match x with
  | .bl b => .ok b h1
  | _ => .bad
def andT (ca cb : Env → M Bool) : Env → M Bool := fun ρ h => (ca ρ h).bind fun x h1 => if x = true then cb ρ h1 else .ok false h1
def orT (ca cb : Env → M Bool) : Env → M Bool := fun ρ h => (ca ρ h).bind fun x h1 => if x = true then .ok true h1 else cb ρ h1
def notT (ca : Env → M Bool) : Env → M Bool := fun ρ h => (ca ρ h).bind fun x h1 => .ok (!x) h1
def ifV (ct : Env → M Bool) (ca cb : Env → M D) : Env → M D := fun ρ h => (ct ρ h).bind fun x h1 => if x = true then ca ρ h1 else cb ρ h1
variable {ta tb : Env → M Bool} {rest : List Expr}
theorem de_one {op} (ha : DE X W a ca) : DE X W (.BoolOp op [a] pos) ca := pe_one ha
theorem w_cmp {o : CmpOp} {f : D → D → M D} {g : R2} (ho : OpR X (compareOp o) g) (op : Op2 X g f) (ha : DE X W a ca) (hb : DE X W b cb) (hm : behindInMarks o b = false) : DT X W (.Compare a [o] [b] pos) (tst (e2 f ca cb)) := pt_imp (pt_cmpR ho ha hb hm) fun σ H Q ⟨ι, h, ρ, R, S, p⟩ => by
  have q : wE X.K W (e2 f ca cb) σ H fun x H' => ∃ k, x = V.bl k ∧ Q k H' := by
    refine ⟨ι, h, ρ, R, S, Post.imp (Post.bind p) fun x H1 ⟨ι1, h1, dx, x1, R1, r1, p1⟩ => ?_⟩
    split at p1
    · cases r1
      exact ⟨_, rfl, p1.ok R1 rfl⟩
    · exact p1.elim
  exact w2 op q
theorem dt_eq (hu : X.A.units + 64 < cLine) (ha : DE X W a ca) (hb : DE X W b cb) : DT X W (.Compare a [.Eq] [b] pos) (tst (e2 eqD ca cb)) := w_cmp (op_eqD hu) o_eq ha hb (nomark _)
theorem dt_ne (hu : X.A.units + 64 < cLine) (ha : DE X W a ca) (hb : DE X W b cb) : DT X W (.Compare a [.NotEq] [b] pos) (tst (e2 neD ca cb)) := w_cmp (op_neD hu) o_ne ha hb (nomark _)
theorem dt_lt (ha : DE X W a ca) (hb : DE X W b cb) : DT X W (.Compare a [.Lt] [b] pos) (tst (e2 ltD ca cb)) := w_cmp op_lt o_cmp ha hb (nomark _)
theorem dt_gt (ha : DE X W a ca) (hb : DE X W b cb) : DT X W (.Compare a [.Gt] [b] pos) (tst (e2 gtD ca cb)) := w_cmp op_gt o_cmp ha hb (nomark _)
theorem dt_ge (ha : DE X W a ca) (hb : DE X W b cb) : DT X W (.Compare a [.GtE] [b] pos) (tst (e2 geD ca cb)) := w_cmp op_ge o_cmp ha hb (nomark _)
/-- a test whatever its whole is -/
abbrev DW (X : Cx) (W : WX) (e : Expr) (c : Env → M Bool) : Prop := PW X e (wT X.K W c)
theorem pw_imp {X : Cx} {e : Expr} {t t' : TT} (h : PW X e t) (w : ∀ σ H Q, t' σ H Q → t σ H Q) : PW X e t' := ⟨fun wh pins s σ H Q I z => h.run wh pins s σ H Q I (w σ H Q z)⟩
theorem dw_and1 (ha : DT X W a ta) : DW X W (.BoolOp .And [a] pos) ta := pw_and1 ha
theorem dw_or1 (ha : DT X W a ta) : DW X W (.BoolOp .Or [a] pos) ta := pw_or1 ha
theorem dw_and (ha : DT X W a ta) (hb : DW X W (.BoolOp .And (b :: rest) pos) tb) : DW X W (.BoolOp .And (a :: b :: rest) pos) (andT ta tb) := pw_imp (pw_and ha hb) fun σ H Q ⟨ι, h, ρ, R, S, p⟩ => by
  refine ⟨ι, h, ρ, R, S, Post.imp (Post.bind p) fun x H1 ⟨ι1, h1, dx, x1, R1, r1, p1⟩ => ?_⟩
  subst r1
  cases dx with
  | true =>
    rw [if_pos rfl] at p1 ⊢
    exact ⟨ι1, h1, ρ, R1, S.mono x1, p1⟩
  | false =>
    rw [if_neg Bool.false_ne_true] at p1 ⊢
    exact p1.ok R1 rfl
theorem dw_or (ha : DT X W a ta) (hb : DW X W (.BoolOp .Or (b :: rest) pos) tb) : DW X W (.BoolOp .Or (a :: b :: rest) pos) (orT ta tb) := pw_imp (pw_or ha hb) fun σ H Q ⟨ι, h, ρ, R, S, p⟩ => by
  refine ⟨ι, h, ρ, R, S, Post.imp (Post.bind p) fun x H1 ⟨ι1, h1, dx, x1, R1, r1, p1⟩ => ?_⟩
  subst r1
  cases dx with
  | true =>
    rw [if_pos rfl] at p1 ⊢
    exact p1.ok R1 rfl
  | false =>
    rw [if_neg Bool.false_ne_true] at p1 ⊢
    exact ⟨ι1, h1, ρ, R1, S.mono x1, p1⟩
theorem dt_bool (h : DW X W a ta) : DT X W a ta := h.pt
theorem dt_not (ha : DT X W a ta) : DT X W (.UnaryOp .Not a pos) (notT ta) := pt_imp (pt_not ha) fun σ H Q ⟨ι, h, ρ, R, S, p⟩ => by
  refine ⟨ι, h, ρ, R, S, Post.imp (Post.bind p) fun x H1 ⟨ι1, h1, dx, x1, R1, r1, p1⟩ => ?_⟩
  subst r1
  exact p1.ok R1 rfl
theorem de_if (ht : DT X W c ta) (ha : DE X W a ca) (hb : DE X W b cb) : DE X W (.IfExp c a b pos) (ifV ta ca cb) := pe_imp (pe_ifExp ht ha hb) fun σ H Q ⟨ι, h, ρ, R, S, p⟩ => by
  refine ⟨ι, h, ρ, R, S, Post.imp (Post.bind p) fun x H1 ⟨ι1, h1, dx, x1, R1, r1, p1⟩ => ?_⟩
  subst r1
  cases dx with
  | true =>
    rw [if_pos rfl] at p1 ⊢
    exact ⟨ι1, h1, ρ, R1, S.mono x1, p1⟩
  | false =>
    rw [if_neg Bool.false_ne_true] at p1 ⊢
    exact ⟨ι1, h1, ρ, R1, S.mono x1, p1⟩

/-! ### arguments, displays -/
def aN : Env → M (List D) := fun _ h => .ok [] h
def aC (ca : Env → M D) (cs : Env → M (List D)) : Env → M (List D) := fun ρ h => (ca ρ h).bind fun x h1 => (cs ρ h1).bind fun xs h2 => .ok (x :: xs) h2
variable {es : List Expr} {cs : Env → M (List D)}
theorem da_nil : DA X W [] aN := pa_imp pa_nil fun σ H Q ⟨ι, h, ρ, R, S, p⟩ => p.ok R .nil
theorem da_cons (ha : DE X W a ca) (hs : DA X W es cs) (hst : starEach (a :: es) X.env = (false, eval a X.env) :: starEach es X.env := by rfl) : DA X W (a :: es) (aC ca cs) := pa_imp (pa_cons ha hs hst) fun σ H Q ⟨ι, h, ρ, R, S, p⟩ => by
  refine ⟨ι, h, ρ, R, S, Post.imp (Post.bind p) fun x H1 ⟨ι1, h1, dx, x1, R1, r1, p1⟩ => ?_⟩
  refine ⟨ι1, h1, ρ, R1, S.mono x1, Post.imp (Post.bind p1) fun xs H2 ⟨ι2, h2, dxs, x2, R2, r2, p2⟩ => ?_⟩
  exact p2.ok R2 (.cons (r1.mono x2) r2)
def eTup (cs : Env → M (List D)) : Env → M D := fun ρ h => (cs ρ h).bind fun xs h1 => if okLen xs.length then .ok (.tup xs) h1 else .bad
theorem de_tup {k : Nat} (hs : DA X W es cs) : DE X W (.Tuple es k pos) (eTup cs) := pe_imp (pe_tup hs) fun σ H Q ⟨ι, h, ρ, R, S, p⟩ => by
  refine ⟨ι, h, ρ, R, S, Post.imp (Post.bind p) fun xs H1 ⟨ι1, h1, dxs, x1, R1, r1, p1⟩ => ?_⟩
  obtain ⟨c, p1⟩ := p1.guard
  exact ⟨by rw [← r1.length]; exact okLen_ok c, fun q hq => p1.tup R1 r1 hq⟩
/-- a new list: its items -/
def nLst (cs : Env → M (List D)) : Env → M (List D) := fun ρ h => (cs ρ h).bind fun xs h1 => if okLen xs.length then .ok xs h1 else .bad
/-- it stays as it is; it may change -/
def frz (cs : Env → M (List D)) : Env → M D := fun ρ h => (cs ρ h).bind fun xs h1 => .ok (.lst xs) h1
def thaw (cs : Env → M (List D)) : Env → M D := fun ρ h => (cs ρ h).bind fun xs h1 => .ok (.obj h1.length) (h1 ++ [.lst xs])
theorem PostN.bind {K : PySem.W.Frag} {W : XK} {α β : Type} {RA : Ix → Hp → α → β → Prop} {r : R α} {f : α → M (List D)} {ι : Ix} {H : Hp} {Q : VK} (p : PostN K W (r.bind f) ι H Q) :
    Post K W RA r ι H (fun b H1 => ∃ ι1 h1 a, Ext ι H ι1 H1 ∧ Rel K ι1 h1 H1 ∧ RA ι1 H1 a b ∧ PostN K W (f a h1) ι H Q) := by
  cases r with
  | ok a h => exact fun ι' H' b e R ra => ⟨ι', h, a, e, R, ra, p⟩
  | exc C fs h => exact p
  | bad => exact p
theorem PostN.guard {K : PySem.W.Frag} {W : XK} {ι : Ix} {H : Hp} {Q : VK} {c : Bool} {r : R (List D)} (p : PostN K W (if c = true then r else .bad) ι H Q) : c = true ∧ PostN K W r ι H Q := by
  cases c with
  | true => exact ⟨rfl, p⟩
  | false => exact (show False from p).elim
theorem dn_lst (hs : DA X W es cs) : DN X W (.List es pos) (nLst cs) := pe_imp (pe_lst hs) fun σ H Q ⟨ι, h, ρ, R, S, p⟩ => by
  refine ⟨ι, h, ρ, R, S, Post.imp (PostN.bind p) fun xs H1 ⟨ι1, h1, dxs, x1, R1, r1, p1⟩ => ?_⟩
  obtain ⟨c, p1⟩ := p1.guard
  exact ⟨by rw [← r1.length]; exact okLen_ok c, fun q hq => p1.new x1 R1 r1 hq⟩
theorem Ext.more {ι ι1 : Ix} {H H1 : Hp} {l : Addr} (e : Ext ι H ι1 H1) (n : H l = none) : Ext ι H (ι1.push l) H1 := ⟨by
    obtain ⟨t, e1⟩ := e.pre
    exact ⟨t ++ [l], by show ι1.os ++ [l] = _; rw [e1, List.append_assoc]⟩, e.rs, e.keep, fun b m => by
    rcases List.mem_append.mp m with m | m
    · exact e.new b m
    · exact .inr (by rw [List.mem_singleton.mp m]; exact n), e.frz, e.dom⟩
theorem w_frz {K : PySem.W.Frag} {σ : L2.St} {H : Hp} {Q : VK} (q : wE K W (frz cs) σ H Q) : wN K W cs σ H Q := by
  obtain ⟨ι, h, ρ, R, S, p⟩ := q
  refine ⟨ι, h, ρ, R, S, ?_⟩
  unfold frz at p
  cases q : cs ρ h with
  | bad => rw [q] at p; exact p
  | exc C fs h' => rw [q] at p; exact p
  | ok xs h1 =>
    rw [q] at p
    intro ι1 H1 l vs x1 R1 r1 e n1 n2 n0
    exact p ι1 H1 _ x1 (R1.done e) (.lst ⟨⟨n1, n2⟩, e⟩ (r1.up Up.done))
theorem w_thaw {K : PySem.W.Frag} {σ : L2.St} {H : Hp} {Q : VK} (q : wE K W (thaw cs) σ H Q) : wN K W cs σ H Q := by
  obtain ⟨ι, h, ρ, R, S, p⟩ := q
  refine ⟨ι, h, ρ, R, S, ?_⟩
  unfold thaw at p
  cases q : cs ρ h with
  | bad => rw [q] at p; exact p
  | exc C fs h' => rw [q] at p; exact p
  | ok xs h1 =>
    rw [q] at p
    intro ι1 H1 l vs x1 R1 r1 e n1 n2 n0
    refine p (ι1.push l) H1 _ (x1.more n0) (R1.push n1 ⟨vs, e, r1.up Up.push⟩) (.obj ?_)
    have hl : ι1.os.length = h1.length := R1.len
    show (ι1.os ++ [l])[h1.length]? = some l
    rw [← hl, List.getElem?_append_right (Nat.le_refl _)]
    simp
theorem de_frz (hs : DN X W a cs) : DE X W a (frz cs) := pe_imp hs fun _ _ _ q => w_frz q
theorem de_thaw (hs : DN X W a cs) : DE X W a (thaw cs) := pe_imp hs fun _ _ _ q => w_thaw q
end
end Dl

/-! The D layer, 5: calls of defs, methods, classes; fields; subscripts. -/
namespace Dl
open PySem PySem.Spec PyProof.Rows L2
variable [Tb]

/-! ### a def's promise -/
def spD (K : PySem.W.Frag) (n : Nat) (m : List D → M D) : Sp := fun vs H Q E => vs.length = n ∧ ∃ ι h ds, Rel K ι h H ∧ RDs K ι H ds vs ∧ Post K E (RD K) (m ds h) ι H Q
/-- as the hand layer's FnOk, where no repr is under way -/
structure FnG (P : Program) (w : World) (K : PySem.W.Frag) (mg : Str → Option Value) (base : Heap) (CX : CXT) (k : Nat) (f : Addr) (fd : FuncData) (ps : List Str) (sp : Sp) : Prop where
  len : ∀ vs H Q E, sp vs H Q E → vs.length = ps.length
  run : ∀ (A : Around) (outer : List PySem.Env) (s : Shared) (H : Hp) (args : Args) (us : List Value) (vs : List V) (Q : VK) (E : XK), Room k A → A.guards = some [] → Env0 P w K mg base A outer s H → BindsTo s fd args (ps.zip us) → Vals vs us → sp vs H Q E →
    codeAny (model P w) A (.call (.ref f) args) (CR CX outer P w H s Q E) s
theorem FnG.mono {P : Program} {w : World} {K : PySem.W.Frag} {mg : Str → Option Value} {base : Heap} {CX : CXT} {j k : Nat} {f : Addr} {fd : FuncData} {ps : List Str} {sp : Sp} (F : FnG P w K mg base CX j f fd ps sp) (h : j ≤ k) :
    FnG P w K mg base CX k f fd ps sp := ⟨F.len, fun A outer s H args us vs Q E hr => F.run A outer s H args us vs Q E (hr.mono h)⟩
def FnD (P : Program) (w : World) (K : PySem.W.Frag) (mg : Str → Option Value) (base : Heap) (k : Nat) (f : Addr) (n : Nat) (m : List D → M D) : Prop :=
  ∃ fd ps, FnG P w K mg base (L2.CX P w) k f fd ps (spD K n m) ∧ Binds K fd ps [] ∧ PySem.W.keepIn K (.ref f) = true
theorem FnD.mono {P : Program} {w : World} {K : PySem.W.Frag} {mg : Str → Option Value} {base : Heap} {j k : Nat} {f : Addr} {n : Nat} {m : List D → M D} (F : FnD P w K mg base j f n m) (h : j ≤ k) : FnD P w K mg base k f n m := by
  obtain ⟨fd, ps, F, b, kp⟩ := F
  exact ⟨fd, ps, F.mono h, b, kp⟩
section
variable {X : Cx} {CX : CXT} {k : Nat} {f C : Addr} {fd : FuncData} {ps : List Str} {sp : Sp} {E : L2.St → XK} {x m : Str} {p pos apos : Pos} {e o : Expr} {es : List Expr} {ta : TE} {t : TA}
theorem run_fnG {pins : List (Addr × Obj)} {σ : L2.St} {H : Hp} {s : Shared} {Q : VK} {us : List Value} {vs : List V} (F : FnG X.prog X.w X.K X.mg X.base CX k f fd ps sp) (hr : Room k X.A) (gd : X.A.guards = some []) (hb : Binds X.K fd ps []) (hx : PassesAt CX X σ (E σ))
    (I : Inv X pins σ H s) (r : Vals vs us) (h : sp vs H Q (E σ)) : wpAny (model X.prog X.w) X.A (call (.ref f) us) (EP X pins σ Q) X.xe s := by
  have hl : us.length = ps.length := by rw [← r.length]; exact F.len _ _ _ _ h
  have b := hb s us I.kIn (by rw [List.append_nil]; exact hl)
  rw [List.append_nil] at b
  refine wpAny_call (codeAny_mono (F.run X.A X.stack s H ⟨us, []⟩ us vs Q (E σ) hr gd I.env0 b r h) fun r s' hq => ?_)
  cases r with
  | error e => exact hx pins H s e s' I hq
  | ok fl =>
    cases fl with
    | ret u => exact I.after hq
    | next => exact False.elim hq
    | brk => exact False.elim hq
    | cont => exact False.elim hq
theorem pe_callG (F : FnG X.prog X.w X.K X.mg X.base CX k f fd ps sp) (hr : Room k X.A) (gd : X.A.guards = some []) (hg : Gl X x) (hm : X.mg x = some (.ref f)) (hk : PySem.W.keepIn X.K (.ref f) = true) (hb : Binds X.K fd ps []) (hx : ∀ σ, PassesAt CX X σ (E σ))
    (ha : PA X (e :: es) t) (hdb : (x == ("__debug__" : Str)) = false := by decide) (he : starEach (e :: es) X.env = (false, eval e X.env) :: starEach es X.env := by rfl) (hpl : (backTo pos (starEach es X.env)).any (·.1) = false := by rfl) :
    PE X (.Call (.Name x p) (e :: es) [] pos) (tCallS sp E t) := by
  refine ⟨fun pins s σ H Q I h => ?_⟩
  refine wpAny_Call_Name_kw (ld_glob I hg hm ?_ hdb)
  refine PySem.W.callWith_K (h₀ := X.base) I.ok.mod.kin hk (thn (ha.run pos pins s σ H _ I h) fun us s1 ⟨vs, H1, I1, r, q⟩ => ⟨I1.kIn, ?_⟩) he hpl
  exact run_fnG F hr gd hb (hx σ) I1 r q
end
def eCall (n : Nat) (m : List D → M D) (cs : Env → M (List D)) : Env → M D := fun ρ h => (cs ρ h).bind fun xs h1 => if decide (xs.length = n) then m xs h1 else .bad
def fieldsAt (C : Str) (h : Hs) (x : D) : Option (List (Str × D)) := match x with
  | .obj n => (match h[n]? with
    | some (.ins C' fs) => if decide (C' = C) then some fs else none
    | _ => none)
  | _ => none
section
variable {K : PySem.W.Frag} {ι : Ix} {H : Hp} {h : Hs}
theorem fieldsAt_ok (R : Rel K ι h H) {C : Str} {x : D} {v : V} {fs : List (Str × D)} (r : RD K ι H x v) (e : fieldsAt C h x = some fs) :
    ∃ n a dx us, x = .obj n ∧ v = .ref a ∧ ι.os[n]? = some a ∧ h[n]? = some (.ins C fs) ∧ H a = some (.ins (He.ga K C) dx us) ∧ RF K ι H fs us := by
  cases r with
  | @obj n a g =>
    have e : (match h[n]? with
    | some (.ins C' fs) => if decide (C' = C) then some fs else none
    | _ => none) = some fs := e
    cases hn : h[n]? with
    | none => rw [hn] at e; cases e
    | some o =>
      rw [hn] at e
      cases o with
      | ins C' gs =>
        have e : (if decide (C' = C) = true then some gs else none) = some fs := e
        by_cases hc : C' = C
        · rw [if_pos (decide_eq_true hc)] at e
          cases e
          subst hc
          obtain ⟨dx, us, h1, h2⟩ := R.at g hn
          exact ⟨n, a, dx, us, rfl, rfl, g, hn, h1, h2⟩
        · rw [if_neg (by simpa using hc)] at e
          cases e
      | _ => cases e
  | _ => cases e
theorem rf_lookup {f : Str} : ∀ {fs : List (Str × D)} {us : List (Str × V)}, RF K ι H fs us → (∀ d, fs.lookup f = some d → ∃ v, us.lookup f = some v ∧ RD K ι H d v) ∧ (fs.lookup f = none → us.lookup f = none)
  | _, _, .nil => ⟨fun d e => (nomatch e), fun _ => rfl⟩
  | p :: fs, q :: us, .cons g r => by
    obtain ⟨i1, i2⟩ := rf_lookup (f := f) r
    obtain ⟨p1, p2⟩ := p
    obtain ⟨q1, q2⟩ := q
    have e1 : p1 = q1 := g.1
    subst e1
    rw [List.lookup_cons, List.lookup_cons]
    cases z : f == p1 with
    | true => exact ⟨fun d e => by cases e; exact ⟨_, rfl, g.2⟩, fun e => (nomatch e)⟩
    | false => exact ⟨i1, i2⟩
def putFD (f : Str) (d : D) : List (Str × D) → List (Str × D)
  | [] => [(f, d)]
  | (g, e) :: r => if g = f then (g, d) :: r else (g, e) :: putFD f d r
theorem rf_put {f : Str} {d : D} {v : V} (rd : RD K ι H d v) : ∀ {fs : List (Str × D)} {us : List (Str × V)}, RF K ι H fs us → RF K ι H (putFD f d fs) (putF f v us)
  | _, _, .nil => .cons ⟨rfl, rd⟩ .nil
  | (p1, p2) :: fs, (q1, q2) :: us, .cons g r => by
    have e1 : p1 = q1 := g.1
    subst e1
    unfold putFD putF
    by_cases z : p1 = f
    · rw [if_pos z, if_pos z]
      exact .cons ⟨rfl, rd⟩ r
    · rw [if_neg z, if_neg z]
      exact .cons g (rf_put rd r)
theorem rf_len {κ : Type} {fs : List (κ × D)} {us : List (κ × V)} (r : RF K ι H fs us) : fs.length = us.length := Paired.length r
end
def eFld (C f : Str) (ca : Env → M D) : Env → M D := fun ρ h => (ca ρ h).bind fun x h1 => match (fieldsAt C h1 x).bind (·.lookup f) with
  | some d => .ok d h1
  | none => .bad
def eMake (C : Str) (n : Nat) (mf : List D → M D) (cs : Env → M (List D)) : Env → M D := fun ρ h => (cs ρ h).bind fun xs h1 => if decide (xs.length + 1 = n) then
  (mf (.obj h1.length :: xs) (h1 ++ [.ins C []])).bind fun r h2 => match r with
  | .non => .ok (.obj h1.length) h2
  | _ => .bad
  else .bad
section
variable {X : Cx} {W : WX} {pos p apos : Pos} {a : Expr} {es : List Expr} {ca : Env → M D} {cs : Env → M (List D)} {k n : Nat} {mf : List D → M D} {x C m f : Str}
/-- f(a, ..) -/
theorem de_call (F : FnD X.prog X.w X.K X.mg X.base k (He.ga X.K x) n mf) (hr : Room k X.A) (gd : X.A.guards = some []) (tk : Takes X W) (hm : X.mg x = some (.ref (He.ga X.K x))) (hg : Gl X x) (ha : DA X W (a :: es) cs) (hdb : (x == ("__debug__" : Str)) = false := by decide)
    (he : starEach (a :: es) X.env = (false, eval a X.env) :: starEach es X.env := by rfl) (hpl : (backTo pos (starEach es X.env)).any (·.1) = false := by rfl) : DE X W (.Call (.Name x p) (a :: es) [] pos) (eCall n mf cs) := by
  obtain ⟨fd, ps, F, b, kp⟩ := F
  refine pe_imp (pe_callG F hr gd hg hm kp b (fun σ => passAt tk σ) ha hdb he hpl) fun σ H Q ⟨ι, h, ρ, R, S, p⟩ => ?_
  refine ⟨ι, h, ρ, R, S, Post.imp (Post.bind p) fun vs H1 ⟨ι1, h1, ds, x1, R1, r1, p1⟩ => ?_⟩
  obtain ⟨c, p1⟩ := p1.guard
  exact ⟨by rw [← r1.length]; exact of_decide_eq_true c, ι1, h1, ds, R1, r1, p1⟩
/-- o.f -/
theorem de_fld (c : Cls X.K (He.ga X.K C)) (nf : NoAttr X.K (He.ga X.K C) f) (ha : DE X W a ca) (hb : attributeBase a f X.env (eval a X.env) = eval a X.env := by rfl) : DE X W (.Attribute a f pos) (eFld C f ca) := pe_imp (pe_fld ha hb) fun σ H Q ⟨ι, h, ρ, R, S, p⟩ => by
  refine ⟨ι, h, ρ, R, S, Post.imp (Post.bind p) fun v H1 ⟨ι1, h1, dx, x1, R1, r1, p1⟩ => ?_⟩
  split at p1
  · rename_i d e
    obtain ⟨fs, e1, e2⟩ := Option.bind_eq_some_iff.mp e
    obtain ⟨n, q, dx, us, rfl, rfl, g, hn, hq, rf⟩ := fieldsAt_ok R1 r1 e1
    obtain ⟨w, h2, r2⟩ := (rf_lookup (f := f) rf).1 d e2
    exact ⟨q, _, dx, us, w, rfl, hq, c, nf, h2, p1.ok R1 r2⟩
  · exact p1.elim
/-! ### C(..) -/
def tMakeS (C : Addr) (sp : Sp) (E : L2.St → XK) (t : TA) : TE := fun σ H Q => t σ H fun vs H1 => ∀ x dx, H1 x = none → H1 dx = none → dx ≠ x →
  sp (.ref x :: vs) (upd (upd H1 dx (.own x)) x (.ins C dx [])) (fun v H2 => v = .non ∧ Q (.ref x) H2) (E σ)
theorem make_guards {A : Around} {C : Addr} {us : List Value} {kw : List (Str × Value)} (gd : A.guards = some []) : (A.under (.builtin "type.__call__" ⟨.ref C :: us, kw⟩)).guards = some [] := by
  have e : (Code.builtin "type.__call__" ⟨.ref C :: us, kw⟩).guards = [] := by
    first
      | rfl
      | simp [Code.guards, Code.isGuard, guardIds]
  show pushGuards (Code.builtin "type.__call__" ⟨.ref C :: us, kw⟩).guards A.guards = some []
  rw [e, gd]
  rfl
theorem run_makeS {CX : CXT} {C f : Addr} {fd : FuncData} {ps : List Str} {sp : Sp} {E : XK} {pins : List (Addr × Obj)} {σ : L2.St} {H : Hp} {s : Shared} {Q : VK} {us : List Value} {vs : List V} (M : Mk X.K C f) (F : FnG X.prog X.w X.K X.mg X.base CX k f fd ps sp) (hr : Room (k + 1) X.A) (gd : X.A.guards = some [])
    (hb : Binds X.K fd ps []) (hx : PassesAt CX X σ E) (I : Inv X pins σ H s) (r : Vals vs us)
    (h : ∀ x dx, H x = none → H dx = none → dx ≠ x → sp (.ref x :: vs) (upd (upd H dx (.own x)) x (.ins C dx [])) (fun v H2 => v = .non ∧ Q (.ref x) H2) E) :
    wpAny (model X.prog X.w) X.A (call (.ref C) us) (EP X pins σ Q) X.xe s := by
  have hq := h (s.heap.objs.size + 1) s.heap.objs.size (I.hok.fresh (Nat.le_succ _)) (I.hok.fresh (Nat.le_refl _)) (Nat.ne_of_lt (Nat.lt_succ_self _))
  have I2 := Inv.made (C := C) I
  have r2 : Vals (V.ref (s.heap.objs.size + 1) :: vs) (Value.ref (s.heap.objs.size + 1) :: us) := .cons rfl r
  have hl : (Value.ref (s.heap.objs.size + 1) :: us).length = ps.length := by
    have e := r2.length
    rw [F.len _ _ _ _ hq] at e
    exact e.symm
  have b := hb _ (Value.ref (s.heap.objs.size + 1) :: us) I2.kIn (by rw [List.append_nil]; exact hl)
  rw [List.append_nil] at b
  refine wpAny_call (make_map (f := f) I.kIn M.makes M.init (beq_iff_eq.mp M.fn) (codeAny_mono (F.run _ X.stack _ _ ⟨Value.ref (s.heap.objs.size + 1) :: us, []⟩ (Value.ref (s.heap.objs.size + 1) :: us) _ _ E (hr.make C us []) (make_guards gd)
    (I2.env0.make C us []) b r2 hq) fun r s' hq' => ?_))
  cases r with
  | error e => exact hx pins _ _ e s' I2 hq'
  | ok fl =>
    cases fl with
    | ret u =>
      obtain ⟨v, H', I3, rv, ev, q3⟩ := I2.after hq'
      subst ev
      exact ⟨rv, ⟨V.ref (s.heap.objs.size + 1), H', I3, rfl, q3⟩⟩
    | next => exact False.elim hq'
    | brk => exact False.elim hq'
    | cont => exact False.elim hq'
theorem pe_makeS {CX : CXT} {C f : Addr} {fd : FuncData} {ps : List Str} {sp : Sp} {E : L2.St → XK} {t : TA} (M : Mk X.K C f) (F : FnG X.prog X.w X.K X.mg X.base CX k f fd ps sp) (hr : Room (k + 1) X.A) (gd : X.A.guards = some []) (hg : Gl X x) (hm : X.mg x = some (.ref C)) (hb : Binds X.K fd ps [])
    (hx : ∀ σ, PassesAt CX X σ (E σ)) (ha : PA X (a :: es) t) (hdb : (x == ("__debug__" : Str)) = false := by decide) (he : starEach (a :: es) X.env = (false, eval a X.env) :: starEach es X.env := by rfl) (hpl : (backTo pos (starEach es X.env)).any (·.1) = false := by rfl) :
    PE X (.Call (.Name x p) (a :: es) [] pos) (tMakeS C sp E t) := by
  refine ⟨fun pins s σ H Q I h => ?_⟩
  refine wpAny_Call_Name_kw (ld_glob I hg hm ?_ hdb)
  refine PySem.W.callWith_K (h₀ := X.base) I.ok.mod.kin M.kp (thn (ha.run pos pins s σ H _ I h) fun us s1 ⟨vs, H1, I1, r, q⟩ => ⟨I1.kIn, ?_⟩) he hpl
  exact run_makeS M F hr gd hb (hx σ) I1 r q
theorem w_make {σ : L2.St} {H : Hp} {Q : VK} {t : TA} {cs' : Env → M (List D)} (ht : ∀ σ H Q, wA X.K W cs' σ H Q → t σ H Q) (q : wE X.K W (eMake C n mf cs') σ H Q) : tMakeS (He.ga X.K C) (spD X.K n mf) (WE W) t σ H Q := by
  obtain ⟨ι, h, ρ, R, S, p⟩ := q
  refine ht _ _ _ ⟨ι, h, ρ, R, S, Post.imp (Post.bind p) fun vs H1 ⟨ι1, h1, ds, x1, R1, r1, p1⟩ => ?_⟩
  obtain ⟨c, p1⟩ := p1.guard
  intro y dy hy hdy ne
  have k : ∀ b u, H1 b = some u → upd (upd H1 dy (.own y)) y (.ins (He.ga X.K C) dy []) b = some u := fun b u e => by
    rw [upd_ne (ne_of_none e hy), upd_ne (ne_of_none e hdy)]
    exact e
  have n2 : upd (upd H1 dy (.own y)) y (.ins (He.ga X.K C) dy []) y ≠ none := by rw [upd_same]; exact fun z => nomatch z
  have x2 : Ext ι1 H1 (ι1.push y) (upd (upd H1 dy (.own y)) y (.ins (He.ga X.K C) dy [])) := .alloc hy k
  have R2 := R1.alloc (o := .ins C []) hy k n2 ⟨dy, [], upd_same, .nil⟩
  refine ⟨by rw [List.length_cons, ← r1.length]; exact of_decide_eq_true c, ι1.push y, _, _, R2, .cons (.obj (push_at R1)) (r1.mono x2), ?_⟩
  have p1 := p1.ext x2
  refine Post.imp (Post.bind p1) fun v H3 ⟨ι3, h3, r, x3, R3, r3, p3⟩ => ?_
  split at p3
  · cases r3
    exact ⟨rfl, p3.ok R3 (.obj (x3.get (push_at R1)))⟩
  · exact p3.elim
theorem de_make (F : FnD X.prog X.w X.K X.mg X.base k (He.ma X.K (He.ga X.K C) "__init__") n mf) (M : Mk X.K (He.ga X.K C) (He.ma X.K (He.ga X.K C) "__init__")) (hr : Room (k + 1) X.A) (gd : X.A.guards = some []) (tk : Takes X W) (hm : X.mg C = some (.ref (He.ga X.K C))) (hg : Gl X C) (ha : DA X W (a :: es) cs)
    (hdb : (C == ("__debug__" : Str)) = false := by decide) (he : starEach (a :: es) X.env = (false, eval a X.env) :: starEach es X.env := by rfl) (hpl : (backTo pos (starEach es X.env)).any (·.1) = false := by rfl) : DE X W (.Call (.Name C p) (a :: es) [] pos) (eMake C n mf cs) := by
  obtain ⟨fd, ps, F, b, kp⟩ := F
  exact pe_imp (pe_makeS M F hr gd hg hm b (fun σ => passAt tk σ) ha hdb he hpl) fun σ H Q q => w_make (fun _ _ _ z => z) q
end
end Dl

/-! The D layer, 6: subscripts, slices, built-in functions. -/
namespace Dl
open PySem PySem.Spec PyProof.Rows L2
variable [Tb]

/-! ### a[i] -/
def itemD (x y : D) : M D := fun h => match x, y with
  | .str z, .int i => if okLen z.length then (match atI z.cps.toList i with
    | some c => .ok (.str ⟨#[c]⟩) h
    | none => .bad) else .bad
  | x, y => (match seqOf h x with
    | some xs => (match y with
      | .int i => (match atI xs i with
        | some d => .ok d h
        | none => .bad)
      | _ => .bad)
    | none => (match x with
      | .obj n => (match dctKV h n, keyOf y with
        | some kvs, some k => (match look kvs k with
          | some d => .ok d h
          | none => .bad)
        | _, _ => .bad)
      | _ => .bad))
section
variable {X : Cx}
def rIxDct : R2 := fun x y H Q => ∃ a v, x = .ref a ∧ DGet H a y (some v) ∧ Q v H
theorem ix_dct (hu : X.A.units + 1 < cLine) : IxR X rIxDct := by
  intro value slice pins s σ H x y v u Q I rx ry h hs
  obtain ⟨a, w, rfl, g, q⟩ := h
  cases rx
  exact tail_any (dict_typeIs I g) PySem.F.slot_dict_getitem.lookup (d_getItem hu I g ry fun w' s3 I3 rw' => ⟨w, H, I3, rw', q⟩) hs
def gIx (K : PySem.W.Frag) : R2 := fun x y H Q => rIx K x y H Q ∨ rIxDct x y H Q
theorem ix_all (hu : X.A.units + 1 < cLine) : IxR X (gIx X.K) := IxR.or ix_seq (ix_dct hu)
theorem atI_rd {K : PySem.W.Frag} {ι : Ix} {H : Hp} {xs : List D} {vs : List V} {i : Int} {d : D} (r : RDs K ι H xs vs) (e : atI xs i = some d) : ∃ v, atI vs i = some v ∧ RD K ι H d v := by
  unfold atI at e ⊢
  rw [← r.length]
  obtain ⟨j, e1, e2⟩ := Option.bind_eq_some_iff.mp e
  obtain ⟨v, h1, h2⟩ := r.get e2
  exact ⟨v, by rw [e1]; exact h1, h2⟩
theorem o_item : Op2 X (gIx X.K) itemD := by
  intro ι h H x y v u W Q R rx ry p
  unfold itemD at p
  split at p
  · obtain ⟨c, p⟩ := p.guard
    split at p
    · rename_i e
      cases rx
      cases ry
      exact .inl (.inr (.inr ⟨_, _, _, rfl, rfl, okLen_ok c, e, p.ok R (.str _)⟩))
    · exact p.elim
  · split at p
    · rename_i e1
      split at p
      · split at p
        · rename_i d e2
          obtain ⟨a, vs, rfl, q, rs⟩ := seqOf_ok R rx e1
          obtain ⟨w, h1, h2⟩ := atI_rd rs e2
          cases ry
          rcases q with q | q
          · exact .inl (.inl ⟨a, vs, _, w, rfl, rfl, q, h1, p.ok R h2⟩)
          · exact .inl (.inr (.inl ⟨a, vs, _, w, rfl, rfl, q, h1, p.ok R h2⟩))
        · exact p.elim
      · exact p.elim
    · split at p
      · split at p
        · rename_i n kvs k e1 e2
          split at p
          · rename_i d e3
            cases rx with
            | obj g =>
              obtain ⟨us, h1, h2⟩ := dctKV_rd R g e1
              obtain ⟨w, z1, z2⟩ := (look_rf (k := k) h2).1 d e3
              refine .inr ⟨_, w, rfl, ?_, p.ok R z2⟩
              rw [keyOf_kV ry e2, ← z1]
              exact .inl ⟨us, k, h1, rfl, rfl⟩
          · exact p.elim
        · exact p.elim
      · exact p.elim
variable {W : WX} {pos : Pos} {a b c : Expr} {ca cb cc : Env → M D}
theorem de_item (hu : X.A.units + 1 < cLine) (ha : DE X W a ca) (hb : DE X W b cb) (hs : PlainIx b := by intro _ _; rfl) : DE X W (.Subscript a b pos) (e2 itemD ca cb) := de_ix (ix_all hu) o_item ha hb hs

/-! ### a[lo:hi] -/
def cutL {α : Type} (xs : List α) (lo hi : Option Int) : List α := (xs.drop (HT.sIx xs.length 0 lo)).take (HT.sIx xs.length xs.length hi - HT.sIx xs.length 0 lo)
def sliceN (x : D) (lo hi : Option Int) : M (List D) := fun h => match x with
  | .scr ns => .ok ((cutL ns lo hi).map .int) h
  | x => (match items h x with
    | some xs => .ok (cutL xs lo hi) h
    | none => .bad)
def sliceD (x : D) (lo hi : Option Int) : M D := fun h => match x with
  | .tup xs => .ok (.tup (cutL xs lo hi)) h
  | .str z => if okLen z.length then .ok (.str (cutS z lo hi)) h else .bad
  | x => (sliceN x lo hi h).bind fun xs h1 => .ok (.lst xs) h1
def pN : Env → M (Option Int) := fun _ h => .ok none h
def pS (ca : Env → M D) : Env → M (Option Int) := fun ρ h => (ca ρ h).bind fun x h1 => match x with
  | .int i => .ok (some i) h1
  | _ => .bad
def eSl (ca : Env → M D) (cl cu : Env → M (Option Int)) : Env → M D := fun ρ h => (ca ρ h).bind fun x h1 => (cl ρ h1).bind fun lo h2 => (cu ρ h2).bind fun hi h3 => sliceD x lo hi h3
def nSl (ca : Env → M D) (cl cu : Env → M (Option Int)) : Env → M (List D) := fun ρ h => (ca ρ h).bind fun x h1 => (cl ρ h1).bind fun lo h2 => (cu ρ h2).bind fun hi h3 => sliceN x lo hi h3
def wO (K : PySem.W.Frag) (W : WX) (c : Env → M (Option Int)) : TO := fun σ H Q => ∃ ι h ρ, Rel K ι h H ∧ RS K ι H ρ σ ∧ Post K (fun x d H' => W x d σ H') (fun _ _ a b => a = b) (c ρ h) ι H Q
abbrev DO' (X : Cx) (W : WX) (e : Option Expr) (c : Env → M (Option Int)) : Prop := PO X e (wO X.K W c)
theorem po_imp {e : Option Expr} {t t' : TO} (h : PO X e t) (w : ∀ σ H Q, t' σ H Q → t σ H Q) : PO X e t' := ⟨fun pins s σ H Q I z => h.run pins s σ H Q I (w σ H Q z)⟩
theorem do_none : DO' X W none pN := po_imp po_none fun σ H Q ⟨ι, h, ρ, R, S, p⟩ => p.ok R rfl
theorem do_some (ha : DE X W a ca) : DO' X W (some a) (pS ca) := po_imp (po_some ha) fun σ H Q ⟨ι, h, ρ, R, S, p⟩ => by
  refine ⟨ι, h, ρ, R, S, Post.imp (Post.bind p) fun x H1 ⟨ι1, h1, dx, x1, R1, r1, p1⟩ => ?_⟩
  split at p1
  · cases r1
    exact ⟨_, rfl, p1.ok R1 rfl⟩
  · exact p1.elim
def gSl (K : PySem.W.Frag) : V → Option Int → Option Int → Hp → VK → Prop := fun x lo hi H Q => rSlA K x lo hi H Q ∨ (rSlL K x lo hi H Q ∨ rSlS x lo hi H Q)
theorem sl_all : SlR X (gSl X.K) := SlR.or sl_tupA (SlR.or sl_list sl_str)
theorem cutL_rds {K : PySem.W.Frag} {ι : Ix} {H : Hp} {xs : List D} {vs : List V} {lo hi : Option Int} (r : RDs K ι H xs vs) : RDs K ι H (cutL xs lo hi) (cutV vs lo hi) := by
  unfold cutL cutV
  rw [← r.length]
  exact (r.drop _).take _
theorem cutL_whole {α : Type} {xs : List α} {lo hi : Option Int} (h1 : HT.sIx xs.length 0 lo = 0) (h2 : HT.sIx xs.length xs.length hi = xs.length) : cutL xs lo hi = xs := by
  unfold cutL
  rw [h1, h2]
  simp
theorem cutL_map {α β : Type} (f : α → β) (xs : List α) (lo hi : Option Int) : (cutL xs lo hi).map f = cutL (xs.map f) lo hi := by
  unfold cutL
  rw [List.map_take, List.map_drop, List.length_map]
theorem cutV_eq (xs : List V) (lo hi : Option Int) : cutV xs lo hi = cutL xs lo hi := rfl
theorem sliceN_ok {K : PySem.W.Frag} {ι ιb : Ix} {H Hb : Hp} {h : Hs} {x : D} {v : V} {lo hi : Option Int} {W : XK} {Q : VK} (e : Ext ιb Hb ι H) (R : Rel K ι h H) (r : RD K ι H x v) (p : PostN K W (sliceN x lo hi h) ιb Hb Q) : gSl K v lo hi H Q := by
  unfold sliceN at p
  split at p
  · rename_i ns
    cases r with
    | scr sc =>
      refine .inr (.inl ⟨_, _, rfl, sc.sq, fun q hq => ?_⟩)
      rw [cutV_eq, ← cutL_map]
      exact p.new e R RDs.ofInts hq
  · split at p
    · rename_i xs e1
      obtain ⟨b, vs, rfl, hb, rs⟩ := items_ok R r e1
      exact .inr (.inl ⟨b, vs, rfl, SqL.of hb, fun q hq => p.new e R (cutL_rds rs) hq⟩)
    · exact p.elim
theorem sliceD_ok {K : PySem.W.Frag} {ι : Ix} {H : Hp} {h : Hs} {x : D} {v : V} {lo hi : Option Int} {W : XK} {Q : VK} (R : Rel K ι h H) (r : RD K ι H x v) (p : Post K W (RD K) (sliceD x lo hi h) ι H Q) : gSl K v lo hi H Q := by
  unfold sliceD at p
  split at p
  · rename_i xs
    cases r with
    | tup t q =>
      refine .inl ⟨_, _, rfl, t.sq, fun z => ?_, fun _ y hy => ?_⟩
      · rw [← q.length] at z
        rw [cutL_whole z.1 z.2] at p
        exact p.ok R (.tup t q)
      · exact p.tup R (cutL_rds q) hy
  · obtain ⟨c, p⟩ := p.guard
    cases r
    exact .inr (.inr ⟨_, rfl, okLen_ok c, p.ok R (.str _)⟩)
  · refine sliceN_ok (ιb := ι) (Hb := H) (W := W) .refl R r ?_
    cases q : sliceN x lo hi h with
    | bad => rw [q] at p; exact p
    | exc C fs h' => rw [q] at p; exact p
    | ok xs h1 =>
      rw [q] at p
      intro ι1 H1 l vs x1 R1 r1 e n1 n2 n0
      exact p ι1 H1 _ x1 (R1.done e) (.lst ⟨⟨n1, n2⟩, e⟩ (r1.up Up.done))
theorem de_sl {lo hi : Option Expr} {p2 : Pos} {cl cu : Env → M (Option Int)} (ha : DE X W a ca) (hl : DO' X W lo cl) (hh : DO' X W hi cu) : DE X W (.Subscript a (.Slice lo hi none p2) pos) (eSl ca cl cu) := pe_imp (pe_slice sl_all ha hl hh) fun σ H Q ⟨ι, h, ρ, R, S, p⟩ => by
  refine ⟨ι, h, ρ, R, S, Post.imp (Post.bind p) fun x H1 ⟨ι1, h1, dx, x1, R1, r1, p1⟩ => ?_⟩
  refine ⟨ι1, h1, ρ, R1, S.mono x1, Post.imp (Post.bind p1) fun l H2 ⟨ι2, h2, dl, x2, R2, r2, p2⟩ => ?_⟩
  refine ⟨ι2, h2, ρ, R2, S.mono (x1.trans x2), Post.imp (Post.bind p2) fun u H3 ⟨ι3, h3, du, x3, R3, r3, p3⟩ => ?_⟩
  subst r2 r3
  exact sliceD_ok R3 (r1.mono (x2.trans x3)) p3

/-! ### a[::-1] -/
def revD (x : D) : M D := fun h => match x with
  | .tup xs => .ok (.tup xs.reverse) h
  | x => (match items h x with
    | some xs => .ok (.lst xs.reverse) h
    | none => .bad)
section
variable {prog : Program} {w : World} {A : Around} {E : Value → Shared → Prop} {s : Shared}
theorem sliceApplied_rev {sl : Addr} {vl vu vs : Value} {n : Nat} {Q : Int × Int × Nat → Shared → Prop} (hs : s.heap.IsSliceOf sl vl vu vs) (pl : IsPart vl none) (pu : IsPart vu none) (ps : IsPart vs (some (-1)))
    (h : Q ((n : Int) - 1, -1, n) s) : wpAny (model prog w) A (Builtin.Slice.sliceApplied (.ref sl) (pure (n : Int))) Q E s := by
  obtain ⟨os, hos, hcs, hds⟩ := id hs
  unfold Builtin.Slice.sliceApplied Builtin.Slice.sliceFields
  refine wpAny_bind (wpAny_bind (wpAny_field hos hds (x := vl) rfl (wpAny_bind (wpAny_field hos hds (x := vu) rfl (wpAny_bind (wpAny_field hos hds (x := vs) rfl (wpAny_pure ?_)))))))
  refine wpAny_bind (HT.slicePart_ ps ?_)
  show wpAny _ _ (if ((-1 : Int) == 0) = true then _ else _) _ _ s
  rw [if_neg (by decide)]
  refine wpAny_bind (HT.slicePart_ pl (wpAny_bind (HT.slicePart_ pu (wpAny_bind (wpAny_pure ?_)))))
  show wpAny _ _ (pure ((n : Int) - 1, (-1 : Int), Builtin.Slice.slicePlaces ((n : Int) - 1) (-1) (-1))) _ _ s
  have e : Builtin.Slice.slicePlaces ((n : Int) - 1) (-1) (-1) = n := by
    unfold Builtin.Slice.slicePlaces
    have h1 : ¬ ((-1 : Int) > 0) := by decide
    simp only [h1, if_false]
    split
    · have e1 : (- -1 : Int) = 1 := by decide
      rw [e1, Int.ediv_one]
      omega
    · omega
  rw [e]
  exact wpAny_pure h
theorem fm_congr {α β : Type} {f g : α → Option β} : ∀ {l : List α}, (∀ a, a ∈ l → f a = g a) → l.filterMap f = l.filterMap g
  | [], _ => rfl
  | a :: l, h => by rw [List.filterMap_cons, List.filterMap_cons, h a List.mem_cons_self, fm_congr fun b hb => h b (List.mem_cons_of_mem _ hb)]
theorem pick_rev (xs : Array Value) : ((List.range xs.size).filterMap fun (m : Nat) => xs[((xs.size : Int) - 1 + (m : Int) * (-1)).toNat]?).toArray = xs.toList.reverse.toArray := by
  congr 1
  obtain ⟨l⟩ := xs
  show (List.range l.length).filterMap (fun (m : Nat) => l.toArray[((l.length : Int) - 1 + (m : Int) * (-1)).toNat]?) = l.reverse
  have e : (List.range l.length).filterMap (fun (m : Nat) => l.toArray[((l.length : Int) - 1 + (m : Int) * (-1)).toNat]?) = (List.range l.length).filterMap fun m => l.reverse[m]? := by
    refine fm_congr fun m hm => ?_
    have hm := List.mem_range.mp hm
    have e1 : ((l.length : Int) - 1 + (m : Int) * (-1)).toNat = l.length - 1 - m := by omega
    rw [e1, List.getElem?_reverse hm]
    simp
  rw [e]
  have z : ∀ r : List Value, (List.range r.length).filterMap (fun m => r[m]?) = r := by
    intro r
    induction r with
    | nil => rfl
    | cons a r ih =>
      rw [List.length_cons, List.range_succ_eq_map, List.filterMap_cons]
      simp only [List.getElem?_cons_zero]
      rw [List.filterMap_map]
      exact congrArg (a :: ·) ih
  have z1 := z l.reverse
  rw [List.length_reverse] at z1
  exact z1
theorem getItem_tuple_rev {t sl : Addr} {items : Array Value} {vl vu vs : Value} {Q : Value → Shared → Prop} (ht : IsTup s.heap t items) (hs : s.heap.IsSliceOf sl vl vu vs) (pl : IsPart vl none) (pu : IsPart vu none) (ps : IsPart vs (some (-1)))
    (h : Q (.ref s.heap.objs.size) { s with heap := s.heap.push { cls := .type "tuple", data := .seq items.toList.reverse.toArray } }) (hsz : items.size ≤ sizeLine) : wpAny (model prog w) A (getItem (.ref t) (.ref sl)) Q E s := by
  have htake : sizeOk (.seq items.toList.reverse.toArray) := by
    show items.toList.reverse.toArray.size ≤ sizeLine
    rw [List.size_toArray, List.length_reverse, Array.length_toList]
    omega
  obtain ⟨os, hos, hcs, hds⟩ := id hs
  have hTs : s.TypeIs (.ref sl) "slice" := ⟨os, hos, hcs⟩
  unfold getItem
  try with_reducible refine wpAny_holding ?_
  first | refine wpAny_bind (wpAny_pure ?_) | skip
  refine wpAny_bind (wpAny_sequenceKey ht.typeIs (by decide) ?_)
  refine wpAny_bind (wpAny_callSpecial?_slot (name := Str.ofString "__getitem__") ht.typeIs PyProof.Rows.slot_tuple_getitem
    (wpAny_call_entry PyProof.Rows.slot_tuple_getitem ht.typeIs entry_tuple_getitem ?_ (args_tuple_getitem _ _)))
  show wpAny _ _ (Builtin.Tuple.tupleItemsOf (.ref t) >>= _) _ _ s
  refine wpAny_bind (tupleItemsOf_ ht ?_)
  refine wpAny_bind (wpAny_typeOf hTs ?_)
  rw [if_pos (by decide)]
  refine wpAny_bind (sliceApplied_rev hs pl pu ps ?_)
  have hno : ¬ ((((items.size : Int) - 1 == 0) && (-1 : Int) == 1 && (items.size == items.size)) = true) := by
    intro q
    rw [Bool.and_eq_true, Bool.and_eq_true] at q
    exact absurd (eq_of_beq q.1.2) (by decide)
  show wpAny _ _ (if (((items.size : Int) - 1 == 0) && (-1 : Int) == 1 && (items.size == items.size)) = true then _ else _) _ _ s
  rw [if_neg hno, pick_rev]
  first
    | exact wpAny_bind (m := Builtin.Tuple.tupleExact _) (wpAny_newObj_type (wpAny_pure ⟨_, rfl, wpAny_pure h⟩) htake)
    | exact wpAny_bind (m := Builtin.Tuple.tupleExact _) (wpAny_newObj_type (wpAny_bind (wpAny_pure (wpAny_pure ⟨_, rfl, wpAny_pure h⟩))) htake)
    | exact wpAny_bind (wpAny_bind (m := Builtin.Tuple.tupleExact _) (wpAny_newObj_type (wpAny_pure (wpAny_pure ⟨_, rfl, wpAny_pure h⟩)) htake))
    | exact wpAny_bind (wpAny_bind (m := Builtin.Tuple.tupleExact _) (wpAny_newObj_type (wpAny_pure ⟨_, rfl, wpAny_pure h⟩) htake))
end
def tRevA (K : PySem.W.Frag) (te : TE) : TE := fun σ H Q => te σ H fun x H1 => ∃ a xs, x = .ref a ∧ ((SqL K H1 a xs ∧ ∀ p, H1 p = none → Q (.ref p) (upd H1 p (.lst xs.reverse))) ∨ (SqT K H1 a xs ∧ ∀ p, H1 p = none → Q (.ref p) (upd H1 p (.tup xs.reverse))))
theorem pe_revA {e : Expr} {te : TE} {k : Nat} {p1 p2 p3 : Pos} (he : PE X e te) : PE X (.Subscript e (.Slice none none (some (.UnaryOp .USub (.Constant (.int 1) k p1) p2)) p3) pos) (tRevA X.K te) := by
  refine ⟨fun pins s σ H Q I h => ?_⟩
  refine Subscript_ (thn (he.run pins s σ H _ I h) fun v s1 ⟨x, H1, I1, r1, q1⟩ => ?_)
  obtain ⟨a, xs, ex, hx⟩ := q1
  subst ex
  cases r1
  have hst : PO X (some (.UnaryOp .USub (.Constant (.int 1) k p1) p2)) (tPart (tUn (rU fun i => .int (-i)) (tC (.int 1)))) := po_some (pe_un un_neg pe_int)
  refine wpAny_Slice (thn (po_none.run pins s1 σ H1 (fun o H2 => o = none ∧ H2 = H1) I1 ⟨rfl, rfl⟩) fun vl s2 ⟨l, H2, I2, pl, el, e2⟩ => ?_)
  subst el e2
  refine thn (po_none.run pins s2 σ H2 (fun o H3 => o = none ∧ H3 = H2) I2 ⟨rfl, rfl⟩) fun vu s3 ⟨u, H3, I3, pu, eu, e3⟩ => ?_
  subst eu e3
  refine thn (hst.run pins s3 σ H3 (fun o H4 => o = some (-1) ∧ H4 = H3) I3 ⟨1, rfl, -1, rfl, rfl, rfl⟩) fun vs s4 ⟨o, H4, I4, ps, eo, e4⟩ => ?_
  subst eo e4
  have I5 : Inv X pins σ H4 { s4 with heap := s4.heap.push { cls := .type "slice", data := .fields #[vl, vu, vs] } } := I4.kept (t' := s4.toks) fun b ob q => Heap.get?_push_of_some _ q
  show wpAny (model X.prog X.w) X.A (subscriptTail e (.Slice none none (some (.UnaryOp .USub (.Constant (.int 1) k p1) p2)) p3) (.ref a) (.ref s4.heap.objs.size)) (EP X pins σ Q) X.xe { s4 with heap := s4.heap.push { cls := .type "slice", data := .fields #[vl, vu, vs] } }
  rcases hx with ⟨hx, q⟩ | ⟨hx, q⟩
  · obtain ⟨its, r, ht, hz⟩ := I5.list hx
    have hlen := r.length
    refine tail_any (ops := [.ref a, .ref s4.heap.objs.size]) ht.isList.typeIs (PySem.slot_list_getitem.lookup) ?_ (by with_unfolding_all rfl)
    refine wpAny_getItem_list_slice ht.isList (Heap.IsSliceOf.new _ vl vu vs) pl pu ps (by decide) ?_ (by rw [List.size_toArray]; omega)
    rw [PySem.W.krv_pick]
    exact ⟨.ref _, _, I5.lnew (t' := s4.toks) r.reverse (by rw [List.length_reverse]; exact hz), rfl, q _ I5.fresh⟩
  · obtain ⟨its, r, ht, hz⟩ := I5.tuple hx
    have hlen := r.length
    refine tail_any (ops := [.ref a, .ref s4.heap.objs.size]) ht.typeIs (PyProof.Rows.slot_tuple_getitem.lookup) ?_ (by with_unfolding_all rfl)
    refine getItem_tuple_rev ht (Heap.IsSliceOf.new _ vl vu vs) pl pu ps ?_ (by rw [List.size_toArray]; omega)
    refine ⟨.ref _, _, I5.laid (t' := s4.toks) (o := .tup xs.reverse) (fun b ob q => Heap.get?_push_of_some _ q) (Nat.le_refl _) ?_, rfl, q _ I5.fresh⟩
    exact ⟨by rw [List.length_reverse]; exact hz, _, r.reverse, IsTup.new _ _⟩
theorem de_rev {k : Nat} {p1 p2 p3 : Pos} (ha : DE X W a ca) : DE X W (.Subscript a (.Slice none none (some (.UnaryOp .USub (.Constant (.int 1) k p1) p2)) p3) pos) (e1 revD ca) := pe_imp (pe_revA ha) fun σ H Q ⟨ι, h, ρ, R, S, p⟩ => by
  refine ⟨ι, h, ρ, R, S, Post.imp (Post.bind p) fun x H1 ⟨ι1, h1, dx, x1, R1, r1, p1⟩ => ?_⟩
  unfold revD at p1
  split at p1
  · cases r1 with
    | tup t q => exact ⟨_, _, rfl, .inr ⟨t.sq, fun y hy => p1.tup R1 q.reverse hy⟩⟩
  · split at p1
    · rename_i xs e
      obtain ⟨b, vs, rfl, hb, rs⟩ := items_ok R1 r1 e
      exact ⟨b, vs, rfl, .inl ⟨SqL.of hb, fun y hy => p1.lst R1 rs.reverse hy⟩⟩
    · exact p1.elim
end
end Dl

/-! The D layer, 7: statements, loops. -/
namespace Dl
open PySem PySem.Spec PyProof.Rows L2
variable [Tb]

inductive SR where
  | nx (ρ : Env) (h : Hs) | ret (d : D) (h : Hs) | bk (ρ : Env) (h : Hs) | ct (ρ : Env) (h : Hs) | exc (ρ : Env) (C : Str) (fs : List (Str × D)) (h : Hs) | bad
abbrev SM := Env → Hs → SR
def R.then {α : Type} (r : R α) (ρ : Env) (f : α → Hs → SR) : SR := match r with
  | .ok a h => f a h
  | .exc C fs h => .exc ρ C fs h
  | .bad => .bad
def PostS (K : PySem.W.Frag) (W : WX) (r : SR) (ι : Ix) (H : Hp) (D : Ends) : Prop := match r with
  | .nx ρ h => ∀ ι' H' σ', Ext ι H ι' H' → Rel K ι' h H' → RS K ι' H' ρ σ' → D.nx σ' H'
  | .ret d h => ∀ ι' H' v, Ext ι H ι' H' → Rel K ι' h H' → RD K ι' H' d v → D.rt v H'
  | .bk ρ h => ∀ ι' H' σ', Ext ι H ι' H' → Rel K ι' h H' → RS K ι' H' ρ σ' → D.bk σ' H'
  | .ct ρ h => ∀ ι' H' σ', Ext ι H ι' H' → Rel K ι' h H' → RS K ι' H' ρ σ' → D.ct σ' H'
  | .exc ρ C fs h => ∀ ι' H' od σ', Ext ι H ι' H' → Rel K ι' h H' → RS K ι' H' ρ σ' → XD K ι' H' fs od → W (.ref (He.ga K C)) od σ' H'
  | .bad => False
def wS (K : PySem.W.Frag) (W : WX) (c : SM) : TS := fun D σ H => ∃ ι h ρ, Rel K ι h H ∧ RS K ι H ρ σ ∧ PostS K W (c ρ h) ι H D
abbrev DS (X : Cx) (W : WX) (st : Stmt) (c : SM) : Prop := PS X st (wS X.K W c)
abbrev DSs (X : Cx) (W : WX) (st : List Stmt) (c : SM) : Prop := PSs X st (wS X.K W c)
theorem ps_imp {X : Cx} {e : Stmt} {t t' : TS} (h : PS X e t) (w : ∀ D σ H, t' D σ H → t D σ H) : PS X e t' := ⟨fun pins s σ H D I z => h.run pins s σ H D I (w D σ H z)⟩
theorem pss_imp {X : Cx} {e : List Stmt} {t t' : TS} (h : PSs X e t) (w : ∀ D σ H, t' D σ H → t D σ H) : PSs X e t' := ⟨fun pins s σ H D I z => h.run pins s σ H D I (w D σ H z)⟩
section
variable {K : PySem.W.Frag} {W : WX} {ι ι1 : Ix} {H H1 : Hp} {D : Ends}
theorem PostS.ext {r : SR} (p : PostS K W r ι H D) (e : Ext ι H ι1 H1) : PostS K W r ι1 H1 D := by
  cases r with
  | nx ρ h => exact fun ι' H' σ' e' => p ι' H' σ' (e.trans e')
  | ret d h => exact fun ι' H' σ' e' => p ι' H' σ' (e.trans e')
  | bk ρ h => exact fun ι' H' σ' e' => p ι' H' σ' (e.trans e')
  | ct ρ h => exact fun ι' H' σ' e' => p ι' H' σ' (e.trans e')
  | exc ρ C fs h => exact fun ι' H' od σ' e' => p ι' H' od σ' (e.trans e')
  | bad => exact p
theorem PostS.then {α β : Type} {RA : Ix → Hp → α → β → Prop} {r : R α} {ρ : Env} {σ : L2.St} {f : α → Hs → SR} (p : PostS K W (r.then ρ f) ι H D) (S : RS K ι H ρ σ) :
    Post K (fun x d H' => W x d σ H') RA r ι H (fun b H1 => ∃ ι1 h1 a, Ext ι H ι1 H1 ∧ Rel K ι1 h1 H1 ∧ RA ι1 H1 a b ∧ PostS K W (f a h1) ι1 H1 D) := by
  cases r with
  | ok a h => exact fun ι' H' b e R ra => ⟨ι', h, a, e, R, ra, p.ext e⟩
  | exc C fs h => exact fun ι' H' od e R x => p ι' H' od σ e R (S.mono e) x
  | bad => exact p
end

/-! ### small statements -/
def sPass : SM := fun ρ h => .nx ρ h
def sSeq (c1 c2 : SM) : SM := fun ρ h => match c1 ρ h with
  | .nx ρ1 h1 => c2 ρ1 h1
  | r => r
def sRet (ce : Env → M D) : SM := fun ρ h => (ce ρ h).then ρ fun d h1 => .ret d h1
def sRetN : SM := fun _ h => .ret .non h
def sExp (ce : Env → M D) : SM := fun ρ h => (ce ρ h).then ρ fun _ h1 => .nx ρ h1
def sIf (ct : Env → M Bool) (c1 c2 : SM) : SM := fun ρ h => (ct ρ h).then ρ fun b h1 => if b = true then c1 ρ h1 else c2 ρ h1
def sSet (i : Nat) (ce : Env → M D) : SM := fun ρ h => (ce ρ h).then ρ fun d h1 => .nx (ρ.set i (some d)) h1
def sBad : SM := fun _ _ => .bad
section
variable {X : Cx} {W : WX} {pos : Pos} {e : Expr} {ce : Env → M D} {c1 c2 : SM} {st : Stmt} {rest : List Stmt} {ct : Env → M Bool}
theorem dss_nil : DSs X W [] sPass := pss_imp pss_nil fun D σ H ⟨ι, h, ρ, R, S, p⟩ => p ι H σ .refl R S
theorem dss_one (h1 : DS X W st c1) : DSs X W [st] c1 := pss_one h1
theorem dss_cons (h1 : DS X W st c1) (h2 : DSs X W rest c2) : DSs X W (st :: rest) (sSeq c1 c2) := pss_imp (pss_cons h1 h2) fun D σ H ⟨ι, h, ρ, R, S, p⟩ => by
  refine ⟨ι, h, ρ, R, S, ?_⟩
  unfold sSeq at p
  cases q : c1 ρ h with
  | nx ρ1 h1 =>
    rw [q] at p
    exact fun ι' H' σ' e R' S' => ⟨ι', h1, ρ1, R', S', PostS.ext p e⟩
  | ret d h1 => rw [q] at p; exact p
  | bk ρ1 h1 => rw [q] at p; exact p
  | ct ρ1 h1 => rw [q] at p; exact p
  | exc ρ1 C fs h1 => rw [q] at p; exact p
  | bad => rw [q] at p; exact p
theorem ds_never : DS X W st sBad := ps_imp ps_never fun D σ H ⟨ι, h, ρ, R, S, p⟩ => p
theorem ds_ret (he : DE X W e ce) : DS X W (.Return (some e) pos) (sRet ce) := ps_imp (ps_ret he) fun D σ H ⟨ι, h, ρ, R, S, p⟩ => by
  refine ⟨ι, h, ρ, R, S, Post.imp (PostS.then p S) fun v H1 ⟨ι1, h1, d, x1, R1, r1, p1⟩ => ?_⟩
  exact p1 ι1 H1 v .refl R1 r1
theorem ds_exp (he : DE X W e ce) (hs : swapsWith e none pos.line X.env = pure false := by rfl) : DS X W (.Expr e pos) (sExp ce) := ps_imp (ps_expr he hs) fun D σ H ⟨ι, h, ρ, R, S, p⟩ => by
  refine ⟨ι, h, ρ, R, S, Post.imp (PostS.then p S) fun v H1 ⟨ι1, h1, d, x1, R1, r1, p1⟩ => ?_⟩
  exact p1 ι1 H1 σ .refl R1 (S.mono x1)
theorem ds_if {c : Expr} {a b : List Stmt} (hc : DT X W c ct) (ha : DSs X W a c1) (hb : DSs X W b c2) : DS X W (.If c a b pos) (sIf ct c1 c2) := ps_imp (ps_if hc ha hb) fun D σ H ⟨ι, h, ρ, R, S, p⟩ => by
  refine ⟨ι, h, ρ, R, S, Post.imp (PostS.then p S) fun v H1 ⟨ι1, h1, d, x1, R1, r1, p1⟩ => ?_⟩
  subst r1
  cases d with
  | true =>
    rw [if_pos rfl] at p1 ⊢
    exact ⟨ι1, h1, ρ, R1, S.mono x1, p1⟩
  | false =>
    rw [if_neg Bool.false_ne_true] at p1 ⊢
    exact ⟨ι1, h1, ρ, R1, S.mono x1, p1⟩
theorem w_set {K : PySem.W.Frag} {i : Nat} {D : Ends} {σ : L2.St} {H : Hp} (q : wS K W (sSet i ce) D σ H) : wE K W ce σ H fun x H1 => gName i x σ H1 D.nx := by
  obtain ⟨ι, h, ρ, R, S, p⟩ := q
  refine ⟨ι, h, ρ, R, S, Post.imp (PostS.then p S) fun v H1 ⟨ι1, h1, d, x1, R1, r1, p1⟩ => ?_⟩
  exact p1 ι1 H1 _ .refl R1 ((S.mono x1).set i r1)
theorem ds_set {i : Nat} {x : Str} {pos' : Pos} (hN : X.N.Nodup) (he : DE X W e ce) (hi : X.N[i]? = some x := by rfl) (hx : Loc X.env.scope x := by first | exact Or.inl rfl | exact Or.inr rfl) (hs : swapsWith e (some (.Name x pos')) pos.line X.env = pure false := by rfl)
    (hf : X.fn x = true ∨ X.env.scope.names.lookup x = some .local := by first | exact .inl rfl | exact .inr rfl | assumption) : DS X W (.Assign [.Name x pos'] e pos) (sSet i ce) := ps_imp (ps_set hN hi hx he hs hf) fun D σ H ⟨ι, h, ρ, R, S, p⟩ => by
  refine ⟨ι, h, ρ, R, S, Post.imp (PostS.then p S) fun v H1 ⟨ι1, h1, d, x1, R1, r1, p1⟩ => ?_⟩
  exact p1 ι1 H1 _ .refl R1 ((S.mono x1).set i r1)

/-! ### targets: names, tuples of names -/
inductive Pat where
  | nm (i : Nat) | tp (ps : List Pat)
mutual
def patD : Pat → D → Env → Option Env
  | .nm i, d, ρ => some (ρ.set i (some d))
  | .tp ps, d, ρ => (match d with
    | .tup xs => patsD ps xs ρ
    | _ => none)
def patsD : List Pat → List D → Env → Option Env
  | [], [], ρ => some ρ
  | p :: ps, x :: xs, ρ => (patD p x ρ).bind fun ρ1 => patsD ps xs ρ1
  | _, _, _ => none
end
mutual
def gPat (K : PySem.W.Frag) : Pat → TG
  | .nm i => gName i
  | .tp ps => gTup K ps.length (gPats K ps)
def gPats (K : PySem.W.Frag) : List Pat → TGs
  | [] => gNil
  | p :: ps => gCons (gPat K p) (gPats K ps)
end
theorem patsD_len : ∀ {ps : List Pat} {xs : List D} {ρ ρ' : Env}, patsD ps xs ρ = some ρ' → xs.length = ps.length
  | [], [], _, _, _ => rfl
  | [], _ :: _, _, _, e => by unfold patsD at e; cases e
  | _ :: _, [], _, _, e => by unfold patsD at e; cases e
  | p :: ps, x :: xs, ρ, ρ', e => by
    unfold patsD at e
    obtain ⟨ρ1, _, e2⟩ := Option.bind_eq_some_iff.mp e
    rw [List.length_cons, List.length_cons, patsD_len e2]
mutual
def patIs : Pat → List Nat
  | .nm i => [i]
  | .tp ps => patsIs ps
def patsIs : List Pat → List Nat
  | [] => []
  | p :: ps => patIs p ++ patsIs ps
end
theorem wipe_in {σ : L2.St} {j : Nat} : ∀ {vs : List Nat}, j ∈ vs → (wipe σ vs)[j]? = if j < σ.length then some none else none
  | [], h => by cases h
  | v :: vs, h => by
    show ((wipe σ vs).set v none)[j]? = _
    by_cases e : v = j
    · subst e
      by_cases hl : v < σ.length
      · rw [List.getElem?_set_self (by rw [wipe_length]; exact hl), if_pos hl]
      · rw [List.getElem?_eq_none (by rw [List.length_set, wipe_length]; omega), if_neg hl]
    · rw [List.getElem?_set_ne e]
      exact wipe_in ((List.mem_cons.mp h).resolve_left fun z => e z.symm)
theorem wipe_set {σ : L2.St} {i : Nat} {x : Option V} {vs : List Nat} (hi : i ∈ vs) : wipe (σ.set i x) vs = wipe σ vs := by
  apply List.ext_getElem?
  intro j
  by_cases hj : j ∈ vs
  · rw [wipe_in hj, wipe_in hj, List.length_set]
  · rw [wipe_out hj, wipe_out hj, List.getElem?_set_ne fun z => hj (by rw [← z]; exact hi)]
mutual
theorem gPat_ok {K : PySem.W.Frag} {ι : Ix} {H : Hp} {vs : List Nat} : ∀ (p : Pat) {d : D} {v : V} {ρ ρ' : Env} {σ : L2.St} {Q : L2.St → Hp → Prop}, RD K ι H d v → RS K ι H ρ σ → patD p d ρ = some ρ' → (∀ i, i ∈ patIs p → i ∈ vs) →
    (∀ σ', RS K ι H ρ' σ' → wipe σ' vs = wipe σ vs → Q σ' H) → gPat K p v σ H Q
  | .nm i, d, v, ρ, ρ', σ, Q, r, S, e, hv, q => by
    unfold patD at e
    cases e
    unfold gPat
    refine q _ (S.set i r) ?_
    exact wipe_set (hv i (by unfold patIs; simp))
  | .tp ps, d, v, ρ, ρ', σ, Q, r, S, e, hv, q => by
    unfold patD at e
    split at e
    · cases r with
      | tup t rs =>
        unfold gPat
        exact ⟨_, _, rfl, t.sq, by rw [← rs.length]; exact patsD_len e, gPats_ok ps rs S e (fun i hi => hv i (by unfold patIs; exact hi)) q⟩
    · cases e
theorem gPats_ok {K : PySem.W.Frag} {ι : Ix} {H : Hp} {vs : List Nat} : ∀ (ps : List Pat) {ds : List D} {us : List V} {ρ ρ' : Env} {σ : L2.St} {Q : L2.St → Hp → Prop}, RDs K ι H ds us → RS K ι H ρ σ → patsD ps ds ρ = some ρ' → (∀ i, i ∈ patsIs ps → i ∈ vs) →
    (∀ σ', RS K ι H ρ' σ' → wipe σ' vs = wipe σ vs → Q σ' H) → gPats K ps us σ H Q
  | [], ds, us, ρ, ρ', σ, Q, r, S, e, hv, q => by
    cases r with
    | nil =>
      unfold patsD at e
      cases e
      unfold gPats
      exact ⟨rfl, q σ S rfl⟩
    | cons _ _ => unfold patsD at e; cases e
  | p :: ps, ds, us, ρ, ρ', σ, Q, r, S, e, hv, q => by
    cases r with
    | nil => unfold patsD at e; cases e
    | cons r1 r2 =>
      unfold patsD at e
      obtain ⟨ρ1, e1, e2⟩ := Option.bind_eq_some_iff.mp e
      unfold gPats
      refine ⟨_, _, rfl, gPat_ok p r1 S e1 (fun i hi => hv i (by unfold patsIs; exact List.mem_append_left _ hi)) fun σ1 S1 w1 => ?_⟩
      exact gPats_ok ps r2 S1 e2 (fun i hi => hv i (by unfold patsIs; exact List.mem_append_right _ hi)) fun σ2 S2 w2 => q σ2 S2 (w2.trans w1)
end
end
end Dl

/-! The D layer, 8: what is walked; for, while, comprehensions. -/
namespace Dl
open PySem PySem.Spec PyProof.Rows L2
variable [Tb]

/-! ### equality of data, as a Bool -/
mutual
def D.beq : D → D → Bool
  | .non, .non => true
  | .bl a, .bl b => decide (a = b)
  | .int a, .int b => decide (a = b)
  | .str a, .str b => decide (a = b)
  | .ty a, .ty b => decide (a = b)
  | .glo a, .glo b => decide (a = b)
  | .obj a, .obj b => decide (a = b)
  | .scr a, .scr b => decide (a = b)
  | .exn a, .exn b => decide (a = b)
  | .tup xs, .tup ys => D.beqs xs ys
  | .lst xs, .lst ys => D.beqs xs ys
  | _, _ => false
def D.beqs : List D → List D → Bool
  | [], [] => true
  | x :: xs, y :: ys => D.beq x y && D.beqs xs ys
  | _, _ => false
end
mutual
theorem D.beq_eq : ∀ (a b : D), D.beq a b = true → a = b
  | .non, b, h => by cases b <;> first | rfl | (unfold D.beq at h; cases h)
  | .bl a, b, h => by cases b <;> first | (unfold D.beq at h; rw [of_decide_eq_true h]) | (unfold D.beq at h; cases h)
  | .int a, b, h => by cases b <;> first | (unfold D.beq at h; rw [of_decide_eq_true h]) | (unfold D.beq at h; cases h)
  | .str a, b, h => by cases b <;> first | (unfold D.beq at h; rw [of_decide_eq_true h]) | (unfold D.beq at h; cases h)
  | .ty a, b, h => by cases b <;> first | (unfold D.beq at h; rw [of_decide_eq_true h]) | (unfold D.beq at h; cases h)
  | .glo a, b, h => by cases b <;> first | (unfold D.beq at h; rw [of_decide_eq_true h]) | (unfold D.beq at h; cases h)
  | .obj a, b, h => by cases b <;> first | (unfold D.beq at h; rw [of_decide_eq_true h]) | (unfold D.beq at h; cases h)
  | .scr a, b, h => by cases b <;> first | (unfold D.beq at h; rw [of_decide_eq_true h]) | (unfold D.beq at h; cases h)
  | .exn a, b, h => by cases b <;> first | (unfold D.beq at h; rw [of_decide_eq_true h]) | (unfold D.beq at h; cases h)
  | .tup xs, b, h => by cases b <;> first | (unfold D.beq at h; rw [D.beqs_eq _ _ h]) | (unfold D.beq at h; cases h)
  | .lst xs, b, h => by cases b <;> first | (unfold D.beq at h; rw [D.beqs_eq _ _ h]) | (unfold D.beq at h; cases h)
theorem D.beqs_eq : ∀ (a b : List D), D.beqs a b = true → a = b
  | [], [], _ => rfl
  | [], _ :: _, h => by unfold D.beqs at h; cases h
  | _ :: _, [], h => by unfold D.beqs at h; cases h
  | x :: xs, y :: ys, h => by
    unfold D.beqs at h
    obtain ⟨h1, h2⟩ := Bool.and_eq_true_iff.mp h
    rw [D.beq_eq x y h1, D.beqs_eq xs ys h2]
end
mutual
theorem D.beq_refl : ∀ a : D, D.beq a a = true
  | .non => by unfold D.beq; rfl
  | .bl a => by unfold D.beq; exact decide_eq_true rfl
  | .int a => by unfold D.beq; exact decide_eq_true rfl
  | .str a => by unfold D.beq; exact decide_eq_true rfl
  | .ty a => by unfold D.beq; exact decide_eq_true rfl
  | .glo a => by unfold D.beq; exact decide_eq_true rfl
  | .obj a => by unfold D.beq; exact decide_eq_true rfl
  | .scr a => by unfold D.beq; exact decide_eq_true rfl
  | .exn a => by unfold D.beq; exact decide_eq_true rfl
  | .tup xs => by unfold D.beq; exact D.beqs_refl xs
  | .lst xs => by unfold D.beq; exact D.beqs_refl xs
theorem D.beqs_refl : ∀ a : List D, D.beqs a a = true
  | [] => by unfold D.beqs; rfl
  | x :: xs => by unfold D.beqs; rw [D.beq_refl x, D.beqs_refl xs]; rfl
end

/-! ### what is walked: its items; the changing lists that must stay meanwhile -/
structure ItD where
  items : List D
  gs : List (Nat × List D) := []
def okG (gs : List (Nat × List D)) (h : Hs) : Bool := gs.all fun p => match h[p.1]? with
  | some (.lst ys) => D.beqs ys p.2
  | _ => false
theorem okG_at {gs : List (Nat × List D)} {h : Hs} (o : okG gs h = true) {n : Nat} {xs : List D} (m : (n, xs) ∈ gs) : h[n]? = some (.lst xs) := by
  have z := List.all_eq_true.mp o _ m
  simp only at z
  split at z
  · rename_i ys e
    rw [e, D.beqs_eq _ _ z]
  · cases z
def RI (K : PySem.W.Frag) (ι : Ix) (H : Hp) (it : ItD) (J : It) : Prop := ∃ (G : Hp → Prop) (Y : Nat → Hp → V → Hp → Prop), Walk J it.items.length G Y ∧
  (∀ ι' H' h', UpF ι H ι' H' → Rel K ι' h' H' → okG it.gs h' = true → G H') ∧
  ∀ i Hc x H' ι' h', i < it.items.length → Y i Hc x H' → UpF ι H ι' Hc → Rel K ι' h' Hc → okG it.gs h' = true → ∃ d, it.items[i]? = some d ∧ RD K ι' H' d x ∧ Ext ι' Hc ι' H' ∧ Rel K ι' h' H' ∧ ∀ b o, Hc b = some o → H' b = some o
def wI (K : PySem.W.Frag) (W : WX) (ci : Env → M ItD) : TI := fun σ H Q => ∃ ι h ρ, Rel K ι h H ∧ RS K ι H ρ σ ∧ Post K (fun x d H' => W x d σ H') (RI K) (ci ρ h) ι H Q
abbrev DI (X : Cx) (W : WX) (tg it : Expr) (ci : Env → M ItD) : Prop := PI X tg it (wI X.K W ci)
theorem pi_imp {X : Cx} {tg e : Expr} {t t' : TI} (h : PI X tg e t) (w : ∀ σ H Q, t' σ H Q → t σ H Q) : PI X tg e t' := ⟨fun pins s σ H Q I z => h.run pins s σ H Q I (w σ H Q z)⟩

/-! ### for -/
def loopF (p : Pat) (body : SM) (gs : List (Nat × List D)) : List D → SM
  | [], ρ, h => if okG gs h then .nx ρ h else .bad
  | x :: xs, ρ, h => if okG gs h then (match patD p x ρ with
    | none => .bad
    | some ρ1 => (match body ρ1 h with
      | .nx ρ2 h2 => loopF p body gs xs ρ2 h2
      | .ct ρ2 h2 => loopF p body gs xs ρ2 h2
      | .bk ρ2 h2 => .nx ρ2 h2
      | r => r)) else .bad
def sFor (ci : Env → M ItD) (p : Pat) (body : SM) : SM := fun ρ h => (ci ρ h).then ρ fun it h1 => loopF p body it.gs it.items ρ h1
section
variable {K : PySem.W.Frag} {W : WX} {ι : Ix} {H : Hp} {h : Hs} {ρ : Env} {D : Ends}
theorem loopF_ok {p : Pat} {body : SM} {gs : List (Nat × List Dl.D)} {xs : List Dl.D} (q : PostS K W (loopF p body gs xs ρ h) ι H D) : okG gs h = true := by
  cases xs with
  | nil =>
    unfold loopF at q
    cases e : okG gs h with
    | true => rfl
    | false => rw [e] at q; exact q.elim
  | cons x xs =>
    unfold loopF at q
    cases e : okG gs h with
    | true => rfl
    | false => rw [e] at q; exact q.elim
end
section
variable {X : Cx} {W : WX} {pos : Pos} {tg iter : Expr} {body : List Stmt} {ci : Env → M ItD} {cb : SM} {p : Pat}
theorem ds_for (hp : PassesOwn (model X.prog X.w) X.A X.env X.xe) (hc : X.calm = true) (hi : DI X W tg iter ci) (hg : PG X tg (gPat X.K p)) (hb : DSs X W body cb)
    (hs : ∀ x, foldedSetIterable iter X.env x = pure x := by intro _; rfl) : DS X W (.For tg iter body [] pos) (sFor ci p cb) := ps_imp (ps_for hp hc hi hg hb hs) fun D σ H ⟨ι, h, ρ, R, S, q⟩ => by
  refine ⟨ι, h, ρ, R, S, Post.imp (PostS.then q S) fun J H1 ⟨ι1, h1, it, x1, R1, ⟨G, Y, w, st, yd⟩, q1⟩ => ?_⟩
  refine for_it w (fun i σ H => ∃ ι h ρ, Ext ι1 H1 ι H ∧ Rel X.K ι h H ∧ RS X.K ι H ρ σ ∧ PostS X.K W (loopF p cb it.gs (it.items.drop i) ρ h) ι H D) ⟨ι1, h1, ρ, .refl, R1, S.mono x1, q1⟩ ?_ ?_ ?_
  · rintro i σ2 H2 _ ⟨ι2, h2, ρ2, x2, R2, S2, q2⟩
    exact st ι2 H2 h2 x2.upF R2 (loopF_ok q2)
  · rintro i x σ2 H2 H3 hi ⟨ι2, h2, ρ2, x2, R2, S2, q2⟩ y
    have og := loopF_ok q2
    obtain ⟨d, e, rd, x3, R3, _⟩ := yd i H2 x H3 ι2 h2 hi y x2.upF R2 og
    have ed : it.items.drop i = d :: it.items.drop (i + 1) := by
      obtain ⟨hl, e1⟩ := List.getElem?_eq_some_iff.mp e
      rw [← e1]
      exact List.drop_eq_getElem_cons hl
    rw [ed] at q2
    unfold loopF at q2
    rw [if_pos og] at q2
    cases ep : patD p d ρ2 with
    | none => rw [ep] at q2; exact q2.elim
    | some ρ3 =>
      rw [ep] at q2
      refine gPat_ok (vs := patIs p) p rd (S2.mono x3) ep (fun _ z => z) fun σ3 S3 _ => ?_
      refine ⟨ι2, h2, ρ3, R3, S3, ?_⟩
      have q2 := PostS.ext q2 x3
      cases eb : cb ρ3 h2 with
      | nx ρ4 h4 =>
        simp only [eb] at q2
        exact fun ι4 H4 σ4 x4 R4 S4 => ⟨ι4, h4, ρ4, (x2.trans x3).trans x4, R4, S4, PostS.ext q2 x4⟩
      | ct ρ4 h4 =>
        simp only [eb] at q2
        exact fun ι4 H4 σ4 x4 R4 S4 => ⟨ι4, h4, ρ4, (x2.trans x3).trans x4, R4, S4, PostS.ext q2 x4⟩
      | bk ρ4 h4 => simp only [eb] at q2; exact q2
      | ret d4 h4 => simp only [eb] at q2; exact q2
      | exc ρ4 C fs h4 => simp only [eb] at q2; exact q2
      | bad => simp only [eb] at q2; exact q2
  · rintro σ2 H2 ⟨ι2, h2, ρ2, x2, R2, S2, q2⟩
    have og := loopF_ok q2
    rw [List.drop_length] at q2
    unfold loopF at q2
    rw [if_pos og] at q2
    exact q2 ι2 H2 σ2 .refl R2 S2

/-! ### while: at most n turns -/
def whileF (ct : Env → M Bool) (body : SM) : Nat → SM
  | 0, _, _ => .bad
  | n + 1, ρ, h => (ct ρ h).then ρ fun b h1 => if b = true then (match body ρ h1 with
    | .nx ρ2 h2 => whileF ct body n ρ2 h2
    | .ct ρ2 h2 => whileF ct body n ρ2 h2
    | .bk ρ2 h2 => .nx ρ2 h2
    | r => r) else .nx ρ h1
/-- a limit that a function of the state gives -/
def sWhile (lim : Env → Hs → Nat) (ct : Env → M Bool) (body : SM) : SM := fun ρ h => whileF ct body (lim ρ h) ρ h
theorem ds_while {c : Expr} {ct : Env → M Bool} {lim : Env → Hs → Nat} (hp : PassesOwn (model X.prog X.w) X.A X.env X.xe) (hc : DT X W c ct) (hb : DSs X W body cb) : DS X W (.While c body [] pos) (sWhile lim ct cb) := ps_imp (ps_while hp hc hb) fun D σ H ⟨ι, h, ρ, R, S, q⟩ => by
  refine ⟨fun n σ H => ∃ ι h ρ, Rel X.K ι h H ∧ RS X.K ι H ρ σ ∧ PostS X.K W (whileF ct cb n ρ h) ι H D, ⟨lim ρ h, ι, h, ρ, R, S, q⟩, ?_⟩
  rintro n σ2 H2 ⟨ι2, h2, ρ2, R2, S2, q2⟩
  cases n with
  | zero => exact q2.elim
  | succ n =>
    unfold whileF at q2
    refine ⟨ι2, h2, ρ2, R2, S2, Post.imp (PostS.then q2 S2) fun b H3 ⟨ι3, h3, d, x3, R3, r3, q3⟩ => ?_⟩
    subst r3
    cases d with
    | false =>
      rw [if_neg Bool.false_ne_true] at q3 ⊢
      exact q3 ι3 H3 σ2 .refl R3 (S2.mono x3)
    | true =>
      rw [if_pos rfl] at q3 ⊢
      refine ⟨fun σ H => ∃ ι h ρ, Rel X.K ι h H ∧ RS X.K ι H ρ σ ∧ PostS X.K W (whileF ct cb n ρ h) ι H D, fun σ' H' z => ⟨n, Nat.lt_succ_self _, z⟩, ι3, h3, ρ2, R3, S2.mono x3, ?_⟩
      cases eb : cb ρ2 h3 with
      | nx ρ4 h4 =>
        simp only [eb] at q3
        exact fun ι4 H4 σ4 x4 R4 S4 => ⟨ι4, h4, ρ4, R4, S4, PostS.ext q3 x4⟩
      | ct ρ4 h4 =>
        simp only [eb] at q3
        exact fun ι4 H4 σ4 x4 R4 S4 => ⟨ι4, h4, ρ4, R4, S4, PostS.ext q3 x4⟩
      | bk ρ4 h4 => simp only [eb] at q3; exact q3
      | ret d4 h4 => simp only [eb] at q3; exact q3
      | exc ρ4 C fs h4 => simp only [eb] at q3; exact q3
      | bad => simp only [eb] at q3; exact q3
end
end Dl

/-! The D layer, 9: patterns, what is walked. -/
namespace Dl
open PySem PySem.Spec PyProof.Rows L2
variable [Tb]

section
variable {X : Cx} {W : WX} {pos : Pos}
/-! ### patterns -/
theorem pg_nm {i : Nat} {x : Str} (hN : X.N.Nodup) (hi : X.N[i]? = some x := by rfl) (hx : Loc X.env.scope x := by first | exact Or.inl rfl | exact Or.inr rfl) (hf : X.fn x = true ∨ X.env.scope.names.lookup x = some .local := by first | exact .inl rfl | exact .inr rfl | assumption) : PG X (.Name x pos) (gPat X.K (.nm i)) := by
  unfold gPat
  exact pg_name hN hi hx hf
theorem pgs_no : PGs X [] (gPats X.K []) := by
  unfold gPats
  exact pgs_nil
theorem pgs_co {e : Expr} {es : List Expr} {p : Pat} {ps : List Pat} (h1 : PG X e (gPat X.K p)) (h2 : PGs X es (gPats X.K ps))
    (hs : (assignEach (e :: es) X.env).map (·.2) = assign e X.env :: (assignEach es X.env).map (·.2) := by rfl) : PGs X (e :: es) (gPats X.K (p :: ps)) := by
  unfold gPats
  exact pgs_cons h1 h2 hs
theorem pg_tp {es : List Expr} {k : Nat} {ps : List Pat} (hc : X.calm = true) (h : PGs X es (gPats X.K ps))
    (hn : (assignEach es X.env).length = ps.length := by rfl) (hst : (assignEach es X.env).findIdx? (·.1) = none := by rfl) : PG X (.Tuple es k pos) (gPat X.K (.tp ps)) := by
  unfold gPat
  exact pg_tup hc h hn hst

/-! ### a list or a tuple -/
def iSeqT (K : PySem.W.Frag) (tl : TE) : TI := fun σ H R => tl σ H fun x H1 => ∃ a, x = .ref a ∧ (((∃ xs, SqL K H1 a xs) ∧ R (Itl K a) H1) ∨ ((∃ xs, SqT K H1 a xs) ∧ R (Itt K a) H1))
theorem pi_seq {tg l : Expr} {tl : TE} (hl : PE X l tl) : PI X tg l (iSeqT X.K tl) := by
  refine ⟨fun pins s σ H R I h => ?_⟩
  refine thn (hl.run pins s σ H _ I h) fun v s1 ⟨x, H1, I1, r1, q1⟩ => ?_
  obtain ⟨a, e, q⟩ := q1
  subst e
  cases r1
  have new : ∀ b ∈ [s1.heap.objs.size], FpOk X pins H1 b := fun b hb => by
    have e : b = s1.heap.objs.size := by simpa using hb
    subst e
    exact I1.fpOk (Nat.le_refl _) (I1.hok.fresh (Nat.le_refl _))
  rcases q with ⟨⟨xs, hq⟩, q⟩ | ⟨⟨xs, hq⟩, q⟩
  · obtain ⟨its, rv, p, hz⟩ := I1.list hq
    refine wpAny_pyIter_list p.isList ?_
    exact ⟨s1.heap.objs.size, [s1.heap.objs.size], _, _, H1, rfl, I1.kept (t' := s1.toks) fun b o e => Heap.get?_push_of_some _ e, turn_list a _, ⟨_, Heap.get?_push_size _ rfl, rfl, rfl⟩, new, q⟩
  · obtain ⟨its, rv, p, hz⟩ := I1.tuple hq
    refine wpAny_pyIter_tuple (show s1.heap.IsTuple a its.toArray from p) ?_
    exact ⟨s1.heap.objs.size, [s1.heap.objs.size], _, _, H1, rfl, I1.kept (t' := s1.toks) fun b o e => Heap.get?_push_of_some _ e, turn_tuple a _, ⟨_, Heap.get?_push_size _ rfl, rfl, rfl⟩, new, q⟩
end
/-- what is walked, of a value -/
def itOf (h : Hs) : D → Option ItD
  | .tup xs => some ⟨xs, []⟩
  | .lst xs => some ⟨xs, []⟩
  | .scr ns => some ⟨ns.map .int, []⟩
  | .obj n => (match h[n]? with
    | some (.lst xs) => some ⟨xs, [(n, xs)]⟩
    | _ => none)
  | _ => none
section
variable {K : PySem.W.Frag} {ι : Ix} {H : Hp} {h : Hs}
theorem walk_listN {a : Addr} {n : Nat} : Walk (Itl K a) n (fun H => ∃ vs, SqL K H a vs ∧ vs.length = n) (fun i Hc x H' => H' = Hc ∧ ∀ ys, SqL K Hc a ys → ys[i]? = some x) :=
  ⟨fun i _ hi ⟨vs, q, e⟩ => ⟨vs, vs[i], q, by simp [e, hi]⟩, fun _ ⟨vs, q, e⟩ => ⟨vs, q, by omega⟩, fun _ _ _ _ _ _ y => y⟩
theorem walk_tupN {a : Addr} {n : Nat} : Walk (Itt K a) n (fun H => ∃ vs, SqT K H a vs ∧ vs.length = n) (fun i Hc x H' => H' = Hc ∧ ∀ ys, SqT K Hc a ys → ys[i]? = some x) :=
  ⟨fun i _ hi ⟨vs, q, e⟩ => ⟨vs, vs[i], q, by simp [e, hi]⟩, fun _ ⟨vs, q, e⟩ => ⟨vs, q, by omega⟩, fun _ _ _ _ _ _ y => y⟩
/-- a list whose state gives its items at any time -/
theorem ri_list {a : Addr} {it : ItD} (f : ∀ ι' H' h', Up ι H ι' H' → Rel K ι' h' H' → okG it.gs h' = true → ∃ vs, SqL K H' a vs ∧ RDs K ι' H' it.items vs) : RI K ι H it (Itl K a) := by
  refine ⟨_, _, walk_listN, fun ι' H' h' u R g => ?_, fun i Hc x H' ι' h' hi y u R g => ?_⟩
  · obtain ⟨vs, q, r⟩ := f ι' H' h' u.up R g
    exact ⟨vs, q, r.length.symm⟩
  · obtain ⟨rfl, y⟩ := y
    obtain ⟨vs, q, r⟩ := f ι' _ h' u.up R g
    obtain ⟨d, e, rd⟩ := r.getV (y vs q)
    exact ⟨d, e, rd, .refl, R, fun _ _ z => z⟩
theorem ri_tup {a : Addr} {it : ItD} (f : ∀ ι' H' h', Up ι H ι' H' → Rel K ι' h' H' → okG it.gs h' = true → ∃ vs, SqT K H' a vs ∧ RDs K ι' H' it.items vs) : RI K ι H it (Itt K a) := by
  refine ⟨_, _, walk_tupN, fun ι' H' h' u R g => ?_, fun i Hc x H' ι' h' hi y u R g => ?_⟩
  · obtain ⟨vs, q, r⟩ := f ι' H' h' u.up R g
    exact ⟨vs, q, r.length.symm⟩
  · obtain ⟨rfl, y⟩ := y
    obtain ⟨vs, q, r⟩ := f ι' _ h' u.up R g
    obtain ⟨d, e, rd⟩ := r.getV (y vs q)
    exact ⟨d, e, rd, .refl, R, fun _ _ z => z⟩
/-- a value that is walked: a list all the time, or a tuple all the time -/
theorem itOf_ok {x : D} {v : V} {it : ItD} (r : RD K ι H x v) (e : itOf h x = some it) : ∃ a, v = .ref a ∧
    ((∀ ι' H' h', Up ι H ι' H' → Rel K ι' h' H' → okG it.gs h' = true → ∃ vs, SqL K H' a vs ∧ RDs K ι' H' it.items vs) ∨ (∀ ι' H' h', Up ι H ι' H' → Rel K ι' h' H' → okG it.gs h' = true → ∃ vs, SqT K H' a vs ∧ RDs K ι' H' it.items vs)) := by
  cases r with
  | tup t rs => cases e; exact ⟨_, rfl, .inr fun ι' H' h' u R _ => ⟨_, (t.up u).sq, rs.up u⟩⟩
  | lst t rs => cases e; exact ⟨_, rfl, .inl fun ι' H' h' u R _ => ⟨_, (t.up u).sq, rs.up u⟩⟩
  | scr t => cases e; exact ⟨_, rfl, .inl fun ι' H' h' u R _ => ⟨_, (t.up u).sq, RDs.ofInts⟩⟩
  | @obj n a g =>
    have e : (match h[n]? with
    | some (.lst xs) => some (ItD.mk xs [(n, xs)])
    | _ => none) = some it := e
    split at e
    · cases e
      refine ⟨_, rfl, .inl fun ι' H' h' u R og => ?_⟩
      obtain ⟨vs, h1, h2⟩ := R.at (u.get _ _ g) (okG_at og List.mem_cons_self)
      exact ⟨vs, SqL.of h1, h2⟩
    · cases e
  | _ => cases e
def iSeq (ce : Env → M D) : Env → M ItD := fun ρ h => (ce ρ h).bind fun x h1 => match itOf h1 x with
  | some it => if okG it.gs h1 then .ok it h1 else .bad
  | none => .bad
variable {X : Cx} {W : WX} {pos : Pos} {ce : Env → M D} {cs : Env → M (List D)}
theorem di_seq {tg l : Expr} (hl : DE X W l ce) : DI X W tg l (iSeq ce) := pi_imp (pi_seq hl) fun σ H Q ⟨ι, h, ρ, R, S, p⟩ => by
  refine ⟨ι, h, ρ, R, S, Post.imp (Post.bind p) fun x H1 ⟨ι1, h1, dx, x1, R1, r1, p1⟩ => ?_⟩
  split at p1
  · rename_i it e
    obtain ⟨g, p1⟩ := p1.guard
    obtain ⟨a, rfl, f⟩ := itOf_ok r1 e
    rcases f with f | f
    · obtain ⟨vs, q, _⟩ := f ι1 H1 h1 (Ext.refl.up) R1 g
      exact ⟨a, rfl, .inl ⟨⟨vs, q⟩, p1.ok R1 (ri_list f)⟩⟩
    · obtain ⟨vs, q, _⟩ := f ι1 H1 h1 (Ext.refl.up) R1 g
      exact ⟨a, rfl, .inr ⟨⟨vs, q⟩, p1.ok R1 (ri_tup f)⟩⟩
  · exact p1.elim

/-! ### range -/
def rng : Int → Int → Nat → List D
  | _, _, 0 => []
  | a, c, n + 1 => .int a :: rng (a + c) c n
theorem rng_len : ∀ (n : Nat) (a c : Int), (rng a c n).length = n
  | 0, _, _ => rfl
  | n + 1, a, c => by unfold rng; rw [List.length_cons, rng_len n]
theorem rng_at : ∀ (n : Nat) (a c : Int) (i : Nat), i < n → (rng a c n)[i]? = some (.int (a + (i : Nat) * c))
  | 0, _, _, _, h => absurd h (Nat.not_lt_zero _)
  | n + 1, a, c, 0, _ => by unfold rng; simp
  | n + 1, a, c, i + 1, h => by
    unfold rng
    rw [List.getElem?_cons_succ, rng_at n (a + c) c i (Nat.lt_of_succ_lt_succ h)]
    congr 2
    rw [Int.natCast_succ, Int.add_mul, Int.one_mul]
    omega
theorem ri_fn {J : It} {a c : Int} {n : Nat} (w : Walk J n (fun _ => True) (YFn fun i => .int (a + (i : Nat) * c))) : RI K ι H ⟨rng a c n, []⟩ J := by
  have w' : Walk J (rng a c n).length (fun _ => True) (YFn fun i => .int (a + (i : Nat) * c)) := by rw [rng_len]; exact w
  refine ⟨_, _, w', fun _ _ _ _ _ _ => trivial, fun i Hc x H' ι' h' hi y u R g => ?_⟩
  obtain ⟨rfl, rfl⟩ := y
  rw [show (ItD.mk (rng a c n) []).items = rng a c n from rfl, rng_len] at hi
  exact ⟨_, rng_at n a c i hi, .int _, .refl, R, fun _ _ z => z⟩
def okI (i : Int) : Bool := decide (-4611686018427387904 ≤ i ∧ i < 4611686018427387904)
theorem okI_ok {i : Int} (h : okI i = true) : -(2 ^ 62) ≤ i ∧ i < 2 ^ 62 := by
  have := of_decide_eq_true h
  omega
def iR1 (cs : Env → M (List D)) : Env → M ItD := fun ρ h => (cs ρ h).bind fun ds h1 => match ds with
  | [.int j] => if okI j then .ok ⟨rng 0 1 j.toNat, []⟩ h1 else .bad
  | _ => .bad
def iR2 (cs : Env → M (List D)) : Env → M ItD := fun ρ h => (cs ρ h).bind fun ds h1 => match ds with
  | [.int i, .int j] => if okI i && okI j then .ok ⟨rng i 1 (j - i).toNat, []⟩ h1 else .bad
  | _ => .bad
def iR3 (cs : Env → M (List D)) : Env → M ItD := fun ρ h => (cs ρ h).bind fun ds h1 => match ds with
  | [.int i, .int j, .int k] => if okI i && okI j && decide (k = -1) then .ok ⟨rng i (-1) (i - j).toNat, []⟩ h1 else .bad
  | _ => .bad
theorem walk_r1 {lo : Int} {n : Nat} : Walk (Itr lo n) n (fun _ => True) (YFn fun i => .int (lo + (i : Nat) * 1)) := walk_range.mono (fun _ z => z) fun i H x H' _ _ y => ⟨y.1, by rw [y.2]; simp only [Int.mul_one]⟩
theorem di_range1 {tg a : Expr} {p : Pos} (hg : Gl X "range") (hm : X.mg "range" = none) (ha : DA X W [a] cs) (hs : starEach [a] X.env = [(false, eval a X.env)] := by rfl) : DI X W tg (.Call (.Name "range" p) [a] [] pos) (iR1 cs) := pi_imp (pi_range1 hg hm ha hs) fun σ H Q ⟨ι, h, ρ, R, S, p⟩ => by
  refine ⟨ι, h, ρ, R, S, Post.imp (Post.bind p) fun vs H1 ⟨ι1, h1, ds, x1, R1, r1, p1⟩ => ?_⟩
  split at p1
  · rename_i j
    obtain ⟨c, p1⟩ := p1.guard
    cases r1 with
    | cons r rr =>
      cases r
      cases rr
      exact ⟨j, rfl, (okI_ok c).1, (okI_ok c).2, p1.ok R1 (ri_fn walk_r1)⟩
  · exact p1.elim
/-! ### enumerate, zip: new pairs -/
theorem ri_pair {J : It} {it : ItD} {G : Hp → Prop} {A B : Nat → Hp → V → Prop} (w : Walk J it.items.length G (fun i H v H' => ∃ T x y, v = .ref T ∧ H T = none ∧ H' = upd H T (.tup [x, y]) ∧ A i H x ∧ B i H y))
    (f : ∀ ι' H' h', Up ι H ι' H' → Rel K ι' h' H' → okG it.gs h' = true → G H')
    (k : ∀ i ι' H' h' x y, i < it.items.length → Up ι H ι' H' → Rel K ι' h' H' → okG it.gs h' = true → A i H' x → B i H' y → ∃ d e, it.items[i]? = some (.tup [d, e]) ∧ RD K ι' H' d x ∧ RD K ι' H' e y) : RI K ι H it J := by
  refine ⟨_, _, w, fun ι' H' h' u => f ι' H' h' u.up, fun i Hc v H' ι' h' hi y u R g => ?_⟩
  obtain ⟨T, x, y, rfl, hT, rfl, ha, hb⟩ := y
  obtain ⟨d, e, h1, h2, h3⟩ := k i ι' Hc h' x y hi u.up R g ha hb
  exact ⟨_, h1, .tup (.inl ⟨R.out hT, .inl upd_same⟩) (.cons (h2.mono (.put hT)) (.cons (h3.mono (.put hT)) .nil)), .put hT, R.put hT, upd_keep hT⟩
theorem walk_enumN {a : Addr} {n : Nat} : Walk (Ite K a) n (fun H => ∃ vs, SqL K H a vs ∧ vs.length = n) (fun i H v H' => ∃ T x y, v = .ref T ∧ H T = none ∧ H' = upd H T (.tup [x, y]) ∧ x = .int (i : Nat) ∧ ∀ ys, SqL K H a ys → ys[i]? = some y) := by
  refine ⟨fun i _ hi ⟨vs, q, e⟩ => ⟨vs, vs[i], q, by simp [e, hi]⟩, fun _ ⟨vs, q, e⟩ => ⟨vs, q, by omega⟩, fun i H v H' _ _ y => ?_⟩
  obtain ⟨T, x, h1, h2, h3, h4⟩ := y
  exact ⟨T, .int (i : Nat), x, h1, h2, h3, rfl, h4⟩
theorem walk_zipN {a b : Addr} {n : Nat} : Walk (Itz K a b) n (fun H => ∃ vs us, SqL K H a vs ∧ SqL K H b us ∧ n = min vs.length us.length) (fun i H v H' => ∃ T x y, v = .ref T ∧ H T = none ∧ H' = upd H T (.tup [x, y]) ∧ (∀ ys, SqL K H a ys → ys[i]? = some x) ∧ ∀ ys, SqL K H b ys → ys[i]? = some y) := by
  refine ⟨fun i _ hi ⟨vs, us, q, q', e⟩ => ?_, fun _ ⟨vs, us, q, q', e⟩ => ⟨vs, us, q, q', by omega⟩, fun i H v H' _ _ y => y⟩
  have h1 : i < vs.length := by omega
  have h2 : i < us.length := by omega
  exact ⟨vs, us, vs[i], us[i], q, q', by simp [h1], by simp [h2]⟩
theorem walk_zipTN {a b : Addr} {n : Nat} : Walk (RZ.ItzT K a b) n (fun H => ∃ vs us, SqT K H a vs ∧ SqT K H b us ∧ n = min vs.length us.length) (fun i H v H' => ∃ T x y, v = .ref T ∧ H T = none ∧ H' = upd H T (.tup [x, y]) ∧ (∀ ys, SqT K H a ys → ys[i]? = some x) ∧ ∀ ys, SqT K H b ys → ys[i]? = some y) := by
  refine ⟨fun i _ hi ⟨vs, us, q, q', e⟩ => ?_, fun _ ⟨vs, us, q, q', e⟩ => ⟨vs, us, q, q', by omega⟩, fun i H v H' _ _ y => y⟩
  have h1 : i < vs.length := by omega
  have h2 : i < us.length := by omega
  exact ⟨vs, us, vs[i], us[i], q, q', by simp [h1], by simp [h2]⟩
def enumD : Nat → List D → List D
  | _, [] => []
  | n, x :: xs => .tup [.int n, x] :: enumD (n + 1) xs
theorem enumD_len : ∀ (xs : List D) (n : Nat), (enumD n xs).length = xs.length
  | [], _ => rfl
  | x :: xs, n => by unfold enumD; rw [List.length_cons, List.length_cons, enumD_len xs]
theorem enumD_at : ∀ (xs : List D) (n i : Nat) (d : D), xs[i]? = some d → (enumD n xs)[i]? = some (.tup [.int ((n + i : Nat) : Int), d])
  | [], _, _, _, e => by simp at e
  | x :: xs, n, 0, d, e => by unfold enumD; simp at e ⊢; exact e
  | x :: xs, n, i + 1, d, e => by
    unfold enumD
    rw [List.getElem?_cons_succ, enumD_at xs (n + 1) i d (by simpa using e)]
    congr 5
    omega
def zipD : List D → List D → List D
  | x :: xs, y :: ys => .tup [x, y] :: zipD xs ys
  | _, _ => []
theorem zipD_len : ∀ (xs ys : List D), (zipD xs ys).length = min xs.length ys.length
  | [], ys => by cases ys <;> simp [zipD]
  | _ :: _, [] => by simp [zipD]
  | x :: xs, y :: ys => by unfold zipD; rw [List.length_cons, List.length_cons, List.length_cons, zipD_len xs]; omega
theorem zipD_at : ∀ (xs ys : List D) (i : Nat) (d e : D), xs[i]? = some d → ys[i]? = some e → (zipD xs ys)[i]? = some (.tup [d, e])
  | [], _, _, _, _, h, _ => by simp at h
  | _ :: _, [], _, _, _, _, h => by simp at h
  | x :: xs, y :: ys, 0, d, e, h1, h2 => by simp at h1 h2; subst h1 h2; rfl
  | x :: xs, y :: ys, i + 1, d, e, h1, h2 => by
    unfold zipD
    rw [List.getElem?_cons_succ]
    exact zipD_at xs ys i d e (by simpa using h1) (by simpa using h2)
def isT : D → Bool
  | .tup _ => true
  | _ => false
def iZip (cs : Env → M (List D)) : Env → M ItD := fun ρ h => (cs ρ h).bind fun ds h1 => match ds with
  | [x, y] => if isT x == isT y then (match itOf h1 x, itOf h1 y with
    | some it, some jt => if okG it.gs h1 && okG jt.gs h1 then .ok ⟨zipD it.items jt.items, it.gs ++ jt.gs⟩ h1 else .bad
    | _, _ => .bad) else .bad
  | _ => .bad
theorem okG_app {a b : List (Nat × List D)} {h : Hs} (e : okG (a ++ b) h = true) : okG a h = true ∧ okG b h = true := by
  unfold okG at e ⊢
  rw [List.all_append] at e
  exact Bool.and_eq_true_iff.mp e
/-- a value that is walked, by its kind -/
theorem itOf_L {x : D} {v : V} {it : ItD} (r : RD K ι H x v) (e : itOf h x = some it) (nt : isT x = false) : ∃ a, v = .ref a ∧ ∀ ι' H' h', Up ι H ι' H' → Rel K ι' h' H' → okG it.gs h' = true → ∃ vs, SqL K H' a vs ∧ RDs K ι' H' it.items vs := by
  cases r with
  | tup t rs => cases nt
  | lst t rs => cases e; exact ⟨_, rfl, fun ι' H' h' u R _ => ⟨_, (t.up u).sq, rs.up u⟩⟩
  | scr t => cases e; exact ⟨_, rfl, fun ι' H' h' u R _ => ⟨_, (t.up u).sq, RDs.ofInts⟩⟩
  | @obj n a g =>
    have e : (match h[n]? with
    | some (.lst xs) => some (ItD.mk xs [(n, xs)])
    | _ => none) = some it := e
    split at e
    · cases e
      refine ⟨_, rfl, fun ι' H' h' u R og => ?_⟩
      obtain ⟨vs, h1, h2⟩ := R.at (u.get _ _ g) (okG_at og List.mem_cons_self)
      exact ⟨vs, SqL.of h1, h2⟩
    · cases e
  | _ => cases e
theorem itOf_T {x : D} {v : V} {it : ItD} (r : RD K ι H x v) (e : itOf h x = some it) (nt : isT x = true) : ∃ a, v = .ref a ∧ ∀ ι' H' h', Up ι H ι' H' → Rel K ι' h' H' → okG it.gs h' = true → ∃ vs, SqT K H' a vs ∧ RDs K ι' H' it.items vs := by
  cases r with
  | tup t rs => cases e; exact ⟨_, rfl, fun ι' H' h' u R _ => ⟨_, (t.up u).sq, rs.up u⟩⟩
  | _ => cases nt
theorem di_zip {a b : Expr} {p tpos : Pos} {elts : List Expr} {kk : Nat} (hg : Gl X "zip") (hm : X.mg "zip" = none) (ha : DA X W [a, b] cs)
    (hs : starEach [a, b] X.env = (false, eval a X.env) :: starEach [b] X.env := by rfl) (hpl : (backTo pos (starEach [b] X.env)).any (·.1) = false := by rfl) : DI X W (.Tuple elts kk tpos) (.Call (.Name "zip" p) [a, b] [] pos) (iZip cs) := pi_imp (RZ.pi_zipA hg hm ha hs hpl) fun σ H Q ⟨ι, h, ρ, R, S, p⟩ => by
  refine ⟨ι, h, ρ, R, S, Post.imp (Post.bind p) fun vs H1 ⟨ι1, h1, ds, x1, R1, r1, p1⟩ => ?_⟩
  split at p1
  · rename_i x y
    obtain ⟨et, p1⟩ := p1.guard
    have et : isT x = isT y := by simpa using et
    split at p1
    · rename_i it jt e1 e2
      obtain ⟨g, p1⟩ := p1.guard
      obtain ⟨g1, g2⟩ := Bool.and_eq_true_iff.mp g
      cases r1 with
      | cons r rr =>
        cases rr with
        | cons r' rr =>
          cases rr
          cases ex : isT x with
          | false =>
            obtain ⟨a, rfl, f⟩ := itOf_L r e1 ex
            obtain ⟨b, rfl, f'⟩ := itOf_L r' e2 (et ▸ ex)
            obtain ⟨vs, q, _⟩ := f ι1 H1 h1 (Ext.refl.up) R1 g1
            obtain ⟨us, q', _⟩ := f' ι1 H1 h1 (Ext.refl.up) R1 g2
            refine ⟨a, b, vs, us, rfl, .inl ⟨q, q', p1.ok R1 (ri_pair (walk_zipN (n := (zipD it.items jt.items).length)) (fun ι' H' h' u R g => ?_) fun i ι' H' h' y z hi u R g hy hz => ?_)⟩⟩
            · obtain ⟨vs, q, r⟩ := f ι' H' h' u R (okG_app g).1
              obtain ⟨us, q', r'⟩ := f' ι' H' h' u R (okG_app g).2
              exact ⟨vs, us, q, q', by rw [zipD_len, r.length, r'.length]⟩
            · obtain ⟨vs, q, r⟩ := f ι' H' h' u R (okG_app g).1
              obtain ⟨us, q', r'⟩ := f' ι' H' h' u R (okG_app g).2
              obtain ⟨d, e1, e2⟩ := r.getV (hy vs q)
              obtain ⟨d', e1', e2'⟩ := r'.getV (hz us q')
              exact ⟨d, d', zipD_at _ _ _ _ _ e1 e1', e2, e2'⟩
          | true =>
            obtain ⟨a, rfl, f⟩ := itOf_T r e1 ex
            obtain ⟨b, rfl, f'⟩ := itOf_T r' e2 (et ▸ ex)
            obtain ⟨vs, q, _⟩ := f ι1 H1 h1 (Ext.refl.up) R1 g1
            obtain ⟨us, q', _⟩ := f' ι1 H1 h1 (Ext.refl.up) R1 g2
            refine ⟨a, b, vs, us, rfl, .inr ⟨q, q', p1.ok R1 (ri_pair (walk_zipTN (n := (zipD it.items jt.items).length)) (fun ι' H' h' u R g => ?_) fun i ι' H' h' y z hi u R g hy hz => ?_)⟩⟩
            · obtain ⟨vs, q, r⟩ := f ι' H' h' u R (okG_app g).1
              obtain ⟨us, q', r'⟩ := f' ι' H' h' u R (okG_app g).2
              exact ⟨vs, us, q, q', by rw [zipD_len, r.length, r'.length]⟩
            · obtain ⟨vs, q, r⟩ := f ι' H' h' u R (okG_app g).1
              obtain ⟨us, q', r'⟩ := f' ι' H' h' u R (okG_app g).2
              obtain ⟨d, e1, e2⟩ := r.getV (hy vs q)
              obtain ⟨d', e1', e2'⟩ := r'.getV (hz us q')
              exact ⟨d, d', zipD_at _ _ _ _ _ e1 e1', e2, e2'⟩
    · exact p1.elim
  · exact p1.elim
end
end Dl

/-! The D layer, 10: comprehensions. -/
namespace Dl
open PySem PySem.Spec PyProof.Rows L2
variable [Tb]

def wipeD (ρ : Env) : List Nat → Env
  | [] => ρ
  | v :: vs => (wipeD ρ vs).set v none
def R.nox {α : Type} (r : R α) : R α := match r with
  | .ok a h => .ok a h
  | _ => .bad
def lcF (p : Pat) (ct : Env → M Bool) (ce : Env → M D) (gs : List (Nat × List D)) (ρ : Env) : List D → M (List D)
  | [], h => if okG gs h then .ok [] h else .bad
  | x :: xs, h => if okG gs h then (match patD p x ρ with
    | none => .bad
    | some ρ1 => (ct ρ1 h).nox.bind fun b h1 => if b = true then (ce ρ1 h1).nox.bind fun d h2 => (lcF p ct ce gs ρ xs h2).bind fun ds h3 => .ok (d :: ds) h3 else lcF p ct ce gs ρ xs h1) else .bad
def nLc (ci : Env → M ItD) (p : Pat) (own : List Nat) (ct : Env → M Bool) (ce : Env → M D) : Env → M (List D) := fun ρ h =>
  (ci ρ h).bind fun it h1 => if okLen it.items.length then lcF p ct ce it.gs (wipeD ρ own) it.items h1 else .bad
def tYes' : Env → M Bool := fun _ h => .ok true h
def NoW : WX := fun _ _ _ _ => False
section
variable {K : PySem.W.Frag} {ι ι1 : Ix} {H H1 : Hp} {h : Hs} {ρ : Env} {σ : L2.St}
theorem RS.wipe (S : RS K ι H ρ σ) : ∀ vs : List Nat, RS K ι H (wipeD ρ vs) (L2.wipe σ vs)
  | [] => S
  | v :: vs => by
    have ih := RS.wipe S vs
    refine ⟨?_, fun j d g => ?_⟩
    · show ((wipeD ρ vs).set v none).length = ((L2.wipe σ vs).set v none).length
      rw [List.length_set, List.length_set]
      exact ih.1
    · have g : ((wipeD ρ vs).set v none)[j]? = some (some d) := g
      show ∃ w, ((L2.wipe σ vs).set v none)[j]? = some (some w) ∧ _
      by_cases e : v = j
      · subst e
        by_cases hl : v < (wipeD ρ vs).length
        · rw [List.getElem?_set_self hl] at g; cases g
        · rw [List.getElem?_eq_none (by rw [List.length_set]; omega)] at g; cases g
      · rw [List.getElem?_set_ne e] at g ⊢
        exact ih.2 j d g
theorem wipe_wipe {vs : List Nat} : L2.wipe (L2.wipe σ vs) vs = L2.wipe σ vs := by
  apply List.ext_getElem?
  intro j
  by_cases hj : j ∈ vs
  · rw [wipe_in hj, wipe_in hj, wipe_length]
  · rw [wipe_out hj]
theorem PostN.nox {W : XK} {W' : XK} {α β : Type} {RA : Ix → Hp → α → β → Prop} {r : R α} {f : α → M (List D)} {ιb : Ix} {Hb : Hp} {Q : VK} (p : PostN K W (r.nox.bind f) ιb Hb Q) :
    Post K W' RA r ι H (fun b H1 => ∃ ι1 h1 a, Ext ι H ι1 H1 ∧ Rel K ι1 h1 H1 ∧ RA ι1 H1 a b ∧ PostN K W (f a h1) ιb Hb Q) := by
  cases r with
  | ok a h => exact fun ι' H' b e R ra => ⟨ι', h, a, e, R, ra, p⟩
  | exc C fs h => exact (show False from p).elim
  | bad => exact (show False from p).elim
/-- a list that is being made, changed -/
theorem Ext.inner {p : Addr} {o : HO} (e : Ext (ι.with p) H ι1 H1) : ∃ ι2 : Ix, ι1 = ι2.with p ∧ ι2.rs = ι.rs ∧ ι2.os = ι1.os := by
  refine ⟨⟨ι1.os, ι.rs⟩, ?_, rfl, rfl⟩
  have e1 : ι1.rs = p :: ι.rs := e.rs
  show ι1 = ⟨ι1.os, p :: ι.rs⟩
  rw [← e1]
theorem Up.chgr {p : Addr} {o : HO} : Up (ι.with p) H (ι.with p) (upd H p o) := ⟨fun _ _ e => e, fun a u e f => ⟨by rw [upd_ne fun z => f.2 (by rw [z]; exact List.mem_cons_self)]; exact e, f⟩⟩
theorem Rel.chgr {p : Addr} {o : HO} {u : HO} (R : Rel K (ι.with p) h H) (n : p ∉ ι.os) (ep : H p = some u) (np : NT u := by intro _ z; cases z) : Rel K (ι.with p) h (upd H p o) := by
  refine ⟨R.len, R.nd, fun j a u e g => CellOk.up Up.chgr (upd_ne fun z => n (by rw [← z]; exact List.mem_of_getElem? e)) (R.cell j a u e g), fun a m => ?_, fun q m => ⟨(R.tab q m).1, (R.tab q m).2.up Up.chgr (upd_ne fun z => (R.tab q m).2.nt (by rw [z]; exact ep) np)⟩⟩
  by_cases z : a = p
  · rw [z, upd_same]; exact fun z => nomatch z
  · rw [upd_ne z]; exact R.res a m
theorem lcF_ok {p : Pat} {ct : Env → M Bool} {ce : Env → M D} {gs : List (Nat × List D)} {xs : List D} {W : XK} {f : List D → M (List D)} {Q : VK} (q : PostN K W ((lcF p ct ce gs ρ xs h).bind f) ι H Q) : okG gs h = true := by
  cases xs with
  | nil =>
    unfold lcF at q
    cases e : okG gs h with
    | true => rfl
    | false => rw [e] at q; exact (show False from q).elim
  | cons x xs =>
    unfold lcF at q
    cases e : okG gs h with
    | true => rfl
    | false => rw [e] at q; exact (show False from q).elim
theorem bind_assoc {α β γ : Type} (r : R α) (f : α → M β) (g : β → M γ) : (r.bind f).bind g = r.bind fun a h => (f a h).bind g := by
  cases r <;> rfl
theorem bind_ok {α β : Type} (a : α) (f : α → M β) (h : Hs) : (R.ok a h).bind f = f a h := rfl
theorem up2 {ι2 : Ix} {Hc : Hp} {p : Addr} (x2 : Ext ι1 H1 ι2 Hc) (hD : H1 p = none) : Up ι1 H1 (ι2.with p) Hc := by
  refine ⟨x2.up.get, fun a o e f => ?_⟩
  obtain ⟨z1, z2⟩ := x2.up.keep a o e f
  exact ⟨z1, z2.1, fun m => (List.mem_cons.mp m).elim (fun y => by rw [y, hD] at e; cases e) z2.2⟩
theorem RS.up' {ι' : Ix} {H' : Hp} (S : RS K ι H ρ σ) (u : Up ι H ι' H') : RS K ι' H' ρ σ := ⟨S.1, fun i d g => let ⟨v, h1, h2⟩ := S.2 i d g; ⟨v, h1, h2.up u⟩⟩
theorem ext_in {ι2 ι5 : Ix} {Hc H4 : Hp} {p : Addr} {vs : List V} (x2 : Ext ι1 H1 ι2 Hc) (hD : H1 p = none) (hp : Hc p = some (.lst vs)) (x : Ext (ι2.with p) Hc (ι5.with p) H4) : Ext ι1 H1 ι5 H4 := by
  have z : Ext ι2 Hc ι5 H4 := ⟨x.pre, by have e : p :: ι5.rs = p :: ι2.rs := x.rs; exact List.tail_eq_of_cons_eq e, fun a o ha hn hr => x.keep a o ha hn fun m => (List.mem_cons.mp m).elim (fun z => by
    rw [z, hp] at ha
    cases ha
    exact fun _ y => nomatch y) hr, x.new, x.frz, x.dom⟩
  exact x2.trans z
/-- the turns of a comprehension -/
theorem w_lc {W : WX} {ci : Env → M ItD} {p : Pat} {own : List Nat} {ct : Env → M Bool} {ce : Env → M D} {Q : VK} (hp : ∀ i, i ∈ patIs p → i ∈ own) (q : wN K W (nLc ci p own ct ce) σ H Q) : tLc (wI K W ci) (gPat K p) (wT K NoW ct) (wE K NoW ce) own σ H Q := by
  obtain ⟨ι, h, ρ, R, S, q⟩ := q
  refine ⟨ι, h, ρ, R, S, Post.imp (PostN.bind q) fun J H1 ⟨ι1, h1, it, x1, R1, ⟨G, Y, w, st, yd⟩, q1⟩ => ?_⟩
  obtain ⟨gl, q1⟩ := q1.guard
  intro Dd hD
  have S1 := S.mono x1
  have oD := R1.out hD
  have hDH : H Dd = none := x1.back hD fun z => oD.1 (by
    obtain ⟨t, e1⟩ := x1.pre
    rw [e1]
    exact List.mem_append_left _ z)
  refine lc_it w (fun i Hc => ∃ ι2 h2 acc vs, Ext ι1 H1 ι2 Hc ∧ Rel K (ι2.with Dd) h2 Hc ∧ Hc Dd = some (.lst vs) ∧ RDs K (ι2.with Dd) Hc acc vs ∧ Dd ∉ ι2.os ∧ acc.length ≤ i ∧
    PostN K (fun x d H' => W x d σ H') ((lcF p ct ce it.gs (wipeD ρ own) (it.items.drop i) h2).bind fun ds h3 => .ok (acc ++ ds) h3) ι H Q) ?_ ?_ ?_ ?_
  · refine ⟨ι1, h1, [], [], .put hD, R1.with hD (upd_keep hD) (by rw [upd_same]; exact fun z => nomatch z), upd_same, .nil, oD.1, Nat.zero_le _, ?_⟩
    rw [List.drop_zero]
    have e : ((lcF p ct ce it.gs (wipeD ρ own) it.items h1).bind fun ds h3 => .ok ([] ++ ds) h3) = lcF p ct ce it.gs (wipeD ρ own) it.items h1 := by
      cases lcF p ct ce it.gs (wipeD ρ own) it.items h1 <;> rfl
    rw [e]
    exact q1
  · rintro i Hc hi ⟨ι2, h2, acc, vs, x2, R2, hv, rv, nD, la, q2⟩
    exact st _ Hc h2 ⟨up2 x2 hD, x2.frz⟩ R2 (lcF_ok q2)
  · rintro i x Hc H' hi ⟨ι2, h2, acc, vs, x2, R2, hv, rv, nD, la, q2⟩ y
    have og := lcF_ok q2
    obtain ⟨d, e, rd, x3, R3, k3⟩ := yd i Hc x H' _ h2 hi y ⟨up2 x2 hD, x2.frz⟩ R2 og
    have ed : it.items.drop i = d :: it.items.drop (i + 1) := by
      obtain ⟨hl, e1⟩ := List.getElem?_eq_some_iff.mp e
      rw [← e1]
      exact List.drop_eq_getElem_cons hl
    rw [ed] at q2
    unfold lcF at q2
    rw [if_pos og] at q2
    cases ep : patD p d (wipeD ρ own) with
    | none => rw [ep] at q2; exact (show False from q2).elim
    | some ρ3 =>
      rw [ep] at q2
      have Sw : RS K (ι2.with Dd) H' (wipeD ρ own) (L2.wipe σ own) := ((S1.wipe own).up' (up2 x2 hD)).mono x3
      refine gPat_ok (vs := own) p rd Sw ep hp fun σ3 S3 w3 => ⟨w3.trans wipe_wipe, ?_⟩
      simp only [bind_assoc] at q2
      refine ⟨ι2.with Dd, h2, ρ3, R3, S3, Post.imp (PostN.nox q2) fun b H3 ⟨ι3, h3, b', x4, R4, rb, q3⟩ => ?_⟩
      subst rb
      have x34 := x3.trans x4
      have hi' : i < 16777216 := Nat.lt_of_lt_of_le hi (of_decide_eq_true gl)
      cases b' with
      | false =>
        rw [if_neg Bool.false_ne_true] at q3 ⊢
        obtain ⟨ι5, e5, er, eo⟩ := Ext.inner (o := .lst []) x34
        subst e5
        refine ⟨ι5, h3, acc, vs, ?_, R4, x34.keep _ _ hv nD (fun _ _ z => nomatch z), rv.mono x34, ?_, by omega, q3⟩
        · exact ext_in x2 hD hv x34
        · intro m
          rcases x34.new Dd m with z | z
          · exact nD z
          · rw [hv] at z; cases z
      | true =>
        rw [if_pos rfl] at q3 ⊢
        simp only [bind_assoc] at q3
        refine ⟨ι3, h3, ρ3, R4, S3.mono x4, Post.imp (PostN.nox q3) fun v H4 ⟨ι4, h4, dv, x5, R5, rb, q4⟩ => ?_⟩
        have x35 := x34.trans x5
        obtain ⟨ι5, e5, er, eo⟩ := Ext.inner (o := .lst []) x35
        subst e5
        have nD5 : Dd ∉ ι5.os := fun m => by
          rcases x35.new Dd m with z | z
          · exact nD z
          · rw [hv] at z; cases z
        have hv4 := x35.keep _ _ hv nD (fun _ _ z => nomatch z)
        have rv4 := rv.mono x35
        refine ⟨vs, hv4, by rw [sizeLine_eq, ← rv.length]; omega, ι5, h4, acc ++ [dv], vs ++ [v], ?_, R5.chgr nD5 hv4, upd_same, (rv4.append (.cons rb .nil)).up Up.chgr, nD5, by rw [List.length_append, List.length_singleton]; omega, ?_⟩
        · have z := ext_in x2 hD hv x35
          exact ⟨z.pre, z.rs, fun a o ha hn => by rw [upd_ne fun e => by rw [e, hD] at ha; cases ha]; exact z.keep a o ha hn, z.new, fun a od u ha => by rw [upd_ne fun e => by rw [e, hD] at ha; cases ha]; exact z.frz a od u ha, fun a n => upd_dom a (z.dom a n)⟩
        · have e : ((lcF p ct ce it.gs (wipeD ρ own) (it.items.drop (i + 1)) h4).bind fun ds h5 => .ok (acc ++ [dv] ++ ds) h5) = (lcF p ct ce it.gs (wipeD ρ own) (it.items.drop (i + 1)) h4).bind fun ds h5 => .ok (acc ++ (dv :: ds)) h5 := by
            congr 1
            funext ds h5
            rw [List.append_assoc]
            rfl
          rw [e]
          simp only [bind_ok] at q4
          exact q4
  · rintro Hc ⟨ι2, h2, acc, vs, x2, R2, hv, rv, nD, la, q2⟩
    have og := lcF_ok q2
    rw [List.drop_length] at q2
    unfold lcF at q2
    rw [if_pos og, bind_ok, List.append_nil] at q2
    have n2 : Dd ∉ ι2.rs := by rw [x2.rs]; exact oD.2
    exact q2 ι2 Hc Dd vs (x1.trans x2) R2 rv hv nD n2 hDH
section
variable {X : Cx} {W : WX} {pos : Pos}
abbrev DTs (X : Cx) (W : WX) (ifs : List Expr) (c : Env → M Bool) : Prop := PTs X ifs (wT X.K W c)
theorem dts_nil : DTs X W [] tYes' := by
  refine ⟨fun pins s σ H Q I ⟨ι, h, ρ, R, S, p⟩ => pts_nil.run pins s σ H Q I ?_⟩
  exact p.ok R rfl
theorem dn_lc {elt tg iter : Expr} {ifs : List Expr} {scope : Scope} {own : List (Str × Nat)} {ci : Env → M ItD} {p : Pat} {ct : Env → M Bool} {ce : Env → M D} (hc : X.calm = true) (hN : X.N.Nodup) (hi : DI X W tg iter ci) (ok : BlkOk X.N X.env.scope scope own)
    (hg : ∀ (s : Shared) (H : Hp) (C : Addr) (cl : List (Str × Addr)) (fp : List Addr), PG (X.blk s H scope (compEnvC scope cl C X.env) fp) tg (gPat X.K p)) (ht : ∀ (s : Shared) (H : Hp) (C : Addr) (cl : List (Str × Addr)) (fp : List Addr), DTs (X.blk s H scope (compEnvC scope cl C X.env) fp) NoW ifs ct)
    (he : ∀ (s : Shared) (H : Hp) (C : Addr) (cl : List (Str × Addr)) (fp : List Addr), DE (X.blk s H scope (compEnvC scope cl C X.env) fp) NoW elt ce) (hp : ∀ i, i ∈ patIs p → i ∈ own.map (·.2) := by decide) (hs : ∀ x, foldedSetIterable iter X.env x = pure x := by intro _; rfl) :
    DN X W (.ListComp elt [⟨tg, iter, ifs, 0⟩] scope pos) (nLc ci p (own.map (·.2)) ct ce) := pe_imp (pe_lc hc hN hi ok hg ht he hs) fun σ H Q q => w_lc hp q
theorem ds_setLc {f : (Env → M (List D)) → Env → M D} (hf : ∀ (cs : Env → M (List D)) σ H Q, wE X.K W (f cs) σ H Q → wN X.K W cs σ H Q) {i : Nat} {y : Str} {py spos : Pos} {elt tg iter : Expr} {ifs : List Expr} {scope : Scope} {own : List (Str × Nat)} {ci : Env → M ItD} {p : Pat} {ct : Env → M Bool} {ce : Env → M D} (hc : X.calm = true) (hN : X.N.Nodup) (hi : DI X W tg iter ci) (ok : BlkOk X.N X.env.scope scope own)
    (hg : ∀ (s : Shared) (H : Hp) (C : Addr) (cl : List (Str × Addr)) (fp : List Addr), PG (X.blk s H scope (compEnvC scope cl C X.env) fp) tg (gPat X.K p)) (ht : ∀ (s : Shared) (H : Hp) (C : Addr) (cl : List (Str × Addr)) (fp : List Addr), DTs (X.blk s H scope (compEnvC scope cl C X.env) fp) NoW ifs ct)
    (he : ∀ (s : Shared) (H : Hp) (C : Addr) (cl : List (Str × Addr)) (fp : List Addr), DE (X.blk s H scope (compEnvC scope cl C X.env) fp) NoW elt ce) (hy : X.N[i]? = some y := by rfl) (hyl : X.env.scope.names.lookup y = some .local := by rfl)
    (hk : X.env.scope.kind = .function := by rfl) (hl : (py.line == pos.line) = true := by rfl) (hl2 : (scope.names.any fun (n, k) => n == y && (k == .local || k == .cell)) = false := by rfl) (hp : ∀ i, i ∈ patIs p → i ∈ own.map (·.2) := by decide) (hs : ∀ x, foldedSetIterable iter X.env x = pure x := by intro _; rfl) :
    DS X W (.Assign [.Name y py] (.ListComp elt [⟨tg, iter, ifs, 0⟩] scope pos) spos) (sSet i (f (nLc ci p (own.map (·.2)) ct ce))) := ps_imp (ps_setLc hc hN hy hyl (sw_true hk hyl hl hl2) hi ok hg ht he hs) fun D σ H q => w_lc hp (hf _ _ _ _ (w_set q))
end
end
end Dl

/-! The D layer, 11: stores, methods of lists, {}. -/
namespace Dl
open PySem PySem.Spec PyProof.Rows L2
variable [Tb]

section
variable {X : Cx} {W : WX} {pos : Pos} {e o ix : Expr} {ce co cx : Env → M D} {cs : Env → M (List D)}
/-! ### a, b = x, y -/
def sPar2 (i j : Nat) (cs : Env → M (List D)) : SM := fun ρ h => (cs ρ h).then ρ fun xs h1 => match xs with
  | [x, y] => .nx ((ρ.set i (some x)).set j (some y)) h1
  | _ => .bad
def sPar3 (i j l : Nat) (cs : Env → M (List D)) : SM := fun ρ h => (cs ρ h).then ρ fun xs h1 => match xs with
  | [x, y, z] => .nx (((ρ.set i (some x)).set j (some y)).set l (some z)) h1
  | _ => .bad
theorem ds_par2 {i j : Nat} {x y : Str} {a b : Expr} {px py pt : Pos} {kt k2 pt2} (hc : X.calm = true) (hN : X.N.Nodup) (ha : DA X W [a, b] cs) (hi : X.N[i]? = some x := by rfl) (hj : X.N[j]? = some y := by rfl) (hij : i ≠ j := by decide)
    (hx : X.env.scope.names.lookup x = some .local := by rfl) (hy : X.env.scope.names.lookup y = some .local := by rfl)
    (hw : swappedStores [.Tuple [.Name x px, .Name y py] kt pt] (.Tuple [a, b] k2 pt2) X.env = pure (some [x, y]) := by rfl)
    (hs : swapsWithSole [.Tuple [.Name x px, .Name y py] kt pt] (.Tuple [a, b] k2 pt2) pos.line X.env = pure false := by rfl) :
    DS X W (.Assign [.Tuple [.Name x px, .Name y py] kt pt] (.Tuple [a, b] k2 pt2) pos) (sPar2 i j cs) := ps_imp (ps_par hc hN hi hj hij hx hy ha hw hs) fun D σ H ⟨ι, h, ρ, R, S, p⟩ => by
  refine ⟨ι, h, ρ, R, S, Post.imp (PostS.then p S) fun vs H1 ⟨ι1, h1, ds, x1, R1, r1, p1⟩ => ?_⟩
  split at p1
  · cases r1 with
    | cons r rr =>
      cases rr with
      | cons r' rr =>
        cases rr
        exact ⟨_, _, rfl, p1 ι1 H1 _ .refl R1 (((S.mono x1).set i r).set j r')⟩
  · exact p1.elim
/-! ### a, b = e -/
def sPat (p : Pat) (ce : Env → M D) : SM := fun ρ h => (ce ρ h).then ρ fun x h1 => match patD p x ρ with
  | some ρ1 => .nx ρ1 h1
  | none => .bad
/-! ### o[i] = e -/
def putKD (kvs : List (Key × D)) (k : Key) (d : D) : List (Key × D) := if (kvs.any fun kv => decide (kv.1 = k)) = true then kvs.map (fun kv => if kv.1 = k then (kv.1, d) else kv) else kvs ++ [(k, d)]
def setItemD (o i v : D) : Hs → Option Hs := fun h => match o with
  | .obj n => (match h[n]? with
    | some (.lst xs) => (match i with
      | .int k => (ixN xs.length k).map fun j => h.set n (.lst (xs.set j v))
      | _ => none)
    | some (.dI kvs) => (match keyOf i with
      | some k => if decide (kvs.length < 16777216) then some (h.set n (.dI (putKD kvs k v))) else none
      | none => none)
    | _ => none)
  | _ => none
def gSet : TSet := fun o i v H Q => rSetL o i v H Q ∨ rSetD o i v H Q
theorem set_all (hu : X.A.units + 1 < cLine) : PSet X gSet := by
  intro pins s σ H o i v ov iv u Q I ro ri rv h
  rcases h with h | h
  · exact set_list pins s σ H o i v ov iv u Q I ro ri rv h
  · exact set_dict hu pins s σ H o i v ov iv u Q I ro ri rv h
theorem rf_any {κ : Type} [DecidableEq κ] {K : PySem.W.Frag} {ι : Ix} {H : Hp} {k : κ} : ∀ {kvs : List (κ × D)} {us : List (κ × V)}, RF K ι H kvs us → (kvs.any fun kv => decide (kv.1 = k)) = us.any fun kv => decide (kv.1 = k)
  | _, _, .nil => rfl
  | _, _, .cons g r => by rw [List.any_cons, List.any_cons, rf_any r, g.1]
theorem rf_map {κ : Type} [DecidableEq κ] {K : PySem.W.Frag} {ι : Ix} {H : Hp} {k : κ} {d : D} {v : V} (rd : RD K ι H d v) : ∀ {kvs : List (κ × D)} {us : List (κ × V)}, RF K ι H kvs us → RF K ι H (kvs.map fun kv => if kv.1 = k then (kv.1, d) else kv) (us.map fun kv => if kv.1 = k then (kv.1, v) else kv)
  | _, _, .nil => .nil
  | p :: _, q :: _, .cons g r => by
    rw [List.map_cons, List.map_cons]
    refine .cons ?_ (rf_map rd r)
    by_cases e : p.1 = k
    · rw [if_pos e, if_pos (by rw [← g.1]; exact e)]
      exact ⟨g.1, rd⟩
    · rw [if_neg e, if_neg (by rw [← g.1]; exact e)]
      exact g
theorem rf_app {κ : Type} {K : PySem.W.Frag} {ι : Ix} {H : Hp} : ∀ {kvs kvs' : List (κ × D)} {us us' : List (κ × V)}, RF K ι H kvs us → RF K ι H kvs' us' → RF K ι H (kvs ++ kvs') (us ++ us')
  | _, _, _, _, .nil, s => s
  | _, _, _, _, .cons g r, s => .cons g (rf_app r s)
theorem rf_putK {K : PySem.W.Frag} {ι : Ix} {H : Hp} {k : Key} {d : D} {v : V} {kvs : List (Key × D)} {us : List (Key × V)} (r : RF K ι H kvs us) (rd : RD K ι H d v) : RF K ι H (putKD kvs k d) (putK us k v) := by
  unfold putKD putK
  rw [rf_any r]
  split
  · exact rf_map rd r
  · exact rf_app r (.cons ⟨rfl, rd⟩ .nil)
theorem setItem_ok {K : PySem.W.Frag} {ι : Ix} {H : Hp} {h h' : Hs} {x i d : D} {o j v : V} {Q : Hp → Prop} (R : Rel K ι h H) (rx : RD K ι H x o) (ri : RD K ι H i j) (rd : RD K ι H d v) (e : setItemD x i d h = some h')
    (q : ∀ H', Ext ι H ι H' → Rel K ι h' H' → Q H') : gSet o j v H Q := by
  unfold setItemD at e
  split at e
  · split at e
    · rename_i n xs en
      split at e
      · rename_i k
        obtain ⟨jj, e1, e2⟩ := Option.map_eq_some_iff.mp e
        subst e2
        cases rx with
        | @obj n a g =>
          obtain ⟨vs, h1, h2⟩ := R.at g en
          cases ri
          have m := List.mem_of_getElem? g
          refine .inl ⟨a, vs, k, jj, rfl, rfl, h1, by rw [← h2.length]; exact e1, q _ (.chg m (nfr h1)) (R.chg g ⟨_, upd_same, (RDs.set rd jj h2).mono (.chg m (nfr h1))⟩)⟩
      · cases e
    · rename_i n kvs en
      split at e
      · rename_i k ek
        split at e
        · rename_i hl
          cases e
          cases rx with
          | @obj n a g =>
            obtain ⟨us, h1, h2⟩ := R.at g en
            have m := List.mem_of_getElem? g
            refine .inr ⟨a, _, rfl, ?_, q _ (.chg m (nfr h1)) (R.chg g ⟨putK us k v, upd_same, (rf_putK h2 rd).mono (.chg m (nfr h1))⟩)⟩
            rw [keyOf_kV ri ek]
            exact DPut.k h1 (by rw [sizeLine_eq, ← rf_len h2]; exact of_decide_eq_true hl)
        · cases e
      · cases e
    · cases e
  · cases e
def sStore (ce co cx : Env → M D) : SM := fun ρ h => (ce ρ h).then ρ fun v h1 => (co ρ h1).then ρ fun o h2 => (cx ρ h2).then ρ fun i h3 => match setItemD o i v h3 with
  | some h4 => .nx ρ h4
  | none => .bad
theorem ds_store {p' : Pos} (hu : X.A.units + 1 < cLine) (he : DE X W e ce) (ho : DE X W o co) (hi : DE X W ix cx)
    (ha : ∀ v, assign (.Subscript o ix p') X.env v = (do
      let ov ← holding [v] (eval o X.env)
      let iv ← holding [v, ov] (eval ix X.env)
      standAt p'
      holding [v, ov, iv] (setItem ov iv v)
      release [v, ov, iv] []) := by intro _; rfl) (hs : swapsWithSole [.Subscript o ix p'] e pos.line X.env = pure false := by rfl) (hw : swappedStores [.Subscript o ix p'] e X.env = pure none := by rfl)
    (h1 : (assignEach [.Subscript o ix p'] X.env).map (·.2) = [assign (.Subscript o ix p') X.env] := by rfl) : DS X W (.Assign [.Subscript o ix p'] e pos) (sStore ce co cx) := ps_imp (ps_asg he (pg_sub ho hi (set_all hu) ha) hs hw h1) fun D σ H ⟨ι, h, ρ, R, S, p⟩ => by
  refine ⟨ι, h, ρ, R, S, Post.imp (PostS.then p S) fun v H1 ⟨ι1, h1, d, x1, R1, r1, p1⟩ => ?_⟩
  refine ⟨ι1, h1, ρ, R1, S.mono x1, Post.imp (PostS.then p1 (S.mono x1)) fun o H2 ⟨ι2, h2, od, x2, R2, r2, p2⟩ => ?_⟩
  have S2 := S.mono (x1.trans x2)
  refine ⟨ι2, h2, ρ, R2, S2, Post.imp (PostS.then p2 S2) fun j H3 ⟨ι3, h3, jd, x3, R3, r3, p3⟩ => ?_⟩
  split at p3
  · rename_i h4 e
    exact setItem_ok R3 (r2.mono x3) r3 (r1.mono (x2.trans x3)) e fun H' x4 R4 => p3 ι3 H' σ x4 R4 ((S2.mono x3).mono x4)
  · exact p3.elim
/-! ### o.f = e -/
def sFldD (C f : Str) (ce co : Env → M D) : SM := fun ρ h => (ce ρ h).then ρ fun v h1 => (co ρ h1).then ρ fun o h2 => match o, fieldsAt C h2 o with
  | .obj n, some fs => if decide (fs.length < 1000) then .nx ρ (h2.set n (.ins C (putFD f v fs))) else .bad
  | _, _ => .bad
theorem ds_fld {C f : Str} {p' : Pos} (c : Cls X.K (He.ga X.K C)) (nf : NoAttr X.K (He.ga X.K C) f) (he : DE X W e ce) (ho : DE X W o co) (hs : swapsWith e (some (.Attribute o f p')) pos.line X.env = pure false := by rfl) : DS X W (.Assign [.Attribute o f p'] e pos) (sFldD C f ce co) := ps_imp (ps_fld ho he hs) fun D σ H ⟨ι, h, ρ, R, S, p⟩ => by
  refine ⟨ι, h, ρ, R, S, Post.imp (PostS.then p S) fun v H1 ⟨ι1, h1, d, x1, R1, r1, p1⟩ => ?_⟩
  refine ⟨ι1, h1, ρ, R1, S.mono x1, Post.imp (PostS.then p1 (S.mono x1)) fun o H2 ⟨ι2, h2, od, x2, R2, r2, p2⟩ => ?_⟩
  split at p2
  · rename_i fs e1
    split at p2
    · rename_i hl
      obtain ⟨n, a, dx, us, e0, rfl, g, hn, hq, rf⟩ := fieldsAt_ok R2 r2 e1
      cases e0
      have m := List.mem_of_getElem? g
      refine ⟨a, _, dx, us, rfl, hq, c, nf, by rw [← rf_len rf]; exact of_decide_eq_true hl, p2 ι2 _ σ (.chg m (nfr hq)) (R2.chg g ⟨dx, _, upd_same, (rf_put (r1.mono x2) rf).mono (.chg m (nfr hq))⟩) ((S.mono (x1.trans x2)).mono (.chg m (nfr hq)))⟩
    · exact p2.elim
  · exact p2.elim
/-! ### {} -/
def eDct0 : Env → M D := fun _ h => .ok (.obj h.length) (h ++ [.dI []])
end
end Dl

/-! The D layer, 12: methods of lists; built-in functions. -/
namespace Dl
open PySem PySem.Spec PyProof.Rows L2
variable [Tb]

/-! ### methods of lists -/
def lstAt (h : Hs) : D → Option (Nat × List D)
  | .obj n => (match h[n]? with
    | some (.lst xs) => some (n, xs)
    | _ => none)
  | _ => none
def eLm (f : D → List D → M D) (ca : Env → M D) (cs : Env → M (List D)) : Env → M D := fun ρ h => (ca ρ h).bind fun x h1 => match lstAt h1 x with
  | some _ => (cs ρ h1).bind fun xs h2 => f x xs h2
  | none => .bad
def appD (x : D) (ys : List D) : M D := fun h => match lstAt h x, ys with
  | some (n, xs), [y] => if decide (xs.length < 16777216) then .ok .non (h.set n (.lst (xs ++ [y]))) else .bad
  | _, _ => .bad
abbrev OpM (X : Cx) (r : V → List V → Hp → VK → Prop) (f : D → List D → M D) : Prop := ∀ (ι : Ix) (h : Hs) (H : Hp) (x : D) (xs : List D) (v : V) (vs : List V) (W : XK) (Q : VK), Rel X.K ι h H → RD X.K ι H x v → RDs X.K ι H xs vs → Post X.K W (RD X.K) (f x xs h) ι H Q → r v vs H Q
section
variable {K : PySem.W.Frag} {ι : Ix} {H : Hp} {h : Hs}
theorem lstAt_ok (R : Rel K ι h H) {x : D} {v : V} {n : Nat} {xs : List D} (r : RD K ι H x v) (e : lstAt h x = some (n, xs)) : ∃ a vs, v = .ref a ∧ ι.os[n]? = some a ∧ H a = some (.lst vs) ∧ RDs K ι H xs vs := by
  cases r with
  | @obj m a g =>
    have e : (match h[m]? with
    | some (.lst xs) => some (m, xs)
    | _ => none) = some (n, xs) := e
    split at e
    · rename_i ys en
      cases e
      obtain ⟨vs, h1, h2⟩ := R.at g en
      exact ⟨a, vs, rfl, g, h1, h2⟩
    · cases e
  | _ => cases e
end
section
variable {X : Cx}
theorem m_app : OpM X rAppend appD := by
  intro ι h H x xs v vs W Q R rx rs p
  unfold appD at p
  split at p
  · rename_i n ys y e
    obtain ⟨c, p⟩ := p.guard
    obtain ⟨a, us, rfl, g, ha, ru⟩ := lstAt_ok R rx e
    cases rs with
    | cons r rr =>
      cases rr
      have m := List.mem_of_getElem? g
      exact ⟨a, us, _, rfl, rfl, ha, by rw [sizeLine_eq, ← ru.length]; exact of_decide_eq_true c, p ι _ _ (.chg m (nfr ha)) (R.chg g ⟨_, upd_same, (ru.append (.cons r .nil)).mono (.chg m (nfr ha))⟩) .non⟩
  · exact p.elim
variable {W : WX} {apos cpos : Pos} {o e : Expr} {es : List Expr} {ca : Env → M D} {cs : Env → M (List D)} {name : Str} {id : String} {r : V → List V → Hp → VK → Prop} {f : D → List D → M D}
theorem de_lm (slot : Slot "list" name id) (hty : typeOf (.builtin id) = pure (.type "method_descriptor")) (hm : MtR X id r) (om : OpM X r f) (ho : DE X W o ca) (ha : DA X W (e :: es) cs)
    (hbase : attributeBase o name X.env (eval o X.env) = eval o X.env := by rfl)
    (hfew : ((backTo cpos (starEach (e :: es) X.env)).all (fun x => !x.1) && (backToKw cpos (keywordEach [] X.env)).all (fun x => x.1.isSome)
      && decide ((e :: es).length + ([] : List Keyword).length + (if ([] : List Keyword).isEmpty then 0 else 1) < 30)) = true := by rfl)
    (hline : (apos.endLine == cpos.line) = true := by rfl) (hs : starEach (e :: es) X.env = (false, eval e X.env) :: starEach es X.env := by rfl) (hplain : (backTo cpos (starEach es X.env)).any (·.1) = false := by rfl) :
    DE X W (.Call (.Attribute o name apos) (e :: es) [] cpos) (eLm f ca cs) := pe_imp (pe_bm PySem.F.plainAttrs_list slot hty hm ho ha hbase hfew hline hs hplain) fun σ H Q ⟨ι, h, ρ, R, S, p⟩ => by
  refine ⟨ι, h, ρ, R, S, Post.imp (Post.bind p) fun v H1 ⟨ι1, h1, dx, x1, R1, r1, p1⟩ => ?_⟩
  split at p1
  · rename_i q e
    obtain ⟨a, us, rfl, g, ha, ru⟩ := lstAt_ok (n := q.1) (xs := q.2) R1 r1 e
    refine ⟨.inl ⟨rfl, us, SqL.of ha⟩, ι1, h1, ρ, R1, S.mono x1, Post.imp (Post.bind p1) fun vs H2 ⟨ι2, h2, ds, x2, R2, r2, p2⟩ => ?_⟩
    exact om ι2 h2 H2 dx ds _ vs _ Q R2 (r1.mono x2) r2 p2
  · exact p1.elim
section
variable (ho : DE X W o ca) (ha : DA X W (e :: es) cs)
    (hbase : attributeBase o name X.env (eval o X.env) = eval o X.env)
theorem de_app {es : List Expr} (ho : DE X W o ca) (ha : DA X W (e :: es) cs) (hbase : attributeBase o "append" X.env (eval o X.env) = eval o X.env := by rfl)
    (hfew : ((backTo cpos (starEach (e :: es) X.env)).all (fun x => !x.1) && (backToKw cpos (keywordEach [] X.env)).all (fun x => x.1.isSome)
      && decide ((e :: es).length + ([] : List Keyword).length + (if ([] : List Keyword).isEmpty then 0 else 1) < 30)) = true := by rfl)
    (hline : (apos.endLine == cpos.line) = true := by rfl) (hs : starEach (e :: es) X.env = (false, eval e X.env) :: starEach es X.env := by rfl) (hplain : (backTo cpos (starEach es X.env)).any (·.1) = false := by rfl) :
    DE X W (.Call (.Attribute o "append" apos) (e :: es) [] cpos) (eLm appD ca cs) := de_lm PySem.F.slot_list_append PySem.F.type_list_append mt_append m_app ho ha hbase hfew hline hs hplain
end
end
end Dl

/-! The D layer, 13: built-in functions. -/
namespace Dl
open PySem PySem.Spec PyProof.Rows L2
variable [Tb]

def eBf (f : List D → M D) (cs : Env → M (List D)) : Env → M D := fun ρ h => (cs ρ h).bind f
def nBf (f : List D → M (List D)) (cs : Env → M (List D)) : Env → M (List D) := fun ρ h => (cs ρ h).bind f
abbrev OpA (X : Cx) (r : List V → Hp → VK → Prop) (f : List D → M D) : Prop := ∀ (ι : Ix) (h : Hs) (H : Hp) (xs : List D) (vs : List V) (W : XK) (Q : VK), Rel X.K ι h H → RDs X.K ι H xs vs → Post X.K W (RD X.K) (f xs h) ι H Q → r vs H Q
section
variable {X : Cx} {W : WX} {x : Str} {p pos : Pos} {e : Expr} {es : List Expr} {cs : Env → M (List D)} {id T : String} {r : List V → Hp → VK → Prop} {f : List D → M D} {g : List D → M (List D)}
theorem w_bf (o : OpA X r f) {σ : L2.St} {H : Hp} {Q : VK} (q : wE X.K W (eBf f cs) σ H Q) : tCB r (wA X.K W cs) σ H Q := by
  obtain ⟨ι, h, ρ, R, S, p⟩ := q
  exact ⟨ι, h, ρ, R, S, Post.imp (Post.bind p) fun vs H1 ⟨ι1, h1, ds, x1, R1, r1, p1⟩ => o ι1 h1 H1 ds vs _ Q R1 r1 p1⟩
theorem de_bf (o : OpA X r f) (hc : CallR X (.builtin id) r) (hg : Gl X x) (hm : X.mg x = none) (hv : bootBuiltins x = some (.builtin id)) (ha : DA X W (e :: es) cs) (hn : x ≠ "__name__" := by decide) (hdb : (x == ("__debug__" : Str)) = false := by decide)
    (he : starEach (e :: es) X.env = (false, eval e X.env) :: starEach es X.env := by rfl) (hpl : (backTo pos (starEach es X.env)).any (·.1) = false := by rfl) : DE X W (.Call (.Name x p) (e :: es) [] pos) (eBf f cs) := pe_imp (pe_callB hc hg hm hv ha hn hdb he hpl) fun _ _ _ q => w_bf o q
theorem de_tf (o : OpA X r f) (hc : CallR X (.type T) r) (hg : Gl X x) (hm : X.mg x = none) (hv : bootBuiltins x = some (.type T)) (ha : DA X W (e :: es) cs) (hn : x ≠ "__name__" := by decide) (hdb : (x == ("__debug__" : Str)) = false := by decide)
    (he : starEach (e :: es) X.env = (false, eval e X.env) :: starEach es X.env := by rfl) (hpl : (backTo pos (starEach es X.env)).any (·.1) = false := by rfl) : DE X W (.Call (.Name x p) (e :: es) [] pos) (eBf f cs) := pe_imp (pe_callTy hc hg hm hv ha hn hdb he hpl) fun _ _ _ q => w_bf o q
end

/-! ### what they compute -/
def lenD (xs : List D) : M D := fun h => match xs with
  | [.str z] => if okLen z.length then .ok (.int z.length) h else .bad
  | [.scr ns] => .ok (.int ns.length) h
  | [x] => (match seqOf h x with
    | some ys => .ok (.int ys.length) h
    | none => (match x with
      | .obj n => (match h[n]? with
        | some (.dI kvs) => .ok (.int kvs.length) h
        | _ => .bad)
      | _ => .bad))
  | _ => .bad
def absD (xs : List D) : M D := fun h => match xs with
  | [.int i] => .ok (.int (if i < 0 then -i else i)) h
  | _ => .bad
def intD (xs : List D) : M D := fun h => match xs with
  | [.int i] => .ok (.int i) h
  | [.bl k] => .ok (.int (if k then 1 else 0)) h
  | _ => .bad
def allInt : List D → Option (List Int)
  | [] => some []
  | .int i :: xs => (allInt xs).map (i :: ·)
  | _ :: _ => none
def allBl : List D → Option (List Bool)
  | [] => some []
  | .bl i :: xs => (allBl xs).map (i :: ·)
  | _ :: _ => none
def sumD (xs : List D) : M D := fun h => match xs with
  | [x] => (match (items h x).bind allInt with
    | some ns => .ok (.int ns.sum) h
    | none => .bad)
  | _ => .bad
def allD (xs : List D) : M D := fun h => match xs with
  | [x] => (match (items h x).bind allBl with
    | some bs => .ok (.bl (bs.all id)) h
    | none => .bad)
  | _ => .bad
def tupD (xs : List D) : M D := fun h => match xs with
  | [.tup ys] => .ok (.tup ys) h
  | [x] => (match items h x with
    | some ys => .ok (.tup ys) h
    | none => .bad)
  | _ => .bad
section
variable {K : PySem.W.Frag} {ι : Ix} {H : Hp} {h : Hs}
theorem RDs.one {x : D} {vs : List V} (r : RDs K ι H [x] vs) : ∃ v, vs = [v] ∧ RD K ι H x v := by
  cases r with
  | cons r rr => cases rr; exact ⟨_, rfl, r⟩
theorem RDs.two {x y : D} {vs : List V} (r : RDs K ι H [x, y] vs) : ∃ v u, vs = [v, u] ∧ RD K ι H x v ∧ RD K ι H y u := by
  cases r with
  | cons r rr => obtain ⟨u, rfl, r'⟩ := rr.one; exact ⟨_, _, rfl, r, r'⟩
theorem allInt_rd : ∀ {xs : List D} {vs : List V} {ns : List Int}, RDs K ι H xs vs → allInt xs = some ns → vs = ns.map V.int
  | [], _, _, .nil, e => by cases e; rfl
  | .int i :: xs, _, ns, .cons r rr, e => by
    obtain ⟨ms, e1, e2⟩ := Option.map_eq_some_iff.mp (show (allInt xs).map (i :: ·) = some ns from e)
    subst e2
    cases r
    rw [allInt_rd rr e1]
    rfl
  | .non :: _, _, _, _, e => by cases e
  | .bl _ :: _, _, _, _, e => by cases e
  | .str _ :: _, _, _, _, e => by cases e
  | .ty _ :: _, _, _, _, e => by cases e
  | .glo _ :: _, _, _, _, e => by cases e
  | .tup _ :: _, _, _, _, e => by cases e
  | .lst _ :: _, _, _, _, e => by cases e
  | .obj _ :: _, _, _, _, e => by cases e
  | .scr _ :: _, _, _, _, e => by cases e
theorem allBl_rd : ∀ {xs : List D} {vs : List V} {ns : List Bool}, RDs K ι H xs vs → allBl xs = some ns → vs = ns.map V.bl
  | [], _, _, .nil, e => by cases e; rfl
  | .bl i :: xs, _, ns, .cons r rr, e => by
    obtain ⟨ms, e1, e2⟩ := Option.map_eq_some_iff.mp (show (allBl xs).map (i :: ·) = some ns from e)
    subst e2
    cases r
    rw [allBl_rd rr e1]
    rfl
  | .non :: _, _, _, _, e => by cases e
  | .int _ :: _, _, _, _, e => by cases e
  | .str _ :: _, _, _, _, e => by cases e
  | .ty _ :: _, _, _, _, e => by cases e
  | .glo _ :: _, _, _, _, e => by cases e
  | .tup _ :: _, _, _, _, e => by cases e
  | .lst _ :: _, _, _, _, e => by cases e
  | .obj _ :: _, _, _, _, e => by cases e
  | .scr _ :: _, _, _, _, e => by cases e
theorem ints_of (R : Rel K ι h H) {x : D} {v : V} {ns : List Int} (r : RD K ι H x v) (e : (items h x).bind allInt = some ns) : ∃ a, v = .ref a ∧ SqL K H a (ns.map V.int) := by
  obtain ⟨xs, e1, e2⟩ := Option.bind_eq_some_iff.mp e
  obtain ⟨a, vs, rfl, ha, rv⟩ := items_ok R r e1
  rw [allInt_rd rv e2] at ha
  exact ⟨a, rfl, SqL.of ha⟩
theorem bls_of (R : Rel K ι h H) {x : D} {v : V} {ns : List Bool} (r : RD K ι H x v) (e : (items h x).bind allBl = some ns) : ∃ a, v = .ref a ∧ SqL K H a (ns.map V.bl) := by
  obtain ⟨xs, e1, e2⟩ := Option.bind_eq_some_iff.mp e
  obtain ⟨a, vs, rfl, ha, rv⟩ := items_ok R r e1
  rw [allBl_rd rv e2] at ha
  exact ⟨a, rfl, SqL.of ha⟩
end
section
variable {X : Cx}
abbrev rLen (K : PySem.W.Frag) : List V → Hp → VK → Prop := fun xs H Q => (∃ x n, xs = [x] ∧ LenV K x H n ∧ Q (.int n) H) ∨ (∃ a kvs, xs = [V.ref a] ∧ H a = some (.dK kvs) ∧ Q (.int kvs.length) H)
theorem c_len : CallR X (.builtin "len") (rLen X.K) := CallR.or call_len call_lenD
theorem o_len : OpA X (rLen X.K) lenD := by
  intro ι h H xs vs W Q R rs p
  unfold lenD at p
  split at p
  · obtain ⟨c, p⟩ := p.guard
    obtain ⟨v, rfl, r⟩ := rs.one
    cases r
    exact .inl ⟨_, _, rfl, ⟨okLen_ok c, rfl⟩, p.ok R (.int _)⟩
  · obtain ⟨v, rfl, r⟩ := rs.one
    cases r with
    | scr t => exact .inl ⟨_, _, rfl, .inl ⟨_, t.sq, rfl⟩, by rw [List.length_map]; exact p.ok R (.int _)⟩
  · obtain ⟨v, rfl, r⟩ := rs.one
    split at p
    · rename_i e
      obtain ⟨a, us, rfl, q, ru⟩ := seqOf_ok R r e
      rcases q with q | q
      · exact .inl ⟨_, _, rfl, .inl ⟨_, q, rfl⟩, by rw [← ru.length]; exact p.ok R (.int _)⟩
      · exact .inl ⟨_, _, rfl, .inr ⟨_, q, rfl⟩, by rw [← ru.length]; exact p.ok R (.int _)⟩
    · split at p
      · split at p
        · rename_i e
          cases r with
          | obj g =>
            obtain ⟨us, h1, h2⟩ := R.at g e
            exact .inr ⟨_, us, rfl, h1, by rw [← rf_len h2]; exact p.ok R (.int _)⟩
        · exact p.elim
      · exact p.elim
  · exact p.elim
abbrev rAbs : List V → Hp → VK → Prop := fun xs H Q => ∃ i, xs = [.int i] ∧ Q (.int (if i < 0 then -i else i)) H
theorem o_abs : OpA X rAbs absD := by
  intro ι h H xs vs W Q R rs p
  unfold absD at p
  split at p
  · obtain ⟨v, rfl, r⟩ := rs.one
    cases r
    exact ⟨_, rfl, p.ok R (.int _)⟩
  · exact p.elim
abbrev rInt : List V → Hp → VK → Prop := fun xs H Q => (∃ i, xs = [.int i] ∧ Q (.int i) H) ∨ ∃ k, xs = [.bl k] ∧ Q (.int (if k then 1 else 0)) H
theorem o_int : OpA X rInt intD := by
  intro ι h H xs vs W Q R rs p
  unfold intD at p
  split at p
  · obtain ⟨v, rfl, r⟩ := rs.one
    cases r
    exact .inl ⟨_, rfl, p.ok R (.int _)⟩
  · obtain ⟨v, rfl, r⟩ := rs.one
    cases r
    exact .inr ⟨_, rfl, p.ok R (.int _)⟩
  · exact p.elim
theorem o_sum : OpA X (rSum X.K) sumD := by
  intro ι h H xs vs W Q R rs p
  unfold sumD at p
  split at p
  · obtain ⟨v, rfl, r⟩ := rs.one
    split at p
    · rename_i e
      obtain ⟨a, rfl, q⟩ := ints_of R r e
      exact ⟨a, _, rfl, q, p.ok R (.int _)⟩
    · exact p.elim
  · exact p.elim
theorem o_all : OpA X (rAll X.K) allD := by
  intro ι h H xs vs W Q R rs p
  unfold allD at p
  split at p
  · obtain ⟨v, rfl, r⟩ := rs.one
    split at p
    · rename_i e
      obtain ⟨a, rfl, q⟩ := bls_of R r e
      exact ⟨a, _, rfl, q, p.ok R (.bl _)⟩
    · exact p.elim
  · exact p.elim
abbrev rTup (K : PySem.W.Frag) : List V → Hp → VK → Prop := fun xs H Q => ∃ p ys, xs = [.ref p] ∧ ((SqL K H p ys ∧ ∀ l, H l = none → Q (.ref l) (upd H l (.tup ys))) ∨ (SqT K H p ys ∧ Q (.ref p) H))
theorem o_tup : OpA X (rTup X.K) tupD := by
  intro ι h H xs vs W Q R rs p
  unfold tupD at p
  split at p
  · obtain ⟨v, rfl, r⟩ := rs.one
    cases r with
    | tup t q => exact ⟨_, _, rfl, .inr ⟨t.sq, p.ok R (.tup t q)⟩⟩
  · obtain ⟨v, rfl, r⟩ := rs.one
    split at p
    · rename_i e
      obtain ⟨a, us, rfl, ha, ru⟩ := items_ok R r e
      exact ⟨a, us, rfl, .inl ⟨SqL.of ha, fun l hl => p.tup R ru hl⟩⟩
    · exact p.elim
  · exact p.elim
end
end Dl

/-! The D layer, 14: a def by its body; a law's end; the head's hook. -/
namespace Dl
open PySem PySem.Spec PyProof.Rows L2
variable [Tb]

/-- a def: the slots at its entry, what its body gives -/
def ent (n : Nat) (ds : List D) : Env := ds.map some ++ List.replicate (n - ds.length) none
def mOf (r : SR) : R D := match r with
  | .ret d h => .ok d h
  | .nx _ h => .ok .non h
  | .exc _ C fs h => .exc C fs h
  | _ => .bad
def mDef (n : Nat) (body : SM) : List D → M D := fun ds h => mOf (body (ent n ds) h)
theorem ent_rs {K : PySem.W.Frag} {ι : Ix} {H : Hp} {N : List Str} {ds : List D} {vs : List V} (r : RDs K ι H ds vs) : RS K ι H (ent N.length ds) (start N vs) := by
  have hl := r.length
  refine ⟨?_, fun i d e => ?_⟩
  · unfold ent L2.start
    rw [List.length_append, List.length_append, List.length_map, List.length_map, List.length_replicate, List.length_replicate, hl]
  · unfold ent at e
    by_cases hi : i < ds.length
    · rw [List.getElem?_append_left (by rw [List.length_map]; exact hi), List.getElem?_map] at e
      obtain ⟨d', e1, e2⟩ := Option.map_eq_some_iff.mp e
      cases e2
      obtain ⟨v, h1, h2⟩ := r.get e1
      refine ⟨v, ?_, h2⟩
      unfold L2.start
      rw [List.getElem?_append_left (by rw [List.length_map, ← hl]; exact hi), List.getElem?_map, h1]
      rfl
    · rw [List.getElem?_append_right (by rw [List.length_map]; omega), List.getElem?_replicate] at e
      split at e <;> cases e
section
variable {P : Program} {w : World} {K : PySem.W.Frag} {mg : Str → Option Value} {base : Heap}
/-- a function's code object, its table of code objects -/
def codeA (K : PySem.W.Frag) (f : Addr) : Addr := match K.lookup f with
  | some ⟨_, _, .func fd, _⟩ => (match fd.code with
    | .ref c => c
    | _ => 0)
  | _ => 0
def tabA (K : PySem.W.Frag) (f : Addr) : Addr := match K.lookup (codeA K f) with
  | some ⟨_, _, .fields vs, _⟩ => (match (vs[11]? : Option Value) with
    | some (Value.ref P) => P
    | _ => 0)
  | _ => 0
theorem code_is {x qual : Str} {params : Arguments} {body : List Stmt} {scope : Scope} {f : Addr} {oc dV kV doc pm cdv ct : Value} {od an : Option Addr} {osl : Array (Option Value)} (lk : K.lookup f = some ⟨oc, od, .func (PySem.W.fnOf x qual params body scope dV kV doc pm an cdv ct), osl⟩) (hcd : PySem.W.codeIn K cdv qual = true) : cdv = .ref (codeA K f) := by
  unfold PySem.W.codeIn at hcd
  split at hcd
  · unfold codeA
    rw [lk]
  · cases hcd
/-- the rule for a def: the context is its body's, no repr is under way -/
theorem fnG_of {x qual : Str} {params : Arguments} {body : List Stmt} {scope : Scope} {f : Addr} {fd : FuncData} {N ps : List Str} {k : Nat} {sp : Sp} (F : FunD K x qual params body scope [] [] f fd) (S : FnScope N ps scope) (len : ∀ vs H Q E, sp vs H Q E → vs.length = ps.length)
    (hb : ∀ (cdv : Value) (A : Around) (outer : List PySem.Env) (s : Shared) (H : Hp) (vs : List V) (Q : VK) (E : XK), cdv = .ref (codeA K f) → Room k (A.deeper (envOfC qual scope s.heap.objs.size f cdv)) → A.guards = some [] → sp vs H Q E →
      ∃ t, PSs (cxOf (L2.CX P w) P w K mg base N qual scope f cdv A outer s H E) body t ∧ t { nx := fun _ H' => Q .non H', rt := Q } (start N vs) H) : FnG P w K mg base (L2.CX P w) (k + 1) f fd ps sp := by
  obtain ⟨oc, od, dV, kV, doc, pm, an, cdv, ct, osl, rfl, lk, hcd, _, _⟩ := F.ex
  refine ⟨len, fun A outer s H args us vs Q E hr gd e0 bt r hsp => ?_⟩
  have hl := len _ _ _ _ hsp
  have KX : K.In s.heap := e0.mod.kin.keeps fun b o e => (e0.bs b o e).1
  have lim : s.heap.NoLimit := e0.mod.nolimit.keeps fun b o e => (e0.bs b o e).1
  have hk : ∀ y ∈ ps.zip us, scope.names.lookup y.1 = some .local ∨ (scope.names.lookup y.1 = some .cell ∧ ((cellsFrom (s.heap.objs.size + 1) scope.names []).lookup y.1).isSome = true) := by
    rintro ⟨n, v⟩ hy
    have hp := S.par n (List.of_mem_zip hy).1
    exact hp.imp id fun q => ⟨q, PySem.W.cellsFrom_some _ _ _ (.inl q)⟩
  refine codeAny_call_function hr.depth (KX _ _ lk) rfl S.co S.gen rfl (PySem.W.codeRec_of KX hcd) (bt _ _ _ _ ?_)
  refine wpAny_newFunctionEnv_cells S.kind hk fun env he s1 ic => ?_
  subst he
  refine ⟨lim.keeps ic.toInCall.keep, codeAny_func ?_⟩
  obtain ⟨t, ht, hq⟩ := hb cdv A outer s H vs Q E (code_is lk hcd) (hr.deeper _) gd hsp
  have I := inv_start (CX := L2.CX P w) (E := E) S hr.hd e0 hl r ic
  refine wpAny_mono (ht.run [] s1 (start N vs) H _ I hq) (fun fl s' hs => ?_) fun _ _ hs => hs
  cases fl with
  | ret u =>
    obtain ⟨v, σ', H', J, rv, q⟩ := hs
    exact ⟨v, H', J.os, J.bare, J.base, J.hok, rv, q⟩
  | next =>
    obtain ⟨σ', H', J, q⟩ := hs
    exact ⟨.non, H', J.os, J.bare, J.base, J.hok, rfl, q⟩
  | brk => exact (show False from hs.elim fun _ z => z.elim fun _ z => z.2).elim
  | cont => exact (show False from hs.elim fun _ z => z.elim fun _ z => z.2).elim
/-- a def of the D layer -/
theorem fnD_ofC {x qual : Str} {params : Arguments} {body : List Stmt} {scope : Scope} {f : Addr} {fd : FuncData} {N ps : List Str} {k n : Nat} {c : SM} (F : FunD K x qual params body scope [] [] f fd) (S : FnScope N ps scope) (hn : ps.length = n) (b : Binds K fd ps [])
    (hb : ∀ (cdv : Value) (A : Around) (outer : List PySem.Env) (s : Shared) (H : Hp) (E : XK), cdv = .ref (codeA K f) → Room k (A.deeper (envOfC qual scope s.heap.objs.size f cdv)) → A.guards = some [] →
      DSs (cxOf (L2.CX P w) P w K mg base N qual scope f cdv A outer s H E) (fun cls d _ H => E cls d H) body c) : FnD P w K mg base (k + 1) f n (mDef N.length c) := by
  refine ⟨fd, ps, fnG_of F S (fun vs H Q E h => h.1.trans hn.symm) (fun cdv A outer s H vs Q E ec hr gd h => ⟨_, hb cdv A outer s H E ec hr gd, ?_⟩), b, F.kp⟩
  obtain ⟨_, ι, h0, ds, R, r, p⟩ := h
  refine ⟨ι, h0, ent N.length ds, R, ent_rs r, ?_⟩
  show PostS K _ (c (ent N.length ds) h0) ι H _
  unfold mDef at p
  cases q : c (ent N.length ds) h0 with
  | nx ρ h => rw [q] at p; exact fun ι' H' σ' e R' S' => p ι' H' .non e R' .non
  | ret d h => rw [q] at p; exact p
  | bk ρ h => rw [q] at p; exact p.elim
  | ct ρ h => rw [q] at p; exact p.elim
  | exc ρ C fs h => rw [q] at p; exact fun ι' H' od σ' e R' S' x => p ι' H' od e R' x
  | bad => rw [q] at p; exact p
theorem fnD_of {x qual : Str} {params : Arguments} {body : List Stmt} {scope : Scope} {f : Addr} {fd : FuncData} {N ps : List Str} {k n : Nat} {c : SM} (F : FunD K x qual params body scope [] [] f fd) (S : FnScope N ps scope) (hn : ps.length = n) (b : Binds K fd ps [])
    (hb : ∀ (cdv : Value) (A : Around) (outer : List PySem.Env) (s : Shared) (H : Hp) (E : XK), Room k (A.deeper (envOfC qual scope s.heap.objs.size f cdv)) → A.guards = some [] →
      DSs (cxOf (L2.CX P w) P w K mg base N qual scope f cdv A outer s H E) (fun cls d _ H => E cls d H) body c) : FnD P w K mg base (k + 1) f n (mDef N.length c) := fnD_ofC F S hn b fun cdv A outer s H E _ hr gd => hb cdv A outer s H E hr gd
end

/-! ### the law -/
theorem call_law {P : Program} {w : World} {K : PySem.W.Frag} {mg mb : Str → Option Value} {k : Nat} {fa a : Addr} {m : List D → M D} {s₁ : Shared} {vs : List Value} {ns : List Int}
    (KX : K.In s₁.heap) (hns : s₁.heap.Ns mainGlobals mg) (hb : s₁.heap.Ns builtinsNs mb) (hbb : ∀ x : Str, x ≠ "__name__" → mb x = bootBuiltins x) (hlim : s₁.heap.NoLimit) (hg : s₁.gens = #[])
    (ha : s₁.heap.get? a = some { cls := .type "list", data := .seq vs.toArray }) (hi : IntsAre vs ns) (hl : ns.length ≤ sizeLine) (hr : Room k callerA)
    (noT : Tb.ts K = []) (F : ∀ base : Heap, K.In base → base.Ns mainGlobals mg → FnD P w K mg base k fa 1 m) (hm : ∃ h', m [.scr ns] [] = .ok (.bl true) h') :
    codeAny (model P w) callerA (.call (.ref fa) ⟨[.ref a], []⟩) (fun r s' => r = .ok (.ret (.bool true)) ∧ OldK s₁.heap s'.heap ∧ s'.os = s₁.os ∧ AllBare s'.gens) s₁ := by
  have rv := vals_ints hi
  have lv := hi.length
  have core : ∀ H : Hp, Only H → SqL K H a (ns.map V.int) → HOk P w H s₁.heap → (∀ b, H b ≠ none → b = a) → (H a ≠ none → K.lookup a = none) →
      codeAny (model P w) callerA (.call (.ref fa) ⟨[.ref a], []⟩) (fun r s' => r = .ok (.ret (.bool true)) ∧ OldK s₁.heap s'.heap ∧ s'.os = s₁.os ∧ AllBare s'.gens) s₁ := by
    intro H hO hS hok hA hK
    have at0 : ∀ {b : Addr} {o : Obj}, s₁.heap.get? b = some o → H b = none → (hidT s₁.heap H).get? b = some o := fun e n => hidT_get e n
    have free : ∀ b, b ≠ a → H b = none := fun b n => by
      cases q : H b with
      | none => rfl
      | some u => exact absurd (hA b (by rw [q]; exact fun z => nomatch z)) n
    have noA : ∀ {b : Addr} {o : Obj} {es : Array DictEntry} {ep : Nat}, s₁.heap.get? b = some o → o.data = .dict es ep → H b = none := fun {b o es ep} e d => free b fun z => by
      rw [z, ha] at e
      cases e
      cases d
    have ns' : ∀ {b : Addr} {m : Str → Option Value}, s₁.heap.Ns b m → (hidT s₁.heap H).Ns b m := fun ⟨o, es, ep, e, d, r⟩ => ⟨o, es, ep, at0 e (noA e d), d, r⟩
    have hKb : K.In (hidT s₁.heap H) := fun b o e => at0 (KX b o e) (by
      by_cases z : b = a
      · subst z
        cases q : H b with
        | none => rfl
        | some u => rw [hK (by rw [q]; exact fun z => nomatch z)] at e; cases e
      · exact free b z)
    have hM : Mod K mg (hidT s₁.heap H) := ⟨hKb, ns' hns, ⟨mb, ns' hb, hbb⟩, hlim.imp fun mc z => ⟨ns' z.1, z.2⟩⟩
    have e0 : Env0 P w K mg (hidT s₁.heap H) callerA [] s₁ H := ⟨rfl, hM, fun b o e => of_hidT e, Nat.le_of_eq (hidT_size _ _), trivial, fun b hb => (List.not_mem_nil hb).elim, hok, .of_eq hg⟩
    obtain ⟨fd, ps, G, bd, _⟩ := F _ hKb (ns' hns)
    obtain ⟨h', em⟩ := hm
    have sp : spD K 1 m [.ref a] H (fun v _ => v = .bl true) fun _ _ _ => False := by
      refine ⟨rfl, ⟨[], []⟩, [], [.scr ns], ⟨rfl, List.nodup_nil, fun n b o e => (by cases e), fun b hb => (List.not_mem_nil hb).elim, fun q m => by rw [noT] at m; exact (List.not_mem_nil m).elim⟩, .cons (.scr ?_) .nil, ?_⟩
      · rcases hS with z | z
        · exact .inl ⟨⟨List.not_mem_nil, List.not_mem_nil⟩, z⟩
        · exact .inr z
      · rw [em]
        intro ι' H' b _ _ r
        cases r
        rfl
    have hlen : ps.length = 1 := (G.len _ _ _ _ sp).symm
    have bt : BindsTo s₁ fd ⟨[.ref a], []⟩ (ps.zip [.ref a]) := by
      have z := bd s₁ [.ref a] KX (by rw [List.append_nil]; exact hlen.symm)
      rwa [List.append_nil] at z
    refine codeAny_mono (G.run callerA [] s₁ H ⟨[.ref a], []⟩ [.ref a] [.ref a] _ _ hr rfl e0 bt (.cons rfl .nil) sp) fun r s' h => ?_
    cases r with
    | error e =>
      obtain ⟨_, _, _, _, _, _, _, _, _, _, _, _, z⟩ := h
      exact z.elim
    | ok fl =>
      cases fl with
      | next => exact False.elim h
      | brk => exact False.elim h
      | cont => exact False.elim h
      | ret u =>
        obtain ⟨v, H', os, bare, un, hok', r', q⟩ := h
        have q' : v = .bl true := q
        subst q'
        obtain rfl : u = Value.bool true := r'
        refine ⟨rfl, OldK.of_keep fun b o e => ?_, os, bare⟩
        cases q : H b with
        | none => exact un.keep b o e q List.not_mem_nil List.not_mem_nil
        | some u =>
          rcases hO b with z | ⟨ob, xs, z⟩
          · rw [q] at z; cases z
          · obtain ⟨e1, _⟩ := hok b _ z
            obtain ⟨e2, _⟩ := hok' b _ (un.frzs b ob _ z)
            rw [e] at e1; cases e1
            exact e2
  cases hk : K.lookup a with
  | some o =>
    have e := KX a o hk
    rw [ha] at e
    cases e
    exact core (fun _ => none) (fun _ => .inl rfl) (.inr ⟨_, vs.toArray, _, hk, rfl, rfl, rfl, by rw [List.size_toArray, lv]; exact hl, by simpa using rv⟩) (fun b u z => nomatch (show (none : Option HO) = some u from z)) (fun b z => absurd rfl z) fun z => absurd rfl z
  | none =>
    have at1 : ∀ b, b ≠ a → (if b = a then some (HO.frz { cls := .type "list", data := .seq vs.toArray } (.lst (ns.map V.int))) else none) = none := fun b n => if_neg n
    refine core (fun b => if b = a then some (.frz { cls := .type "list", data := .seq vs.toArray } (.lst (ns.map V.int))) else none) (fun b => ?_) (.inl (.inr ⟨{ cls := .type "list", data := .seq vs.toArray }, if_pos rfl⟩)) (fun b u z => ?_) (fun b z => ?_) fun _ => hk
    · by_cases n : b = a
      · exact .inr ⟨_, _, if_pos n⟩
      · exact .inl (at1 b n)
    · by_cases n : b = a
      · have z' := (if_pos n).symm.trans z
        cases z'
        subst n
        exact ⟨ha, by rw [List.length_map]; exact hl, vs, _, rv, ha⟩
      · have z' := (at1 b n).symm.trans z
        cases z'
    · by_cases n : b = a
      · exact n
      · exact absurd (at1 b n) z
/-- the end: the law's def keeps its promise over every base; its own computation answers true at every script -/
theorem walk_law {l : PySem.W.OpenLaw} {n k : Nat} {q : Program} {loose : List Str} {XP : (Str → Option Value) → Heap → Prop} {YP : World → Heap → Prop} {d : DefRec} {m : List D → M D}
    (noT : ∀ K, Tb.ts K = []) (hn : l.most = some n) (hn2 : n ≤ sizeLine) (hdf : d.params.defaults = []) (hr : Room k callerA)
    (F : ∀ (w : World) (mg : Str → Option Value) (fa : Addr) (h : Heap), YP w h → h.Ns mainGlobals mg → mg d.name = some (.ref fa) →
      ∃ K : PySem.W.Frag, K.In h ∧ ∀ base : Heap, K.In base → base.Ns mainGlobals mg → FnD l.prog w K mg base k fa 1 m)
    (hm : ∀ ns : List Int, ns.length ≤ n → (∀ z ∈ ns, Builtin.Int.intBits z ≤ 1048576) → ∃ h', m [.scr ns] [] = .ok (.bl true) h') :
    PySem.W.WalkO q loose XP YP l.row.toRowW d [] (fun f vs => PySem.call f vs) := by
  refine Att.attach_callB hn hdf fun w s₀ s₁ mg mb fa o pm cd doc a vs ns G Y ho hd hcd hmg hobj hints hlen hbits hg => ?_
  obtain ⟨K, KX, hF⟩ := F w mg fa _ Y G.T.g hmg
  exact call_law KX G.T.g G.T.b G.T.builtins G.T.nolimit hg hobj hints (Nat.le_trans hlen hn2) hr (noT K) hF (hm ns hlen hbits)

/-! ### the head's hook: defs, facts, one more -/
abbrev AlE : Type := He.AlD × Bool
def obsE (n : Nat) (fa : List He.Fa) (fn : List He.DefD) (ex : PySem.W.Frag → Bool) (g : Addr → Option Obj) : AlE := (He.obsD fa fn (He.frG g (He.asD g n)), ex (He.frG g (He.asD g n)))
def valE (fn : List He.DefD) : AlE := (He.valD fn, true)
structure SaysE (fa : List He.Fa) (fn : List He.DefD) (ex : PySem.W.Frag → Bool) (K : PySem.W.Frag) : Prop where
  d : He.SaysD fa fn K
  e : ex K = true
def hookE (n : Nat) (fa : List He.Fa) (fn : List He.DefD) (ex : PySem.W.Frag → Bool) : PySem.W.Hook where
  α := AlE
  obs := fun s => obsE n fa fn ex s.heap.get?
  val := fun _ => valE fn
  says := fun _ h => ∃ K : PySem.W.Frag, K.In h ∧ SaysE fa fn ex K
  of := fun _ _ e => ⟨_, He.frG_in, congrArg (fun z : AlE => z.1) e, congrArg (fun z : AlE => z.2) e⟩
  keeps := fun _ _ _ ⟨K, hK, c⟩ k => ⟨K, PySem.W.Frag.In.keeps hK k, c⟩
theorem obsE_eq {n : Nat} {fa : List He.Fa} {fn : List He.DefD} {ex : PySem.W.Frag → Bool} {g : Addr → Option Obj} {s : Shared} (h : ∀ a, g a = s.heap.get? a) : obsE n fa fn ex g = (hookE n fa fn ex).obs s := by
  have e : g = s.heap.get? := funext h
  rw [e] <;> rfl
/-- a def's parameters bind -/
theorem binds_of {K : PySem.W.Frag} {x qual : Str} {params : Arguments} {body : List Stmt} {scope : Scope} {f : Addr} {fd : FuncData} {ps : List Str} (F : FunD K x qual params body scope [] [] f fd)
    (h : ∀ (kV doc pm : Value) (an : Option Addr) (cdv ct : Value) (us : List Value), us.length = ps.length → bindArgs (PySem.W.fnOf x qual params body scope .none kV doc pm an cdv ct) ⟨us, []⟩ = pure (ps.zip us)) : Binds K fd ps [] := F.bindsN h
end Dl

/-! The D layer, 15: isinstance, truth. -/
namespace Dl
open PySem PySem.Spec PyProof.Rows L2
variable [Tb]

/-! ### isinstance -/
inductive Tg where
  | b (n : String) | o (C : Str)
deriving DecidableEq
def tgV (K : PySem.W.Frag) : Tg → Value
  | .b n => .type n
  | .o C => .ref (He.ga K C)
def tagOf (h : Hs) : D → Option Tg
  | .non => some (.b "NoneType")
  | .bl _ => some (.b "bool")
  | .int _ => some (.b "int")
  | .str _ => some (.b "str")
  | .tup _ => some (.b "tuple")
  | .lst _ => some (.b "list")
  | .scr _ => some (.b "list")
  | .obj n => (match h[n]? with
    | some (.lst _) => some (.b "list")
    | some (.dI _) => some (.b "dict")
    | some (.ins C _) => some (.o C)
    | _ => none)
  | _ => none
def clsOf : D → Option Tg
  | .ty n => some (.b n)
  | .glo C => some (.o C)
  | _ => none
def tyNames : List String := ["NoneType", "bool", "int", "str", "list", "tuple", "dict"]
/-- the built-in types among themselves; what involves an own class stands in a table -/
def kit (own : List (Tg × Tg × Bool)) (t u : Tg) : Option Bool := match t, u with
  | .b a, .b c => if tyNames.contains a && tyNames.contains c then some (a == c || (a == "bool" && c == "int")) else none
  | t, u => (own.find? fun p => decide (p.1 = t ∧ p.2.1 = u)).map (·.2.2)
/-- what the table needs of the module -/
structure InsF (K : PySem.W.Frag) (C : Str) : Prop where
  cl : Cls K (He.ga K C)
  ha : PySem.W.findIn K (.ref (He.ga K C)) "__class__" = some (some (.builtin "object.__class__"))
  hn : PySem.W.specialIn K (.builtin "object.__class__") "__get__" = some (some (.builtin "getset_descriptor.__get__"))
  ht : PySem.W.takesIn K (.builtin "object.__class__") = some true
  hm : PySem.W.mroIn K (He.ga K C) (.type "object") = some true
def tgIns (K : PySem.W.Frag) : Tg → Prop
  | .b _ => True
  | .o C => InsF K C
structure OwnF (K : PySem.W.Frag) (own : List (Tg × Tg × Bool)) : Prop where
  at_ : ∀ p ∈ own, PySem.W.kitOne K (tgV K p.1) (tgV K p.2.1) = some p.2.2 ∧ tgIns K p.1
theorem OwnF.nil {K : PySem.W.Frag} : OwnF K [] := ⟨fun p h => nomatch h⟩
theorem kit_tab : ∀ a ∈ tyNames, ∀ c ∈ tyNames, kitB a c = some (a == c || (a == "bool" && c == "int")) := by decide +kernel
theorem kit_ok {K : PySem.W.Frag} {own : List (Tg × Tg × Bool)} (F : OwnF K own) {t u : Tg} {b : Bool} (e : kit own t u = some b) : PySem.W.kitOne K (tgV K t) (tgV K u) = some b ∧ tgIns K t := by
  have fin : (own.find? fun p => decide (p.1 = t ∧ p.2.1 = u)).map (·.2.2) = some b → PySem.W.kitOne K (tgV K t) (tgV K u) = some b ∧ tgIns K t := fun z => by
    obtain ⟨p, h1, h2⟩ := Option.map_eq_some_iff.mp z
    have h0 : decide (p.1 = t ∧ p.2.1 = u) = true := List.find?_some (p := fun p : Tg × Tg × Bool => decide (p.1 = t ∧ p.2.1 = u)) h1
    obtain ⟨e1, e2⟩ := of_decide_eq_true h0
    have h3 := F.at_ p (List.mem_of_find?_eq_some h1)
    rw [e1, e2, h2] at h3
    exact h3
  cases t with
  | b a =>
    cases u with
    | b c =>
      have e : (if (tyNames.contains a && tyNames.contains c) = true then some (a == c || (a == "bool" && c == "int")) else none) = some b := e
      by_cases hc : (tyNames.contains a && tyNames.contains c) = true
      · rw [if_pos hc] at e
        obtain ⟨h1, h2⟩ := Bool.and_eq_true_iff.mp hc
        exact ⟨kit_ty ((kit_tab a (List.contains_iff_mem.mp h1) c (List.contains_iff_mem.mp h2)).trans e), trivial⟩
      · rw [if_neg hc] at e
        cases e
    | o C => exact fin e
  | o C =>
    cases u <;> exact fin e
def isiD (own : List (Tg × Tg × Bool)) (xs : List D) : M D := fun h => match xs with
  | [x, c] => (match tagOf h x, clsOf c with
    | some t, some u => (match kit own t u with
      | some b => .ok (.bl b) h
      | none => .bad)
    | _, _ => .bad)
  | _ => .bad
section
variable {K : PySem.W.Frag} {ι : Ix} {H : Hp} {h : Hs}
theorem tag_ok (R : Rel K ι h H) {x : D} {v : V} {t : Tg} (r : RD K ι H x v) (e : tagOf h x = some t) (ti : tgIns K t) : TyX K H v (tgV K t) := by
  have sl : ∀ {a : Addr} {vs : List V}, SqL K H a vs → TyX K H (.ref a) (.type "list") := fun {a vs} q => by
    rcases q with (q | ⟨o, q⟩) | ⟨o, its, n, q, c, _⟩
    · exact .base (.lst q)
    · exact .base (.frz q)
    · exact .kList q c
  cases r with
  | non => cases e; exact .base .non
  | bl b => cases e; exact .base (.bl b)
  | int i => cases e; exact .base (.int i)
  | str z => cases e; exact .base (.str z)
  | tup q rs =>
    cases e
    rcases q.sq with (q | ⟨o, q⟩) | ⟨o, its, n, q, c, _⟩
    · exact .base (.tup q)
    · exact .fTuple q
    · exact .kTuple q c
  | lst q rs => cases e; exact sl q.sq
  | scr q => cases e; exact sl q.sq
  | @obj n a g =>
    have e : (match h[n]? with
    | some (.lst _) => some (Tg.b "list")
    | some (.dI _) => some (.b "dict")
    | some (.ins C _) => some (.o C)
    | _ => none) = some t := e
    split at e
    · rename_i xs en
      cases e
      obtain ⟨vs, h1, _⟩ := R.at g en
      exact .base (.lst h1)
    · rename_i kvs en
      cases e
      obtain ⟨us, h1, _⟩ := R.at g en
      exact .base (.dK h1)
    · rename_i C fs en
      cases e
      obtain ⟨dx, us, h1, _⟩ := R.at g en
      have f : InsF K C := ti
      exact .base (.ins h1 f.cl f.ha f.hn f.ht f.hm)
    · cases e
  | _ => cases e
theorem cls_ok {x : D} {v : V} {u : Tg} (r : RD K ι H x v) (e : clsOf x = some u) : ClsV v (tgV K u) := by
  cases r with
  | ty n => cases e; exact .ty n
  | glo x => cases e; exact .own _
  | _ => cases e
variable {X : Cx}
theorem o_isi {own : List (Tg × Tg × Bool)} (F : OwnF X.K own) : OpA X (rIsi X.K) (isiD own) := by
  intro ι h H xs vs W Q R rs p
  unfold isiD at p
  split at p
  · obtain ⟨v, u, rfl, r, r'⟩ := rs.two
    split at p
    · rename_i e1 e2
      split at p
      · rename_i b e3
        obtain ⟨h1, h2⟩ := kit_ok F e3
        exact ⟨v, u, _, _, b, rfl, cls_ok r' e2, tag_ok R r e1 h2, h1, p.ok R (.bl _)⟩
      · exact p.elim
    · exact p.elim
  · exact p.elim
/-! ### truth -/
def truD (h : Hs) : D → Option Bool
  | .non => some false
  | .bl b => some b
  | .int i => some (i != 0)
  | .str z => if okLen z.length then some ((z.length : Int) != 0) else none
  | .tup xs => some (!xs.isEmpty)
  | .lst xs => some (!xs.isEmpty)
  | .obj n => (match h[n]? with
    | some (.lst xs) => some (!xs.isEmpty)
    | some (.dI kvs) => some (!kvs.isEmpty)
    | _ => none)
  | _ => none
theorem rds_empty {xs : List D} {vs : List V} (r : RDs K ι H xs vs) : (!vs.isEmpty) = !xs.isEmpty := by cases r <;> rfl
theorem rf_empty {κ : Type} {xs : List (κ × D)} {vs : List (κ × V)} (r : RF K ι H xs vs) : (!vs.isEmpty) = !xs.isEmpty := by cases r <;> rfl
theorem tru_rd (R : Rel K ι h H) {x : D} {v : V} {b : Bool} (r : RD K ι H x v) (e : truD h x = some b) : TruV K v H b := by
  cases r with
  | non => cases e; exact rfl
  | bl b => cases e; exact rfl
  | int i => cases e; exact rfl
  | str z =>
    have e : (if okLen z.length then some ((z.length : Int) != 0) else none) = some b := e
    split at e
    · rename_i c
      cases e
      exact ⟨okLen_ok c, rfl⟩
    · cases e
  | tup q rs => cases e; exact .inr (.inl ⟨_, q.sq, (rds_empty rs).symm⟩)
  | lst q rs => cases e; exact .inl ⟨_, q.sq, (rds_empty rs).symm⟩
  | @obj n a g =>
    have e : (match h[n]? with
    | some (.lst xs) => some (!xs.isEmpty)
    | some (.dI kvs) => some (!kvs.isEmpty)
    | _ => none) = some b := e
    split at e
    · rename_i xs en
      cases e
      obtain ⟨vs, h1, h2⟩ := R.at g en
      exact .inl ⟨_, SqL.of h1, (rds_empty h2).symm⟩
    · rename_i kvs en
      cases e
      obtain ⟨us, h1, h2⟩ := R.at g en
      exact .inr (.inr ⟨_, h1, (rf_empty h2).symm⟩)
    · cases e
  | _ => cases e
def andX (ca cb : Env → M D) : Env → M D := fun ρ h => (ca ρ h).bind fun x h1 => match truD h1 x with
  | some true => cb ρ h1
  | some false => .ok x h1
  | none => .bad
def notX (x : D) : M D := fun h => match truD h x with
  | some b => .ok (.bl (!b)) h
  | none => .bad
variable {W : WX} {pos : Pos} {a b : Expr} {ca cb : Env → M D} {rest : List Expr}
theorem de_andX (ha : DE X W a ca) (hb : DE X W (.BoolOp .And (b :: rest) pos) cb) : DE X W (.BoolOp .And (a :: b :: rest) pos) (andX ca cb) := pe_imp (pe_andT ha hb) fun σ H Q ⟨ι, h, ρ, R, S, p⟩ => by
  refine ⟨ι, h, ρ, R, S, Post.imp (Post.bind p) fun x H1 ⟨ι1, h1, dx, x1, R1, r1, p1⟩ => ?_⟩
  split at p1
  · rename_i e
    refine ⟨true, tru_rd R1 r1 e, ?_⟩
    rw [if_pos rfl]
    exact ⟨ι1, h1, ρ, R1, S.mono x1, p1⟩
  · rename_i e
    refine ⟨false, tru_rd R1 r1 e, ?_⟩
    rw [if_neg Bool.false_ne_true]
    exact p1.ok R1 r1
  · exact p1.elim
theorem de_notX (ha : DE X W a ca) : DE X W (.UnaryOp .Not a pos) (e1 notX ca) := pe_imp (pe_notT ha) fun σ H Q ⟨ι, h, ρ, R, S, p⟩ => by
  refine ⟨ι, h, ρ, R, S, Post.imp (Post.bind p) fun x H1 ⟨ι1, h1, dx, x1, R1, r1, p1⟩ => ?_⟩
  unfold notX at p1
  split at p1
  · rename_i b e
    exact ⟨b, tru_rd R1 r1 e, p1.ok R1 (.bl _)⟩
  · exact p1.elim
def tru (ca : Env → M D) : Env → M Bool := fun ρ h => (ca ρ h).bind fun x h1 => match truD h1 x with
  | some b => .ok b h1
  | none => .bad
theorem dt_tru (ha : DE X W a ca) (he : ∀ whole, isTrue a X.env whole = (do let v ← whole; standAt a.pos; holding [v] (truthy v)) := by intro _; rfl) : DT X W a (tru ca) := pt_imp (pt_truth ha he) fun σ H Q ⟨ι, h, ρ, R, S, p⟩ => by
  refine ⟨ι, h, ρ, R, S, Post.imp (Post.bind p) fun x H1 ⟨ι1, h1, dx, x1, R1, r1, p1⟩ => ?_⟩
  split at p1
  · rename_i b e
    exact ⟨b, tru_rd R1 r1 e, p1.ok R1 rfl⟩
  · exact p1.elim
variable {c : Expr} {cc : Env → M D}
end
end Dl

/-! The D layer, 16: what the printed texts name. -/
namespace Dl
open PySem PySem.Spec PyProof.Rows L2
variable [Tb]

theorem u1 {k : Nat} {A : Around} (hr : Room k A) : A.units + 1 < cLine := by have := hr.un; omega
theorem u64 {k : Nat} {A : Around} (hr : Room k A) : A.units + 64 < cLine := by have := hr.un; omega
theorem u65 {k : Nat} {A : Around} (hr : Room k A) : A.units + 65 < cLine := by have := hr.un; omega
/-- a while's limit: the number in a slot goes down at each turn -/
def limI (i : Nat) (ρ : Env) (_ : Hs) : Nat := match ρ[i]? with
  | some (some (.int k)) => k.natAbs + 2
  | _ => 1
/-! ### break, continue -/
/-! ### facts of the module -/
theorem tup_kt {K : PySem.W.Frag} {x : Str} {is : List Int} (h : He.tupB K x (is.map He.Dv.int) = true) : KT K (He.ga K x) (is.map V.int) := by
  have z := He.tupB_ok h (fun _ => none)
  rw [List.map_map] at z
  have e : is.map (He.Dv.v K ∘ He.Dv.int) = is.map V.int := rfl
  rw [e] at z
  rcases z with (z | ⟨o, z⟩) | z
  · cases z
  · cases z
  · exact z
def insB (K : PySem.W.Frag) (C : Str) : Bool := (He.Fa.cls C).ok K && (He.eqO (PySem.W.findIn K (.ref (He.ga K C)) "__class__") (some (some (.builtin "object.__class__"))) && (He.eqO (PySem.W.specialIn K (.builtin "object.__class__") "__get__") (some (some (.builtin "getset_descriptor.__get__"))) &&
  (decide (PySem.W.takesIn K (.builtin "object.__class__") = some true) && decide (PySem.W.mroIn K (He.ga K C) (.type "object") = some true))))
def ownB (own : List (Tg × Tg × Bool)) (K : PySem.W.Frag) : Bool := own.all fun p => decide (PySem.W.kitOne K (tgV K p.1) (tgV K p.2.1) = some p.2.2) && (match p.1 with
  | .b _ => true
  | .o C => insB K C)
theorem ownB_ok {K : PySem.W.Frag} {own : List (Tg × Tg × Bool)} (h : ownB own K = true) : OwnF K own := by
  refine ⟨fun p hp => ?_⟩
  obtain ⟨h1, h2⟩ := He.ba (List.all_eq_true.mp h p hp)
  refine ⟨of_decide_eq_true h1, ?_⟩
  obtain ⟨t, u, b⟩ := p
  cases t with
  | b n => trivial
  | o C =>
    obtain ⟨k1, k2⟩ := He.ba (show insB K C = true from h2)
    obtain ⟨k2, k3⟩ := He.ba k2
    obtain ⟨k3, k4⟩ := He.ba k3
    obtain ⟨k4, k5⟩ := He.ba k4
    exact ⟨He.cls_ok k1, He.eqO_ok k2, He.eqO_ok k3, of_decide_eq_true k4, of_decide_eq_true k5⟩
end Dl

/-! The D layer, 17: sorted. -/
namespace Dl
open PySem PySem.Spec PyProof.Rows L2
variable [Tb]

/-! ### tuples, an empty one among them -/
section
variable {prog : Program} {w : World} {A : Around} {E : Value → Shared → Prop} {s : Shared}
end
/-! ### sorted of a tuple: as of a list -/
section
variable {prog : Program} {w : World} {A : Around} {E : Value → Shared → Prop} {s : Shared}
end
/-! ### the rule -/
/-! ### what it computes -/
section
variable {K : PySem.W.Frag} {ι : Ix} {H : Hp} {h : Hs}
end
/-! ### by insertion -/
end Dl

/-! The D layer, 18: enumerate of a tuple or a list. -/
namespace PySem
open Sem (wp)
open AutoSeq1 (wpAny_loadPart')
set_option maxHeartbeats 1000000 in
theorem meets_enumerate_newB1 {v : Value} {o : Obj} {H : Heap → Prop} (B : Begins v o H) :
    Meets (Builtin.«enumerate.__new__» ⟨[.type "enumerate", v], []⟩) (fun _ R s => H s.heap ∧
      R (.ok (.ret (.ref (s.heap.push o).objs.size))) { s with heap := (s.heap.push o).push { cls := .type "enumerate", data := .fields #[.none, .bool false, .ref s.heap.objs.size, rawInt 0, .none, .none] } }) :=
  .of_wp fun prog w A R s h => by
    obtain ⟨hp, g, d, tk, os⟩ := s; obtain ⟨h1, h⟩ := h
    have hsub := sub_enumerate
    have q1 : ∀ {A' : Around} {E : Value → Shared → Prop} {Q : Value → Shared → Prop}, Q (.ref hp.objs.size) ⟨hp.push o, g, d, tk, os⟩ → wpAny (model prog w) A' (pyIter v) Q E ⟨hp, g, d, tk, os⟩ :=
      fun q => B.iter prog w _ _ ⟨hp, g, d, tk, os⟩ _ h1 q
    wp_walk using q1
    refine wpAny_stack_any fun st => wpAny_pure ?_
    split
    · rename_i c _ _ _ _ _
      cases (c == Value.type "enumerate")
      · wp_walk using q1
        exact ⟨_, rfl, h⟩
      · wp_walk using q1
        exact ⟨_, rfl, h⟩
    · wp_walk using q1
      exact ⟨_, rfl, h⟩
theorem call_enumerate_B {prog : Program} {w : World} {A : Around} {E : Value → Shared → Prop} {s : Shared} {v : Value} {o : Obj} {H : Heap → Prop} {Q : Value → Shared → Prop} (B : Begins v o H) (h1 : H s.heap)
    (h : ∀ h', IsEnum h' (s.heap.objs.size + 1) s.heap.objs.size 0 .none → h'.get? s.heap.objs.size = some o → h'.objs.size = s.heap.objs.size + 2 →
      (∀ b o, s.heap.get? b = some o → h'.get? b = some o) → Q (.ref (s.heap.objs.size + 1)) { s with heap := h' }) :
    wpAny (model prog w) A (call (.type "enumerate") [v]) Q E s := by
  refine callType_new F.called_enumerate (by decide) (F.typeCall_enumerate_1 _) (F.newCall_enumerate_1 _) (fun obj => F.args_object_init_2 obj _) F.entry_enumerate_new
    (meets_enumerate_newB1 B) ⟨h1, ?_⟩
  have hz : (s.heap.push o).objs.size = s.heap.objs.size + 1 := Heap.size_push ..
  show _ ∧ _
  rw [hz]
  have he : IsEnum ((s.heap.push o).push { cls := .type "enumerate", data := .fields #[.none, .bool false, .ref s.heap.objs.size, rawInt 0, .none, .none] }) (s.heap.objs.size + 1) s.heap.objs.size 0 .none := by
    have := Heap.get?_push_size (s.heap.push o) (o := { cls := .type "enumerate", data := .fields #[.none, .bool false, .ref s.heap.objs.size, rawInt 0, .none, .none] }) rfl
    rw [hz] at this; exact this
  refine ⟨⟨_, he, rfl⟩, h _ he (Heap.get?_push_of_some _ (Heap.get?_push_size _ B.free)) (by rw [Heap.size_push, hz]) fun b o x => Heap.get?_push_of_some _ (Heap.get?_push_of_some _ x)⟩
end PySem
namespace Dl
open PySem PySem.Spec PyProof.Rows L2
variable [Tb]
def IteT (K : PySem.W.Frag) (a : Addr) : It :=
  ⟨fun i H => ∃ (xs : List V) (x : V), SqT K H a xs ∧ xs[i]? = some x, fun i H v H' => ∃ T x, v = .ref T ∧ H T = none ∧ H' = upd H T (.tup [.int (i : Nat), x]) ∧ ∀ xs, SqT K H a xs → xs[i]? = some x, fun i H => ∃ xs : List V, SqT K H a xs ∧ xs.length ≤ i⟩
theorem turn_enumT {P : Program} {w : World} {K : PySem.W.Frag} {elts : List Expr} {kk : Nat} {tpos : Pos} (a e it : Addr) :
    Turn P w K (.Tuple elts kk tpos) (IteT K a) [e, it] e (fun i h => (∃ old, IsEnum h e it ((i : Nat) : Int) old) ∧ h.IsTupleIter it a i ∧ e ≠ it ∧ e ≠ a ∧ a ≠ it) where
  mem := by simp
  obj := fun i h st b hb => by
    obtain ⟨⟨old, he⟩, ⟨o, ho, hc, hd⟩, _⟩ := st
    have e' : b = e ∨ b = it := by simpa using hb
    rcases e' with z | z
    · rw [z]; exact ⟨_, he, fun v q => nomatch q⟩
    · rw [z]; exact ⟨o, ho, fun v q => by rw [hd] at q; cases q⟩
  keep := fun i h h' st k => let ⟨⟨old, he⟩, hi, hne⟩ := st; ⟨⟨old, k e (by simp) _ he⟩, hi.at fun o q => k it (by simp) o q, hne⟩
  item := by
    intro X hP hw hK hc i pins s σ H E I hf st hg
    subst hP hw hK
    obtain ⟨⟨old, he⟩, hit, hne, hea, hai⟩ := st
    obtain ⟨xs, x, hq, hx⟩ := hg
    obtain ⟨its, rv, p, hz⟩ := I.tuple hq
    obtain ⟨u, hu, ru⟩ := rv.get hx
    have hel : e < s.heap.objs.size := Heap.lt_size he
    have hil : it < s.heap.objs.size := by obtain ⟨_, q, _⟩ := hit; exact Heap.lt_size q
    have hlt : i < its.toArray.size := by
      rw [List.size_toArray]
      exact (List.getElem?_eq_some_iff.mp hu).1
    have pT : s.heap.IsTuple a its.toArray := p
    refine wpAny_pyNext_enum_itemC (fp := [it, a]) (c := ((i : Nat) : Int)) (Draws.tuple (A := X.A.in1) (show X.A.in1.handled = none from I.ok.hd hc) it a hai its.toArray) he ⟨hit, pT⟩ hlt hne (by simp [hne, hea]) fun x' h' tk hx' ho st' hT hsz hk => ?_
    obtain ⟨hit', _⟩ := st'
    have hxe : x' = u := by
      have : its.toArray[i]? = some u := by simpa using hu
      rw [this] at hx'
      exact (Option.some.inj hx').symm
    subst hxe
    refine ⟨_, rfl, wpAny_letOwnedTupleGo_enum (s := { s with heap := h', toks := tk + 1 }) ho fun h'' he' sb => ?_⟩
    have hT2 : h''.get? s.heap.objs.size = some { cls := .type "tuple", data := .seq #[.int i tk, x'] } := (sb.2 _ (Nat.ne_of_gt hel)).trans hT
    have new : ObjOk X.prog X.w (upd H s.heap.objs.size (.tup [.int (i : Nat), x])) h'' s.heap.objs.size (.tup [.int (i : Nat), x]) :=
      ⟨by show 2 ≤ sizeLine; decide, [.int i tk, x'], .cons ⟨_, rfl⟩ (.cons ru .nil), ⟨_, hT2, rfl, _, rfl⟩⟩
    have I1 : Inv X pins σ (upd H s.heap.objs.size (.tup [.int (i : Nat), x])) { s with heap := h'', toks := tk + 1 } :=
      I.turnedNew (ch := [e, it]) (fun b ob hb q => (sb.2 b (fun z => hb (by simp [z]))).trans (hk b ob (fun z => hb (by simp [z])) (fun z => hb (by simp [z])) q)) hf (Nat.le_refl _) new
    refine ⟨.ref s.heap.objs.size, _, I1, rfl, ⟨_, x, rfl, I.hok.fresh (Nat.le_refl _), rfl, fun ys hy => by rw [I.tuple_inj hy hq]; exact hx⟩, ⟨⟨x', ?_⟩, hit'.at fun o q => (sb.2 it (Ne.symm hne)).trans q, hne, hea, hai⟩, fun b hb => ?_⟩
    · have e1 : ((i + 1 : Nat) : Int) = (i : Int) + 1 := by omega
      rw [e1]; exact he'
    · have hb' : b < s.heap.objs.size := by
        have e' : b = e ∨ b = it := by simpa using hb
        rcases e' with z | z
        · rw [z]; exact hel
        · rw [z]; exact hil
      rw [upd_ne (Nat.ne_of_lt hb')]
      exact (hf b hb).1
  done := by
    intro X hP hw hK hc i pins s σ H E I hf st hg
    subst hP hw hK
    obtain ⟨⟨old, he⟩, hit, hne, hea, hai⟩ := st
    obtain ⟨xs, hq, hx⟩ := hg
    obtain ⟨its, rv, p, hz⟩ := I.tuple hq
    obtain ⟨f0, f1, f2, f3, f4, f5⟩ := hf it (by simp)
    have hl := rv.length
    have pT : s.heap.IsTuple a its.toArray := p
    have hT : s.TypeIs (.ref e) "enumerate" := ⟨_, he, rfl⟩
    unfold pyNext
    refine wpAny_bind (wpAny_attempt (wpAny_callSpecial?_slot (name := Str.ofString "__next__") hT F.slot_enumerate_next
      (wpAny_call_entry F.slot_enumerate_next hT F.entry_enumerate_next ?_ (F.args_enumerate_next_1 _))))
    show wpAny _ _ (field (.ref e) 2 >>= _) _ _ _
    refine wpAny_bind (wpAny_field he rfl (x := .ref it) rfl ?_)
    refine wpAny_bind (wpAny_nextOf_tuple_end (I.ok.hd hc) hit pT (by simp; omega) fun h' x he' hx' => ?_)
    obtain ⟨o, ho, hc'⟩ := hx'
    refine wpAny_bind (wpAny_isInstance (T := "StopIteration") (b := true) ⟨o, ho, hc'⟩ isSubtype_stop ?_)
    exact wpAny_pure ⟨rfl, I.turned (t' := s.toks) (fun b o hb q => he' b o hb q) f0 f1 f3 f4 f5⟩
  self := fun A i s Q E st h => let ⟨⟨_, he⟩, _⟩ := st; wpAny_pyIter_enum he h
def iEnumA (K : PySem.W.Frag) (ta : TA) : TI := fun σ H R => ta σ H fun vs H1 => ∃ a, vs = [.ref a] ∧ (((∃ xs, SqL K H1 a xs) ∧ R (Ite K a) H1) ∨ ((∃ xs, SqT K H1 a xs) ∧ R (IteT K a) H1))
theorem pi_enumA {X : Cx} {e : Expr} {ta : TA} {p pos tpos : Pos} {elts : List Expr} {kk : Nat} (hg : Gl X "enumerate") (hm : X.mg "enumerate" = none) (ha : PA X [e] ta) (hs : starEach [e] X.env = [(false, eval e X.env)] := by rfl) :
    PI X (.Tuple elts kk tpos) (.Call (.Name "enumerate" p) [e] [] pos) (iEnumA X.K ta) := by
  refine ⟨fun pins s σ H R I h => ?_⟩
  refine Call_ (ld_blt I hg hm boot_enumerate (PyProof.Rows.callWith_type1 (thn (ha.run pos pins s σ H _ I h) fun us s1 ⟨vs, H1, I1, r1, q1⟩ => ?_) hs rfl))
  obtain ⟨a, ex, q⟩ := q1
  subst ex
  cases r1 with
  | cons r rr =>
    cases rr
    cases r
    have fpn : ∀ b ∈ [s1.heap.objs.size + 1, s1.heap.objs.size], FpOk X pins H1 b := fun b hb => by
      have e' : b = s1.heap.objs.size + 1 ∨ b = s1.heap.objs.size := by simpa using hb
      have hle : s1.heap.objs.size ≤ b := by
        rcases e' with z | z
        · rw [z]; exact Nat.le_add_right _ _
        · rw [z]; exact Nat.le_refl _
      exact I1.fpOk hle (I1.hok.fresh hle)
    rcases q with ⟨⟨xs, hq⟩, q⟩ | ⟨⟨xs, hq⟩, q⟩
    · obtain ⟨its, rv, p', hz⟩ := I1.list hq
      refine call_enumerate_list p'.isList fun h' he hit hsz hk => wpAny_pyIter_enum he ?_
      have I2 : Inv X pins σ H1 { s1 with heap := h' } := I1.kept (t' := s1.toks) hk
      exact ⟨s1.heap.objs.size + 1, [s1.heap.objs.size + 1, s1.heap.objs.size], _, _, H1, rfl, I2, turn_enum a (s1.heap.objs.size + 1) s1.heap.objs.size, ⟨⟨.none, he⟩, hit, Nat.succ_ne_self _⟩, fpn, q⟩
    · obtain ⟨its, rv, p', hz⟩ := I1.tuple hq
      have pT : s1.heap.IsTuple a its.toArray := p'
      have hal : a < s1.heap.objs.size := by obtain ⟨_, q, _⟩ := pT; exact Heap.lt_size q
      refine call_enumerate_B (begins_tuple a its.toArray) pT fun h' he hit hsz hk => wpAny_pyIter_enum he ?_
      have I2 : Inv X pins σ H1 { s1 with heap := h' } := I1.kept (t' := s1.toks) hk
      exact ⟨s1.heap.objs.size + 1, [s1.heap.objs.size + 1, s1.heap.objs.size], _, _, H1, rfl, I2, turn_enumT a (s1.heap.objs.size + 1) s1.heap.objs.size, ⟨⟨.none, he⟩, ⟨_, hit, rfl, rfl⟩, Nat.succ_ne_self _, fun z => absurd (z ▸ hal) (Nat.not_lt.mpr (Nat.le_add_right _ _)), fun z => absurd (z ▸ hal) (Nat.lt_irrefl _)⟩, fpn, q⟩
section
variable {K : PySem.W.Frag} {ι : Ix} {H : Hp} {h : Hs}
theorem walk_enumTN {a : Addr} {n : Nat} : Walk (IteT K a) n (fun H => ∃ vs, SqT K H a vs ∧ vs.length = n) (fun i H v H' => ∃ T x y, v = .ref T ∧ H T = none ∧ H' = upd H T (.tup [x, y]) ∧ x = .int (i : Nat) ∧ ∀ ys, SqT K H a ys → ys[i]? = some y) := by
  refine ⟨fun i _ hi ⟨vs, q, e⟩ => ⟨vs, vs[i], q, by simp [e, hi]⟩, fun _ ⟨vs, q, e⟩ => ⟨vs, q, by omega⟩, fun i H v H' _ _ y => ?_⟩
  obtain ⟨T, x, h1, h2, h3, h4⟩ := y
  exact ⟨T, .int (i : Nat), x, h1, h2, h3, rfl, h4⟩
def iEnumD (cs : Env → M (List D)) : Env → M ItD := fun ρ h => (cs ρ h).bind fun ds h1 => match ds with
  | [x] => (match itOf h1 x with
    | some it => if okG it.gs h1 then .ok ⟨enumD 0 it.items, it.gs⟩ h1 else .bad
    | none => .bad)
  | _ => .bad
variable {X : Cx} {W : WX} {pos : Pos} {cs : Env → M (List D)}
theorem di_enumA {a : Expr} {p tpos : Pos} {elts : List Expr} {kk : Nat} (hg : Gl X "enumerate") (hm : X.mg "enumerate" = none) (ha : DA X W [a] cs) (hs : starEach [a] X.env = [(false, eval a X.env)] := by rfl) : DI X W (.Tuple elts kk tpos) (.Call (.Name "enumerate" p) [a] [] pos) (iEnumD cs) := pi_imp (pi_enumA hg hm ha hs) fun σ H Q ⟨ι, h, ρ, R, S, p⟩ => by
  refine ⟨ι, h, ρ, R, S, Post.imp (Post.bind p) fun vs H1 ⟨ι1, h1, ds, x1, R1, r1, p1⟩ => ?_⟩
  split at p1
  · rename_i x
    split at p1
    · rename_i it e
      obtain ⟨g, p1⟩ := p1.guard
      cases r1 with
      | cons r rr =>
        cases rr
        cases ex : isT x with
        | false =>
          obtain ⟨a, rfl, f⟩ := itOf_L r e ex
          obtain ⟨vs, q, _⟩ := f ι1 H1 h1 (Ext.refl.up) R1 g
          refine ⟨a, rfl, .inl ⟨⟨vs, q⟩, p1.ok R1 (ri_pair (walk_enumN (n := (enumD 0 it.items).length)) (fun ι' H' h' u R g => ?_) fun i ι' H' h' y z hi u R g hy hz => ?_)⟩⟩
          · obtain ⟨vs, q, r⟩ := f ι' H' h' u R g
            exact ⟨vs, q, by rw [enumD_len]; exact r.length.symm⟩
          · obtain ⟨vs, q, r⟩ := f ι' H' h' u R g
            obtain ⟨d, e1, e2⟩ := r.getV (hz vs q)
            refine ⟨_, d, enumD_at _ _ _ _ e1, ?_, e2⟩
            rw [hy, Nat.zero_add]
            exact .int _
        | true =>
          obtain ⟨a, rfl, f⟩ := itOf_T r e ex
          obtain ⟨vs, q, _⟩ := f ι1 H1 h1 (Ext.refl.up) R1 g
          refine ⟨a, rfl, .inr ⟨⟨vs, q⟩, p1.ok R1 (ri_pair (walk_enumTN (n := (enumD 0 it.items).length)) (fun ι' H' h' u R g => ?_) fun i ι' H' h' y z hi u R g hy hz => ?_)⟩⟩
          · obtain ⟨vs, q, r⟩ := f ι' H' h' u R g
            exact ⟨vs, q, by rw [enumD_len]; exact r.length.symm⟩
          · obtain ⟨vs, q, r⟩ := f ι' H' h' u R g
            obtain ⟨d, e1, e2⟩ := r.getV (hz vs q)
            refine ⟨_, d, enumD_at _ _ _ _ e1, ?_, e2⟩
            rw [hy, Nat.zero_add]
            exact .int _
    · exact p1.elim
  · exact p1.elim
end
end Dl

/-! The D layer, 19: sorted(set(a list of ints)). -/
namespace Dl
open PySem PySem.Spec PyProof.Rows L2
variable [Tb]

/-! ### the ints of a list, each once, rising -/
def insU (x : Int) : List Int → List Int
  | [] => [x]
  | y :: ys => if x < y then x :: y :: ys else if x = y then y :: ys else y :: insU x ys
def usort : List Int → List Int
  | [] => []
  | x :: xs => insU x (usort xs)
theorem insU_mem {x z : Int} : ∀ {ys : List Int}, z ∈ insU x ys ↔ z = x ∨ z ∈ ys
  | [] => by simp [insU]
  | y :: ys => by
    unfold insU
    split
    · simp
    · split
      · rename_i e
        subst e
        simp
      · rw [List.mem_cons, insU_mem (ys := ys), List.mem_cons]
        constructor
        · rintro (h | h | h)
          · exact .inr (.inl h)
          · exact .inl h
          · exact .inr (.inr h)
        · rintro (h | h | h)
          · exact .inr (.inl h)
          · exact .inl h
          · exact .inr (.inr h)
theorem insU_up {x : Int} : ∀ {ys : List Int}, ys.Pairwise (· < ·) → (insU x ys).Pairwise (· < ·)
  | [], _ => by simp [insU]
  | y :: ys, h => by
    obtain ⟨h1, h2⟩ := List.pairwise_cons.mp h
    unfold insU
    split
    · rename_i l
      refine List.pairwise_cons.mpr ⟨fun z hz => ?_, h⟩
      rcases List.mem_cons.mp hz with e | e
      · rw [e]; exact l
      · exact Int.lt_trans l (h1 z e)
    · split
      · exact h
      · rename_i l n
        refine List.pairwise_cons.mpr ⟨fun z hz => ?_, insU_up h2⟩
        rcases insU_mem.mp hz with e | e
        · rw [e]; omega
        · exact h1 z e
theorem usort_mem {z : Int} : ∀ {xs : List Int}, z ∈ usort xs ↔ z ∈ xs
  | [] => Iff.rfl
  | x :: xs => by
    unfold usort
    rw [insU_mem, usort_mem (xs := xs), List.mem_cons]
theorem usort_up : ∀ xs : List Int, (usort xs).Pairwise (· < ·)
  | [] => .nil
  | x :: xs => insU_up (usort_up xs)
/-- rising ones with the same members are one -/
theorem up_eq : ∀ {xs ys : List Int}, xs.Pairwise (· < ·) → ys.Pairwise (· < ·) → (∀ z, z ∈ xs ↔ z ∈ ys) → xs = ys
  | [], [], _, _, _ => rfl
  | [], y :: ys, _, _, h => by have := (h y).mpr List.mem_cons_self; simp at this
  | x :: xs, [], _, _, h => by have := (h x).mp List.mem_cons_self; simp at this
  | x :: xs, y :: ys, hx, hy, h => by
    obtain ⟨x1, x2⟩ := List.pairwise_cons.mp hx
    obtain ⟨y1, y2⟩ := List.pairwise_cons.mp hy
    have e : x = y := by
      rcases List.mem_cons.mp ((h x).mp List.mem_cons_self) with a | a
      · exact a
      · rcases List.mem_cons.mp ((h y).mpr List.mem_cons_self) with b | b
        · exact b.symm
        · have := y1 x a
          have := x1 y b
          omega
    subst e
    rw [up_eq x2 y2 fun z => ⟨fun m => ?_, fun m => ?_⟩]
    · rcases List.mem_cons.mp ((h z).mp (List.mem_cons_of_mem _ m)) with b | b
      · have := x1 z m; omega
      · exact b
    · rcases List.mem_cons.mp ((h z).mpr (List.mem_cons_of_mem _ m)) with b | b
      · have := y1 z m; omega
      · exact b

/-! ### set(a list of ints) -/
section
variable {P : Program} {w : World} {A : Around} {E : Value → Shared → Prop} {s : Shared}
/-- a set as it is made -/
abbrev obS (w : World) : Obj := { cls := .type "set", dict := none, data := .set #[] 0 (.fresh 0 0 (!w.params.followText "set-order")) }
abbrev pS1 (w : World) (s : Shared) : Heap := s.heap.push (obS w)
theorem setL {l : Addr} {its : Array Value} (ns : List Int) {Q : Value → Shared → Prop} (hh : A.handled = none) (hl : s.heap.IsList l its) (hit : IntsAre its.toList ns) (hb : ns.length + 1 < scanBound)
    (k : ∀ (h' : Heap) (tk c : Nat), SetR w h' s.heap.objs.size (fun j => decide (j ∈ ns)) c → c ≤ ns.length → (∀ b o, s.heap.get? b = some o → h'.get? b = some o) → Q (.ref s.heap.objs.size) { s with heap := h', toks := tk }) : wpAny (model P w) A (call (.type "set") [.ref l]) Q E s := by
  have sz : its.size = ns.length := by rw [← Array.length_toList]; exact IntsAre.length hit
  obtain ⟨cc, tl, hmro⟩ := F.called_set.mro
  have made := F.called_set.made
  have subs := F.called_set.sub
  refine wpAny_call (codeAny_of_tree (show wpAny _ _ (callAny (.type "set") _) _ _ _ from wpAny_pure ⟨Code.quiet_builtin _ (by decide +kernel), codeAny_builtin F.entry_type_call ?_⟩))
  rw [Around.under_plain (weight_type_call_type "set" [.ref l] []) rfl]
  have a1 := F.called_set.notType
  have a2 := F.called_set.canCreate
  have a3 := F.typeCall_set_1 (.ref l)
  repeat (any_goals (first | assumption | wp_step))
  refine codeAny_mono (code_set_led1 (.ref l) (E := E) (Q₁ := fun o s1 => o = .ref s.heap.objs.size ∧ s1 = { s with heap := pS1 w s }) ⟨rfl, rfl⟩) fun r s1 hr => ?_
  cases r with
  | error e => exact hr
  | ok fl =>
    cases fl with
    | ret o1 =>
      obtain ⟨rfl, rfl⟩ := hr
      have g0 : (pS1 w s).get? s.heap.objs.size = some (obS w) := Heap.get?_push_size _ rfl
      have ty : Shared.TypeIs { s with heap := pS1 w s } (.ref s.heap.objs.size) "set" := ⟨_, g0, rfl⟩
      have b1 := F.called_set.init.lookup
      have b2 := F.called_set.init.bind (.ref s.heap.objs.size)
      repeat (any_goals (first | assumption | wp_step))
      refine codeAny_mono (codeAny_call_builtin (R := wants (fun r s2 => r = .none ∧ ∃ h' tk c, s2 = { s with heap := h', toks := tk } ∧ SetR w h' s.heap.objs.size (fun j => decide (j ∈ ns)) c ∧ c ≤ ns.length ∧ (∀ b o, s.heap.get? b = some o → h'.get? b = some o)) E) F.called_set.init.plain F.entry_set_init (check_set_init_1 ty ?_)) fun r2 s2 hr2 => ?_
      · obtain ⟨ol, hol, hcl, nl, hdl⟩ := hl
        obtain ⟨ocls, odict, odata, oslots⟩ := ol
        simp only at hcl hdl
        subst hcl hdl
        have hol' : (pS1 w s).get? l = some { cls := .type "list", dict := odict, data := .seq its nl, slots := oslots } := Heap.get?_push_of_some _ hol
        have s1 := F.sub_list_set
        have s2 := F.sub_list_frozenset
        have s3 : (Value.type "list" == Value.type "dict") = false := by decide
        have il : (pS1 w s).IsList l its := ⟨_, hol', rfl, nl, rfl⟩
        unfold Builtin.«set.__init__» noKeywords Builtin.Frozenset.updateFrom
        generalize hP : pyIter = PI
        wp_walk
        subst hP
        refine wpAny_pyIter_list il (wpAny_bind (wpAny_runValue ?_))
        have lt : l < s.heap.objs.size := Heap.lt_size hol
        have z1 : (pS1 w s).objs.size = s.heap.objs.size + 1 := Heap.size_push ..
        have hd3 : A.in1.in1.in1.handled = none := by simp [hh]
        have val : ∀ (i : Nat) (v : Value), its[i]? = some v → ∃ k t, ns[i]? = some k ∧ v = .int k t := fun i v hv => by
          have hi : i < ns.length := by rw [← sz]; exact (Array.getElem?_eq_some_iff.mp hv).1
          obtain ⟨t, e⟩ := PyProof.Rows.IntsAre.int_at hit i v (by rw [Array.getElem?_toList]; exact hv)
          exact ⟨ns[i], t, List.getElem?_eq_getElem hi, by rw [e, List.getD_eq_getElem?_getD, List.getElem?_eq_getElem hi] <;> rfl⟩
        refine set_update_ints ((Walks.list hd3 _ l (by rw [z1]; exact Nat.ne_of_lt (Nat.lt_succ_of_lt lt)) its).toS) s.heap.objs.size (by rw [z1]; simp only [List.mem_cons, List.not_mem_nil, or_false, not_or]; exact ⟨Nat.ne_of_lt (Nat.lt_succ_self _), Nat.ne_of_gt lt⟩) ns sz hb val (its.size - 0) 0 _ (by omega) (Nat.zero_le _)
          ⟨⟨_, Heap.get?_push_size _ rfl, rfl, rfl⟩, (il.push _)⟩ ⟨0, Nat.le_refl 0, setR_new_at (Heap.get?_push_of_some _ g0)⟩ fun s' c' hm hc' hS' => ?_
        obtain ⟨h', gn, dr, tk', os'⟩ := s'
        obtain rfl : gn = s.gens := hm.gens
        obtain rfl : dr = s.drawn := hm.drawn
        obtain rfl : os' = s.os := hm.os
        refine (show wpAny _ _ _ _ _ _ from wpAny_pure ?_)
        rw [sz] at hc'
        refine (show wpAny _ _ (ret Value.none) _ _ _ from wpAny_pure ⟨rfl, h', tk', c', rfl, hS', hc', fun b o e => ?_⟩)
        have bl : b < s.heap.objs.size := Heap.lt_size e
        exact hm.heap b o (by rw [z1]; simp only [List.mem_cons, List.not_mem_nil, or_false, not_or]; exact ⟨Nat.ne_of_lt bl, Nat.ne_of_lt (Nat.lt_succ_of_lt bl)⟩) (Heap.get?_push_of_some _ (Heap.get?_push_of_some _ e))
      · cases r2 with
        | error e => exact hr2
        | ok fl2 =>
          cases fl2 with
          | ret r =>
            obtain ⟨rfl, h', tk, c', rfl, hS', hc', hk'⟩ := hr2
            repeat (any_goals (first | assumption | wp_step))
            exact k _ _ _ hS' hc' hk'
          | _ => exact hr2.elim
    | _ => exact hr.elim
end

/-! ### sorted(set(e)) -/
section
variable {X : Cx} {W : WX} {a : Expr} {ca : Env → M D} {p p2 q pos : Pos}
def tSortU (K : PySem.W.Frag) (ta : TE) : TE := fun σ H Q => ta σ H fun x H1 => ∃ l ns, x = .ref l ∧ SqL K H1 l (ns.map V.int) ∧ ns.length < 60 ∧ ∀ r, H1 r = none → Q (.ref r) (upd H1 r (.lst ((usort ns).map V.int)))
theorem pe_sortU {ta : TE} (hc : X.calm = true) (hg : Gl X "sorted") (hm : X.mg "sorted" = none) (hg2 : Gl X "set") (hm2 : X.mg "set" = none) (ha : PE X a ta)
    (na : starEach [a] X.env = (false, eval a X.env) :: starEach [] X.env := by rfl) : PE X (.Call (.Name "sorted" p) [.Call (.Name "set" p2) [a] [] q] [] pos) (tSortU X.K ta) := by
  refine ⟨fun pins s σ H Q I h => ?_⟩
  refine Call_ (ld_blt I hg hm boot_sorted ?_)
  refine PyProof.Rows.callWith_builtin1 (PyProof.Rows.args_cons ?_ rfl) rfl rfl
  refine Call_ (ld_blt I hg2 hm2 boot_set ?_)
  refine PyProof.Rows.callWith_type1 (PyProof.Rows.args_cons (thn (ha.run pins s σ H _ I h) fun v s1 ⟨x, H1, I1, r1, q1⟩ => PyProof.Rows.args_nil ?_) na) na rfl
  obtain ⟨l, ns, rfl, hq, h60, q1⟩ := q1
  cases r1
  obtain ⟨its, r, pl, hz⟩ := I1.list hq
  have hd := I1.ok.hd hc
  have sb : ns.length + 1 < scanBound := by unfold scanBound; omega
  refine setL ns hd pl.isList (by simpa using ints_of_vals r) sb fun h' tk c R hcn hk => PyProof.Rows.args_nil ?_
  refine sorted_set (s := { s1 with heap := h', toks := tk }) R hd (by omega) fun s' pp out cp ms kp g o hp hgp hi hs hm' hl => ?_
  have kall : ∀ b u, s1.heap.get? b = some u → s'.heap.get? b = some u := fun b u e => kp b u (hk b u e)
  have e1 : ms = usort ns := up_eq hs (usort_up ns) fun z => by rw [hm' z, usort_mem]; simp
  subst e1
  have hle : s1.heap.objs.size ≤ pp := Nat.le_trans (Nat.le_of_lt (SetR.lt R)) hp
  have hn : H1 pp = none := I1.hok.fresh hle
  have hlen : ((usort ns).map V.int).length ≤ sizeLine := by rw [List.length_map, hl, sizeLine_eq]; omega
  have J : Inv X pins σ (upd H1 pp (.lst ((usort ns).map V.int))) { s1 with heap := s'.heap, gens := s'.gens, drawn := s'.drawn, toks := s'.toks } :=
    I1.call (ch := []) (Un.laid kall hle hn) (I1.hok.laid kall hle ⟨hlen, out.toList, cp, vals_of_ints hi, hgp⟩) (by rw [g]; exact I1.bare) (fun _ z => nomatch z)
  have e : s' = { s1 with heap := s'.heap, gens := s'.gens, drawn := s'.drawn, toks := s'.toks } := by
    cases s'
    cases s1
    cases o
    rfl
  rw [e]
  exact ⟨.ref pp, _, J, rfl, q1 pp hn⟩
def sortUN (x : D) : M (List D) := fun h => match (items h x).bind allInt with
  | some ns => if decide (ns.length < 60) then .ok ((usort ns).map .int) h else .bad
  | none => .bad
def nSortU (ca : Env → M D) : Env → M (List D) := fun ρ h => (ca ρ h).bind sortUN
theorem dn_sortU (hc : X.calm = true) (hg : Gl X "sorted") (hm : X.mg "sorted" = none) (hg2 : Gl X "set") (hm2 : X.mg "set" = none) (ha : DE X W a ca)
    (na : starEach [a] X.env = (false, eval a X.env) :: starEach [] X.env := by rfl) : DN X W (.Call (.Name "sorted" p) [.Call (.Name "set" p2) [a] [] q] [] pos) (nSortU ca) := pe_imp (pe_sortU hc hg hm hg2 hm2 ha na) fun σ H Q ⟨ι, h, ρ, R, S, p⟩ => by
  refine ⟨ι, h, ρ, R, S, Post.imp (PostN.bind p) fun x H1 ⟨ι1, h1, dx, x1, R1, r1, p1⟩ => ?_⟩
  unfold sortUN at p1
  split at p1
  · rename_i ns e
    obtain ⟨c, p1⟩ := p1.guard
    obtain ⟨l, rfl, hq⟩ := ints_of R1 r1 e
    exact ⟨l, ns, rfl, hq, of_decide_eq_true c, fun r hr => p1.new x1 R1 RDs.ofInts hr⟩
  · exact p1.elim
end
end Dl

/-! The D layer, 20: recursion; sorted(a dict); tuple(range(..)), list(range(..)); d.get(k, x); lists by an operator that may change. -/
namespace Dl
open PySem PySem.Spec PyProof.Rows L2
variable [Tb]

/-! ### what is never called -/
theorem fnD_bad {P : Program} {w : World} {K : PySem.W.Frag} {mg : Str → Option Value} {base : Heap} {x qual : Str} {params : Arguments} {body : List Stmt} {scope : Scope} {f : Addr} {fd : FuncData} {ps : List Str} {k n : Nat}
    (F : FunD K x qual params body scope [] [] f fd) (hn : ps.length = n) (b : Binds K fd ps []) : FnD P w K mg base k f n (fun _ _ => .bad) :=
  ⟨fd, ps, ⟨fun vs H Q E h => h.1.trans hn.symm, fun A outer s H args us vs Q E hr gd e0 bt r h => by
    obtain ⟨_, ι, h0, ds, R, r, p⟩ := h
    exact p.elim⟩, b, F.kp⟩

/-! ### sorted(d) of a dict whose keys are ints -/
section
variable {K : PySem.W.Frag} {ι : Ix} {H : Hp} {h : Hs}
end
section
variable {X : Cx}
end

/-! ### tuple(range(..)), list(range(..)) -/
section
variable {X : Cx} {W : WX} {a b : Expr} {ca cb : Env → M D} {p p2 q pos : Pos}
/-! ### d.get(k, x) -/
variable {co ck cx : Env → M D} {o k x : Expr} {apos cpos : Pos}
/-! ### [x] * n, a + b: a new list that may change -/
end
end Dl

/-! The D layer, 21: a dict that is walked: locked meanwhile. -/
namespace Dl
open PySem PySem.Spec PyProof.Rows L2
variable [Tb]

/-! ### the lock -/
section
variable {K : PySem.W.Frag} {ι ι' : Ix} {H H' : Hp} {h h' : Hs} {a : Addr} {n : Nat} {od : Obj} {us : List (Key × V)} {kvs kvs' : List (Key × D)}
end
section
variable {X : Cx} {W : WX} {pos : Pos}
theorem RS.up2 {K : PySem.W.Frag} {ι ι' : Ix} {H H' : Hp} {ρ : Env} {σ : L2.St} (S : RS K ι H ρ σ) (u : Up ι H ι' H') : RS K ι' H' ρ σ := ⟨S.1, fun i d g => let ⟨v, h1, h2⟩ := S.2 i d g; ⟨v, h1, h2.up u⟩⟩
/-! ### its keys -/
end
end Dl

/-! The D layer, 22: own exceptions whose __init__ says super().__init__(): made, raised. -/
namespace Dl
open PySem PySem.Spec PyProof.Rows L2
variable [Tb]

def veB : List Value := [.type "ValueError", .type "Exception", .type "BaseException", .type "object"]
/-- the text of such an __init__ -/
def SupBody (body : List Stmt) : Prop := ∃ p0 p1 p2 p3 p4, body = [.Expr (.Call (.Attribute (.Call (.Name "super" p0) [] [] p1) "__init__" p2) [] [] p3) p4] ∧ (p2.endLine == p3.line) = true
/-- the function of such an __init__ -/
def SupF (P : Program) (K : PySem.W.Frag) (C f : Addr) : Prop :=
  ∃ oc od osl name qual params body scope doc pm an cda ct cc ar ccl cdd vs ccs file tf cl cld csl, K.lookup f = some ⟨oc, od, .func (PySem.W.fnX name qual params body scope [("__class__", cc)] .none .none doc pm an (.ref cda) ct), osl⟩ ∧
    params = ⟨[], [ar], none, [], [], none, []⟩ ∧ ar.arg = ("self" : Str) ∧ SupBody body ∧ scope.names.lookup ("super" : Str) = some .globalImplicit ∧ scope.names.lookup ("__class__" : Str) = some .free ∧ scope.names.lookup ar.arg = some .local ∧ (∀ x ∈ scope.names, x.2 ≠ .cell) ∧
    scope.isCoroutine = false ∧ scope.isGenerator = false ∧ scope.kind = .function ∧ PySem.W.codeIn K (.ref cda) qual = true ∧ K.lookup cda = some ⟨ccl, cdd, .fields vs, ccs⟩ ∧ vs[2]? = some (.str file tf) ∧ ((P.main.file : Str) == file) = true ∧ K.lookup cc = some ⟨cl, cld, .cell (some (.ref C)), csl⟩
/-- the facts of such a class C, its __init__ f -/
structure SupC (P : Program) (K : PySem.W.Frag) (C f : Addr) : Prop where
  made : PySem.W.excInitIn K C veB "ValueError.__new__" = true
  ini : PySem.W.findIn K (.ref C) "__init__" = some (some (.ref f))
  typ : PySem.W.typeIn K (.ref f) = some (.type "function")
  kC : PySem.W.keepIn K (.ref C) = true
  exC : PySem.W.subIn K (.ref C) (.type "BaseException") = some true
  tyC : PySem.W.typeIn K (.ref C) = some (.type "type")
  veC : PySem.W.subIn K (.ref C) (.type "ValueError") = some true
  slf : PySem.W.mroIn K C (.ref C) = some true
  sup : PySem.W.ks_superIn K C C "__init__" = some (some (.builtin "ValueError.__init__"))
  opq : PySem.W.nsIn K cStatics "thirdparty.any" = some none
  fn : SupF P K C f
  noSup : (P.main.scope.names.lookup ("super" : Str)).isSome = false

section
open PySem.W PySem.Calls
variable {prog : Program} {w : World} {K : PySem.W.Frag} {C f : Addr}
end

/-! ### C() -/
section
variable {X : Cx} {x : Str} {C f : Addr} {p pos : Pos} {k : Nat}
end
end Dl

/-! The D layer, 23: try .. except: what the suite does, by the class of the error. -/
namespace Dl
open PySem PySem.Spec PyProof.Rows L2
variable [Tb]

/-- what a suite does -/
inductive Eff where
  | ret (d : D) | set (j : Nat) (d : D) | pass
def Eff.run : Eff → SM
  | .ret d => fun _ h => .ret d h
  | .set j d => fun ρ h => .nx (ρ.set j (some d)) h
  | .pass => fun ρ h => .nx ρ h
section
variable {K : PySem.W.Frag} {ι : Ix} {H : Hp}
theorem RS.drop {ρ : Env} {σ : L2.St} {i j : Nat} {d : D} {x : Option D} (S : RS K ι H ((ρ.set i x).set j (some d)) σ) (ne : j ≠ i) : RS K ι H ((ρ.set i none).set j (some d)) (σ.set i none) := by
  refine ⟨by simpa using S.1, fun k d' g => ?_⟩
  by_cases ek : k = i
  · subst ek
    rw [List.getElem?_set_ne ne] at g
    by_cases hl : k < ρ.length
    · rw [List.getElem?_set_self hl] at g
      cases g
    · rw [List.getElem?_eq_none (by rw [List.length_set]; omega)] at g
      cases g
  · have g2 : ((ρ.set i x).set j (some d))[k]? = some (some d') := by
      by_cases ej : j = k
      · subst ej
        have hl : j < ρ.length := by
          rcases Nat.lt_or_ge j ρ.length with z | z
          · exact z
          · rw [List.getElem?_eq_none (by rw [List.length_set, List.length_set]; omega)] at g
            cases g
        rw [List.getElem?_set_self (by rw [List.length_set]; exact hl)] at g ⊢
        exact g
      · rw [List.getElem?_set_ne ej, List.getElem?_set_ne (Ne.symm ek)] at g ⊢
        exact g
    obtain ⟨v, h1, h2⟩ := S.2 k d' g2
    exact ⟨v, by rw [List.getElem?_set_ne (Ne.symm ek)]; exact h1, h2⟩
end
/-- the suite with the error in slot i does e -/
def Does (n i : Nat) (a : Addr) (cs : SM) (e : Eff) : Prop := ∀ (ρ : Env) (h : Hs), ρ.length = n → match e with
  | .ret d => cs (ρ.set i (some (.exn a))) h = .ret d h
  | .set j d => j ≠ i ∧ cs (ρ.set i (some (.exn a))) h = .nx ((ρ.set i (some (.exn a))).set j (some d)) h
  | .pass => cs (ρ.set i (some (.exn a))) h = .nx (ρ.set i (some (.exn a))) h
/-- a class that the clause takes, what its suite does -/
def HdN (X : Cx) (n i : Nat) (c : Value) (suite : List Stmt) (C : Str) (e : Eff) : Prop := PySem.W.exmOne X.K (.ref (He.ga X.K C)) c = some true ∧ ∃ cs : Addr → SM,
  (∀ (a : Addr) (oe : Obj) (pn : List (Addr × Obj)), Zc (.ref (He.ga X.K C)) none oe → (∃ vs, oe.data = .fields vs) → DSs (X.suite a ((a, oe) :: pn)) NoW suite (cs a)) ∧ ∀ a, Does n i a (cs a) e

section
variable {X : Cx} {Wout : WX} {x nm : Str} {c : Value} {i n : Nat} {body suite : List Stmt} {b₀ : Stmt} {np pos pos' : Pos} {cb : SM} {tbl : List (Str × Eff)}
/-- isinstance of the error that the suite has -/
noncomputable def eIsE (a : Addr) (i : Nat) (b : Bool) : Env → M D := fun ρ h => (Classical.propDecidable (ρ[i]? = some (some (.exn a)))).casesOn (fun _ => .bad) fun _ => .ok (.bl b) h
end
end Dl

/-! The D layer, 24: o.f, o.g = e. -/
namespace Dl
open PySem PySem.Spec PyProof.Rows L2
variable [Tb]

section
variable {X : Cx} {W : WX} {pos p' p'' : Pos} {o o2 e : Expr} {f g : Str} {to : TE}
end
end Dl

/-! The D layer, 25: == and != of two instances by their own __eq__. -/
namespace Dl
open PySem PySem.Spec PyProof.Rows L2
variable [Tb]

section
variable {X : Cx} {C : Str} {mf : List D → M D} {k : Nat} {W : WX}
/-- the facts of a class with an own __eq__ -/
structure OwnC (K : PySem.W.Frag) (C f : Addr) : Prop where
  eq : PySem.W.findIn K (.ref C) "__eq__" = some (some (.ref f))
  fn : PySem.W.isFn K (.ref f) = true
  ne : PySem.W.findIn K (.ref C) "__ne__" = some (some (.builtin "object.__ne__"))
  ob : PySem.W.subIn K (.ref C) (.type "object") = some true

variable {a b : Expr} {ca cb : Env → M D} {pos : Pos}
theorem own_nil {K : PySem.W.Frag} : OwnF K [] := OwnF.nil
end
end Dl

/-! The D layer, 26: dicts whose keys are tuples of ints and tuples. -/
namespace Dl
open PySem PySem.Spec PyProof.Rows L2
variable [Tb]

/-! ### keys -/
section
variable {X : Cx} {pins : List (Addr × Obj)} {σ : L2.St} {H : Hp} {s : Shared} {ι : Ix} {h : Hs}
/-! ### the dict -/
end

/-! ### k in d, d[k], d[k] = v -/
section
variable {X : Cx}
variable {W : WX} {pos : Pos} {a b e o ix : Expr} {ca cb ce co cx : Env → M D}
end
end Dl

/-! The D layer, 27: dict(list of pairs). -/
namespace Dl
open PySem PySem.Spec PyProof.Rows L2
variable [Tb]

section
variable {K : PySem.W.Frag} {ι : Ix} {H : Hp}
end
section
variable {X : Cx}
end
end Dl

/-! The D layer, 28: tuple * 1 is that tuple. -/
namespace Dl
open PySem PySem.Spec PyProof.Rows L2
variable [Tb]

section
variable {X : Cx}
variable {W : WX} {pos : Pos} {a b : Expr} {ca cb : Env → M D}
end
end Dl

/-! The D layer, 29: zip of a tuple and a list, by cursors: whatever iterators two cursors stand for, zip takes a step of each. -/
namespace Dl
open PySem PySem.Spec PyProof.Rows L2 RZ
variable [Tb]

/-- an iterator, the thing it walks, one step of it, its end -/
structure Cur (it l : Addr) (items : Array Value) (pos : Nat → Heap → Prop) (src : Heap → Prop) : Prop where
  obj : ∀ {i h}, pos i h → ∃ o, h.get? it = some o ∧ ∀ v, o.data ≠ .cell v
  kept : ∀ {i h h'}, (∀ o, h.get? it = some o → h'.get? it = some o) → pos i h → pos i h'
  same : ∀ {h h'}, (∀ o, h.get? l = some o → h'.get? l = some o) → src h → src h'
  step : ∀ {prog : Program} {w : World} {A : Around} {E : Value → Shared → Prop} {s : Shared} {i : Nat} {x : Value} {Q : Value → Shared → Prop}, pos i s.heap → src s.heap → items[i]? = some x →
    (∀ h', pos (i + 1) h' → Heap.SameBut it s.heap h' → Q x { s with heap := h' }) → wpAny (model prog w) A (Builtin.SmallTypes.nextOf (.ref it)) Q E s
  last : ∀ {prog : Program} {w : World} {A : Around} {E : Value → Shared → Prop} {s : Shared} {i : Nat} {Q : Value → Shared → Prop}, A.handled = none → pos i s.heap → src s.heap → items[i]? = none →
    (∀ h' e, Heap.ExtBut it s.heap h' → (∃ o, h'.get? e = some o ∧ o.cls = .type "StopIteration") → E (.ref e) { s with heap := h' }) → wpAny (model prog w) A (Builtin.SmallTypes.nextOf (.ref it)) Q E s
theorem curT (it l : Addr) (items : Array Value) : Cur it l items (fun i h => h.IsTupleIter it l i) (fun h => h.IsTuple l items) where
  obj := fun ⟨o, e, _, d⟩ => ⟨o, e, fun v q => by rw [d] at q; cases q⟩
  kept := fun k p => p.at fun o q => k o q
  same := fun k p => p.at fun o q => k o q
  step := fun p q e k => nextOf_tuple_item p q e k
  last := fun a p q e k => nextOf_tuple_end a p q e k
theorem curL (it l : Addr) (items : Array Value) : Cur it l items (fun i h => h.IsListIter it l i) (fun h => h.IsList l items) where
  obj := fun ⟨o, e, _, d⟩ => ⟨o, e, fun v q => by rw [d] at q; cases q⟩
  kept := fun k p => p.at fun o q => k o q
  same := fun k p => p.at fun o q => k o q
  step := fun p q e k => wpAny_nextOf_list_item p q e k
  last := fun a p q e k => wpAny_nextOf_list_end a p q e k
section
variable {prog : Program} {w : World} {A : Around} {E : Value → Shared → Prop} {s : Shared} {z TI TO i1 i2 l1 l2 : Addr} {xs ys : Array Value} {pos1 pos2 : Nat → Heap → Prop} {src1 src2 : Heap → Prop} (C1 : Cur i1 l1 xs pos1 src1) (C2 : Cur i2 l2 ys pos2 src2) (D : ZipApart z TI TO i1 i2 l1 l2)
include C1 C2 D
/-- a raise inside a step is seen with the pair given free again -/
def EZ (E : Value → Shared → Prop) (z TI TO : Addr) : Value → Shared → Prop := fun e s1 => IsZip s1.heap z TI TO .ellipsis ∧ ∀ h', Heap.SameBut z s1.heap h' → E e { s1 with heap := h' }
omit C1 C2 D in
/-- zip's step: one of the first iterator, one of the second, the kept pair set anew and handed out -/
theorem zipC_step {a b : Value} {Q : PySem.Fin → Shared → Prop} (hz : IsZip s.heap z TI TO .none) (hTI : IsPair s.heap TI (.ref i1) (.ref i2)) (hTO : IsPair s.heap TO a b)
    (k1 : ∀ h, IsZip h z TI TO .ellipsis → Heap.SameBut z s.heap h →
      wpAny (model prog w) A (Builtin.SmallTypes.nextOf (.ref i1)) (fun x s1 => IsPair s1.heap TO a b ∧ ∀ h2, IsPair h2 TO x b → Heap.SameBut TO s1.heap h2 →
        wpAny (model prog w) A (Builtin.SmallTypes.nextOf (.ref i2)) (fun y s2 => IsZip s2.heap z TI TO .ellipsis ∧ IsPair s2.heap TO x b ∧ ∀ h3, IsPair h3 TO x y → Heap.SameBut TO s2.heap h3 → IsZip h3 z TI TO .ellipsis →
          ∀ h4, IsZip h4 z TI TO (rawInt h3.objs.size) → Heap.SameBut z (h3.push { cls := .type "tuple", data := .seq #[x, y] }) h4 → Q (.done (.ret (.ref h3.objs.size))) { s2 with heap := h4 }) (EZ E z TI TO) { s1 with heap := h2 }) (EZ E z TI TO) { s with heap := h }) (hTOz : TO ≠ z) :
    wpAny (model prog w) A (Builtin.«zip.__next__» ⟨[.ref z], []⟩) Q E s := by
  show wpAny _ _ (field (.ref z) 2 >>= _) _ _ _
  refine wpAny_bind (wpAny_field hz rfl (x := .bool false) rfl ?_)
  show wpAny _ _ (field (.ref z) 3 >>= _) _ _ _
  refine wpAny_bind (wpAny_field hz rfl (x := .ref TI) rfl (wpAny_bind (wpAny_seqItems hTI rfl ?_)))
  show wpAny _ _ (Builtin.SmallTypes.ownedTupleIsFree (.ref z) >>= _) _ _ _
  have free : ∀ {Q' : Bool → Shared → Prop}, Q' true s → wpAny (model prog w) A (Builtin.SmallTypes.ownedTupleIsFree (.ref z)) Q' E s := fun q => by
    unfold Builtin.SmallTypes.ownedTupleIsFree
    exact wpAny_bind (wpAny_field hz rfl (x := .none) rfl (wpAny_pure q))
  refine wpAny_bind (free ?_)
  rw [if_pos rfl]
  refine wpAny_bind (wpAny_rule (wpAny_bind (wpAny_field hz rfl (x := .ref TO) rfl (wpAny_bind (wpAny_setField_rec hz (by simp) fun h zh sh => ?_)))))
  have back : ∀ {s1 : Shared} {e : Value}, EZ E z TI TO e s1 → wpAny (model prog w) A (setField (.ref z) 0 .none) (fun _ s2 => E e s2) E s1 := fun ⟨q, r⟩ => wpAny_setField_rec q (by simp) fun h' _ sb => r h' sb
  rw [show (#[Value.ref i1, Value.ref i2] : Array Value).toList.zipIdx = [(Value.ref i1, 0), (Value.ref i2, 1)] from rfl]
  simp only [List.forIn_cons, List.forIn_nil]
  refine wpAny_bind (wpAny_bind (wpAny_bind (wpAny_onRaise ?_)))
  show wpAny _ _ (Builtin.SmallTypes.nextOf (.ref i1) >>= _) _ _ _
  refine wpAny_bind (wpAny_mono (k1 h zh sh) (fun x s1 r1 => wpAny_pure ?_) fun e s1 q => back q)
  obtain ⟨t1, r1⟩ := r1
  refine wpAny_bind (wpAny_seqItems t1 rfl (wpAny_bind (wpAny_updateSeq_pair t1 fun h2 t2 b2 => wpAny_bind (wpAny_letGo (wpAny_pure ?_)))))
  refine wpAny_bind (wpAny_bind (wpAny_onRaise ?_))
  show wpAny _ _ (Builtin.SmallTypes.nextOf (.ref i2) >>= _) _ _ _
  refine wpAny_bind (wpAny_mono (r1 h2 t2 b2) (fun y s2 r2 => wpAny_pure ?_) fun e s2 q => back q)
  obtain ⟨z2, u2, r2⟩ := r2
  refine wpAny_bind (wpAny_seqItems u2 rfl (wpAny_bind (wpAny_updateSeq_pair u2 fun h3 t3 b3 => wpAny_bind (wpAny_letGo (wpAny_pure (wpAny_pure ?_))))))
  replace t3 : IsPair h3 TO x y := t3
  refine wpAny_bind (wpAny_seqItems t3 rfl (wpAny_bind (wpAny_newTuple ?_)))
  have z3 : IsZip h3 z TI TO .ellipsis := b3.extBut _ _ hTOz.symm z2
  show wpAny _ _ (Builtin.SmallTypes.ownedTupleHandOut (.ref z) (.ref h3.objs.size) >>= _) _ _ _
  unfold Builtin.SmallTypes.ownedTupleHandOut
  have z4 : IsZip (h3.push { cls := .type "tuple", data := .seq #[x, y] }) z TI TO .ellipsis := Heap.get?_push_of_some _ z3
  refine wpAny_bind (wpAny_bind (wpAny_setField_rec z4 (by simp) fun h5 z5 b5 => ?_))
  replace z5 : IsZip h5 z TI TO (rawInt h3.objs.size) := z5
  refine wpAny_setField_rec z5 (by simp) fun h6 z6 b6 => wpAny_pure ?_
  replace z6 : IsZip h6 z TI TO (rawInt h3.objs.size) := z6
  exact r2 h3 t3 b3 z3 h6 z6 ⟨b6.1.trans b5.1, fun c hc => (b6.2 c hc).trans (b5.2 c hc)⟩
theorem zipC_item {a b x y : Value} {k : Nat} {Q : Option Value → Shared → Prop} (hz : IsZip s.heap z TI TO .none) (hTI : IsPair s.heap TI (.ref i1) (.ref i2)) (hTO : IsPair s.heap TO a b) (p1 : pos1 k s.heap) (p2 : pos2 k s.heap) (q1 : src1 s.heap) (q2 : src2 s.heap) (hx : xs[k]? = some x) (hy : ys[k]? = some y)
    (hQ : ∀ h', IsZip h' z TI TO (rawInt s.heap.objs.size) → IsPair h' TO x y → pos1 (k + 1) h' → pos2 (k + 1) h' → IsPair h' s.heap.objs.size x y → (∀ c o, c ≠ z → c ≠ TO → c ≠ i1 → c ≠ i2 → s.heap.get? c = some o → h'.get? c = some o) → Q (some (.ref s.heap.objs.size)) { s with heap := h' }) :
    wpAny (model prog w) A (pyNext (.ref z)) Q E s := by
  have hT : s.TypeIs (.ref z) "zip" := ⟨_, hz, rfl⟩
  unfold pyNext
  refine wpAny_bind (wpAny_attempt (wpAny_callSpecial?_slot (name := Str.ofString "__next__") hT F.slot_zip_next (wpAny_call_entry F.slot_zip_next hT F.entry_zip_next (zipC_step hz hTI hTO (fun h zh sh => ?_) D.TOz) (F.args_zip_next_1 _))))
  refine C1.step (C1.kept (fun o => sh.extBut _ o D.i1z) p1) (C1.same (fun o => sh.extBut _ o D.l1z) q1) hx fun h1 a1 s1 => ⟨s1.extBut _ _ D.TOi1 (sh.extBut _ _ D.TOz hTO), fun h2 t2 b2 => ?_⟩
  refine C2.step (C2.kept (fun o e => b2.extBut _ o D.TOi2.symm (s1.extBut _ o D.i12.symm (sh.extBut _ o D.i2z e))) p2) (C2.same (fun o e => b2.extBut _ o D.l2TO (s1.extBut _ o D.l2i1 (sh.extBut _ o D.l2z e))) q2) hy fun h3 a3 s3 =>
    ⟨s3.extBut _ _ D.i2z.symm (b2.extBut _ _ D.TOz.symm (s1.extBut _ _ D.i1z.symm zh)), s3.extBut _ _ D.TOi2 t2, fun h4 t4 b4 z4 h6 z6 b6 => ?_⟩
  have hsz : h4.objs.size = s.heap.objs.size := by rw [b4.1, s3.1, b2.1, s1.1, sh.1]
  have up : ∀ c o, c ≠ z → h4.get? c = some o → h6.get? c = some o := fun c o hc e => b6.extBut _ o hc (Heap.get?_push_of_some _ e)
  have zlt : z ≠ h4.objs.size := Nat.ne_of_lt (Heap.lt_size z4)
  have hp : IsPair h6 h4.objs.size x y := b6.extBut _ _ zlt.symm (Heap.get?_push_size _ rfl)
  rw [hsz] at z6 hp
  refine ⟨_, rfl, wpAny_pure ?_⟩
  rw [hsz]
  exact hQ h6 z6 (up _ _ D.TOz t4) (C1.kept (fun o e => up _ o D.i1z (b4.extBut _ o D.TOi1.symm (s3.extBut _ o D.i12 (b2.extBut _ o D.TOi1.symm e)))) a1) (C2.kept (fun o e => up _ o D.i2z (b4.extBut _ o D.TOi2.symm e)) a3) hp
    fun c o c1 c2 c3 c4 e => up c o c1 (b4.extBut _ o c2 (s3.extBut _ o c4 (b2.extBut _ o c2 (s1.extBut _ o c3 (sh.extBut _ o c1 e)))))
theorem zipC_end {a b : Value} {k : Nat} {Q : Option Value → Shared → Prop} (hh : A.handled = none) (hz : IsZip s.heap z TI TO .none) (hTI : IsPair s.heap TI (.ref i1) (.ref i2)) (hTO : IsPair s.heap TO a b) (p1 : pos1 k s.heap) (p2 : pos2 k s.heap) (q1 : src1 s.heap) (q2 : src2 s.heap) (he : xs[k]? = none ∨ ys[k]? = none)
    (hQ : ∀ h', (∀ c o, c ≠ z → c ≠ TO → c ≠ i1 → c ≠ i2 → s.heap.get? c = some o → h'.get? c = some o) → Q none { s with heap := h' }) :
    wpAny (model prog w) A (pyNext (.ref z)) Q E s := by
  have hT : s.TypeIs (.ref z) "zip" := ⟨_, hz, rfl⟩
  have nz : ∀ {h : Heap} {e : Addr}, IsZip h z TI TO .ellipsis → (∃ o, h.get? e = some o ∧ o.cls = .type "StopIteration") → e ≠ z := fun zh ⟨o, q, c⟩ r => by
    subst r
    rw [zh] at q
    cases q
    simp at c
  unfold pyNext
  refine wpAny_bind (wpAny_attempt (wpAny_callSpecial?_slot (name := Str.ofString "__next__") hT F.slot_zip_next (wpAny_call_entry F.slot_zip_next hT F.entry_zip_next (zipC_step (E := fun e s1 => _) hz hTI hTO (fun h zh sh => ?_) D.TOz) (F.args_zip_next_1 _))))
  have p1' := C1.kept (fun o => sh.extBut _ o D.i1z) p1
  have q1' := C1.same (fun o => sh.extBut _ o D.l1z) q1
  have stop : ∀ (h5 : Heap) (e : Addr), IsZip h5 z TI TO .ellipsis → (∃ o, h5.get? e = some o ∧ o.cls = .type "StopIteration") → (∀ c o, c ≠ z → c ≠ TO → c ≠ i1 → c ≠ i2 → s.heap.get? c = some o → h5.get? c = some o) →
      ∀ h6, Heap.SameBut z h5 h6 → (∃ o, h6.get? e = some o ∧ o.cls = .type "StopIteration") ∧ ∀ c o, c ≠ z → c ≠ TO → c ≠ i1 → c ≠ i2 → s.heap.get? c = some o → h6.get? c = some o := fun h5 e z5 st fr h6 b6 => by
    have ne := nz z5 st
    obtain ⟨o, q, c⟩ := st
    exact ⟨⟨o, b6.extBut _ _ ne q, c⟩, fun c o c1 c2 c3 c4 e => b6.extBut _ o c1 (fr c o c1 c2 c3 c4 e)⟩
  cases hx : xs[k]? with
  | none =>
    refine C1.last hh p1' q1' hx fun h1 e s1 st => ?_
    have z1 : IsZip h1 z TI TO .ellipsis := s1 _ _ D.i1z.symm zh
    refine ⟨z1, fun h6 b6 => ?_⟩
    obtain ⟨⟨o, ho, hc⟩, fr⟩ := stop h1 e z1 st (fun c o c1 c2 c3 c4 q => s1 _ o c3 (sh.extBut _ o c1 q)) h6 b6
    exact wpAny_bind (wpAny_isInstance (T := "StopIteration") (b := true) ⟨o, ho, hc⟩ isSubtype_stop (wpAny_pure (hQ _ fr)))
  | some x =>
    have hy : ys[k]? = none := by
      rcases he with q | q
      · rw [hx] at q; cases q
      · exact q
    refine C1.step p1' q1' hx fun h1 a1 s1 => ⟨s1.extBut _ _ D.TOi1 (sh.extBut _ _ D.TOz hTO), fun h2 t2 b2 => ?_⟩
    refine C2.last hh (C2.kept (fun o e => b2.extBut _ o D.TOi2.symm (s1.extBut _ o D.i12.symm (sh.extBut _ o D.i2z e))) p2) (C2.same (fun o e => b2.extBut _ o D.l2TO (s1.extBut _ o D.l2i1 (sh.extBut _ o D.l2z e))) q2) hy fun h3 e s3 st => ?_
    have z3 : IsZip h3 z TI TO .ellipsis := s3 _ _ D.i2z.symm (b2.extBut _ _ D.TOz.symm (s1.extBut _ _ D.i1z.symm zh))
    refine ⟨z3, fun h6 b6 => ?_⟩
    obtain ⟨⟨o, ho, hc⟩, fr⟩ := stop h3 e z3 st (fun c o c1 c2 c3 c4 q => s3 _ o c4 (b2.extBut _ o c2 (s1.extBut _ o c3 (sh.extBut _ o c1 q)))) h6 b6
    exact wpAny_bind (wpAny_isInstance (T := "StopIteration") (b := true) ⟨o, ho, hc⟩ isSubtype_stop (wpAny_pure (hQ _ fr)))
end
/-! ### a new zip of a tuple and a list -/
abbrev zmA (h : Heap) (l1 : Addr) : Heap := h.push { cls := .type "tuple_iterator", data := .fields #[.ref l1, .int 0 0] }
abbrev zmB (h : Heap) (l1 l2 : Addr) : Heap := (zmA h l1).push { cls := .type "list_iterator", data := .fields #[.ref l2, .int 0 0] }
abbrev zmC (h : Heap) (l1 l2 : Addr) : Heap := (zmB h l1 l2).push { cls := .type "tuple", data := .seq #[.ref h.objs.size, .ref (zmA h l1).objs.size] }
abbrev zmD (h : Heap) (l1 l2 : Addr) : Heap := (zmC h l1 l2).push { cls := .type "tuple", data := .seq #[.none, .none] }
abbrev zmE (h : Heap) (l1 l2 : Addr) : Heap := (zmD h l1 l2).push { cls := .type "zip", data := .fields #[.none, .bool false, .bool false, .ref (zmB h l1 l2).objs.size, .ref (zmC h l1 l2).objs.size] }
theorem zipM_new (l1 l2 : Addr) (xs ys : Array Value) : Meets (Builtin.«zip.__new__» ⟨[.type "zip", .ref l1, .ref l2], []⟩) (fun _ R s => s.heap.IsTuple l1 xs ∧ s.heap.IsList l2 ys ∧ R (.ok (.ret (.ref (zmD s.heap l1 l2).objs.size))) { s with heap := zmE s.heap l1 l2 }) :=
  .of_wp fun prog w A R s h => by
    obtain ⟨hp, gs, dr, tk, os⟩ := s
    obtain ⟨a, b, r⟩ := h
    have su := sub_zip
    have ta : Heap.IsTuple (Shared.heap ⟨hp, gs, dr, tk, os⟩) l1 xs := a
    have lb : Heap.IsList (Shared.heap ⟨zmA hp l1, gs, dr, tk, os⟩) l2 ys := Heap.IsList.push b _
    wp_walk using wpAny_pyIter_tuple ta, wpAny_pyIter_list lb
    exact ⟨_, rfl, r⟩
theorem zipM_call {prog : Program} {w : World} {A : Around} {E : Value → Shared → Prop} {s : Shared} {l1 l2 : Addr} {xs ys : Array Value} {Q : Value → Shared → Prop} (a : s.heap.IsTuple l1 xs) (b : s.heap.IsList l2 ys)
    (k : ∀ h', IsZip h' (s.heap.objs.size + 4) (s.heap.objs.size + 2) (s.heap.objs.size + 3) .none → IsPair h' (s.heap.objs.size + 2) (.ref s.heap.objs.size) (.ref (s.heap.objs.size + 1)) → IsPair h' (s.heap.objs.size + 3) .none .none →
      h'.IsTupleIter s.heap.objs.size l1 0 → h'.IsListIter (s.heap.objs.size + 1) l2 0 → (∀ c o, s.heap.get? c = some o → h'.get? c = some o) → Q (.ref (s.heap.objs.size + 4)) { s with heap := h' }) :
    wpAny (model prog w) A (call (.type "zip") [.ref l1, .ref l2]) Q E s := by
  refine callType_new F.called_zip (by decide) (F.typeCall_zip_2 _ _) (F.newCall_zip_2 _ _) (fun obj => F.args_object_init_3 obj _ _) F.entry_zip_new (zipM_new l1 l2 xs ys) ⟨a, b, ?_⟩
  have nA : (zmA s.heap l1).objs.size = s.heap.objs.size + 1 := Heap.size_push ..
  have nB : (zmB s.heap l1 l2).objs.size = s.heap.objs.size + 2 := by rw [Heap.size_push, nA]
  have nC : (zmC s.heap l1 l2).objs.size = s.heap.objs.size + 3 := by rw [Heap.size_push, nB]
  have nD : (zmD s.heap l1 l2).objs.size = s.heap.objs.size + 4 := by rw [Heap.size_push, nC]
  have e0 : ∀ {c o}, (zmD s.heap l1 l2).get? c = some o → (zmE s.heap l1 l2).get? c = some o := fun q => Heap.get?_push_of_some _ q
  have e1 : ∀ {c o}, (zmC s.heap l1 l2).get? c = some o → (zmE s.heap l1 l2).get? c = some o := fun q => e0 (Heap.get?_push_of_some _ q)
  have e2 : ∀ {c o}, (zmB s.heap l1 l2).get? c = some o → (zmE s.heap l1 l2).get? c = some o := fun q => e1 (Heap.get?_push_of_some _ q)
  have e3 : ∀ {c o}, (zmA s.heap l1).get? c = some o → (zmE s.heap l1 l2).get? c = some o := fun q => e2 (Heap.get?_push_of_some _ q)
  have gE : (zmE s.heap l1 l2).get? (zmD s.heap l1 l2).objs.size = some _ := Heap.get?_push_size _ rfl
  have gD : (zmE s.heap l1 l2).get? (zmC s.heap l1 l2).objs.size = some _ := e0 (Heap.get?_push_size _ rfl)
  have gC : (zmE s.heap l1 l2).get? (zmB s.heap l1 l2).objs.size = some _ := e1 (Heap.get?_push_size _ rfl)
  have gB : (zmE s.heap l1 l2).get? (zmA s.heap l1).objs.size = some _ := e2 (Heap.get?_push_size _ rfl)
  have gA : (zmE s.heap l1 l2).get? s.heap.objs.size = some _ := e3 (Heap.get?_push_size _ rfl)
  show _ ∧ _
  rw [nB, nC, nD] at gE
  rw [nC] at gD
  rw [nA, nB] at gC
  rw [nA] at gB
  rw [nD]
  exact ⟨⟨_, gE, rfl⟩, k _ gE gC gD ⟨_, gA, rfl, rfl⟩ ⟨_, gB, rfl, rfl⟩ fun c o q => e3 (Heap.get?_push_of_some _ q)⟩
/-! ### walked -/
end Dl

/-! The D layer, 30: the facts of an own exception class, looked at by a test. -/
namespace Dl
open PySem PySem.Spec PyProof.Rows L2
variable [Tb]

/-! ### the head's hook, that looks at the statics, too -/
/-! ### what an except clause looks at -/
def kitB (K : PySem.W.Frag) (C B : Str) (b : Bool) : Bool := decide (PySem.W.kitOne K (.ref (He.ga K C)) (.ref (He.ga K B)) = some b)
end Dl

/-! The D layer, 31: an own __eq__ against what is no instance of the class. -/
namespace Dl
open PySem PySem.Spec PyProof.Rows L2
variable [Tb]

/-- the facts: neither tuples nor ints nor None come ahead of the class -/
structure OwnX (K : PySem.W.Frag) (C : Addr) : Prop where
  tup : PySem.W.notFirst K C (.type "tuple") = true
  int : PySem.W.notFirst K C (.type "int") = true
  non : PySem.W.notFirst K C (.type "NoneType") = true
section
variable {X : Cx} {C : Str} {mf : List D → M D} {k : Nat} {W : WX}
variable {a b : Expr} {ca cb : Env → M D} {pos : Pos}
end
/-! ### except without a name -/
section
variable {X : Cx} {Wout : WX} {x : Str} {c : Value} {n : Nat} {body suite : List Stmt} {b₀ : Stmt} {np pos pos' : Pos} {cb : SM} {tbl : List (Str × Eff)}
end
end Dl

/-! The D layer, 32: count and index of a list. -/
namespace Dl
open PySem PySem.Spec PyProof.Rows L2
variable [Tb]

section
variable {X : Cx}
variable {W : WX} {apos cpos : Pos} {o e : Expr} {es : List Expr} {ca : Env → M D} {cs : Env → M (List D)} {name : Str} {id : String} {r : V → List V → Hp → VK → Prop} {f : D → List D → M D}
end
end Dl

/-! The D layer, 33: a lambda without parameters, handed to a def that calls it, where no repr is under way. -/
namespace Dl
open PySem PySem.Spec PyProof.Rows L2
open LamX (CodeO TabS Tabs ExtN LamS lamEnv lamCx lam_start2 lam_make2 run_ofS TabB tLam GivesTo)
variable [Tb]

section
variable {X : Cx} {pins : List (Addr × Obj)} {σ : L2.St} {H HZ : Hp} {s s1 : Shared}
/-- the table's next state: as it was, or longer by a new code object -/
def TabStep (H H1 : Hp) (P : Addr) (q : Str) (c' : Addr) : Prop := (H1 = H ∧ H c' = some (CodeO c' q)) ∨
  ∃ (ps : Array Value) (l : Pos), H P = some (.tbl ps) ∧ TriplesOk ps.toList ∧ H c' = none ∧ H1 = upd (upd H P (.tbl (ps ++ #[rawInt l.line, rawInt l.col, .ref c']))) c' (CodeO c' q)
theorem TabStep.code {P c' : Addr} {q : Str} {H1 : Hp} (t : TabStep H H1 P q c') : H1 c' = some (CodeO c' q) := by
  rcases t with ⟨rfl, e⟩ | ⟨ps, l, _, _, _, rfl⟩
  · exact e
  · exact upd_same
end
end Dl

/-! The D layer, 34: the word of a call's error: x(lambda: ..), x a def with a try. -/
namespace Dl
open PySem PySem.Spec PyProof.Rows L2
open LamX (CodeO TabS LamS lamEnv lamCx TabB GivesTo)
variable [Tb]

section
variable {K : PySem.W.Frag} {ι : Ix} {h : Hs} {H H1 : Hp} {P c' : Addr} {q : Str}
theorem TabStep.keep (st : TabStep H H1 P q c') : ∀ b o, b ≠ P → H b = some o → H1 b = some o := by
  intro b o n e
  rcases st with ⟨rfl, _⟩ | ⟨ps, l, _, _, hc, rfl⟩
  · exact e
  · rw [upd_ne (ne_of_none e hc), upd_ne n]
    exact e
theorem TabStep.ext (R : Rel K ι h H) (m : (P, q) ∈ Tb.ts K) (st : TabStep H H1 P q c') : Ext ι H ι H1 := by
  obtain ⟨rs, t⟩ := R.tab _ m
  obtain ⟨ps0, hP, _⟩ := id t
  have hP1 : H1 P ≠ none := by
    rcases st with ⟨rfl, _⟩ | ⟨ps, l, _, _, hc, rfl⟩
    · rw [hP]; exact fun z => nomatch z
    · exact upd_dom _ (upd_dom _ (by rw [hP]; exact fun z => nomatch z))
  refine ⟨⟨[], by simp⟩, rfl, fun a o e n r => ?_, fun _ m => .inl m, fun a od u e => ?_, fun a n => ?_⟩
  · refine st.keep a o (fun z => ?_) e
    subst z
    rw [hP] at e
    exact r rs ps0 (Option.some.inj e).symm
  · refine st.keep a _ (fun z => ?_) e
    subst z
    rw [hP] at e
    cases e
  · by_cases z : a = P
    · rw [z]; exact hP1
    · cases e : H a with
      | none => exact absurd e n
      | some o => rw [st.keep a o z e]; exact fun y => nomatch y
end
section
variable {X : Cx} {W : WX} {tbl : List (Str × Str)} {cb : Env → M D} {P : Addr} {q lw : Str}
end
end Dl

/-! The D layer, 35: the def that gets the lambda, by its text. -/
namespace Dl
open PySem PySem.Spec PyProof.Rows L2
open LamX (CodeO TabS LamS lamEnv lamCx TabB GivesTo)
variable [Tb]

/-- the context of the def that got the lambda -/
abbrev cxW (X : Cx) (Ng : List Str) (x : Str) (sg : Scope) (g : Addr) (cdg : Value) (s : Shared) (H : Hp) : Cx := (cxOf C8.CX0 X.prog X.w X.K X.mg X.base Ng x sg g cdg X.A X.stack s H C8.E0).nox
section
variable {X : Cx} {tbl : List (Str × Str)} {Ng : List Str} {x a e nm q lw : Str} {sg : Scope} {g : Addr} {cdg c : Value} {i j : Nat} {b0 : Stmt} {suite : List Stmt} {p1 p2 p3 p4 p5 p6 p7 p8 : Pos}
variable (hN : Ng.Nodup) (hi : Ng[i]? = some nm) (hln : ∀ (s : Shared) (H : Hp), (cxW X Ng x sg g cdg s H).env.kindOf nm = some .local) (hc : ∀ (s : Shared) (H : Hp), Names (cxW X Ng x sg g cdg s H) e c) (h0 : ∀ f : Addr, (L2.start Ng [V.ref f])[0]? = some (some (V.ref f)))
    (hsu : ∀ (s : Shared) (H : Hp) (C w : Str), tbl.lookup C = some w → HdN (cxW X Ng x sg g cdg s H) Ng.length i c (b0 :: suite) C (.ret (.str w)))
include hN hi hln hc h0 hsu
end
end Dl

/-! The D layer, 36: x(lambda: ..) as one computation. -/
namespace Dl
open PySem PySem.Spec PyProof.Rows L2
open LamX (CodeO TabS LamS lamSB lamEnv lamCx TabB GivesTo)
variable [Tb]

/-- what the def that makes a lambda must know of its own code object -/
structure LamM (X : Cx) (c P : Addr) : Prop where
  tb : TabB X.base X.mg c P
  code : X.env.code = .ref c
  ts : Tb.ts X.K = [(P, X.env.qual ++ "<lambda>")]
section
variable {X : Cx} {W : WX} {tbl : List (Str × Str)} {cb : Env → M D} {c P : Addr} {x a : Str} {k : Nat} {pg params : Arguments} {bg : List Stmt} {sg scope : Scope} {Ng : List Str} {body : Expr} {p lpos pos : Pos}
theorem LamM.mem (M : LamM X c P) : (P, X.env.qual ++ "<lambda>") ∈ Tb.ts X.K := by rw [M.ts]; exact List.mem_cons_self
theorem LamM.one (M : LamM X c P) : ∀ p ∈ Tb.ts X.K, p = (P, X.env.qual ++ "<lambda>") := fun p hp => by rw [M.ts] at hp; exact List.mem_singleton.mp hp
variable {e nm lw : Str} {cl : Value} {i j : Nat} {b0 : Stmt} {suite : List Stmt} {p1 p2 p3 p4 p5 p6 p7 p8 : Pos}
end
end Dl

/-! The D layer, 37: a law's end with one table of code objects; the head's hook that sees it. -/
namespace Dl
open PySem PySem.Spec PyProof.Rows L2
open LamX (TabB)
variable [Tb]

abbrev tab0 : Obj := { cls := .none, data := .fields #[] }
/-! ### the hook -/
/-- what the code object must be -/
def codeB (K : PySem.W.Frag) (c P : Addr) : Bool := match K.lookup c with
  | some ⟨.type "code", _, .fields vs, _⟩ => (match (vs[11]? : Option Value), vs.getD 11 .none, vs.getD 18 .none, vs.getD 7 .none, vs.getD 9 .none, vs.getD 10 .none with
    | some (.ref p1), .ref p2, .str _ _, .int _ _, .bool _, .int _ _ => decide (p1 = P) && (decide (p2 = P) && decide (c ≠ P))
    | _, _, _, _, _, _ => false)
  | _ => false
end Dl

/-! The D layer, 38: the head's hook that sees the law's code object and its table. -/
namespace Dl
open PySem PySem.Spec PyProof.Rows L2
variable [Tb]

def lawC (K : PySem.W.Frag) : Addr := codeA K (He.ga K "law")
def lawP (K : PySem.W.Frag) : Addr := tabA K (He.ga K "law")
structure SaysT (fa : List He.Fa) (fn : List He.DefD) (ex : PySem.W.Frag → Bool) (h : Heap) (K : PySem.W.Frag) : Prop where
  says : SaysE fa fn ex K
  code : codeB K (lawC K) (lawP K) = true
  out : K.lookup (lawP K) = none
  tab : h.get? (lawP K) = some tab0
end Dl

/-! The D layer, 39: a def picked out of a list, called. -/
namespace Dl
open PySem PySem.Spec PyProof.Rows L2
variable [Tb]

section
variable {X : Cx} {W : WX} {pos p2 : Pos} {a b e : Expr} {es : List Expr} {cf : Env → M D} {cs : Env → M (List D)} {k n : Nat} {tbl : List (Str × (List D → M D))}
end
end Dl

/-! The D layer, 40: what a suite looks at. -/
namespace Dl
open PySem PySem.Spec PyProof.Rows L2
variable [Tb]

section
variable {X : Cx} {W : WX} {a : Addr} {oe : Obj} {pn : List (Addr × Obj)} {i : Nat} {C B nm : Str} {b : Bool} {n : String} {p1 p2 p3 pos : Pos}
end
end Dl

/-! The D layer, 41: the end's looks in parts. -/
namespace Dl
open PySem PySem.Spec PyProof.Rows L2
variable [Tb]
variable {σ : Type} {x : Option σ}
end Dl

/-! The D layer, 42: sorted(d.items()) of a dict of ints and texts. -/
namespace Dl
open PySem PySem.Spec PyProof.Rows L2 L2.DX
variable [Tb]

section
variable {X : Cx}
end
theorem sqT_grow {K : PySem.W.Frag} {H H' : Hp} (g : ∀ b o, H b = some o → H' b = some o) {a : Addr} {xs : List V} (h : SqT K H a xs) : SqT K H' a xs := by
  rcases h with (h | ⟨o, h⟩) | h
  · exact .inl (.inl (g _ _ h))
  · exact .inl (.inr ⟨o, g _ _ h⟩)
  · exact .inr h
theorem sqL_grow {K : PySem.W.Frag} {H H' : Hp} (g : ∀ b o, H b = some o → H' b = some o) {a : Addr} {xs : List V} (h : SqL K H a xs) : SqL K H' a xs := by
  rcases h with (h | ⟨o, h⟩) | h
  · exact .inl (.inl (g _ _ h))
  · exact .inl (.inr ⟨o, g _ _ h⟩)
  · exact .inr h
mutual
theorem Dp.grow {K : PySem.W.Frag} {H H' : Hp} (g : ∀ b o, H b = some o → H' b = some o) : ∀ {v : V} {d : PyData}, Dp K H v d → Dp K H' v d
  | _, _, .non => .non
  | _, _, .bl b => .bl b
  | _, _, .int i => .int i
  | _, _, .str x => .str x
  | _, _, .lst q r => .lst (sqL_grow g q) (DpAll.grow g r)
  | _, _, .tup q r => .tup (sqT_grow g q) (DpAll.grow g r)
theorem DpAll.grow {K : PySem.W.Frag} {H H' : Hp} (g : ∀ b o, H b = some o → H' b = some o) : ∀ {v : List V} {d : List PyData}, DpAll K H v d → DpAll K H' v d
  | _, _, .nil => .nil
  | _, _, .cons h r => .cons (Dp.grow g h) (DpAll.grow g r)
end
theorem Ext.sub {ι : Ix} {H H' : Hp} (g : ∀ b o, H b = some o → H' b = some o) : Ext ι H ι H' := ⟨⟨[], by simp⟩, rfl, fun a o h _ _ => g a o h, fun _ h => .inl h, fun a od u h => g a _ h, fun a n z => by
  cases e : H a with
  | none => exact n e
  | some o => rw [g a o e] at z; cases z⟩
/-! ### the rule -/
section
variable {K : PySem.W.Frag} {ι : Ix} {H : Hp} {h : Hs}
end
section
variable {X : Cx} {W : WX} {o : Expr} {co : Env → M D} {p apos cpos pos : Pos}
end
end Dl

/-! The D layer, 43: the head's hook, over the objects that are met on short ways alone. -/
namespace Dl
open PySem PySem.Spec PyProof.Rows L2
variable [Tb]
end Dl

/-! The D layer, 44: list(zip(..)) of a tuple and a list: the pairs stay out. -/
namespace Dl
open PySem PySem.Spec PyProof.Rows L2 RZ
variable [Tb]

theorem zip_no_len : typeLookup (.type "zip") "__len__" = pure none := by rw [typeLookup_type, builtinLookup_eq_fast]; kernel_rfl
theorem zip_no_hint : typeLookup (.type "zip") "__length_hint__" = pure none := by rw [typeLookup_type, builtinLookup_eq_fast]; kernel_rfl
section
variable {prog : Program} {w : World} {A : Around} {E : Value → Shared → Prop} {s : Shared} {z TI TO T i1 i2 l1 l2 : Addr} {f : Bool} {oT : Obj} {k : Nat} {xs ys : Array Value} {pos1 pos2 : Nat → Heap → Prop} {src1 src2 : Heap → Prop} (C1 : Cur i1 l1 xs pos1 src1) (C2 : Cur i2 l2 ys pos2 src2) (D : ZipApart z TI TO i1 i2 l1 l2)
include C1 C2 D
theorem zipH_next {x y : Value} {Q : Value → Shared → Prop}
    (hz : IsZipHeld s.heap z TI TO T f) (hT : s.heap.get? T = some oT) (hTI : IsPair s.heap TI (.ref i1) (.ref i2)) (p1 : pos1 k s.heap) (p2 : pos2 k s.heap) (q1 : src1 s.heap) (q2 : src2 s.heap) (hx : xs[k]? = some x) (hy : ys[k]? = some y)
    (hQ : ∀ h', IsZipHeld h' z TI TO T true → pos1 (k + 1) h' → pos2 (k + 1) h' → IsPair h' s.heap.objs.size x y →
      (∀ c o, c ≠ z → c ≠ i1 → c ≠ i2 → s.heap.get? c = some o → h'.get? c = some o) → Q (.ref s.heap.objs.size) { s with heap := h' }) :
    wpAny (model prog w) A (Builtin.«zip.__next__» ⟨[.ref z], []⟩) (fun fin s' => ∃ v, fin = .done (.ret v) ∧ Q v s') E s := by
  show wpAny _ _ (field (.ref z) 2 >>= _) _ _ _
  refine wpAny_bind (wpAny_field hz rfl (x := .bool false) rfl ?_)
  show wpAny _ _ (field (.ref z) 3 >>= _) _ _ _
  refine wpAny_bind (wpAny_field hz rfl (x := .ref TI) rfl ?_)
  refine wpAny_bind (wpAny_seqItems hTI rfl ?_)
  show wpAny _ _ (Builtin.SmallTypes.ownedTupleIsFree (.ref z) >>= _) _ _ _
  refine wpAny_bind (wpAny_tupleHeld_zip hz hT fun h₁ hz₁ hs₁ => ?_)
  simp only [Bool.false_eq_true, if_false]
  refine wpAny_bind ?_
  rw [← Array.forIn_toList]
  simp only [List.forIn_cons, List.forIn_nil]
  refine wpAny_bind (wpAny_bind (wpAny_holding ?_))
  show wpAny _ _ (Builtin.SmallTypes.nextOf (.ref i1) >>= _) _ _ _
  refine wpAny_bind (C1.step (s := { s with heap := h₁ }) (C1.kept (fun o => hs₁.extBut _ o D.i1z) p1) (C1.same (fun o => hs₁.extBut _ o D.l1z) q1) hx fun h₂ h1₂ hs₂ => wpAny_pure ?_)
  refine wpAny_pure ?_
  refine wpAny_bind (wpAny_bind (wpAny_holding ?_))
  show wpAny _ _ (Builtin.SmallTypes.nextOf (.ref i2) >>= _) _ _ _
  refine wpAny_bind (C2.step (s := { s with heap := h₂ }) (C2.kept (fun o e => hs₂.extBut _ o D.i12.symm (hs₁.extBut _ o D.i2z e)) p2) (C2.same (fun o e => hs₂.extBut _ o D.l2i1 (hs₁.extBut _ o D.l2z e)) q2) hy fun h₃ h2₃ hs₃ => wpAny_pure ?_)
  refine wpAny_pure (wpAny_pure ?_)
  show wpAny _ _ (newTuple [x, y] >>= _) _ _ _
  refine wpAny_bind (wpAny_newTuple ?_)
  have hsz : h₃.objs.size = s.heap.objs.size := by rw [hs₃.1, hs₂.1, hs₁.1]
  have hz₃ : IsZipHeld h₃ z TI TO T true := hs₃.extBut _ _ D.i2z.symm (hs₂.extBut _ _ D.i1z.symm hz₁)
  have hk : ∀ c o, c ≠ z → c ≠ i1 → c ≠ i2 → s.heap.get? c = some o → h₃.get? c = some o := fun c o c1 c2 c3 e => hs₃.extBut _ _ c3 (hs₂.extBut _ _ c2 (hs₁.extBut _ _ c1 e))
  refine wpAny_pure ⟨_, rfl, ?_⟩
  show Q (.ref h₃.objs.size) _
  have hp : IsPair (h₃.push { cls := .type "tuple", data := .seq #[x, y] }) h₃.objs.size x y := Heap.get?_push_size _ rfl
  rw [hsz] at hp ⊢
  exact hQ _ (Heap.get?_push_of_some _ hz₃) (C1.kept (fun o e => Heap.get?_push_of_some _ (hs₃.extBut _ o D.i12 e)) h1₂) (C2.kept (fun o e => Heap.get?_push_of_some _ e) h2₃) hp fun c o c1 c2 c3 e => Heap.get?_push_of_some _ (hk c o c1 c2 c3 e)
theorem zipH_end {Q : PySem.Fin → Shared → Prop} (hh : A.handled = none)
    (hz : IsZipHeld s.heap z TI TO T f) (hT : s.heap.get? T = some oT) (hTI : IsPair s.heap TI (.ref i1) (.ref i2)) (p1 : pos1 k s.heap) (p2 : pos2 k s.heap) (q1 : src1 s.heap) (q2 : src2 s.heap) (hend : xs[k]? = none ∨ ys[k]? = none)
    (hE : ∀ h' e, (∀ c o, c ≠ z → c ≠ i1 → c ≠ i2 → s.heap.get? c = some o → h'.get? c = some o) → (∃ o, h'.get? e = some o ∧ o.cls = .type "StopIteration") → E (.ref e) { s with heap := h' }) :
    wpAny (model prog w) A (Builtin.«zip.__next__» ⟨[.ref z], []⟩) Q E s := by
  show wpAny _ _ (field (.ref z) 2 >>= _) _ _ _
  refine wpAny_bind (wpAny_field hz rfl (x := .bool false) rfl ?_)
  show wpAny _ _ (field (.ref z) 3 >>= _) _ _ _
  refine wpAny_bind (wpAny_field hz rfl (x := .ref TI) rfl ?_)
  refine wpAny_bind (wpAny_seqItems hTI rfl ?_)
  show wpAny _ _ (Builtin.SmallTypes.ownedTupleIsFree (.ref z) >>= _) _ _ _
  refine wpAny_bind (wpAny_tupleHeld_zip hz hT fun h₁ hz₁ hs₁ => ?_)
  simp only [Bool.false_eq_true, if_false]
  refine wpAny_bind ?_
  rw [← Array.forIn_toList]
  simp only [List.forIn_cons, List.forIn_nil]
  refine wpAny_bind (wpAny_bind (wpAny_holding ?_))
  show wpAny _ _ (Builtin.SmallTypes.nextOf (.ref i1) >>= _) _ _ _
  have p1' := C1.kept (fun o => hs₁.extBut _ o D.i1z) p1
  have q1' := C1.same (fun o => hs₁.extBut _ o D.l1z) q1
  cases hx : xs[k]? with
  | none =>
    refine wpAny_bind (C1.last (s := { s with heap := h₁ }) hh p1' q1' hx fun h₂ e hs₂ he => ?_)
    exact hE h₂ e (fun c o c1 c2 _ x => hs₂ _ _ c2 (hs₁.extBut _ _ c1 x)) he
  | some x =>
    have hy : ys[k]? = none := by rcases hend with h | h; rw [hx] at h; cases h; exact h
    refine wpAny_bind (C1.step (s := { s with heap := h₁ }) p1' q1' hx fun h₂ h1₂ hs₂ => wpAny_pure ?_)
    refine wpAny_pure ?_
    refine wpAny_bind (wpAny_bind (wpAny_holding ?_))
    show wpAny _ _ (Builtin.SmallTypes.nextOf (.ref i2) >>= _) _ _ _
    refine wpAny_bind (C2.last (s := { s with heap := h₂ }) hh (C2.kept (fun o e => hs₂.extBut _ o D.i12.symm (hs₁.extBut _ o D.i2z e)) p2) (C2.same (fun o e => hs₂.extBut _ o D.l2i1 (hs₁.extBut _ o D.l2z e)) q2) hy fun h₃ e hs₃ he => ?_)
    exact hE h₃ e (fun c o c1 c2 c3 x => hs₃ _ _ c3 (hs₂.extBut _ _ c2 (hs₁.extBut _ _ c1 x))) he
theorem zipH_item {x y : Value} {Q : Option Value → Shared → Prop}
    (hz : IsZipHeld s.heap z TI TO T f) (hT : s.heap.get? T = some oT) (hTI : IsPair s.heap TI (.ref i1) (.ref i2)) (p1 : pos1 k s.heap) (p2 : pos2 k s.heap) (q1 : src1 s.heap) (q2 : src2 s.heap) (hx : xs[k]? = some x) (hy : ys[k]? = some y)
    (hQ : ∀ h', IsZipHeld h' z TI TO T true → pos1 (k + 1) h' → pos2 (k + 1) h' → IsPair h' s.heap.objs.size x y →
      (∀ c o, c ≠ z → c ≠ i1 → c ≠ i2 → s.heap.get? c = some o → h'.get? c = some o) → Q (some (.ref s.heap.objs.size)) { s with heap := h' }) :
    wpAny (model prog w) A (pyNext (.ref z)) Q E s := by
  have hTy : s.TypeIs (.ref z) "zip" := ⟨_, hz, rfl⟩
  unfold pyNext
  exact wpAny_bind (wpAny_attempt (wpAny_callSpecial?_slot (name := Str.ofString "__next__") hTy F.slot_zip_next
    (wpAny_call_entry F.slot_zip_next hTy F.entry_zip_next (zipH_next C1 C2 D hz hT hTI p1 p2 q1 q2 hx hy fun h' a1 a2 a3 a4 a5 => wpAny_pure (hQ h' a1 a2 a3 a4 a5)) (F.args_zip_next_1 _))))
theorem zipH_done {Q : Option Value → Shared → Prop} (hh : A.handled = none)
    (hz : IsZipHeld s.heap z TI TO T f) (hT : s.heap.get? T = some oT) (hTI : IsPair s.heap TI (.ref i1) (.ref i2)) (p1 : pos1 k s.heap) (p2 : pos2 k s.heap) (q1 : src1 s.heap) (q2 : src2 s.heap) (hend : xs[k]? = none ∨ ys[k]? = none)
    (hQ : ∀ h', (∀ c o, c ≠ z → c ≠ i1 → c ≠ i2 → s.heap.get? c = some o → h'.get? c = some o) → Q none { s with heap := h' }) : wpAny (model prog w) A (pyNext (.ref z)) Q E s := by
  have hTy : s.TypeIs (.ref z) "zip" := ⟨_, hz, rfl⟩
  unfold pyNext
  refine wpAny_bind (wpAny_attempt (wpAny_callSpecial?_slot (name := Str.ofString "__next__") hTy F.slot_zip_next
    (wpAny_call_entry F.slot_zip_next hTy F.entry_zip_next (zipH_end C1 C2 D hh hz hT hTI p1 p2 q1 q2 hend fun h' e hk he => ?_) (F.args_zip_next_1 _))))
  obtain ⟨o, ho, hc⟩ := he
  refine wpAny_bind (wpAny_isInstance (T := "StopIteration") (b := true) ⟨o, ho, hc⟩ isSubtype_stop ?_)
  exact wpAny_pure (hQ _ hk)
/-- how the zip stands when k pairs are out -/
def ZSt (h : Heap) (z TI TO i1 i2 : Addr) (pos1 pos2 : Nat → Heap → Prop) (lo : Addr) (k : Nat) : Prop :=
  IsPair h TI (.ref i1) (.ref i2) ∧ pos1 k h ∧ pos2 k h ∧ ((IsZip h z TI TO .none ∧ ∃ a b, IsPair h TO a b) ∨ ∃ (T : Addr) (f : Bool) (oT : Obj), IsZipHeld h z TI TO T f ∧ h.get? T = some oT ∧ lo < T)
theorem zip_nx {x y : Value} {lo : Addr} {Q : Option Value → Shared → Prop} (hst : ZSt s.heap z TI TO i1 i2 pos1 pos2 lo k) (q1 : src1 s.heap) (q2 : src2 s.heap) (hx : xs[k]? = some x) (hy : ys[k]? = some y) (hlo : lo < s.heap.objs.size) (lz : z ≤ lo) (l1 : i1 ≤ lo) (l2 : i2 ≤ lo)
    (hQ : ∀ h', ZSt h' z TI TO i1 i2 pos1 pos2 lo (k + 1) → IsPair h' s.heap.objs.size x y → (∀ c o, c ≠ z → c ≠ TO → c ≠ i1 → c ≠ i2 → s.heap.get? c = some o → h'.get? c = some o) → Q (some (.ref s.heap.objs.size)) { s with heap := h' }) :
    wpAny (model prog w) A (pyNext (.ref z)) Q E s := by
  obtain ⟨hTI, p1, p2, hz⟩ := hst
  rcases hz with ⟨hz, a, b, hTO⟩ | ⟨T, f, oT, hz, hT, lT⟩
  · exact zipC_item C1 C2 D hz hTI hTO p1 p2 q1 q2 hx hy fun h' z1 o1 a1 a2 pr fr => hQ h' ⟨fr _ _ D.TIz D.TITO D.TIi1 D.TIi2 hTI, a1, a2, .inr ⟨_, false, _, z1, pr, hlo⟩⟩ pr fr
  · refine zipH_item C1 C2 D hz hT hTI p1 p2 q1 q2 hx hy fun h' z1 a1 a2 pr fr => hQ h' ⟨fr _ _ D.TIz D.TIi1 D.TIi2 hTI, a1, a2, .inr ⟨T, true, oT, z1, fr T oT (fun e => ?_) (fun e => ?_) (fun e => ?_) hT, lT⟩⟩ pr fun c o c1 _ c3 c4 e => fr c o c1 c3 c4 e
    · exact absurd lz (Nat.not_le.mpr (e ▸ lT))
    · exact absurd l1 (Nat.not_le.mpr (e ▸ lT))
    · exact absurd l2 (Nat.not_le.mpr (e ▸ lT))
theorem zip_fin {lo : Addr} {Q : Option Value → Shared → Prop} (hh : A.handled = none) (hst : ZSt s.heap z TI TO i1 i2 pos1 pos2 lo k) (q1 : src1 s.heap) (q2 : src2 s.heap) (hend : xs[k]? = none ∨ ys[k]? = none)
    (hQ : ∀ h', (∀ c o, c ≠ z → c ≠ TO → c ≠ i1 → c ≠ i2 → s.heap.get? c = some o → h'.get? c = some o) → Q none { s with heap := h' }) : wpAny (model prog w) A (pyNext (.ref z)) Q E s := by
  obtain ⟨hTI, p1, p2, hz⟩ := hst
  rcases hz with ⟨hz, a, b, hTO⟩ | ⟨T, f, oT, hz, hT, lT⟩
  · exact zipC_end C1 C2 D hh hz hTI hTO p1 p2 q1 q2 hend fun h' fr => hQ h' fr
  · exact zipH_done C1 C2 D hh hz hT hTI p1 p2 q1 q2 hend fun h' fr => hQ h' fun c o c1 _ c3 c4 e => fr c o c1 c3 c4 e
end
end Dl

/-! The D layer, 45: list(zip(..)) of a tuple and a list: the loop, the call, the rule. -/
namespace Dl
open PySem PySem.Spec PyProof.Rows L2 L2.DX RZ
variable [Tb]

theorem ZSt.up {h h' : Heap} {z TI TO i1 i2 l1 l2 : Addr} {xs ys : Array Value} {pos1 pos2 : Nat → Heap → Prop} {src1 src2 : Heap → Prop} (C1 : Cur i1 l1 xs pos1 src1) (C2 : Cur i2 l2 ys pos2 src2) {S : Addr} {k : Nat} (hst : ZSt h z TI TO i1 i2 pos1 pos2 S k)
    (u : ∀ b o, b ≠ S → h.get? b = some o → h'.get? b = some o) (lz : z < S) (lTI : TI < S) (lTO : TO < S) (l1 : i1 < S) (l2 : i2 < S) : ZSt h' z TI TO i1 i2 pos1 pos2 S k := by
  obtain ⟨hTI, p1, p2, hz⟩ := hst
  refine ⟨u _ _ (Nat.ne_of_lt lTI) hTI, C1.kept (fun o => u _ o (Nat.ne_of_lt l1)) p1, C2.kept (fun o => u _ o (Nat.ne_of_lt l2)) p2, ?_⟩
  rcases hz with ⟨hz, a, b, hTO⟩ | ⟨T, f, oT, hz, hT, lT⟩
  · exact .inl ⟨u _ _ (Nat.ne_of_lt lz) hz, a, b, u _ _ (Nat.ne_of_lt lTO) hTO⟩
  · exact .inr ⟨T, f, oT, u _ _ (Nat.ne_of_lt lz) hz, u _ _ (Nat.ne_of_gt lT) hT, lT⟩
structure MadeZ (xs ys : Array Value) (lo : Addr) (h : Heap) (as : List Addr) : Prop where
  rise : as.Pairwise (· < ·)
  above : ∀ a ∈ as, lo < a
  pairs : ∀ (j : Nat) (a : Addr), as[j]? = some a → ∃ x y, xs[j]? = some x ∧ ys[j]? = some y ∧ h.get? a = some { cls := .type "tuple", data := .seq #[x, y] }
section
variable {prog : Program} {w : World} {A : Around} {s : Shared} {R : Result → Shared → Prop} {z TI TO i1 i2 l1 l2 : Addr} {xs ys : Array Value} {pos1 pos2 : Nat → Heap → Prop} {src1 src2 : Heap → Prop}
theorem loopZ (C1 : Cur i1 l1 xs pos1 src1) (C2 : Cur i2 l2 ys pos2 src2) (D : ZipApart z TI TO i1 i2 l1 l2) {S : Addr} (hh : A.handled = none) (lz : z < S) (lTI : TI < S) (lTO : TO < S) (li1 : i1 < S) (li2 : i2 < S) (ll1 : l1 < S) (ll2 : l2 < S) {n : Nat} (hn1 : n ≤ xs.size) (hn2 : n ≤ ys.size) (hne : xs.size ≤ n ∨ ys.size ≤ n)
    (hn : n ≤ sizeLine) (res : Value) {h₁ : Heap} (q1 : src1 h₁) (q2 : src2 h₁)
    (hR : ∀ h' tk acc c as, (∀ b o, b ≠ S → b ≠ z → b ≠ TO → b ≠ i1 → b ≠ i2 → h₁.get? b = some o → h'.get? b = some o) → h'.get? S = some { cls := .type "list", dict := none, data := .seq acc c, slots := #[] } → as.length = n → MadeZ xs ys S h' as →
      acc.toList = as.map Value.ref → R (.ok (.ret res)) { s with heap := h', toks := tk }) :
    ∀ (k i : Nat) (h : Heap) (tk c : Nat) (acc : Array Value) (as : List Addr), n - i = k → i ≤ n → ZSt h z TI TO i1 i2 pos1 pos2 S i → (∀ b o, b ≠ S → b ≠ z → b ≠ TO → b ≠ i1 → b ≠ i2 → h₁.get? b = some o → h.get? b = some o) →
      h.get? S = some { cls := .type "list", dict := none, data := .seq acc c, slots := #[] } → acc.toList = as.map Value.ref → as.length = i → MadeZ xs ys S h as →
      codeAny (model prog w) A (.builtin "list.extend.loop" ⟨[.ref S, .ref z, res], []⟩) R { s with heap := h, toks := tk } := by
  intro k
  induction k with
  | zero =>
    intro i h tk c acc as hk hi hst hkeep hS hacc hal hG
    have ein : i = n := by omega
    refine codeAny_builtin PySem.F.entry_extend_loop ?_
    rw [Around.under_plainId PySem.F.plain_extend_loop _]
    show wpAny _ A.in1 (pyNext (.ref z) >>= _) _ _ _
    refine wpAny_bind (zip_fin C1 C2 D (s := { s with heap := h, toks := tk }) (A := A.in1) hh hst (C1.same (fun o => hkeep _ o (Nat.ne_of_lt ll1) D.l1z D.l1TO D.l1i1 D.l1i2) q1) (C2.same (fun o => hkeep _ o (Nat.ne_of_lt ll2) D.l2z D.l2TO D.l2i1 D.l2i2) q2) (by
      rcases hne with q | q
      · exact .inl (Array.getElem?_eq_none (by omega))
      · exact .inr (Array.getElem?_eq_none (by omega))) fun h' he => ?_)
    refine wpAny_pure (hR h' tk acc c as (fun b o h0 h1 h2 h3 h4 e => he b o h1 h2 h3 h4 (hkeep b o h0 h1 h2 h3 h4 e)) (he S _ (Nat.ne_of_gt lz) (Nat.ne_of_gt lTO) (Nat.ne_of_gt li1) (Nat.ne_of_gt li2) hS) (by omega) ⟨hG.rise, hG.above, fun j a hj => ?_⟩ hacc)
    obtain ⟨x, y, e1, e2, e3⟩ := hG.pairs j a hj
    have lt := hG.above a (List.mem_of_getElem? hj)
    exact ⟨x, y, e1, e2, he a _ (Nat.ne_of_gt (Nat.lt_trans lz lt)) (Nat.ne_of_gt (Nat.lt_trans lTO lt)) (Nat.ne_of_gt (Nat.lt_trans li1 lt)) (Nat.ne_of_gt (Nat.lt_trans li2 lt)) e3⟩
  | succ k ih =>
    intro i h tk c acc as hk hi hst hkeep hS hacc hal hG
    have hlt : i < n := by omega
    have hsz : acc.size = i := by rw [← Array.length_toList, hacc, List.length_map, hal]
    have hSl : S < h.objs.size := Heap.lt_size hS
    refine codeAny_builtin PySem.F.entry_extend_loop ?_
    rw [Around.under_plainId PySem.F.plain_extend_loop _]
    show wpAny _ A.in1 (pyNext (.ref z) >>= _) _ _ _
    have ex : xs[i]? = some (xs[i]'(by omega)) := Array.getElem?_eq_getElem _
    have ey : ys[i]? = some (ys[i]'(by omega)) := Array.getElem?_eq_getElem _
    refine wpAny_bind (zip_nx C1 C2 D (s := { s with heap := h, toks := tk }) (A := A.in1) hst (C1.same (fun o => hkeep _ o (Nat.ne_of_lt ll1) D.l1z D.l1TO D.l1i1 D.l1i2) q1) (C2.same (fun o => hkeep _ o (Nat.ne_of_lt ll2) D.l2z D.l2TO D.l2i1 D.l2i2) q2) ex ey hSl (Nat.le_of_lt lz) (Nat.le_of_lt li1) (Nat.le_of_lt li2) fun h' hst' ht hkp => ?_)
    dsimp only at ht hkp ⊢
    have hS' := hkp S _ (Nat.ne_of_gt lz) (Nat.ne_of_gt lTO) (Nat.ne_of_gt li1) (Nat.ne_of_gt li2) hS
    have up : ∀ b o, b ≠ S → h'.get? b = some o → (h'.update S (Obj.mapSeq (·.push (Value.ref h.objs.size)))).get? b = some o := fun b o hb e => (Heap.get?_update_other _ _ (Ne.symm hb)).trans e
    show wpAny _ A.in1 (updateSeq S (·.push (Value.ref h.objs.size)) >>= _) _ _ _
    refine wpAny_bind ?_
    refine wpAny_updateSeq hS' rfl (wpAny_pure ⟨plainId_quiet PySem.F.plain_extend_loop _, ih (i + 1) _ tk _ (acc.push (Value.ref h.objs.size)) (as ++ [h.objs.size]) (by omega) hlt (hst'.up C1 C2 up lz lTI lTO li1 li2)
      (fun b o h0 h1 h2 h3 h4 e => up b o h0 (hkp b o h1 h2 h3 h4 (hkeep b o h0 h1 h2 h3 h4 e))) (Heap.get?_update_self _ hS' rfl) (by rw [Array.toList_push, hacc, List.map_append]; rfl) (by rw [List.length_append, hal]; rfl) ⟨?_, ?_, ?_⟩⟩) (by rw [hsz]; omega) (by show (acc.push (Value.ref h.objs.size)).size ≤ sizeLine + 1; rw [Array.size_push, hsz]; omega)
    · refine List.pairwise_append.mpr ⟨hG.rise, List.pairwise_singleton _ _, fun a ha b hb => ?_⟩
      rw [List.mem_singleton.mp hb]
      obtain ⟨j, hj⟩ := List.mem_iff_getElem?.mp ha
      obtain ⟨_, _, _, _, e⟩ := hG.pairs j a hj
      exact Heap.lt_size e
    · intro a ha
      rcases List.mem_append.mp ha with ha | ha
      · exact hG.above a ha
      · rw [List.mem_singleton.mp ha]; exact hSl
    · intro j b hj
      rcases Nat.lt_trichotomy j as.length with h1 | h1 | h1
      · rw [List.getElem?_append_left h1] at hj
        obtain ⟨x, y, e1, e2, e3⟩ := hG.pairs j b hj
        have lt := hG.above b (List.mem_of_getElem? hj)
        exact ⟨x, y, e1, e2, up b _ (Nat.ne_of_gt lt) (hkp b _ (Nat.ne_of_gt (Nat.lt_trans lz lt)) (Nat.ne_of_gt (Nat.lt_trans lTO lt)) (Nat.ne_of_gt (Nat.lt_trans li1 lt)) (Nat.ne_of_gt (Nat.lt_trans li2 lt)) e3)⟩
      · subst h1
        have hb : h.objs.size = b := by simpa using hj
        subst hb
        subst hal
        exact ⟨_, _, ex, ey, up _ _ (Nat.ne_of_gt hSl) ht⟩
      · have hnone : (as ++ [h.objs.size])[j]? = none := List.getElem?_eq_none (by rw [List.length_append, List.length_singleton]; omega)
        rw [hnone] at hj; cases hj
/-- list(zip(..)) -/
theorem call_listZ {E : Value → Shared → Prop} {Q : Value → Shared → Prop} (C1 : Cur i1 l1 xs pos1 src1) (C2 : Cur i2 l2 ys pos2 src2) (D : ZipApart z TI TO i1 i2 l1 l2) {a b : Value} (hh : A.handled = none) (ll1 : l1 < s.heap.objs.size) (ll2 : l2 < s.heap.objs.size) {n : Nat} (hn1 : n ≤ xs.size) (hn2 : n ≤ ys.size) (hne : xs.size ≤ n ∨ ys.size ≤ n)
    (hn : n ≤ sizeLine) (q1 : src1 s.heap) (q2 : src2 s.heap) (hz : IsZip s.heap z TI TO .none) (hTI : IsPair s.heap TI (.ref i1) (.ref i2)) (hTO : IsPair s.heap TO a b) (p1 : pos1 0 s.heap) (p2 : pos2 0 s.heap)
    (hQ : ∀ h' tk acc c as, (∀ b o, b ≠ z → b ≠ TO → b ≠ i1 → b ≠ i2 → s.heap.get? b = some o → h'.get? b = some o) → h'.get? s.heap.objs.size = some { cls := .type "list", dict := none, data := .seq acc c, slots := #[] } → as.length = n → MadeZ xs ys s.heap.objs.size h' as →
      acc.toList = as.map Value.ref → Q (.ref s.heap.objs.size) { s with heap := h', toks := tk }) :
    wpAny (model prog w) A (call (.type "list") [.ref z]) Q E s := by
  have lz : z < s.heap.objs.size := Heap.lt_size hz
  have hSz : s.heap.objs.size ≠ z := Nat.ne_of_gt lz
  have li1 : i1 < s.heap.objs.size := let ⟨_, e, _⟩ := C1.obj p1; Heap.lt_size e
  have li2 : i2 < s.heap.objs.size := let ⟨_, e, _⟩ := C2.obj p2; Heap.lt_size e
  refine callType_codes (Q₁ := fun obj s₁ => obj = .ref s.heap.objs.size ∧ s₁ = { s with heap := s.heap.push { cls := .type "list", data := .seq #[] } }) F.called_list (F.typeCall_list_1 _) F.entry_list_init
    (code_list_new _ ⟨rfl, rfl⟩) fun obj s₁ h₁ => ?_
  obtain ⟨rfl, rfl⟩ := h₁
  have hS : (s.heap.push { cls := .type "list", data := .seq #[] }).get? s.heap.objs.size = some { cls := .type "list", data := .seq #[] } := Heap.get?_push_size _ rfl
  refine ⟨⟨_, hS, rfl⟩, F.args_list_init_2 _ _, ?_⟩
  show wpAny _ A.in1.in1 (do let old ← Builtin.List.listItems (.ref s.heap.objs.size); Builtin.List.listUpdate (.ref s.heap.objs.size) (fun _ => #[]); letGo old.toList.reverse; Builtin.List.listExtendWith (.ref s.heap.objs.size) (.ref z) .none) _ _ _
  refine wpAny_bind ?_
  unfold Builtin.List.listItems
  refine wpAny_bind (wpAny_seqItems hS rfl (wpAny_pure ?_))
  show wpAny _ A.in1.in1 (updateSeq s.heap.objs.size (fun _ => #[]) >>= fun _ => letGo (#[] : Array Value).toList.reverse >>= fun _ => Builtin.List.listExtendWith (.ref s.heap.objs.size) (.ref z) .none) _ _ _
  refine wpAny_bind (wpAny_updateSeq hS rfl ?_)
  have hS2 := Heap.get?_update_self (Obj.mapSeq (fun _ => (#[] : Array Value))) hS rfl
  refine wpAny_bind (wpAny_letGo ?_)
  unfold Builtin.List.listExtendWith
  have up : ∀ (h : Heap) (f : Obj → Obj), (∀ b o, s.heap.get? b = some o → h.get? b = some o) → ∀ b o, s.heap.get? b = some o → (h.update s.heap.objs.size f).get? b = some o := fun h f q b o e =>
    (Heap.get?_update_other _ _ (Ne.symm (Nat.ne_of_lt (Heap.lt_size e)))).trans (q b o e)
  have k1 : ∀ b o, s.heap.get? b = some o → (s.heap.push { cls := .type "list", data := .seq #[] }).get? b = some o := fun b o e => Heap.get?_push_of_some _ e
  have k2 := up _ (Obj.mapSeq (fun _ => (#[] : Array Value))) k1
  have ty : ∀ {h : Heap} {tk : Nat}, (∀ b o, s.heap.get? b = some o → h.get? b = some o) → Shared.TypeIs { s with heap := h, toks := tk } (.ref z) "zip" := fun q => ⟨_, q _ _ hz, rfl⟩
  refine wpAny_bind (wpAny_typeOf (T := "zip") ⟨_, k2 _ _ hz, rfl⟩ ?_)
  have h1 : Builtin.List.listSameRef (.ref s.heap.objs.size) (.ref z) = false := by simp [Builtin.List.listSameRef, hSz]
  have h2 : (Value.type "zip" == Value.type "list") = false := by decide
  have h3 : (Value.type "zip" == Value.type "tuple") = false := by decide
  simp only [h1, h2, h3, Bool.or_false, Bool.false_eq_true, if_false]
  refine wpAny_bind (wpAny_pyIter_zip (k2 _ _ hz) ?_)
  refine wpAny_bind (wpAny_holding ?_)
  unfold Builtin.List.listLengthHint
  refine wpAny_bind (wpAny_specialOf (T := "zip") ⟨_, k2 _ _ hz, rfl⟩ zip_no_len ?_)
  show wpAny _ A.in1.in1 (specialOf (Value.ref z) (Str.ofString "__length_hint__") >>= _) _ _ _
  refine wpAny_bind (wpAny_specialOf (T := "zip") ⟨_, k2 _ _ hz, rfl⟩ zip_no_hint ?_)
  refine wpAny_pure ?_
  show wpAny _ A.in1.in1 (rule "list.extend.makes-room" >>= fun _ => Builtin.List.listTouch (.ref s.heap.objs.size) >>= fun _ =>
    again (.builtin "list.extend.loop" ⟨[.ref s.heap.objs.size, .ref z, .none], []⟩)) _ _ _
  refine wpAny_bind (wpAny_rule ?_)
  refine wpAny_bind ?_
  show wpAny _ A.in1.in1 (updateSeq s.heap.objs.size (·.push .none) >>= fun _ => updateSeq s.heap.objs.size (·.pop)) _ _ _
  refine wpAny_bind (wpAny_updateSeq hS2 rfl ?_)
  have hS3 := Heap.get?_update_self (Obj.mapSeq (·.push Value.none)) hS2 rfl
  refine wpAny_updateSeq (hz := by seq_fits) hS3 rfl ?_
  have hS4 := Heap.get?_update_self (Obj.mapSeq (·.pop)) hS3 rfl
  have k4 := up _ (Obj.mapSeq (·.pop)) (up _ (Obj.mapSeq (·.push Value.none)) k2)
  refine wpAny_pure ⟨plainId_quiet PySem.F.plain_extend_loop _, ?_⟩
  refine loopZ C1 C2 D (A := A.in1) (s := s) (h₁ := s.heap) hh lz (Heap.lt_size hTI) (Heap.lt_size hTO) li1 li2 ll1 ll2 hn1 hn2 hne hn .none q1 q2
    (fun h' tk acc c as hk hS' hl hG hacc => ⟨rfl, hQ h' tk acc c as (fun b o e1 e2 e3 e4 e => hk b o (Nat.ne_of_lt (Heap.lt_size e)) e1 e2 e3 e4 e) hS' hl hG hacc⟩)
    n 0 _ _ _ _ [] (Nat.sub_zero _) (Nat.zero_le _) ⟨k4 _ _ hTI, C1.kept (fun o => k4 _ o) p1, C2.kept (fun o => k4 _ o) p2, .inl ⟨k4 _ _ hz, _, _, k4 _ _ hTO⟩⟩ (fun b o _ _ _ _ _ e => k4 b o e) hS4 rfl rfl ⟨List.Pairwise.nil, (fun _ ha => nomatch ha), fun j a hj => by simp at hj⟩
end
/-! ### the rule -/
abbrev T3 : Type := Addr × V × V
/-- what list(zip(..)) of a tuple and a list hands on: a new list of new pairs -/
def tListZ (K : PySem.W.Frag) (ta : TA) : TE := fun σ H Q => ta σ H fun vs H1 => ∃ (a b : Addr) (xs ys : List V), vs = [.ref a, .ref b] ∧ SqT K H1 a xs ∧ SqL K H1 b ys ∧
  ∀ (H' : Hp) (l : Addr) (ts : List T3), (∀ b o, H1 b = some o → H' b = some o) → ts.map (·.2) = xs.zip ys → H1 l = none → H' l = some (.lst (ts.map fun t => V.ref t.1)) →
    (∀ t ∈ ts, t.1 ≠ l ∧ H1 t.1 = none ∧ H' t.1 = some (.tup [t.2.1, t.2.2])) → Q (.ref l) H'
section
variable {X : Cx} {W : WX}
theorem pe_listZ {e e2 : Expr} {ta : TA} {p p0 zpos pos : Pos} (hc : X.calm = true) (hgl : Gl X "list") (hml : X.mg "list" = none) (hg : Gl X "zip") (hm : X.mg "zip" = none) (ha : PA X [e, e2] ta)
    (hs : starEach [e, e2] X.env = (false, eval e X.env) :: starEach [e2] X.env := by rfl) (hpl : (backTo zpos (starEach [e2] X.env)).any (·.1) = false := by rfl)
    (he : starEach [.Call (.Name "zip" p) [e, e2] [] zpos] X.env = (false, eval (.Call (.Name "zip" p) [e, e2] [] zpos) X.env) :: starEach [] X.env := by rfl) :
    PE X (.Call (.Name "list" p0) [.Call (.Name "zip" p) [e, e2] [] zpos] [] pos) (tListZ X.K ta) := by
  refine ⟨fun pins s σ H Q I hq => ?_⟩
  refine wpAny_Call_Name_kw (ld_blt I hgl hml PyProof.Rows.boot_list ?_)
  refine PyProof.Rows.callWith_type1 ?_ he rfl
  rw [he]
  show wpAny _ _ (spliced ((false, eval _ X.env) :: backTo pos (starEach [] X.env))) _ _ s
  refine Calls.spliced_cons ?_
  refine Call_ (ld_blt I hg hm PyProof.Rows.boot_zip (PyProof.Rows.callWith_type1 (thn (ha.run zpos pins s σ H _ I hq) fun us s1 ⟨vs, H1, I1, r1, q1⟩ => ?_) hs hpl))
  obtain ⟨a, b, xs, ys, rfl, qx, qy, q⟩ := q1
  cases r1 with
  | cons r rr => cases rr with
    | cons r' rr =>
      cases rr
      cases r
      cases r'
      obtain ⟨us, ru, pu, zu⟩ := I1.tuple qx
      obtain ⟨ws, rw', pw, zw⟩ := I1.list qy
      obtain ⟨o1, ho1, _⟩ := id pu
      have la : a < s1.heap.objs.size := Heap.lt_size ho1
      have lb : b < s1.heap.objs.size := pw.lt
      have l1 := ru.length
      have l2 := rw'.length
      refine zipM_call (show s1.heap.IsTuple a us.toArray from pu) pw.isList fun h' hz hI hO h1 h2 fr => ?_
      refine Calls.spliced_nil ?_
      have lz : s1.heap.objs.size + 4 < h'.objs.size := Heap.lt_size hz
      have hsz : s1.heap.objs.size ≤ h'.objs.size := Nat.le_of_lt (Nat.lt_trans (by show s1.heap.objs.size < s1.heap.objs.size + 4; omega) lz)
      have ft : h'.IsTuple a us.toArray := by
        obtain ⟨o, e1, e2⟩ := id pu
        exact ⟨o, fr _ _ e1, e2⟩
      have fl : h'.IsList b ws.toArray := pw.isList.at fun o e => fr _ _ e
      refine call_listZ (s := { s1 with heap := h' }) (curT _ a us.toArray) (curL _ b ws.toArray) (PySem.W.ktu_apart s1.heap.objs.size a b la lb) (n := min xs.length ys.length) (I.ok.hd hc) (Nat.lt_of_lt_of_le la hsz) (Nat.lt_of_lt_of_le lb hsz)
        (by rw [List.size_toArray]; omega) (by rw [List.size_toArray]; omega) (by rw [List.size_toArray, List.size_toArray]; omega) (by omega) ft fl hz hI hO h1 h2 fun h2 tk acc c as hk hS hl hG hacc => ?_
      have kS : ∀ b o, s1.heap.get? b = some o → h2.get? b = some o := fun b o e => by
        have lt := Heap.lt_size e
        exact hk b o (Nat.ne_of_lt (Nat.lt_of_lt_of_le lt (Nat.le_add_right ..))) (Nat.ne_of_lt (Nat.lt_of_lt_of_le lt (Nat.le_add_right ..))) (Nat.ne_of_lt lt) (Nat.ne_of_lt (Nat.lt_of_lt_of_le lt (Nat.le_add_right ..))) (fr b o e)
      have nd : as.Nodup := List.Pairwise.imp (fun h => Nat.ne_of_lt h) hG.rise
      have I2 : Inv X pins σ H1 { s1 with heap := h2, toks := tk } := I1.kept (t' := tk) kS
      have hn0 : H1 h'.objs.size = none := I1.hok.fresh hsz
      have rv : Vals (as.map V.ref) acc.toList := by
        rw [hacc]
        exact vals_maps V.ref Value.ref as fun _ _ => rfl
      have I3 : Inv X pins σ (upd H1 h'.objs.size (.lst (as.map V.ref))) { s1 with heap := h2, toks := tk } :=
        I2.take (h' := h2) (t' := tk) (fun b ob _ e => e) (I1.fpOk hsz hn0) ⟨by rw [List.length_map]; omega, acc.toList, c, rv, hS⟩
      -- the pairs that were made
      have pr : ∀ (j : Nat) (t : Addr), as[j]? = some t → ∃ (x y : V) (u v : Value), xs[j]? = some x ∧ ys[j]? = some y ∧ RelV x u ∧ RelV y v ∧ h2.get? t = some { cls := .type "tuple", data := .seq #[u, v] } := by
        intro j t hj
        obtain ⟨u, v, e1, e2, e3⟩ := hG.pairs j t hj
        have jl : j < min xs.length ys.length := by rw [← hl]; exact (List.getElem?_eq_some_iff.mp hj).1
        have ex : xs[j]? = some (xs[j]'(by omega)) := List.getElem?_eq_getElem _
        have ey : ys[j]? = some (ys[j]'(by omega)) := List.getElem?_eq_getElem _
        obtain ⟨u', eu, r1⟩ := ru.get ex
        obtain ⟨v', ev, r2⟩ := rw'.get ey
        have z1 : u' = u := by
          rw [List.getElem?_toArray] at e1
          exact Option.some.inj (eu.symm.trans e1)
        have z2 : v' = v := by
          rw [List.getElem?_toArray] at e2
          exact Option.some.inj (ev.symm.trans e2)
        subst z1 z2
        exact ⟨_, _, _, _, ex, ey, r1, r2, e3⟩
      obtain ⟨H2, I4, g, qt⟩ := takeT (P := fun t vs => ∃ (j : Nat) (x y : V), as[j]? = some t ∧ xs[j]? = some x ∧ ys[j]? = some y ∧ vs = [x, y]) I1 as _ I3 nd fun t ht => by
        obtain ⟨j, hj⟩ := List.mem_iff_getElem?.mp ht
        obtain ⟨x, y, u, v, ex, ey, r1, r2, e3⟩ := pr j t hj
        have hbl := hG.above t ht
        have hbs : s1.heap.objs.size ≤ t := Nat.le_of_lt (Nat.lt_of_le_of_lt hsz hbl)
        refine ⟨hbs, ?_, [x, y], ⟨j, x, y, hj, ex, ey, rfl⟩, fun H3 => ⟨(by rw [sizeLine_eq]; show 2 ≤ 16777216; omega), [u, v], .cons r1 (.cons r2 .nil), ⟨_, e3, rfl, 0, rfl⟩⟩⟩
        rw [upd_ne (Nat.ne_of_gt hbl)]
        exact I1.hok.fresh hbs
      have gr : ∀ b o, H1 b = some o → H2 b = some o := fun b o e => g b o (by rw [upd_ne (ne_of_none e hn0)]; exact e)
      have lz' : as.length = (xs.zip ys).length := by rw [List.length_zip]; exact hl
      have m1 : (as.zip (xs.zip ys)).map (·.1) = as := List.map_fst_zip (by rw [lz']; exact Nat.le_refl _)
      have m2 : (as.zip (xs.zip ys)).map (·.2) = xs.zip ys := List.map_snd_zip (by rw [lz']; exact Nat.le_refl _)
      have m3 : (as.zip (xs.zip ys)).map (fun t => V.ref t.1) = as.map V.ref := by
        conv => rhs; rw [← m1]
        rw [List.map_map]
        rfl
      refine ⟨.ref h'.objs.size, H2, I4, rfl, q H2 h'.objs.size (as.zip (xs.zip ys)) gr m2 hn0 (by rw [m3]; exact g _ _ upd_same) fun t ht => ?_⟩
      obtain ⟨i, hi⟩ := List.mem_iff_getElem?.mp ht
      obtain ⟨i1, i2⟩ := List.getElem?_zip_eq_some.mp hi
      obtain ⟨i3, i4⟩ := List.getElem?_zip_eq_some.mp i2
      obtain ⟨vs, ⟨j, x, y, j1, jx, jy, ev⟩, hH⟩ := qt t.1 (List.mem_of_getElem? i1)
      have eij : i = j := (List.getElem?_inj (List.getElem?_eq_some_iff.mp i1).1 nd).mp (i1.trans j1.symm)
      subst eij
      have e1 : x = t.2.1 := Option.some.inj (jx.symm.trans i3)
      have e2 : y = t.2.2 := Option.some.inj (jy.symm.trans i4)
      rw [ev, e1, e2] at hH
      have mem := hG.above t.1 (List.mem_of_getElem? i1)
      exact ⟨Nat.ne_of_gt mem, I1.hok.fresh (Nat.le_of_lt (Nat.lt_of_le_of_lt hsz mem)), hH⟩
/-- list(zip(x, y)) -/
def nListZip (cs : Env → M (List D)) : Env → M (List D) := fun ρ h => (cs ρ h).bind fun ds h1 => match ds with
  | [x, y] => if isT x && !isT y then (match itOf h1 x, itOf h1 y with
    | some it, some jt => if okG it.gs h1 && okG jt.gs h1 then .ok (zipD it.items jt.items) h1 else .bad
    | _, _ => .bad) else .bad
  | _ => .bad
theorem rds_zip {K : PySem.W.Frag} {ι : Ix} {H : Hp} : ∀ {xs ys : List D} {us vs : List V} {ts : List T3}, ts.map (·.2) = us.zip vs → (∀ t ∈ ts, ι.fz t.1 ∧ H t.1 = some (.tup [t.2.1, t.2.2])) → RDs K ι H xs us → RDs K ι H ys vs → RDs K ι H (zipD xs ys) (ts.map fun t => V.ref t.1)
  | [], ys, _, vs, ts, e, _, .nil, _ => by
    have z : ts = [] := List.map_eq_nil_iff.mp e
    subst z
    cases ys <;> exact .nil
  | _ :: _, [], _, _, ts, e, _, .cons _ _, .nil => by
    have z : ts = [] := List.map_eq_nil_iff.mp (e.trans List.zip_nil_right)
    subst z
    exact .nil
  | x :: xs, y :: ys, _, _, [], e, _, .cons _ _, .cons _ _ => by simp at e
  | x :: xs, y :: ys, _, _, t :: ts, e, h, .cons r rr, .cons r' rr' => by
    rw [List.map_cons, List.zip_cons_cons] at e
    have e1 := (List.cons.inj e).1
    have e2 := (List.cons.inj e).2
    obtain ⟨f, ht⟩ := h t List.mem_cons_self
    rw [e1] at ht
    exact .cons (.tup (.inl ⟨f, .inl ht⟩) (.cons r (.cons r' .nil))) (rds_zip e2 (fun u hu => h u (List.mem_cons_of_mem _ hu)) rr rr')
theorem dn_listZip {a b : Expr} {cs : Env → M (List D)} {p p0 zpos pos : Pos} (hc : X.calm = true) (hgl : Gl X "list") (hml : X.mg "list" = none) (hg : Gl X "zip") (hm : X.mg "zip" = none) (ha : DA X W [a, b] cs)
    (hs : starEach [a, b] X.env = (false, eval a X.env) :: starEach [b] X.env := by rfl) (hpl : (backTo zpos (starEach [b] X.env)).any (·.1) = false := by rfl)
    (he : starEach [.Call (.Name "zip" p) [a, b] [] zpos] X.env = (false, eval (.Call (.Name "zip" p) [a, b] [] zpos) X.env) :: starEach [] X.env := by rfl) : DN X W (.Call (.Name "list" p0) [.Call (.Name "zip" p) [a, b] [] zpos] [] pos) (nListZip cs) := pe_imp (pe_listZ hc hgl hml hg hm ha hs hpl he) fun σ H Q ⟨ι, h, ρ, R, S, p⟩ => by
  refine ⟨ι, h, ρ, R, S, Post.imp (PostN.bind p) fun vs H1 ⟨ι1, h1, ds, x1, R1, r1, p1⟩ => ?_⟩
  split at p1
  · rename_i x y
    obtain ⟨et, p1⟩ := p1.guard
    obtain ⟨ex, ey⟩ := Bool.and_eq_true_iff.mp et
    have ey : isT y = false := by simpa using ey
    split at p1
    · rename_i it jt e1 e2
      obtain ⟨g, p1⟩ := p1.guard
      obtain ⟨g1, g2⟩ := Bool.and_eq_true_iff.mp g
      cases r1 with
      | cons r rr => cases rr with
        | cons r' rr =>
          cases rr
          obtain ⟨a, rfl, f⟩ := itOf_T r e1 ex
          obtain ⟨b, rfl, f'⟩ := itOf_L r' e2 ey
          obtain ⟨vs, q, rs⟩ := f ι1 H1 h1 (Ext.refl.up) R1 g1
          obtain ⟨us, q', rs'⟩ := f' ι1 H1 h1 (Ext.refl.up) R1 g2
          refine ⟨a, b, vs, us, rfl, q, q', fun H' l ts gr em hl hH' ht => ?_⟩
          have fo := R1.out hl
          have up : Up ι1 H1 (ι1.with l) H' := Up.with hl gr
          refine p1 ι1 H' l _ (x1.trans (Ext.sub gr)) (R1.with hl gr (by rw [hH']; exact fun z => nomatch z)) (rds_zip em (fun t ht' => ?_) (rs.up up) (rs'.up up)) hH' fo.1 fo.2 (x1.back hl fun z => fo.1 ?_)
          · obtain ⟨t1, t2, t3⟩ := ht t ht'
            have ft := R1.out t2
            exact ⟨⟨ft.1, fun z => (List.mem_cons.mp z).elim t1 ft.2⟩, t3⟩
          · obtain ⟨t, e1⟩ := x1.pre
            rw [e1]
            exact List.mem_append_left _ z
    · exact p1.elim
  · exact p1.elim
end
end Dl

namespace Sh
open PySem PySem.Spec L2 Dl
/-! ### what the defs compute -/
/-- is_tuple -/
def c_is_tuple : SM := sRet (andX (eBf (isiD []) (aC (eV 0) (aC (eC (.ty "tuple")) aN))) (eCh leD leD (eV 1) (eBf lenD (aC (eV 0) aN)) (eV 2)))
def m_is_tuple : List D → M D := mDef 3 c_is_tuple

/-- is_integer -/
def c_is_integer : SM := sRet (andX (eBf (isiD []) (aC (eV 0) (aC (eC (.ty "int")) aN))) (e1 notX (eBf (isiD []) (aC (eV 0) (aC (eC (.ty "bool")) aN)))))
def m_is_integer : List D → M D := mDef 1 c_is_integer

/-- common -/
def c_common : SM := sSeq (sPar2 0 1 (aC (eBf absD (aC (eV 0) aN)) (aC (eBf absD (aC (eV 1) aN)) aN))) (sSeq (sWhile (limI 1) (tst (e2 gtD (eV 1) (eC (.int 0)))) (sPar2 0 1 (aC (eV 1) (aC (e2 modD (eV 0) (eV 1)) aN)))) (sRet (eV 0)))
def m_common : List D → M D := mDef 2 c_common

/-- is_fraction -/
def c_is_fraction : SM := sSeq (sIf (orT (notT (tru (eCall 3 m_is_tuple (aC (eV 0) (aC (eC (.int 2)) (aC (eC (.int 2)) aN)))))) (orT (notT (tru (eBf allD (aC (frz (nLc (iSeq (eV 0)) (.nm 1) [1] (tYes') (eCall 1 m_is_integer (aC (eV 1) aN)))) aN)))) (tst (e2 ltD (e2 itemD (eV 0) (eC (.int 1))) (eC (.int 1)))))) (sRet (eC (.bl false))) (sPass)) (sRet (e2 eqD (eCall 2 m_common (aC (e2 itemD (eV 0) (eC (.int 0))) (aC (e2 itemD (eV 0) (eC (.int 1))) aN))) (eC (.int 1))))
def m_is_fraction : List D → M D := mDef 2 c_is_fraction

/-- is_share -/
def c_is_share : SM := sRet (andX (eCall 1 m_is_fraction (aC (eV 0) aN)) (eCh leD leD (eC (.int 0)) (e2 itemD (eV 0) (eC (.int 0))) (e2 itemD (eV 0) (eC (.int 1)))))
def m_is_share : List D → M D := mDef 1 c_is_share

/-- is_within -/
def c_is_within : SM := sRet (andX (eCall 1 m_is_integer (aC (eV 0) aN)) (eCh leD leD (eV 1) (eV 0) (eV 2)))
def m_is_within : List D → M D := mDef 3 c_is_within

/-- lowest -/
def c_lowest : SM := sSeq (sIf (tst (e2 ltD (eV 1) (eC (.int 0)))) (sPar2 0 1 (aC (e1 negD (eV 0)) (aC (e1 negD (eV 1)) aN))) (sPass)) (sSeq (sSet 2 (eCall 2 m_common (aC (eV 0) (aC (eV 1) aN)))) (sRet (eTup (aC (e2 divD (eV 0) (eV 2)) (aC (e2 divD (eV 1) (eV 2)) aN)))))
def m_lowest : List D → M D := mDef 3 c_lowest

/-- is_less -/
def c_is_less : SM := sRet (e2 ltD (e2 mulD (e2 itemD (eV 0) (eC (.int 0))) (e2 itemD (eV 1) (eC (.int 1)))) (e2 mulD (e2 itemD (eV 1) (eC (.int 0))) (e2 itemD (eV 0) (eC (.int 1)))))
def m_is_less : List D → M D := mDef 2 c_is_less

/-- plus -/
def c_plus : SM := sRet (eCall 2 m_lowest (aC (e2 addD (e2 mulD (e2 itemD (eV 0) (eC (.int 0))) (e2 itemD (eV 1) (eC (.int 1)))) (e2 mulD (e2 itemD (eV 1) (eC (.int 0))) (e2 itemD (eV 0) (eC (.int 1))))) (aC (e2 mulD (e2 itemD (eV 0) (eC (.int 1))) (e2 itemD (eV 1) (eC (.int 1)))) aN)))
def m_plus : List D → M D := mDef 2 c_plus

/-- whole_sum -/
def c_whole_sum : SM := sSeq (sSet 1 (eC (.tup [.int 0, .int 1]))) (sSeq (sFor (iSeq (eV 0)) (.nm 2) (sSet 1 (eCall 2 m_plus (aC (eV 1) (aC (eV 2) aN))))) (sRet (eV 1)))
def m_whole_sum : List D → M D := mDef 3 c_whole_sum

/-- _law_draw -/
def c__law_draw_v3 : SM := sSeq (sIf (andT (tst (e2 eqD (e2 itemD (eV 0) (eC (.int 2))) (eC (.int 0)))) (tst (e2 ltD (e2 itemD (eV 0) (eC (.int 1))) (eBf lenD (aC (e2 itemD (eV 0) (eC (.int 0))) aN))))) (sSeq (sSet 2 (e2 itemD (e2 itemD (eV 0) (eC (.int 0))) (e2 itemD (eV 0) (eC (.int 1))))) (sSeq (sStore (e2 addD (e2 itemD (eV 0) (eC (.int 1))) (eC (.int 1))) (eV 0) (eC (.int 1))) (sSeq (sStore (e2 modD (eBf intD (aC (e2 addD (e2 addD (e2 mulD (e2 itemD (eV 0) (eC (.int 3))) (eC (.int 69621))) (eV 2)) (eC (.int 29))) aN)) (eC (.int 2147483629))) (eV 0) (eC (.int 3))) (sIf (tst (e2 geD (eV 2) (e2 powD (eC (.int 10)) (eC (.int 18))))) (sStore (eV 2) (eV 0) (eC (.int 2))) (sPass))))) (sPass)) (sSeq (sIf (tst (e2 gtD (e2 itemD (eV 0) (eC (.int 2))) (eC (.int 0)))) (sSeq (sSet 3 (e2 modD (eBf intD (aC (e2 itemD (eV 0) (eC (.int 2))) aN)) (eV 1))) (sSeq (sStore (e2 divD (e2 itemD (eV 0) (eC (.int 2))) (eV 1)) (eV 0) (eC (.int 2))) (sRet (eV 3)))) (sPass)) (sSeq (sStore (e2 addD (e2 itemD (eV 0) (eC (.int 4))) (eC (.int 1))) (eV 0) (eC (.int 4))) (sSeq (sSet 4 (e2 modD (eBf intD (aC (e2 mulD (eBf intD (aC (e2 addD (e2 itemD (eV 0) (eC (.int 3))) (e2 mulD (eC (.int 7919)) (e2 itemD (eV 0) (eC (.int 4))))) aN)) (eC (.int 48271))) aN)) (eC (.int 2147483647)))) (sSeq (sSet 4 (e2 modD (eBf intD (aC (e2 mulD (eV 4) (e2 addD (e2 divD (eV 4) (eC (.int 1009))) (eC (.int 69621)))) aN)) (eC (.int 2147483647)))) (sSeq (sSet 4 (e2 modD (eBf intD (aC (e2 mulD (eV 4) (e2 addD (e2 divD (eV 4) (eC (.int 2003))) (eC (.int 40692)))) aN)) (eC (.int 2147483399)))) (sRet (e2 modD (eBf intD (aC (e2 divD (eV 4) (eC (.int 16))) aN)) (eV 1))))))))
def m__law_draw_v3 : List D → M D := mDef 5 c__law_draw_v3

/-- _law_low -/
def c__law_low : SM := sSeq (sPar2 2 3 (aC (eBf absD (aC (eV 0) aN)) (aC (eV 1) aN))) (sSeq (sWhile (limI 3) (tst (e2 gtD (eV 3) (eC (.int 0)))) (sPar2 2 3 (aC (eV 3) (aC (e2 modD (eBf intD (aC (eV 2) aN)) (eV 3)) aN)))) (sRet (eTup (aC (e2 divD (eV 0) (eV 2)) (aC (e2 divD (eV 1) (eV 2)) aN)))))
def m__law_low : List D → M D := mDef 4 c__law_low

/-- _law_plus -/
def c__law_plus : SM := sRet (eCall 2 m__law_low (aC (e2 addD (e2 mulD (e2 itemD (eV 0) (eC (.int 0))) (e2 itemD (eV 1) (eC (.int 1)))) (e2 mulD (e2 itemD (eV 1) (eC (.int 0))) (e2 itemD (eV 0) (eC (.int 1))))) (aC (e2 mulD (e2 itemD (eV 0) (eC (.int 1))) (e2 itemD (eV 1) (eC (.int 1)))) aN)))
def m__law_plus : List D → M D := mDef 2 c__law_plus

/-- _law_less -/
def c__law_less : SM := sRet (e2 ltD (e2 mulD (e2 itemD (eV 0) (eC (.int 0))) (e2 itemD (eV 1) (eC (.int 1)))) (e2 mulD (e2 itemD (eV 1) (eC (.int 0))) (e2 itemD (eV 0) (eC (.int 1)))))
def m__law_less : List D → M D := mDef 2 c__law_less

/-- _law_sum -/
def c__law_sum : SM := sRet (eCall 2 m__law_low (aC (e2 addD (e2 mulD (e2 itemD (eV 0) (eC (.int 0))) (e2 itemD (eV 1) (eC (.int 1)))) (e2 mulD (e2 itemD (eV 1) (eC (.int 0))) (e2 itemD (eV 0) (eC (.int 1))))) (aC (e2 mulD (e2 itemD (eV 0) (eC (.int 1))) (e2 itemD (eV 1) (eC (.int 1)))) aN)))
def m__law_sum : List D → M D := mDef 2 c__law_sum

/-- _law_hand -/
def c__law_hand_v2 : SM := sSeq (sSet 1 (frz (nLc (iSeq (eSl (eV 0) pN (pS (eC (.int 63))))) (.nm 2) [2] (tYes') (eBf absD (aC (eBf intD (aC (eV 2) aN)) aN))))) (sRet (thaw (nLst (aC (eV 1) (aC (eC (.int 0)) (aC (eC (.int 0)) (aC (e2 addD (eC (.int 251)) (e2 mulD (eC (.int 37)) (eBf lenD (aC (eV 1) aN)))) (aC (eC (.int 0)) aN))))))))
def m__law_hand_v2 : List D → M D := mDef 3 c__law_hand_v2

/-- product -/
def c_product : SM := sRet (eCall 2 m_lowest (aC (e2 mulD (e2 itemD (eV 0) (eC (.int 0))) (e2 itemD (eV 1) (eC (.int 0)))) (aC (e2 mulD (e2 itemD (eV 0) (eC (.int 1))) (e2 itemD (eV 1) (eC (.int 1)))) aN)))
def m_product : List D → M D := mDef 2 c_product

/-- _law_mul -/
def c__law_mul : SM := sRet (eCall 2 m__law_low (aC (e2 mulD (e2 itemD (eV 0) (eC (.int 0))) (e2 itemD (eV 1) (eC (.int 0)))) (aC (e2 mulD (e2 itemD (eV 0) (eC (.int 1))) (e2 itemD (eV 1) (eC (.int 1)))) aN)))
def m__law_mul : List D → M D := mDef 2 c__law_mul

/-- _law_below -/
def c__law_below : SM := sRet (e2 ltD (e2 mulD (e2 itemD (eV 0) (eC (.int 0))) (e2 itemD (eV 1) (eC (.int 1)))) (e2 mulD (e2 itemD (eV 1) (eC (.int 0))) (e2 itemD (eV 0) (eC (.int 1)))))
def m__law_below : List D → M D := mDef 2 c__law_below

/-- greatest -/
def c_greatest : SM := sRet (ifV (tru (eCall 2 m_is_less (aC (eV 0) (aC (eV 1) aN)))) (eV 1) (eV 0))
def m_greatest : List D → M D := mDef 2 c_greatest

/-- is_value_pair -/
def c_is_value_pair : SM := sRet (andX (eCall 3 m_is_tuple (aC (eV 0) (aC (eC (.int 2)) (aC (eC (.int 2)) aN)))) (andX (eCall 3 m_is_within (aC (e2 itemD (eV 0) (eC (.int 0))) (aC (eC (.int 0)) (aC (eC (.int 1000)) aN)))) (andX (eCall 1 m_is_share (aC (e2 itemD (eV 0) (eC (.int 1))) aN)) (e2 gtD (e2 itemD (e2 itemD (eV 0) (eC (.int 1))) (eC (.int 0))) (eC (.int 0))))))
def m_is_value_pair : List D → M D := mDef 1 c_is_value_pair

/-- is_offer -/
def c_is_offer : SM := sSeq (sIf (orT (notT (tru (eCall 3 m_is_tuple (aC (eV 0) (aC (eC (.int 1)) (aC (eC (.int 5)) aN)))))) (notT (tru (eBf allD (aC (frz (nLc (iSeq (eV 0)) (.nm 1) [1] (tYes') (eCall 1 m_is_value_pair (aC (eV 1) aN)))) aN))))) (sRet (eC (.bl false))) (sPass)) (sSeq (sIf (notT (tru (eBf allD (aC (frz (nLc (iZip (aC (eV 0) (aC (eSl (eV 0) (pS (eC (.int 1))) pN) aN))) (.tp [.nm 2, .nm 3]) [2, 3] (tYes') (e2 ltD (e2 itemD (eV 2) (eC (.int 0))) (e2 itemD (eV 3) (eC (.int 0)))))) aN)))) (sRet (eC (.bl false))) (sPass)) (sRet (e2 eqD (eCall 1 m_whole_sum (aC (frz (nLc (iSeq (eV 0)) (.tp [.nm 4, .nm 5]) [4, 5] (tYes') (eV 5))) aN)) (eC (.tup [.int 1, .int 1])))))
def m_is_offer : List D → M D := mDef 6 c_is_offer

/-- Deal.__init__ -/
def c_Deal___init__ : SM := sSeq (sIf (orT (notT (tru (eCall 3 m_is_tuple (aC (eV 1) (aC (eC (.int 1)) (aC (eC (.int 8)) aN)))))) (notT (tru (eBf allD (aC (frz (nLc (iSeq (eV 1)) (.nm 2) [2] (tYes') (eCall 1 m_is_offer (aC (eV 2) aN)))) aN))))) (sBad) (sPass)) (sFldD "Deal" "offers" (eV 1) (eV 0))
def m_Deal___init__ : List D → M D := mDef 3 c_Deal___init__

/-- _law_some -/
def c__law_some : SM := sRet (e2 itemD (eV 1) (eCall 2 m__law_draw_v3 (aC (eV 0) (aC (eBf lenD (aC (eV 1) aN)) aN))))
def m__law_some : List D → M D := mDef 2 c__law_some

/-- _law_offer -/
def c__law_offer : SM := sSeq (sSet 2 (thaw (nLst aN))) (sSeq (sFor (iR1 (aC (e2 addD (eC (.int 1)) (eCall 2 m__law_draw_v3 (aC (eV 0) (aC (eV 1) aN)))) aN)) (.nm 3) (sExp (eLm appD (eV 2) (aC (eCall 2 m__law_some (aC (eV 0) (aC (frz (nLst (aC (eC (.int 0)) (aC (eC (.int 1)) (aC (eC (.int 2)) (aC (eC (.int 3)) (aC (eC (.int 5)) (aC (eC (.int 8)) (aC (eC (.int 9)) (aC (eC (.int 20)) (aC (ifV (tst (e2 eqD (eCall 2 m__law_draw_v3 (aC (eV 0) (aC (eC (.int 6)) aN))) (eC (.int 0)))) (eC (.int 1000)) (eC (.int 4))) aN))))))))))) aN))) aN)))) (sSeq (sSet 2 (thaw (nSortU (eV 2)))) (sSeq (sSet 4 (frz (nLc (iSeq (eV 2)) (.nm 5) [5] (tYes') (e2 addD (eC (.int 1)) (eCall 2 m__law_draw_v3 (aC (eV 0) (aC (eC (.int 4)) aN))))))) (sRet (eBf tupD (aC (frz (nLc (iZip (aC (eV 2) (aC (eV 4) aN))) (.tp [.nm 5, .nm 6]) [5, 6] (tYes') (eTup (aC (eV 5) (aC (eCall 2 m__law_low (aC (eV 6) (aC (eBf sumD (aC (eV 4) aN)) aN))) aN))))) aN))))))
def m__law_offer : List D → M D := mDef 7 c__law_offer

/-- _law_deal -/
def c__law_deal : SM := sRet (eBf tupD (aC (frz (nLc (iR1 (aC (e2 addD (eC (.int 1)) (eCall 2 m__law_draw_v3 (aC (eV 0) (aC (eV 1) aN)))) aN)) (.nm 3) [3] (tYes') (eCall 2 m__law_offer (aC (eV 0) (aC (eV 2) aN))))) aN))
def m__law_deal : List D → M D := mDef 4 c__law_deal

/-- _law_is -/
def c__law_is (rec : List D → M D) : SM := sSeq (sIf (orT (tru (eBf (isiD []) (aC (eV 0) (aC (eC (.ty "bool")) aN)))) (tru (eBf (isiD []) (aC (eV 1) (aC (eC (.ty "bool")) aN))))) (sRet (andX (eBf (isiD []) (aC (eV 0) (aC (eC (.ty "bool")) aN))) (andX (eBf (isiD []) (aC (eV 1) (aC (eC (.ty "bool")) aN))) (e2 eqD (eV 0) (eV 1))))) (sPass)) (sSeq (sIf (orT (tru (eBf (isiD []) (aC (eV 0) (aC (eC (.ty "tuple")) aN)))) (tru (eBf (isiD []) (aC (eV 0) (aC (eC (.ty "list")) aN))))) (sSeq (sIf (orT (tst (e2 neD (eBf (isiD []) (aC (eV 0) (aC (eC (.ty "tuple")) aN))) (eBf (isiD []) (aC (eV 1) (aC (eC (.ty "tuple")) aN))))) (tst (e2 neD (eBf (isiD []) (aC (eV 0) (aC (eC (.ty "list")) aN))) (eBf (isiD []) (aC (eV 1) (aC (eC (.ty "list")) aN)))))) (sRet (eC (.bl false))) (sPass)) (sRet (andX (e2 eqD (eBf lenD (aC (eV 0) aN)) (eBf lenD (aC (eV 1) aN))) (eBf allD (aC (frz (nLc (iZip (aC (eV 0) (aC (eV 1) aN))) (.tp [.nm 2, .nm 3]) [2, 3] (tYes') (eCall 2 rec (aC (eV 2) (aC (eV 3) aN))))) aN))))) (sPass)) (sSeq (sIf (tru (eBf (isiD []) (aC (eV 0) (aC (eC (.ty "dict")) aN)))) (sSeq (sIf (orT (notT (tru (eBf (isiD []) (aC (eV 1) (aC (eC (.ty "dict")) aN))))) (tst (e2 neD (eBf lenD (aC (eV 0) aN)) (eBf lenD (aC (eV 1) aN))))) (sRet (eC (.bl false))) (sPass)) (sRet (eBf allD (aC (frz (nLc (iSeq (eV 0)) (.nm 4) [4] (tYes') (andX (e2 inD (eV 4) (eV 1)) (eCall 2 rec (aC (e2 itemD (eV 0) (eV 4)) (aC (e2 itemD (eV 1) (eV 4)) aN)))))) aN)))) (sPass)) (sRet (andX (e2 eqD (eBf (isiD []) (aC (eV 0) (aC (eC (.ty "int")) aN))) (eBf (isiD []) (aC (eV 1) (aC (eC (.ty "int")) aN)))) (e2 eqD (eV 0) (eV 1))))))
def r__law_is : Nat → List D → M D
  | 0 => fun _ _ => .bad
  | j + 1 => mDef 5 (c__law_is (r__law_is j))
def m__law_is : List D → M D := r__law_is 12

/-- _law_prod -/
def c__law_prod : SM := sRet (eCall 2 m__law_low (aC (e2 mulD (e2 itemD (eV 0) (eC (.int 0))) (e2 itemD (eV 1) (eC (.int 0)))) (aC (e2 mulD (e2 itemD (eV 0) (eC (.int 1))) (e2 itemD (eV 1) (eC (.int 1)))) aN)))
def m__law_prod : List D → M D := mDef 2 c__law_prod

/-- with_floor -/
def c_with_floor : SM := sRet (eCall 1 m_whole_sum (aC (frz (nLc (iSeq (eV 0)) (.tp [.nm 2, .nm 3]) [2, 3] (tYes') (eCall 2 m_product (aC (eV 3) (aC (eCall 2 m_greatest (aC (eTup (aC (eV 2) (aC (eC (.int 1)) aN))) (aC (eV 1) aN))) aN))))) aN))
def m_with_floor : List D → M D := mDef 4 c_with_floor

/-- worths -/
def c_worths : SM := sSeq (sSet 1 (thaw (nLst (aC (eC (.tup [.int 0, .int 1])) aN)))) (sSeq (sFor (iSeq (e1 revD (eV 0))) (.nm 2) (sExp (eLm appD (eV 1) (aC (eCall 2 m_with_floor (aC (eV 2) (aC (e2 itemD (eV 1) (e1 negD (eC (.int 1)))) aN))) aN)))) (sRet (e1 revD (eV 1))))
def m_worths : List D → M D := mDef 3 c_worths

/-- worth -/
def c_worth : SM := sRet (e2 itemD (eCall 1 m_worths (aC (eFld "Deal" "offers" (eV 0)) aN)) (eC (.int 0)))
def m_worth : List D → M D := mDef 1 c_worth

/-- _law_most -/
def c__law_most : SM := sRet (ifV (tru (eCall 2 m__law_less (aC (eV 0) (aC (eV 1) aN)))) (eV 1) (eV 0))
def m__law_most : List D → M D := mDef 2 c__law_most

/-- _law_hopes -/
def c__law_hopes : SM := sSeq (sSet 1 (frz (nLst (aC (eTup (aC (eC (.int 0)) (aC (eC (.int 1)) aN))) aN)))) (sSeq (sFor (iSeq (e1 revD (eV 0))) (.nm 2) (sSeq (sSet 3 (eTup (aC (eC (.int 0)) (aC (eC (.int 1)) aN)))) (sSeq (sFor (iSeq (eV 2)) (.tp [.nm 4, .nm 5]) (sSet 3 (eCall 2 m__law_sum (aC (eV 3) (aC (eCall 2 m__law_prod (aC (eV 5) (aC (eCall 2 m__law_most (aC (eTup (aC (eV 4) (aC (eC (.int 1)) aN))) (aC (e2 itemD (eV 1) (eC (.int 0))) aN))) aN))) aN))))) (sSet 1 (e2 addD (frz (nLst (aC (eV 3) aN))) (eV 1)))))) (sRet (eV 1)))
def m__law_hopes : List D → M D := mDef 6 c__law_hopes

/-- floors -/
def c_floors : SM := sRet (eBf tupD (aC (eSl (eCall 1 m_worths (aC (eFld "Deal" "offers" (eV 0)) aN)) (pS (eC (.int 1))) pN) aN))
def m_floors : List D → M D := mDef 1 c_floors

/-- _law_by_rule -/
def c__law_by_rule : SM := sSeq (sSet 2 (eTup (aC (eC (.int 0)) (aC (eC (.int 1)) aN)))) (sSeq (sFor (iSeq (e1 revD (frz (nListZip (aC (eV 0) (aC (eV 1) aN)))))) (.tp [.nm 3, .nm 4]) (sSeq (sSet 5 (eTup (aC (eC (.int 0)) (aC (eC (.int 1)) aN)))) (sSeq (sFor (iEnumD (aC (eV 3) aN)) (.tp [.nm 6, .tp [.nm 7, .nm 8]]) (sSet 5 (eCall 2 m__law_sum (aC (eV 5) (aC (eCall 2 m__law_prod (aC (eV 8) (aC (ifV (tru (e2 itemD (eV 4) (eV 6))) (eTup (aC (eV 7) (aC (eC (.int 1)) aN))) (eV 2)) aN))) aN))))) (sSet 2 (eV 5))))) (sRet (eV 2)))
def m__law_by_rule : List D → M D := mDef 9 c__law_by_rule

/-- law -/
def c_law_k12 : SM := sSeq (sSet 1 (eCall 1 m__law_hand_v2 (aC (eV 0) aN))) (sSeq (sFor (iR1 (aC (eC (.int 3)) aN)) (.nm 2) (sSeq (sSet 3 (eCall 3 m__law_deal (aC (eV 1) (aC (eC (.int 4)) (aC (eC (.int 4)) aN))))) (sSeq (sPar2 4 5 (aC (eMake "Deal" 2 m_Deal___init__ (aC (eV 3) aN)) (aC (eCall 1 m__law_hopes (aC (eV 3) aN)) aN))) (sSeq (sSet 6 (eCall 1 m_floors (aC (eV 4) aN))) (sSeq (sIf (orT (notT (tru (eCall 2 m__law_is (aC (eV 6) (aC (eBf tupD (aC (eSl (eV 5) (pS (eC (.int 1))) pN) aN)) aN))))) (notT (tru (eCall 2 m__law_is (aC (eCall 1 m_worth (aC (eV 4) aN)) (aC (e2 itemD (eV 5) (eC (.int 0))) aN)))))) (sRet (eC (.bl false))) (sPass)) (sSeq (sSet 7 (thaw (nLst aN))) (sSeq (sFor (iZip (aC (eV 3) (aC (eV 6) aN))) (.tp [.nm 8, .nm 9]) (sExp (eLm appD (eV 7) (aC (frz (nLc (iSeq (eV 8)) (.tp [.nm 12, .nm 13]) [12, 13] (tYes') (e1 notX (eCall 2 m__law_less (aC (eTup (aC (eV 12) (aC (eC (.int 1)) aN))) (aC (eV 9) aN)))))) aN)))) (sSeq (sIf (tst (e2 neD (eCall 2 m__law_by_rule (aC (eV 3) (aC (eV 7) aN))) (e2 itemD (eV 5) (eC (.int 0))))) (sRet (eC (.bl false))) (sPass)) (sFor (iR1 (aC (eC (.int 6)) aN)) (.nm 10) (sSeq (sSet 7 (thaw (nLst aN))) (sSeq (sFor (iSeq (eV 3)) (.nm 8) (sExp (eLm appD (eV 7) (aC (frz (nLc (iSeq (eV 8)) (.nm 14) [14] (tYes') (e2 eqD (eCall 2 m__law_draw_v3 (aC (eV 1) (aC (eC (.int 2)) aN))) (eC (.int 0))))) aN)))) (sIf (tru (eCall 2 m__law_less (aC (e2 itemD (eV 5) (eC (.int 0))) (aC (eCall 2 m__law_by_rule (aC (eV 3) (aC (eV 7) aN))) aN)))) (sRet (eC (.bl false))) (sPass))))))))))))) (sSeq (sSet 11 (eTup (aC (eTup (aC (eC (.int 0)) (aC (eTup (aC (eC (.int 1)) (aC (eC (.int 2)) aN))) aN))) (aC (eTup (aC (eC (.int 4)) (aC (eTup (aC (eC (.int 1)) (aC (eC (.int 2)) aN))) aN))) aN)))) (sRet (andX (e2 eqD (eCall 1 m_floors (aC (eMake "Deal" 2 m_Deal___init__ (aC (eTup (aC (eV 11) (aC (eV 11) aN))) aN)) aN)) (eTup (aC (eTup (aC (eC (.int 2)) (aC (eC (.int 1)) aN))) (aC (eTup (aC (eC (.int 0)) (aC (eC (.int 1)) aN))) aN)))) (e2 eqD (eCall 1 m_worth (aC (eMake "Deal" 2 m_Deal___init__ (aC (eTup (aC (eV 11) (aC (eV 11) aN))) aN)) aN)) (eTup (aC (eC (.int 3)) (aC (eC (.int 1)) aN))))))))
def m_law_k12 : List D → M D := mDef 15 c_law_k12

end Sh

/-! Plain laws, 1: what a computation gives; the greatest common divisor; fractions in lowest terms. -/
namespace Pl
open Dl Sh
local instance : Dl.Tb := ⟨fun _ => []⟩

theorem nr {α : Sort _} {a b : α} (h : a = b) : a = b := h
def Wp {α : Type} (r : R α) (Q : α → Hs → Prop) : Prop := match r with
  | .ok a h => Q a h
  | _ => False
def WpS (r : SR) (N : Env → Hs → Prop) (T : D → Hs → Prop) : Prop := match r with
  | .nx ρ h => N ρ h
  | .ret d h => T d h
  | _ => False
section
variable {α β : Type}
theorem wp_ok {a : α} {h : Hs} {Q : α → Hs → Prop} : Wp (.ok a h) Q = Q a h := nr rfl
theorem wp_bad {Q : α → Hs → Prop} : Wp (.bad) Q = False := nr rfl
theorem wp_bind {r : R α} {f : α → M β} {Q : β → Hs → Prop} : Wp (r.bind f) Q = Wp r fun a h => Wp (f a h) Q := by cases r <;> rfl
theorem wp_mono {r : R α} {Q Q' : α → Hs → Prop} (p : Wp r Q) (k : ∀ a h, Q a h → Q' a h) : Wp r Q' := by
  cases r with
  | ok a h => exact k _ _ p
  | exc C fs h => exact p
  | bad => exact p
theorem wp_ex {r : R α} {Q : α → Hs → Prop} (p : Wp r Q) : ∃ a h, r = .ok a h ∧ Q a h := by
  cases r with
  | ok a h => exact ⟨a, h, rfl, p⟩
  | exc C fs h => exact p.elim
  | bad => exact p.elim
theorem wp_nox {r : R α} {Q : α → Hs → Prop} : Wp r.nox Q = Wp r Q := by cases r <;> rfl
theorem wps_then {r : R α} {ρ : Env} {f : α → Hs → SR} {N : Env → Hs → Prop} {T : D → Hs → Prop} : WpS (r.then ρ f) N T = Wp r fun a h => WpS (f a h) N T := by cases r <;> rfl
theorem wps_seq {a b : SM} {ρ : Env} {h : Hs} {N : Env → Hs → Prop} {T : D → Hs → Prop} : WpS (sSeq a b ρ h) N T = WpS (a ρ h) (fun ρ1 h1 => WpS (b ρ1 h1) N T) T := by
  unfold sSeq
  cases a ρ h <;> rfl
theorem wps_nx {ρ : Env} {h : Hs} {N : Env → Hs → Prop} {T : D → Hs → Prop} : WpS (.nx ρ h) N T = N ρ h := nr rfl
theorem wps_ret {d : D} {h : Hs} {N : Env → Hs → Prop} {T : D → Hs → Prop} : WpS (.ret d h) N T = T d h := nr rfl
theorem wps_mono {r : SR} {N N' : Env → Hs → Prop} {T T' : D → Hs → Prop} (p : WpS r N T) (k : ∀ ρ h, N ρ h → N' ρ h) (t : ∀ d h, T d h → T' d h) : WpS r N' T' := by
  cases r with
  | nx ρ h => exact k _ _ p
  | ret d h => exact t _ _ p
  | _ => exact p
theorem wp_def {n : Nat} {c : SM} {ds : List D} {h : Hs} {Q : D → Hs → Prop} : Wp (mDef n c ds h) Q = WpS (c (ent n ds) h) (fun _ h => Q .non h) Q := by
  unfold mDef
  cases c (ent n ds) h <;> rfl
theorem mdef_ret {n : Nat} {c : SM} {ds : List D} {h h' : Hs} {d : D} (e : c (ent n ds) h = .ret d h') : mDef n c ds h = .ok d h' := by
  unfold mDef
  rw [e]
  rfl
theorem seq_nx {a b : SM} {ρ ρ1 : Env} {h h1 : Hs} (e : a ρ h = .nx ρ1 h1) : sSeq a b ρ h = b ρ1 h1 := by
  unfold sSeq
  rw [e]
end
/-QBEGIN-/
theorem q_e2 {f : D → D → M D} {ca cb : Env → M D} {ρ : Env} {h : Hs} : e2 f ca cb ρ h = (ca ρ h).bind fun x h1 => (cb ρ h1).bind fun y h2 => f x y h2 := nr rfl
theorem q_e1 {f : D → M D} {ca : Env → M D} {ρ : Env} {h : Hs} : e1 f ca ρ h = (ca ρ h).bind fun x h1 => f x h1 := nr rfl
theorem q_eC {d : D} {ρ : Env} {h : Hs} : eC d ρ h = .ok d h := nr rfl
theorem q_aC {ca : Env → M D} {cs : Env → M (List D)} {ρ : Env} {h : Hs} : aC ca cs ρ h = (ca ρ h).bind fun x h1 => (cs ρ h1).bind fun xs h2 => .ok (x :: xs) h2 := nr rfl
theorem q_aN {ρ : Env} {h : Hs} : aN  ρ h = .ok [] h := nr rfl
theorem q_sPar2 {i j : Nat} {cs : Env → M (List D)} {ρ : Env} {h : Hs} : sPar2 i j cs ρ h = (cs ρ h).then ρ fun xs h1 => match xs with
    | [x, y] => .nx ((ρ.set i (some x)).set j (some y)) h1
    | _ => .bad := nr rfl
theorem q_sPar3 {i j l : Nat} {cs : Env → M (List D)} {ρ : Env} {h : Hs} : sPar3 i j l cs ρ h = (cs ρ h).then ρ fun xs h1 => match xs with
    | [x, y, z] => .nx (((ρ.set i (some x)).set j (some y)).set l (some z)) h1
    | _ => .bad := nr rfl
theorem q_sSet {i : Nat} {ce : Env → M D} {ρ : Env} {h : Hs} : sSet i ce ρ h = (ce ρ h).then ρ fun d h1 => .nx (ρ.set i (some d)) h1 := nr rfl
theorem q_sRet {ce : Env → M D} {ρ : Env} {h : Hs} : sRet ce ρ h = (ce ρ h).then ρ fun d h1 => .ret d h1 := nr rfl
theorem q_eBf {f : List D → M D} {cs : Env → M (List D)} {ρ : Env} {h : Hs} : eBf f cs ρ h = (cs ρ h).bind f := nr rfl
theorem q_nBf {f : List D → M (List D)} {cs : Env → M (List D)} {ρ : Env} {h : Hs} : nBf f cs ρ h = (cs ρ h).bind f := nr rfl
theorem q_eCall {n : Nat} {m : List D → M D} {cs : Env → M (List D)} {ρ : Env} {h : Hs} : eCall n m cs ρ h = (cs ρ h).bind fun xs h1 => if decide (xs.length = n) then m xs h1 else .bad := nr rfl
theorem q_tst {ca : Env → M D} {ρ : Env} {h : Hs} : tst ca ρ h = (ca ρ h).bind fun x h1 => match x with
    | .bl b => .ok b h1
    | _ => .bad := nr rfl
theorem q_tru {ca : Env → M D} {ρ : Env} {h : Hs} : tru ca ρ h = (ca ρ h).bind fun x h1 => match truD h1 x with
    | some b => .ok b h1
    | none => .bad := nr rfl
theorem q_ifV {ct : Env → M Bool} {ca cb : Env → M D} {ρ : Env} {h : Hs} : ifV ct ca cb ρ h = (ct ρ h).bind fun x h1 => if x = true then ca ρ h1 else cb ρ h1 := nr rfl
theorem q_sIf {ct : Env → M Bool} {c1 c2 : SM} {ρ : Env} {h : Hs} : sIf ct c1 c2 ρ h = (ct ρ h).then ρ fun b h1 => if b = true then c1 ρ h1 else c2 ρ h1 := nr rfl
theorem q_eTup {cs : Env → M (List D)} {ρ : Env} {h : Hs} : eTup cs ρ h = (cs ρ h).bind fun xs h1 => if okLen xs.length then .ok (.tup xs) h1 else .bad := nr rfl
theorem q_sPass {ρ : Env} {h : Hs} : sPass  ρ h = .nx ρ h := nr rfl
theorem q_sExp {ce : Env → M D} {ρ : Env} {h : Hs} : sExp ce ρ h = (ce ρ h).then ρ fun _ h1 => .nx ρ h1 := nr rfl
theorem q_eLm {f : D → List D → M D} {ca : Env → M D} {cs : Env → M (List D)} {ρ : Env} {h : Hs} : eLm f ca cs ρ h = (ca ρ h).bind fun x h1 => match lstAt h1 x with
    | some _ => (cs ρ h1).bind fun xs h2 => f x xs h2
    | none => .bad := nr rfl
theorem q_nLst {cs : Env → M (List D)} {ρ : Env} {h : Hs} : nLst cs ρ h = (cs ρ h).bind fun xs h1 => if okLen xs.length then .ok xs h1 else .bad := nr rfl
theorem q_frz {cs : Env → M (List D)} {ρ : Env} {h : Hs} : frz cs ρ h = (cs ρ h).bind fun xs h1 => .ok (.lst xs) h1 := nr rfl
theorem q_thaw {cs : Env → M (List D)} {ρ : Env} {h : Hs} : thaw cs ρ h = (cs ρ h).bind fun xs h1 => .ok (.obj h1.length) (h1 ++ [.lst xs]) := nr rfl
theorem q_iSeq {ce : Env → M D} {ρ : Env} {h : Hs} : iSeq ce ρ h = (ce ρ h).bind fun x h1 => match itOf h1 x with
    | some it => if okG it.gs h1 then .ok it h1 else .bad
    | none => .bad := nr rfl
theorem q_iR1 {cs : Env → M (List D)} {ρ : Env} {h : Hs} : iR1 cs ρ h = (cs ρ h).bind fun ds h1 => match ds with
    | [.int j] => if okI j then .ok ⟨rng 0 1 j.toNat, []⟩ h1 else .bad
    | _ => .bad := nr rfl
theorem q_iR2 {cs : Env → M (List D)} {ρ : Env} {h : Hs} : iR2 cs ρ h = (cs ρ h).bind fun ds h1 => match ds with
    | [.int i, .int j] => if okI i && okI j then .ok ⟨rng i 1 (j - i).toNat, []⟩ h1 else .bad
    | _ => .bad := nr rfl
theorem q_iR3 {cs : Env → M (List D)} {ρ : Env} {h : Hs} : iR3 cs ρ h = (cs ρ h).bind fun ds h1 => match ds with
    | [.int i, .int j, .int k] => if okI i && okI j && decide (k = -1) then .ok ⟨rng i (-1) (i - j).toNat, []⟩ h1 else .bad
    | _ => .bad := nr rfl
theorem q_iEnumD {cs : Env → M (List D)} {ρ : Env} {h : Hs} : iEnumD cs ρ h = (cs ρ h).bind fun ds h1 => match ds with
    | [x] => (match itOf h1 x with
      | some it => if okG it.gs h1 then .ok ⟨enumD 0 it.items, it.gs⟩ h1 else .bad
      | none => .bad)
    | _ => .bad := nr rfl
theorem q_iZip {cs : Env → M (List D)} {ρ : Env} {h : Hs} : iZip cs ρ h = (cs ρ h).bind fun ds h1 => match ds with
    | [x, y] => if isT x == isT y then (match itOf h1 x, itOf h1 y with
      | some it, some jt => if okG it.gs h1 && okG jt.gs h1 then .ok ⟨zipD it.items jt.items, it.gs ++ jt.gs⟩ h1 else .bad
      | _, _ => .bad) else .bad
    | _ => .bad := nr rfl
theorem q_andX {ca cb : Env → M D} {ρ : Env} {h : Hs} : andX ca cb ρ h = (ca ρ h).bind fun x h1 => match truD h1 x with
    | some true => cb ρ h1
    | some false => .ok x h1
    | none => .bad := nr rfl
theorem q_andT {ca cb : Env → M Bool} {ρ : Env} {h : Hs} : andT ca cb ρ h = (ca ρ h).bind fun x h1 => if x = true then cb ρ h1 else .ok false h1 := nr rfl
theorem q_orT {ca cb : Env → M Bool} {ρ : Env} {h : Hs} : orT ca cb ρ h = (ca ρ h).bind fun x h1 => if x = true then .ok true h1 else cb ρ h1 := nr rfl
theorem q_notT {ca : Env → M Bool} {ρ : Env} {h : Hs} : notT ca ρ h = (ca ρ h).bind fun x h1 => .ok (!x) h1 := nr rfl
theorem q_eCh {f g : D → D → M D} {ca cb cc : Env → M D} {ρ : Env} {h : Hs} : eCh f g ca cb cc ρ h = (ca ρ h).bind fun x h1 => (cb ρ h1).bind fun y h2 => (f x y h2).bind fun z h3 => match z with
    | .bl true => (cc ρ h3).bind fun w h4 => g y w h4
    | .bl false => .ok (.bl false) h3
    | _ => .bad := nr rfl
theorem q_eFld {C f : PySem.Str} {ca : Env → M D} {ρ : Env} {h : Hs} : eFld C f ca ρ h = (ca ρ h).bind fun x h1 => match (fieldsAt C h1 x).bind (·.lookup f) with
    | some d => .ok d h1
    | none => .bad := nr rfl
theorem q_eMake {C : PySem.Str} {n : Nat} {mf : List D → M D} {cs : Env → M (List D)} {ρ : Env} {h : Hs} : eMake C n mf cs ρ h = (cs ρ h).bind fun xs h1 => if decide (xs.length + 1 = n) then
    (mf (.obj h1.length :: xs) (h1 ++ [.ins C []])).bind fun r h2 => match r with
    | .non => .ok (.obj h1.length) h2
    | _ => .bad
    else .bad := nr rfl
theorem q_sFldD {C f : PySem.Str} {ce co : Env → M D} {ρ : Env} {h : Hs} : sFldD C f ce co ρ h = (ce ρ h).then ρ fun v h1 => (co ρ h1).then ρ fun o h2 => match o, fieldsAt C h2 o with
    | .obj n, some fs => if decide (fs.length < 1000) then .nx ρ (h2.set n (.ins C (putFD f v fs))) else .bad
    | _, _ => .bad := nr rfl
theorem q_sPat {p : Pat} {ce : Env → M D} {ρ : Env} {h : Hs} : sPat p ce ρ h = (ce ρ h).then ρ fun x h1 => match patD p x ρ with
    | some ρ1 => .nx ρ1 h1
    | none => .bad := nr rfl
theorem q_eSl {ca : Env → M D} {cl cu : Env → M (Option Int)} {ρ : Env} {h : Hs} : eSl ca cl cu ρ h = (ca ρ h).bind fun x h1 => (cl ρ h1).bind fun lo h2 => (cu ρ h2).bind fun hi h3 => sliceD x lo hi h3 := nr rfl
theorem q_nSl {ca : Env → M D} {cl cu : Env → M (Option Int)} {ρ : Env} {h : Hs} : nSl ca cl cu ρ h = (ca ρ h).bind fun x h1 => (cl ρ h1).bind fun lo h2 => (cu ρ h2).bind fun hi h3 => sliceN x lo hi h3 := nr rfl
theorem q_pS {ca : Env → M D} {ρ : Env} {h : Hs} : pS ca ρ h = (ca ρ h).bind fun x h1 => match x with
    | .int i => .ok (some i) h1
    | _ => .bad := nr rfl
theorem q_pN {ρ : Env} {h : Hs} : pN  ρ h = .ok none h := nr rfl
theorem q_sRetN {ρ : Env} {h : Hs} : sRetN  ρ h = .ret .non h := nr rfl
theorem q_sFor {ci : Env → M ItD} {p : Pat} {body : SM} {ρ : Env} {h : Hs} : sFor ci p body ρ h = (ci ρ h).then ρ fun it h1 => loopF p body it.gs it.items ρ h1 := nr rfl
theorem q_tYes {ρ : Env} {h : Hs} : tYes'  ρ h = .ok true h := nr rfl
theorem q_eDct0 {ρ : Env} {h : Hs} : eDct0  ρ h = .ok (.obj h.length) (h ++ [.dI []]) := nr rfl
/-QEND-/
/-! ### sizes -/
theorem bits_le {i : Int} {n : Nat} (h : i.natAbs < 2 ^ n) : PySem.Builtin.Int.intBits i ≤ n := by
  unfold PySem.Builtin.Int.intBits
  split
  · exact Nat.zero_le _
  · rename_i z
    have z1 : i.natAbs ≠ 0 := fun e => z (by simp; omega)
    exact (Nat.log2_lt z1).mpr h
theorem okMul_of {i j : Int} {a b : Nat} (hi : i.natAbs < 2 ^ a) (hj : j.natAbs < 2 ^ b) (h : a + b ≤ 134217728) : okMul i j = true := by
  have h1 := bits_le hi
  have h2 := bits_le hj
  exact decide_eq_true (by omega)
theorem okDiv_of {i j : Int} (hj : 0 < j) (hs : j.natAbs < 2 ^ 9000) : okDiv i j = true := by
  refine decide_eq_true ⟨hj, .inl ?_⟩
  exact (Nat.log2_lt (by omega)).mpr hs
/-! ### the greatest common divisor -/
theorem gcd_step (a b : Int) : Int.gcd b (a % b) = Int.gcd a b := by
  have e := Int.gcd_add_mul_left_right b (a % b) (a / b)
  rw [Int.emod_add_mul_ediv] at e
  rw [← e, Int.gcd_comm]
theorem gcd_while {ct : Env → M Bool} {body : SM} {mk : Int → Int → Env} (hct : ∀ a b h, ct (mk a b) h = .ok (decide (0 < b)) h) (hb : ∀ a b h, 0 ≤ a → 0 < b → body (mk a b) h = .nx (mk b (a % b)) h) (h : Hs) :
    ∀ (n : Nat) (a b : Int), 0 ≤ a → 0 ≤ b → b < n → whileF ct body n (mk a b) h = .nx (mk (Int.gcd a b) 0) h
  | 0, a, b, _, hb0, hn => by omega
  | n + 1, a, b, ha, hb0, hn => by
    show (ct (mk a b) h).then (mk a b) _ = _
    rw [hct]
    show (if decide (0 < b) = true then _ else _) = _
    by_cases z : 0 < b
    · rw [if_pos (decide_eq_true z)]
      simp only [hb a b h ha z]
      have m0 := Int.emod_nonneg a (show b ≠ 0 by omega)
      have m1 := Int.emod_lt_of_pos a z
      rw [gcd_while hct hb h n b (a % b) hb0 m0 (by omega), gcd_step]
    · rw [if_neg (by simpa using z)]
      have e : b = 0 := by omega
      subst e
      rw [Int.gcd_zero_right, Int.natAbs_of_nonneg ha]
theorem modD_ii {a b : Int} (hb : 0 < b) (h : Hs) : modD (.int a) (.int b) h = .ok (.int (a % b)) h := if_pos (decide_eq_true hb)
theorem divD_ii {a b : Int} (hb : okDiv a b = true) (h : Hs) : divD (.int a) (.int b) h = .ok (.int (a / b)) h := if_pos hb
theorem mulD_ii {a b : Int} (hb : okMul a b = true) (h : Hs) : mulD (.int a) (.int b) h = .ok (.int (a * b)) h := if_pos hb
theorem addD_ii {a b : Int} (h : Hs) : addD (.int a) (.int b) h = .ok (.int (a + b)) h := nr rfl
theorem subD_ii {a b : Int} (h : Hs) : subD (.int a) (.int b) h = .ok (.int (a - b)) h := nr rfl
theorem negD_i {a : Int} (h : Hs) : negD (.int a) h = .ok (.int (-a)) h := nr rfl
theorem absD_i {a : Int} (h : Hs) : absD [.int a] h = .ok (.int a.natAbs) h := by
  show Dl.R.ok (D.int (if a < 0 then -a else a)) h = _
  congr 2
  split <;> omega
theorem bind_ok' {α β : Type} (a : α) (h : Hs) (f : α → M β) : (Dl.R.ok a h).bind f = f a h := nr rfl
theorem then_ok {α : Type} (a : α) (h : Hs) (ρ : Env) (f : α → Hs → SR) : (Dl.R.ok a h).then ρ f = f a h := nr rfl
theorem eV0 {d : D} {ρ : Env} {h : Hs} : eV 0 (some d :: ρ) h = .ok d h := nr rfl
theorem eVs {n : Nat} {x : Option D} {ρ : Env} {h : Hs} : eV (n + 1) (x :: ρ) h = eV n ρ h := nr rfl
theorem zero_add' {n : Nat} : 0 + n = n := Nat.zero_add n
theorem okL0 : okLen 0 = true := nr rfl
theorem okL1 : okLen 1 = true := nr rfl
theorem okL2 : okLen 2 = true := nr rfl
theorem okL3 : okLen 3 = true := nr rfl
theorem okL4 : okLen 4 = true := nr rfl
theorem okL5 : okLen 5 = true := nr rfl
theorem okL6 : okLen 6 = true := nr rfl
theorem item_at {xs : List D} {i : Nat} {d : D} {h : Hs} (e : xs[i]? = some d) : itemD (.tup xs) (.int i) h = .ok d h := by
  have hl := (List.getElem?_eq_some_iff.mp e).1
  have z : L2.atI xs i = some d := by
    unfold L2.atI L2.ixN
    rw [if_pos (by omega), if_pos (by omega)]
    exact e
  show (match L2.atI xs i with
      | some d => Dl.R.ok d h
      | none => .bad) = _
  rw [z]
theorem item0 {a : D} {xs : List D} {h : Hs} : itemD (.tup (a :: xs)) (.int 0) h = .ok a h := item_at (i := 0) rfl
theorem item1 {a b : D} {xs : List D} {h : Hs} : itemD (.tup (a :: b :: xs)) (.int 1) h = .ok b h := item_at (i := 1) rfl
theorem ltD_ii {a b : Int} {h : Hs} : ltD (.int a) (.int b) h = .ok (.bl (decide (a < b))) h := nr rfl
theorem leD_ii {a b : Int} {h : Hs} : leD (.int a) (.int b) h = .ok (.bl (decide (a ≤ b))) h := nr rfl
theorem gtD_ii {a b : Int} {h : Hs} : gtD (.int a) (.int b) h = .ok (.bl (decide (b < a))) h := nr rfl
theorem geD_ii {a b : Int} {h : Hs} : geD (.int a) (.int b) h = .ok (.bl (decide (b ≤ a))) h := nr rfl
theorem truD_bl {b : Bool} {h : Hs} : truD h (.bl b) = some b := nr rfl
theorem wp_ite {α : Type} {c : Prop} [Decidable c] {a b : R α} {Q : α → Hs → Prop} : Wp (if c then a else b) Q = if c then Wp a Q else Wp b Q := by split <;> rfl
theorem wps_ite {c : Prop} [Decidable c] {a b : SR} {N : Env → Hs → Prop} {T : D → Hs → Prop} : WpS (if c then a else b) N T = if c then WpS a N T else WpS b N T := by split <;> rfl
theorem common_eq (a b : Int) (h : Hs) : m_common [.int a, .int b] h = .ok (.int (Int.gcd a b)) h := by
  refine mdef_ret (h' := h) ?_
  have w := gcd_while (ct := tst (e2 gtD (eV 1) (eC (.int 0)))) (body := sPar2 0 1 (aC (eV 1) (aC (e2 modD (eV 0) (eV 1)) aN))) (mk := fun a b => [some (.int a), some (.int b)]) (fun a b h => rfl) (fun a b h _ hb => ?_) h
    (b.natAbs + 2) a.natAbs b.natAbs (by omega) (by omega) (by omega)
  · unfold c_common
    rw [seq_nx (ρ1 := [some (.int a.natAbs), some (.int b.natAbs)]) (h1 := h), seq_nx (ρ1 := [some (.int (Int.gcd a.natAbs b.natAbs)), some (.int 0)]) (h1 := h)]
    · show SR.ret (.int (Int.gcd (a.natAbs : Int) b.natAbs)) h = _
      simp [Int.gcd]
    · exact w
    · simp only [eV0, eVs, bind_ok', then_ok, q_e2, q_e1, q_eC, q_aC, q_aN, q_sPar2, q_sPar3, q_sSet, q_sRet, q_eBf, q_nBf, q_eCall, q_tst, q_tru, q_ifV, q_sIf, q_eTup, q_sPass, q_sExp, q_eLm, q_nLst, q_frz, q_thaw, q_iSeq, q_iR2, q_iR3, q_iEnumD, q_iZip, q_andX, q_andT, q_orT, q_notT, q_eCh, q_sPat, q_eSl, q_nSl, q_pS, q_pN, q_sRetN, q_tYes, q_eDct0, okL0, okL1, okL2, okL3, okL4, okL5, okL6, ent, List.map_cons, List.map_nil, List.length_cons, List.length_nil, List.set_cons_zero, List.set_cons_succ, List.replicate, List.cons_append, List.nil_append, Nat.reduceAdd, Nat.reduceSub, Nat.sub_self, Nat.sub_zero, zero_add', ↓reduceIte, Bool.false_eq_true, item0, item1, addD_ii, subD_ii, negD_i, absD_i, ltD_ii, leD_ii, gtD_ii, geD_ii, truD_bl, decide_true, decide_false]
  · simp only [eV0, eVs, bind_ok', then_ok, q_e2, q_e1, q_eC, q_aC, q_aN, q_sPar2, q_sPar3, q_sSet, q_sRet, q_eBf, q_nBf, q_eCall, q_tst, q_tru, q_ifV, q_sIf, q_eTup, q_sPass, q_sExp, q_eLm, q_nLst, q_frz, q_thaw, q_iSeq, q_iR2, q_iR3, q_iEnumD, q_iZip, q_andX, q_andT, q_orT, q_notT, q_eCh, q_sPat, q_eSl, q_nSl, q_pS, q_pN, q_sRetN, q_tYes, q_eDct0, okL0, okL1, okL2, okL3, okL4, okL5, okL6, ent, List.map_cons, List.map_nil, List.length_cons, List.length_nil, List.set_cons_zero, List.set_cons_succ, List.replicate, List.cons_append, List.nil_append, Nat.reduceAdd, Nat.reduceSub, Nat.sub_self, Nat.sub_zero, zero_add', ↓reduceIte, Bool.false_eq_true, item0, item1, addD_ii, subD_ii, negD_i, absD_i, ltD_ii, leD_ii, gtD_ii, geD_ii, truD_bl, decide_true, decide_false, modD_ii hb]
/-! ### fractions -/
def fr (q : Rat) : D := .tup [.int q.num, .int q.den]
def Sz (n : Nat) (q : Rat) : Prop := q.num.natAbs < 2 ^ n ∧ q.den < 2 ^ n
theorem Sz.mono {m n : Nat} {q : Rat} (h : Sz m q) (l : m ≤ n) : Sz n q := ⟨Nat.lt_of_lt_of_le h.1 (Nat.pow_le_pow_right (by decide) l), Nat.lt_of_lt_of_le h.2 (Nat.pow_le_pow_right (by decide) l)⟩
theorem lowest_eq (n d : Int) (h : Hs) (hd : d ≠ 0) (hs : d.natAbs < 2 ^ 9000) : m_lowest [.int n, .int d] h = .ok (fr (Rat.divInt n d)) h := by
  have gpos : ∀ a b : Int, 0 < b → (0 : Int) < (Int.gcd a b : Int) := fun a b hb => by
    have := Int.gcd_pos_of_ne_zero_right a (show b ≠ 0 by omega)
    omega
  have gle : ∀ a b : Int, 0 < b → (Int.gcd a b) ≤ b.natAbs := fun a b hb => Nat.le_of_dvd (by omega) (Int.gcd_dvd_natAbs_right a b)
  have fin : ∀ a b : Int, 0 < b → b.natAbs < 2 ^ 9000 → okDiv a (Int.gcd a b : Int) = true ∧ okDiv b (Int.gcd a b : Int) = true ∧ (Rat.divInt a b).num = a / (Int.gcd a b : Int) ∧ ((Rat.divInt a b).den : Int) = b / (Int.gcd a b : Int) := fun a b hb hs => by
    have g1 := gpos a b hb
    have g2 := gle a b hb
    have g3 : ((Int.gcd a b : Int)).natAbs < 2 ^ 9000 := by rw [Int.natAbs_natCast]; omega
    refine ⟨okDiv_of g1 g3, okDiv_of g1 g3, ?_, ?_⟩
    · rw [Rat.num_divInt, Int.sign_eq_one_of_pos hb, Int.one_mul, Int.gcd_comm]
    · rw [Rat.den_divInt, if_neg (by omega), Int.gcd_comm]
      have e : (b.natAbs : Int) = b := by omega
      rw [Int.natCast_ediv, e]
  refine mdef_ret (h' := h) ?_
  unfold c_lowest
  by_cases z : d < 0
  · obtain ⟨k1, k2, k3, k4⟩ := fin (-n) (-d) (by omega) (by omega)
    rw [seq_nx (ρ1 := [some (.int (-n)), some (.int (-d)), none]) (h1 := h), seq_nx (ρ1 := [some (.int (-n)), some (.int (-d)), some (.int (Int.gcd (-n) (-d)))]) (h1 := h)]
    · simp only [eV0, eVs, bind_ok', then_ok, q_e2, q_e1, q_eC, q_aC, q_aN, q_sPar2, q_sPar3, q_sSet, q_sRet, q_eBf, q_nBf, q_eCall, q_tst, q_tru, q_ifV, q_sIf, q_eTup, q_sPass, q_sExp, q_eLm, q_nLst, q_frz, q_thaw, q_iSeq, q_iR2, q_iR3, q_iEnumD, q_iZip, q_andX, q_andT, q_orT, q_notT, q_eCh, q_sPat, q_eSl, q_nSl, q_pS, q_pN, q_sRetN, q_tYes, q_eDct0, okL0, okL1, okL2, okL3, okL4, okL5, okL6, ent, List.map_cons, List.map_nil, List.length_cons, List.length_nil, List.set_cons_zero, List.set_cons_succ, List.replicate, List.cons_append, List.nil_append, Nat.reduceAdd, Nat.reduceSub, Nat.sub_self, Nat.sub_zero, zero_add', ↓reduceIte, Bool.false_eq_true, item0, item1, addD_ii, subD_ii, negD_i, absD_i, ltD_ii, leD_ii, gtD_ii, geD_ii, truD_bl, decide_true, decide_false, divD_ii k1, divD_ii k2]
      unfold fr
      rw [← Rat.neg_divInt_neg n d, k3, k4]
    · simp only [eV0, eVs, bind_ok', then_ok, q_e2, q_e1, q_eC, q_aC, q_aN, q_sPar2, q_sPar3, q_sSet, q_sRet, q_eBf, q_nBf, q_eCall, q_tst, q_tru, q_ifV, q_sIf, q_eTup, q_sPass, q_sExp, q_eLm, q_nLst, q_frz, q_thaw, q_iSeq, q_iR2, q_iR3, q_iEnumD, q_iZip, q_andX, q_andT, q_orT, q_notT, q_eCh, q_sPat, q_eSl, q_nSl, q_pS, q_pN, q_sRetN, q_tYes, q_eDct0, okL0, okL1, okL2, okL3, okL4, okL5, okL6, ent, List.map_cons, List.map_nil, List.length_cons, List.length_nil, List.set_cons_zero, List.set_cons_succ, List.replicate, List.cons_append, List.nil_append, Nat.reduceAdd, Nat.reduceSub, Nat.sub_self, Nat.sub_zero, zero_add', ↓reduceIte, Bool.false_eq_true, item0, item1, addD_ii, subD_ii, negD_i, absD_i, ltD_ii, leD_ii, gtD_ii, geD_ii, truD_bl, decide_true, decide_false, common_eq]
    · simp only [eV0, eVs, bind_ok', then_ok, q_e2, q_e1, q_eC, q_aC, q_aN, q_sPar2, q_sPar3, q_sSet, q_sRet, q_eBf, q_nBf, q_eCall, q_tst, q_tru, q_ifV, q_sIf, q_eTup, q_sPass, q_sExp, q_eLm, q_nLst, q_frz, q_thaw, q_iSeq, q_iR2, q_iR3, q_iEnumD, q_iZip, q_andX, q_andT, q_orT, q_notT, q_eCh, q_sPat, q_eSl, q_nSl, q_pS, q_pN, q_sRetN, q_tYes, q_eDct0, okL0, okL1, okL2, okL3, okL4, okL5, okL6, ent, List.map_cons, List.map_nil, List.length_cons, List.length_nil, List.set_cons_zero, List.set_cons_succ, List.replicate, List.cons_append, List.nil_append, Nat.reduceAdd, Nat.reduceSub, Nat.sub_self, Nat.sub_zero, zero_add', ↓reduceIte, Bool.false_eq_true, item0, item1, addD_ii, subD_ii, negD_i, absD_i, ltD_ii, leD_ii, gtD_ii, geD_ii, truD_bl, decide_true, decide_false, decide_eq_true z]
  · obtain ⟨k1, k2, k3, k4⟩ := fin n d (by omega) hs
    rw [seq_nx (ρ1 := [some (.int n), some (.int d), none]) (h1 := h), seq_nx (ρ1 := [some (.int n), some (.int d), some (.int (Int.gcd n d))]) (h1 := h)]
    · simp only [eV0, eVs, bind_ok', then_ok, q_e2, q_e1, q_eC, q_aC, q_aN, q_sPar2, q_sPar3, q_sSet, q_sRet, q_eBf, q_nBf, q_eCall, q_tst, q_tru, q_ifV, q_sIf, q_eTup, q_sPass, q_sExp, q_eLm, q_nLst, q_frz, q_thaw, q_iSeq, q_iR2, q_iR3, q_iEnumD, q_iZip, q_andX, q_andT, q_orT, q_notT, q_eCh, q_sPat, q_eSl, q_nSl, q_pS, q_pN, q_sRetN, q_tYes, q_eDct0, okL0, okL1, okL2, okL3, okL4, okL5, okL6, ent, List.map_cons, List.map_nil, List.length_cons, List.length_nil, List.set_cons_zero, List.set_cons_succ, List.replicate, List.cons_append, List.nil_append, Nat.reduceAdd, Nat.reduceSub, Nat.sub_self, Nat.sub_zero, zero_add', ↓reduceIte, Bool.false_eq_true, item0, item1, addD_ii, subD_ii, negD_i, absD_i, ltD_ii, leD_ii, gtD_ii, geD_ii, truD_bl, decide_true, decide_false, divD_ii k1, divD_ii k2]
      unfold fr
      rw [k3, k4]
    · simp only [eV0, eVs, bind_ok', then_ok, q_e2, q_e1, q_eC, q_aC, q_aN, q_sPar2, q_sPar3, q_sSet, q_sRet, q_eBf, q_nBf, q_eCall, q_tst, q_tru, q_ifV, q_sIf, q_eTup, q_sPass, q_sExp, q_eLm, q_nLst, q_frz, q_thaw, q_iSeq, q_iR2, q_iR3, q_iEnumD, q_iZip, q_andX, q_andT, q_orT, q_notT, q_eCh, q_sPat, q_eSl, q_nSl, q_pS, q_pN, q_sRetN, q_tYes, q_eDct0, okL0, okL1, okL2, okL3, okL4, okL5, okL6, ent, List.map_cons, List.map_nil, List.length_cons, List.length_nil, List.set_cons_zero, List.set_cons_succ, List.replicate, List.cons_append, List.nil_append, Nat.reduceAdd, Nat.reduceSub, Nat.sub_self, Nat.sub_zero, zero_add', ↓reduceIte, Bool.false_eq_true, item0, item1, addD_ii, subD_ii, negD_i, absD_i, ltD_ii, leD_ii, gtD_ii, geD_ii, truD_bl, decide_true, decide_false, common_eq]
    · simp only [eV0, eVs, bind_ok', then_ok, q_e2, q_e1, q_eC, q_aC, q_aN, q_sPar2, q_sPar3, q_sSet, q_sRet, q_eBf, q_nBf, q_eCall, q_tst, q_tru, q_ifV, q_sIf, q_eTup, q_sPass, q_sExp, q_eLm, q_nLst, q_frz, q_thaw, q_iSeq, q_iR2, q_iR3, q_iEnumD, q_iZip, q_andX, q_andT, q_orT, q_notT, q_eCh, q_sPat, q_eSl, q_nSl, q_pS, q_pN, q_sRetN, q_tYes, q_eDct0, okL0, okL1, okL2, okL3, okL4, okL5, okL6, ent, List.map_cons, List.map_nil, List.length_cons, List.length_nil, List.set_cons_zero, List.set_cons_succ, List.replicate, List.cons_append, List.nil_append, Nat.reduceAdd, Nat.reduceSub, Nat.sub_self, Nat.sub_zero, zero_add', ↓reduceIte, Bool.false_eq_true, item0, item1, addD_ii, subD_ii, negD_i, absD_i, ltD_ii, leD_ii, gtD_ii, geD_ii, truD_bl, decide_true, decide_false, decide_eq_false z]
end Pl

/-! Plain laws, 2: fractions. -/
namespace Pl
open Dl Sh
local instance : Dl.Tb := ⟨fun _ => []⟩

theorem sz_divInt {k : Nat} {n d : Int} (hn : n.natAbs < 2 ^ k) (hd : d.natAbs < 2 ^ k) (h0 : d ≠ 0) : Sz k (Rat.divInt n d) := by
  refine ⟨?_, ?_⟩
  · rw [Rat.num_divInt]
    have e : (d.sign * n / (Int.gcd d n : Int)).natAbs ≤ n.natAbs := by
      refine Nat.le_trans (Int.natAbs_ediv_le_natAbs _ _) ?_
      rw [Int.natAbs_mul]
      have : d.sign.natAbs ≤ 1 := by
        rcases Int.lt_trichotomy d 0 with z | z | z
        · rw [Int.sign_eq_neg_one_of_neg z]; decide
        · exact absurd z h0
        · rw [Int.sign_eq_one_of_pos z]; decide
      calc d.sign.natAbs * n.natAbs ≤ 1 * n.natAbs := Nat.mul_le_mul_right _ this
        _ = n.natAbs := Nat.one_mul _
    exact Nat.lt_of_le_of_lt e hn
  · rw [Rat.den_divInt, if_neg h0]
    exact Nat.lt_of_le_of_lt (Nat.div_le_self _ _) hd
theorem pow_mul_lt {a b x y : Nat} (hx : x < 2 ^ a) (hy : y < 2 ^ b) : x * y < 2 ^ (a + b) := by
  rw [Nat.pow_add]
  exact Nat.mul_lt_mul'' hx hy
theorem den_pos (q : Rat) : 0 < q.den := Nat.pos_of_ne_zero q.den_nz
theorem fr_num {q : Rat} {h : Hs} : itemD (fr q) (.int 0) h = .ok (.int q.num) h := item0
theorem fr_den {q : Rat} {h : Hs} : itemD (fr q) (.int 1) h = .ok (.int q.den) h := item1
section
variable {p q : Rat} {a b : Nat} (hp : Sz a p) (hq : Sz b q) (hab : a + b ≤ 8000)
include hp hq
theorem mul_nn : (p.num * q.num).natAbs < 2 ^ (a + b) := by rw [Int.natAbs_mul]; exact pow_mul_lt hp.1 hq.1
theorem mul_nd : (p.num * (q.den : Int)).natAbs < 2 ^ (a + b) := by rw [Int.natAbs_mul]; exact pow_mul_lt hp.1 hq.2
theorem mul_dn : (q.num * (p.den : Int)).natAbs < 2 ^ (a + b) := by rw [Int.natAbs_mul, Nat.mul_comm]; exact pow_mul_lt hp.2 hq.1
theorem mul_dd : ((p.den : Int) * (q.den : Int)).natAbs < 2 ^ (a + b) := by rw [Int.natAbs_mul]; exact pow_mul_lt hp.2 hq.2
omit hp hq in
theorem dd_ne : ((p.den : Int) * (q.den : Int)) ≠ 0 := by
  have h1 := den_pos p
  have h2 := den_pos q
  have := Nat.mul_pos h1 h2
  intro z
  have e : ((p.den * q.den : Nat) : Int) = 0 := by rw [Int.natCast_mul]; exact z
  omega
include hab
theorem ok_nd : okMul p.num (q.den : Int) = true := okMul_of hp.1 (show ((q.den : Int)).natAbs < 2 ^ b from hq.2) (by omega)
theorem ok_dn : okMul q.num (p.den : Int) = true := okMul_of hq.1 (show ((p.den : Int)).natAbs < 2 ^ a from hp.2) (by omega)
theorem ok_dd : okMul (p.den : Int) (q.den : Int) = true := okMul_of (show ((p.den : Int)).natAbs < 2 ^ a from hp.2) (show ((q.den : Int)).natAbs < 2 ^ b from hq.2) (by omega)
theorem lt9000 {x : Nat} (h : x < 2 ^ (a + b)) : x < 2 ^ 9000 := Nat.lt_of_lt_of_le h (Nat.pow_le_pow_right (by decide) (by omega))
theorem plus_eq (h : Hs) : m_plus [fr p, fr q] h = .ok (fr (p + q)) h := by
  refine mdef_ret (h' := h) ?_
  unfold c_plus
  simp only [eV0, eVs, bind_ok', then_ok, q_e2, q_e1, q_eC, q_aC, q_aN, q_sPar2, q_sPar3, q_sSet, q_sRet, q_eBf, q_nBf, q_eCall, q_tst, q_tru, q_ifV, q_sIf, q_eTup, q_sPass, q_sExp, q_eLm, q_nLst, q_frz, q_thaw, q_iSeq, q_iR2, q_iR3, q_iEnumD, q_iZip, q_andX, q_andT, q_orT, q_notT, q_eCh, q_sPat, q_eSl, q_nSl, q_pS, q_pN, q_sRetN, q_tYes, q_eDct0, okL0, okL1, okL2, okL3, okL4, okL5, okL6, ent, List.map_cons, List.map_nil, List.length_cons, List.length_nil, List.set_cons_zero, List.set_cons_succ, List.replicate, List.cons_append, List.nil_append, Nat.reduceAdd, Nat.reduceSub, Nat.sub_self, Nat.sub_zero, zero_add', ↓reduceIte, Bool.false_eq_true, item0, item1, addD_ii, subD_ii, negD_i, absD_i, ltD_ii, leD_ii, gtD_ii, geD_ii, truD_bl, decide_true, decide_false, fr_num, fr_den, mulD_ii (ok_nd hp hq hab), mulD_ii (ok_dn hp hq hab), mulD_ii (ok_dd hp hq hab), lowest_eq _ _ h (dd_ne (p := p) (q := q)) (lt9000 hp hq hab (mul_dd hp hq))]
  rw [Rat.add_def', ← Int.natCast_mul, Rat.divInt_ofNat]
theorem less_eq (h : Hs) : m_is_less [fr p, fr q] h = .ok (.bl (decide (p < q))) h := by
  refine mdef_ret (h' := h) ?_
  unfold c_is_less
  simp only [eV0, eVs, bind_ok', then_ok, q_e2, q_e1, q_eC, q_aC, q_aN, q_sPar2, q_sPar3, q_sSet, q_sRet, q_eBf, q_nBf, q_eCall, q_tst, q_tru, q_ifV, q_sIf, q_eTup, q_sPass, q_sExp, q_eLm, q_nLst, q_frz, q_thaw, q_iSeq, q_iR2, q_iR3, q_iEnumD, q_iZip, q_andX, q_andT, q_orT, q_notT, q_eCh, q_sPat, q_eSl, q_nSl, q_pS, q_pN, q_sRetN, q_tYes, q_eDct0, okL0, okL1, okL2, okL3, okL4, okL5, okL6, ent, List.map_cons, List.map_nil, List.length_cons, List.length_nil, List.set_cons_zero, List.set_cons_succ, List.replicate, List.cons_append, List.nil_append, Nat.reduceAdd, Nat.reduceSub, Nat.sub_self, Nat.sub_zero, zero_add', ↓reduceIte, Bool.false_eq_true, item0, item1, addD_ii, subD_ii, negD_i, absD_i, ltD_ii, leD_ii, gtD_ii, geD_ii, truD_bl, decide_true, decide_false, fr_num, fr_den, mulD_ii (ok_nd hp hq hab), mulD_ii (ok_dn hp hq hab)]
  congr 2
  exact decide_eq_decide.mpr (Rat.lt_iff p q).symm
end
section
variable {p q : Rat} {a b : Nat} (hp : Sz a p) (hq : Sz b q)
include hp hq
theorem Sz.mul : Sz (a + b) (p * q) := by
  rw [Rat.mul_def', ← Rat.divInt_ofNat, Int.natCast_mul]
  exact sz_divInt (mul_nn hp hq) (mul_dd hp hq) dd_ne
theorem Sz.add : Sz (a + b + 1) (p + q) := by
  rw [Rat.add_def', ← Rat.divInt_ofNat, Int.natCast_mul]
  have h1 := mul_nd hp hq
  have h2 := mul_dn hp hq
  have h3 := mul_dd hp hq
  have e : 2 ^ (a + b + 1) = 2 * 2 ^ (a + b) := by rw [Nat.pow_succ, Nat.mul_comm]
  refine sz_divInt ?_ (by omega) dd_ne
  have := Int.natAbs_add_le (p.num * (q.den : Int)) (q.num * (p.den : Int))
  omega
theorem Sz.sub : Sz (a + b + 1) (p - q) := by
  rw [Rat.sub_def', ← Rat.divInt_ofNat, Int.natCast_mul]
  have h1 := mul_nd hp hq
  have h2 := mul_dn hp hq
  have h3 := mul_dd hp hq
  have e : 2 ^ (a + b + 1) = 2 * 2 ^ (a + b) := by rw [Nat.pow_succ, Nat.mul_comm]
  refine sz_divInt ?_ (by omega) dd_ne
  have := Int.natAbs_sub_le (p.num * (q.den : Int)) (q.num * (p.den : Int))
  omega
theorem Sz.div : Sz (a + b) (p / q) := by
  by_cases h0 : q = 0
  · subst h0
    rw [Rat.div_def, Rat.inv_zero, Rat.mul_zero]
    exact ⟨Nat.pow_pos (by decide), by
      have := hp.2
      have h1 := den_pos p
      have : 1 < 2 ^ a := by omega
      have h2 : 2 ^ a ≤ 2 ^ (a + b) := Nat.pow_le_pow_right (by decide) (by omega)
      show 1 < _
      omega⟩
  have n0 : q.num ≠ 0 := fun z => h0 (Rat.num_eq_zero.mp z)
  have e1 : p / q = Rat.divInt (p.num * q.den) (p.den * q.num) := by
    rw [Rat.div_def, Rat.inv_def]
    conv => lhs; rw [← Rat.num_divInt_den p]
    rw [Rat.divInt_mul_divInt]
  rw [e1]
  exact sz_divInt (mul_nd hp hq) (by rw [Int.natAbs_mul]; exact pow_mul_lt hp.2 hq.1) (Int.mul_ne_zero (by have := den_pos p; omega) n0)
end
theorem sz1 : Sz 1 1 := ⟨by decide, by decide⟩
theorem fr0 : fr 0 = .tup [.int 0, .int 1] := rfl
theorem fr1 : fr 1 = .tup [.int 1, .int 1] := rfl
end Pl

/-! Plain laws, 0: == and repr of data that stay. -/
namespace Pl
open Dl
local instance : Dl.Tb := ⟨fun _ => []⟩

instance : DecidableEq D := fun x y => if h : D.beq x y = true then .isTrue (D.beq_eq x y h) else .isFalse fun e => h (by rw [e]; exact D.beq_refl y)
mutual
def pyF : D → PySem.PyData
  | .int i => .int i
  | .str x => .str x
  | .tup xs => .tuple (pyFs xs)
  | .lst xs => .list (pyFs xs)
  | .bl b => .bool b
  | _ => .none
def pyFs : List D → List PySem.PyData
  | [] => []
  | x :: xs => pyF x :: pyFs xs
end
/-- data of None, ints, tuples, lists that stay; n its depth at most -/
inductive Fz : Nat → D → Prop
  | non {n : Nat} : Fz n .non
  | int {n : Nat} (i : Int) : Fz n (.int i)
  | tup {n : Nat} {xs : List D} : (∀ x ∈ xs, Fz n x) → Fz (n + 1) (.tup xs)
  | lst {n : Nat} {xs : List D} : (∀ x ∈ xs, Fz n x) → Fz (n + 1) (.lst xs)
theorem Fz.mono {n : Nat} {d : D} (h : Fz n d) : ∀ {m : Nat}, n ≤ m → Fz m d := by
  induction h with
  | non => exact fun _ => .non
  | int i => exact fun _ => .int i
  | tup _ ih => exact fun {m} l => match m, l with
    | m + 1, l => .tup fun x hx => ih x hx (by omega)
  | lst _ ih => exact fun {m} l => match m, l with
    | m + 1, l => .lst fun x hx => ih x hx (by omega)
theorem optAll_eq {f : D → Option PySem.PyData} : ∀ {xs : List D}, (∀ x ∈ xs, f x = some (pyF x)) → optAll f xs = some (pyFs xs)
  | [], _ => rfl
  | x :: xs, h => by
    unfold optAll
    rw [h x List.mem_cons_self, optAll_eq fun y hy => h y (List.mem_cons_of_mem _ hy)]
    simp only [pyFs]
theorem toPy_fz {h : Hs} {n : Nat} {d : D} (f : Fz n d) : toPy h n d = some (pyF d) := by
  induction f with
  | @non n => cases n <;> simp only [pyF] <;> rfl
  | @int n i => cases n <;> simp only [pyF] <;> rfl
  | @tup n xs _ ih =>
    show (optAll (toPy h n) xs).map PySem.PyData.tuple = _
    rw [optAll_eq ih]
    simp only [pyF]
    rfl
  | @lst n xs _ ih =>
    show (optAll (toPy h n) xs).map PySem.PyData.list = _
    rw [optAll_eq ih]
    simp only [pyF]
    rfl
theorem lays_fz : ∀ {xs : List D}, (∀ x ∈ xs, (pyF x).canLay0 = true) → PySem.PyData.canLayAll0 (pyFs xs) = true
  | [], _ => by simp only [pyFs, PySem.PyData.canLayAll0]
  | x :: xs, h => by
    simp only [pyFs, PySem.PyData.canLayAll0]
    rw [h x List.mem_cons_self, lays_fz fun y hy => h y (List.mem_cons_of_mem _ hy)]
    rfl
theorem depths_fz {n : Nat} : ∀ {xs : List D}, (∀ x ∈ xs, (pyF x).depth ≤ n) → PySem.PyData.depthAll (pyFs xs) ≤ n
  | [], _ => by simp only [pyFs, PySem.PyData.depthAll]; exact Nat.zero_le _
  | x :: xs, h => by
    simp only [pyFs, PySem.PyData.depthAll]
    have h1 := h x List.mem_cons_self
    have h2 := depths_fz (n := n) fun y hy => h y (List.mem_cons_of_mem _ hy)
    omega
theorem lay_fz {n : Nat} {d : D} (f : Fz n d) : (pyF d).canLay0 = true ∧ (pyF d).depth ≤ n := by
  induction f with
  | non => simp only [pyF, PySem.PyData.canLay0, PySem.PyData.depth]; exact ⟨trivial, Nat.zero_le _⟩
  | int i => simp only [pyF, PySem.PyData.canLay0, PySem.PyData.depth]; exact ⟨trivial, Nat.zero_le _⟩
  | @tup n xs _ ih =>
    simp only [pyF, PySem.PyData.canLay0, PySem.PyData.depth]
    exact ⟨lays_fz fun x hx => (ih x hx).1, Nat.succ_le_succ (depths_fz fun x hx => (ih x hx).2)⟩
  | @lst n xs _ ih =>
    simp only [pyF, PySem.PyData.canLay0, PySem.PyData.depth]
    exact ⟨lays_fz fun x hx => (ih x hx).1, Nat.succ_le_succ (depths_fz fun x hx => (ih x hx).2)⟩
theorem shaped_fz {n : Nat} {d : D} (f : Fz n d) (l : n ≤ 64) : PySem.SeqAt.shaped (pyF d) = true := by
  obtain ⟨h1, h2⟩ := lay_fz f
  unfold PySem.SeqAt.shaped
  rw [h1, decide_eq_true (by omega)]
  rfl
theorem eqvs_fz : ∀ {xs ys : List D}, (∀ x ∈ xs, ∀ y ∈ ys, (PySem.PyData.eqv (pyF x) (pyF y) = true ↔ x = y)) → (PySem.PyData.eqvAll (pyFs xs) (pyFs ys) = true ↔ xs = ys)
  | [], [], _ => by simp [pyFs, PySem.PyData.eqvAll]
  | [], _ :: _, _ => by simp [pyFs, PySem.PyData.eqvAll]
  | _ :: _, [], _ => by simp [pyFs, PySem.PyData.eqvAll]
  | x :: xs, y :: ys, h => by
    simp only [pyFs, PySem.PyData.eqvAll, Bool.and_eq_true, List.cons.injEq]
    rw [h x List.mem_cons_self y List.mem_cons_self, eqvs_fz fun a ha b hb => h a (List.mem_cons_of_mem _ ha) b (List.mem_cons_of_mem _ hb)]
theorem eqv_fz {n : Nat} {x : D} (f : Fz n x) : ∀ {m : Nat} {y : D}, Fz m y → (PySem.PyData.eqv (pyF x) (pyF y) = true ↔ x = y) := by
  induction f with
  | non => intro m y g; cases g <;> simp [pyF, PySem.PyData.eqv]
  | int i => intro m y g; cases g <;> simp [pyF, PySem.PyData.eqv]
  | @tup n xs _ ih =>
    intro m y g
    cases g with
    | tup g =>
      simp only [pyF, PySem.PyData.eqv, D.tup.injEq]
      exact eqvs_fz fun a ha b hb => ih a ha (g b hb)
    | _ => simp [pyF, PySem.PyData.eqv]
  | @lst n xs _ ih =>
    intro m y g
    cases g with
    | lst g =>
      simp only [pyF, PySem.PyData.eqv, D.lst.injEq]
      exact eqvs_fz fun a ha b hb => ih a ha (g b hb)
    | _ => simp [pyF, PySem.PyData.eqv]
theorem eqvB_fz {n m : Nat} {x y : D} (f : Fz n x) (g : Fz m y) : PySem.PyData.eqv (pyF x) (pyF y) = decide (x = y) := by
  have e := eqv_fz f g
  cases z : PySem.PyData.eqv (pyF x) (pyF y) with
  | true => exact (decide_eq_true (e.mp z)).symm
  | false => exact (decide_eq_false fun h => by rw [e.mpr h] at z; cases z).symm
section
variable {x y : D} {h : Hs} (f : Fz 8 x) (g : Fz 8 y)
include f g
theorem eqD_fz : eqD x y h = .ok (.bl (decide (x = y))) h := by
  unfold eqD eqPy
  rw [toPy_fz (f.mono (show 8 ≤ pyDepth by decide)), toPy_fz (g.mono (show 8 ≤ pyDepth by decide))]
  show (if (PySem.SeqAt.shaped (pyF x) && PySem.SeqAt.shaped (pyF y)) = true then _ else _) = _
  rw [shaped_fz f (by decide), shaped_fz g (by decide), eqvB_fz f g]
  rfl
theorem neD_fz : neD x y h = .ok (.bl (!decide (x = y))) h := by
  unfold neD eqPy
  rw [toPy_fz (f.mono (show 8 ≤ pyDepth by decide)), toPy_fz (g.mono (show 8 ≤ pyDepth by decide))]
  show (if (PySem.SeqAt.shaped (pyF x) && PySem.SeqAt.shaped (pyF y)) = true then _ else _) = _
  rw [shaped_fz f (by decide), shaped_fz g (by decide), eqvB_fz f g]
  rfl
end
theorem eqD_ii {a b : Int} {h : Hs} : eqD (.int a) (.int b) h = .ok (.bl (decide (a = b))) h := by
  rw [eqD_fz (.int a) (.int b)]
  simp
theorem fz_fr (q : Rat) : Fz 1 (fr q) := .tup fun x hx => by
  rcases List.mem_cons.mp hx with e | hx
  · subst e; exact .int _
  · rw [List.mem_singleton.mp hx]; exact .int _
/-! ### what is shown -/
inductive Sh' : Nat → D → Prop
  | non {w : Nat} : 4 ≤ w → Sh' w .non
  | int {w : Nat} {i : Int} : i.natAbs < 2 ^ 1900 → 1921 ≤ w → Sh' w (.int i)
  | tup {w u : Nat} {xs : List D} : (∀ x ∈ xs, Sh' u x) → (u + 2) * xs.length + 3 ≤ w → Sh' w (.tup xs)
  | lst {w u : Nat} {xs : List D} : (∀ x ∈ xs, Sh' u x) → (u + 2) * xs.length + 3 ≤ w → Sh' w (.lst xs)
theorem Sh'.mono {w v : Nat} {d : D} (h : Sh' w d) (l : w ≤ v) : Sh' v d := by
  cases h with
  | non a => exact .non (by omega)
  | int a b => exact .int a (by omega)
  | tup a b => exact .tup a (by omega)
  | lst a b => exact .lst a (by omega)
end Pl

/-! Plain laws, 3: the tape. -/
namespace Pl
open Dl Sh
local instance : Dl.Tb := ⟨fun _ => []⟩

theorem items_obj {h : Hs} {n : Nat} {xs : List D} (e : h[n]? = some (.lst xs)) : items h (.obj n) = some xs := by
  show (match h[n]? with
    | some (.lst xs) => some xs
    | _ => none) = some xs
  rw [e]
theorem item_obj {h : Hs} {n : Nat} {xs : List D} {i : Nat} {d : D} (e : h[n]? = some (.lst xs)) (e2 : xs[i]? = some d) : itemD (.obj n) (.int i) h = .ok d h := by
  have hl := (List.getElem?_eq_some_iff.mp e2).1
  have z : L2.atI xs i = some d := by
    unfold L2.atI L2.ixN
    rw [if_pos (by omega), if_pos (by omega)]
    exact e2
  have s : seqOf h (.obj n) = some xs := by
    exact items_obj e
  show (match seqOf h (.obj n) with
    | some xs => (match L2.atI xs i with
        | some d => Dl.R.ok d h
        | none => .bad)
    | none => _) = _
  rw [s]
  show (match L2.atI xs i with
        | some d => Dl.R.ok d h
        | none => .bad) = _
  rw [z]
theorem set_obj {h : Hs} {n : Nat} {xs : List D} {i : Nat} {v : D} (e : h[n]? = some (.lst xs)) (hl : i < xs.length) : setItemD (.obj n) (.int i) v h = some (h.set n (.lst (xs.set i v))) := by
  show (match h[n]? with
    | some (.lst xs) => (L2.ixN xs.length i).map fun j => h.set n (.lst (xs.set j v))
    | some (.dI kvs) => _
    | _ => none) = _
  rw [e]
  show (L2.ixN xs.length i).map _ = _
  unfold L2.ixN
  rw [if_pos (by omega), if_pos (by omega)]
  rfl
theorem wps_store {ce co cx : Env → M D} {ρ : Env} {h : Hs} {N : Env → Hs → Prop} {T : D → Hs → Prop} : WpS (sStore ce co cx ρ h) N T = Wp (ce ρ h) fun v h1 => Wp (co ρ h1) fun o h2 => Wp (cx ρ h2) fun i h3 => WpS (match setItemD o i v h3 with
  | some h4 => .nx ρ h4
  | none => .bad) N T := by
  unfold sStore
  cases ce ρ h with
  | ok v h1 =>
    show WpS ((co ρ h1).then ρ _) N T = Wp (co ρ h1) _
    rw [wps_then]
    cases co ρ h1 with
    | ok o h2 =>
      show WpS ((cx ρ h2).then ρ _) N T = Wp (cx ρ h2) _
      rw [wps_then]
      try rfl
    | _ => rfl
  | _ => rfl
/-- the tape stands at 1, its cells at 0; N bounds the draws so far -/
structure Tp (h : Hs) (N : Nat) : Prop where
  ex : ∃ (s n : Int) (cs : List Int), h[1]? = some (.lst [.int s, .int n, .obj 0]) ∧ h[0]? = some (.lst (cs.map D.int)) ∧ 0 ≤ s ∧ s < 4294967296 ∧ 0 ≤ n ∧ n ≤ N
/-- what stood behind the tape stands -/
structure Ge (h h' : Hs) : Prop where
  len : h.length ≤ h'.length
  keep : ∀ j, 2 ≤ j → j < h.length → h'[j]? = h[j]?
theorem Ge.refl {h : Hs} : Ge h h := ⟨Nat.le_refl _, fun _ _ _ => rfl⟩
theorem Ge.trans {a b c : Hs} (x : Ge a b) (y : Ge b c) : Ge a c := ⟨Nat.le_trans x.len y.len, fun j h1 h2 => (y.keep j h1 (Nat.lt_of_lt_of_le h2 x.len)).trans (x.keep j h1 h2)⟩
theorem Ge.set {h : Hs} {i : Nat} {o : DO} (hi : i < 2) : Ge h (h.set i o) := ⟨by rw [List.length_set]; exact Nat.le_refl _, fun j h1 _ => List.getElem?_set_ne (by omega)⟩
theorem Ge.app {h : Hs} {l : List DO} (hl : 2 ≤ h.length) : Ge h (h ++ l) := ⟨by rw [List.length_append]; omega, fun j _ h2 => List.getElem?_append_left h2⟩
theorem Ge.at {h h' : Hs} (g : Ge h h') {j : Nat} {o : DO} (hj : 2 ≤ j) (e : h[j]? = some o) : h'[j]? = some o := (g.keep j hj (List.getElem?_eq_some_iff.mp e).1).trans e
theorem Tp.mono {h : Hs} {N M : Nat} (t : Tp h N) (l : N ≤ M) : Tp h M := by
  obtain ⟨s, n, cs, h1, h2, h3, h4, h5, h6⟩ := t.ex
  exact ⟨s, n, cs, h1, h2, h3, h4, h5, by omega⟩
theorem Tp.two {h : Hs} {N : Nat} (t : Tp h N) : 2 ≤ h.length := by
  obtain ⟨s, n, cs, h1, _⟩ := t.ex
  exact (List.getElem?_eq_some_iff.mp h1).1
theorem Tp.app {h : Hs} {N : Nat} {l : List DO} (t : Tp h N) : Tp (h ++ l) N := by
  have h2 := t.two
  obtain ⟨s, n, cs, h1, h2', r⟩ := t.ex
  exact ⟨s, n, cs, by rw [List.getElem?_append_left (by omega)]; exact h1, by rw [List.getElem?_append_left (by omega)]; exact h2', r⟩
theorem Tp.set {h : Hs} {N i : Nat} {o : DO} (t : Tp h N) (hi : 2 ≤ i) : Tp (h.set i o) N := by
  obtain ⟨s, n, cs, h1, h2', r⟩ := t.ex
  exact ⟨s, n, cs, by rw [List.getElem?_set_ne (by omega)]; exact h1, by rw [List.getElem?_set_ne (by omega)]; exact h2', r⟩
theorem okMul_small {i j : Int} (hi : i.natAbs < 2 ^ 1000) (hj : j.natAbs < 2 ^ 1000) : okMul i j = true := okMul_of hi hj (by decide)
theorem pow18 : 2 ^ 64 ≤ 2 ^ 9000 := Nat.pow_le_pow_right (by decide) (by decide)
theorem small_lt {i : Int} (h : i.natAbs < 18446744073709551616) : i.natAbs < 2 ^ 1000 := Nat.lt_of_lt_of_le h (show (2 ^ 64 : Nat) ≤ 2 ^ 1000 from Nat.pow_le_pow_right (by decide) (by decide))
theorem okDiv_small {i j : Int} (h0 : 0 < j) (h : j.natAbs < 18446744073709551616) : okDiv i j = true := okDiv_of h0 (Nat.lt_of_lt_of_le h pow18)
theorem intD_i {i : Int} {h : Hs} : intD [.int i] h = .ok (.int i) h := rfl
theorem mixed_le {x : Int} (h0 : 0 ≤ x) (h1 : x < 2147483647) : okMul x (x / 1009 + 69621) = true ∧ okMul x (x / 2003 + 40692) = true := by
  have e1 : 0 ≤ x / 1009 := Int.ediv_nonneg h0 (by decide)
  have e2 : x / 1009 ≤ x := Int.ediv_le_self _ h0
  have e3 : 0 ≤ x / 2003 := Int.ediv_nonneg h0 (by decide)
  have e4 : x / 2003 ≤ x := Int.ediv_le_self _ h0
  exact ⟨okMul_small (small_lt (by omega)) (small_lt (by omega)), okMul_small (small_lt (by omega)) (small_lt (by omega))⟩
end Pl

/-! Plain laws, 4: loops, comprehensions, small equations. -/
namespace Pl
open Dl Sh
local instance : Dl.Tb := ⟨fun _ => []⟩

theorem okG_nil {h : Hs} : okG [] h = true := rfl
/-- a for: I by the turn -/
theorem wps_loop {p : Pat} {body : SM} {gs : List (Nat × List D)} {N : Env → Hs → Prop} {T : D → Hs → Prop} (I : Nat → Env → Hs → Prop) : ∀ (xs : List D) (i : Nat) (ρ : Env) (h : Hs),
    (∀ j x ρ h, xs[j]? = some x → I (i + j) ρ h → okG gs h = true ∧ ∃ ρ1, patD p x ρ = some ρ1 ∧ WpS (body ρ1 h) (fun ρ' h' => I (i + j + 1) ρ' h') T) →
    (∀ ρ h, I (i + xs.length) ρ h → okG gs h = true ∧ N ρ h) → I i ρ h → WpS (loopF p body gs xs ρ h) N T
  | [], i, ρ, h, _, fin, st => by
    obtain ⟨g, n⟩ := fin ρ h st
    unfold loopF
    rw [if_pos g]
    exact n
  | x :: xs, i, ρ, h, step, fin, st => by
    obtain ⟨g, ρ1, e, b⟩ := step 0 x ρ h rfl st
    unfold loopF
    rw [if_pos g, e]
    have ih := fun ρ' h' => wps_loop I xs (i + 1) ρ' h' (fun j x ρ h hx hI => by
      have z := step (j + 1) x ρ h (by simpa using hx) (by rw [show i + (j + 1) = i + 1 + j by omega]; exact hI)
      rw [show i + (j + 1) + 1 = i + 1 + j + 1 by omega] at z
      exact z) (fun ρ h hI => fin ρ h (by rw [List.length_cons, show i + (xs.length + 1) = i + 1 + xs.length by omega]; exact hI)) 
    cases q : body ρ1 h with
    | nx ρ2 h2 =>
      rw [q] at b
      simp only [q]
      exact ih ρ2 h2 b
    | ret d h2 => rw [q] at b; simp only [q]; exact b
    | bk ρ2 h2 => rw [q] at b; exact b.elim
    | ct ρ2 h2 => rw [q] at b; exact b.elim
    | exc ρ2 C fs h2 => rw [q] at b; exact b.elim
    | bad => rw [q] at b; exact b.elim
theorem wps_for {ci : Env → M ItD} {p : Pat} {body : SM} {ρ : Env} {h : Hs} {N : Env → Hs → Prop} {T : D → Hs → Prop} : WpS (sFor ci p body ρ h) N T = Wp (ci ρ h) fun it h1 => WpS (loopF p body it.gs it.items ρ h1) N T := by
  unfold sFor
  rw [wps_then]
/-- a comprehension without effects -/
theorem lcF_pure {p : Pat} {ce : Env → M D} {gs : List (Nat × List D)} {ρ : Env} {h : Hs} {f : D → D} (g : okG gs h = true) : ∀ {xs : List D}, (∀ x ∈ xs, ∃ ρ1, patD p x ρ = some ρ1 ∧ ce ρ1 h = .ok (f x) h) → lcF p tYes' ce gs ρ xs h = .ok (xs.map f) h
  | [], _ => by
    unfold lcF
    rw [if_pos g]
    rfl
  | x :: xs, k => by
    obtain ⟨ρ1, e, c⟩ := k x List.mem_cons_self
    unfold lcF
    rw [if_pos g, e]
    show ((ce ρ1 h).nox.bind fun d h2 => (lcF p tYes' ce gs ρ xs h2).bind fun ds h3 => .ok (d :: ds) h3) = _
    rw [c]
    show ((lcF p tYes' ce gs ρ xs h).bind fun ds h3 => .ok (f x :: ds) h3) = _
    rw [lcF_pure g fun y hy => k y (List.mem_cons_of_mem _ hy)]
    rfl
/-- with effects: I by the turn, P of each item made -/
theorem wp_lc {p : Pat} {ce : Env → M D} {gs : List (Nat × List D)} {ρ : Env} (I : Nat → Hs → Prop) (P : D → Prop) : ∀ (xs : List D) (i : Nat) (h : Hs) {Q : List D → Hs → Prop},
    (∀ j x h, xs[j]? = some x → I (i + j) h → okG gs h = true ∧ ∃ ρ1, patD p x ρ = some ρ1 ∧ Wp (ce ρ1 h) fun d h' => P d ∧ I (i + j + 1) h') →
    (∀ h, I (i + xs.length) h → okG gs h = true) → I i h → (∀ ds h', ds.length = xs.length → (∀ d ∈ ds, P d) → I (i + xs.length) h' → Q ds h') → Wp (lcF p tYes' ce gs ρ xs h) Q
  | [], i, h, Q, _, fin, st, k => by
    unfold lcF
    rw [if_pos (fin h st)]
    exact k [] h rfl (by simp) st
  | x :: xs, i, h, Q, step, fin, st, k => by
    obtain ⟨g, ρ1, e, b⟩ := step 0 x h rfl st
    unfold lcF
    rw [if_pos g, e]
    show Wp ((ce ρ1 h).nox.bind fun d h2 => (lcF p tYes' ce gs ρ xs h2).bind fun ds h3 => .ok (d :: ds) h3) Q
    rw [wp_bind, wp_nox]
    refine wp_mono b fun d h2 ⟨pd, i2⟩ => ?_
    rw [wp_bind]
    refine wp_lc I P xs (i + 1) h2 (fun j x h hx hI => ?_) (fun h hI => fin h (by rw [List.length_cons, show i + (xs.length + 1) = i + 1 + xs.length by omega]; exact hI)) i2 fun ds h3 hl hp hI => ?_
    · have z := step (j + 1) x h (by simpa using hx) (by rw [show i + (j + 1) = i + 1 + j by omega]; exact hI)
      rw [show i + (j + 1) + 1 = i + 1 + j + 1 by omega] at z
      exact z
    · rw [wp_ok]
      refine k _ _ (by rw [List.length_cons, List.length_cons, hl]) (fun d' hd => ?_) (by rw [List.length_cons, show i + (xs.length + 1) = i + 1 + xs.length by omega]; exact hI)
      rcases List.mem_cons.mp hd with z | z
      · rw [z]; exact pd
      · exact hp d' z
theorem nLc_eq {ci : Env → M ItD} {p : Pat} {own : List Nat} {ct : Env → M Bool} {ce : Env → M D} {ρ : Env} {h : Hs} : nLc ci p own ct ce ρ h = (ci ρ h).bind fun it h1 => if okLen it.items.length then lcF p ct ce it.gs (wipeD ρ own) it.items h1 else .bad := nr rfl
theorem okLen_of {n : Nat} (h : n ≤ 16777216) : okLen n = true := decide_eq_true h
theorem okI_of {i : Int} (h : -4611686018427387904 ≤ i) (h2 : i < 4611686018427387904) : okI i = true := decide_eq_true ⟨h, h2⟩
/-! ### small equations -/
theorem lenD_tup {xs : List D} {h : Hs} : lenD [.tup xs] h = .ok (.int xs.length) h := nr rfl
theorem lenD_lst {xs : List D} {h : Hs} : lenD [.lst xs] h = .ok (.int xs.length) h := nr rfl
theorem tupD_lst {xs : List D} {h : Hs} : tupD [.lst xs] h = .ok (.tup xs) h := nr rfl
theorem item_lst {xs : List D} {i : Nat} {d : D} {h : Hs} (e : xs[i]? = some d) : itemD (.lst xs) (.int i) h = .ok d h := by
  have hl := (List.getElem?_eq_some_iff.mp e).1
  have z : L2.atI xs i = some d := by
    unfold L2.atI L2.ixN
    rw [if_pos (by omega), if_pos (by omega)]
    exact e
  show (match L2.atI xs i with
      | some d => Dl.R.ok d h
      | none => .bad) = _
  rw [z]
theorem app_obj {h : Hs} {n : Nat} {xs : List D} {y : D} (e : h[n]? = some (.lst xs)) (hl : xs.length < 16777216) : appD (.obj n) [y] h = .ok .non (h.set n (.lst (xs ++ [y]))) := by
  unfold appD
  have l : lstAt h (.obj n) = some (n, xs) := by
    show (match h[n]? with
    | some (.lst xs) => some (n, xs)
    | _ => none) = _
    rw [e]
  rw [l]
  exact if_pos (decide_eq_true hl)
theorem lstAt_obj {h : Hs} {n : Nat} {xs : List D} (e : h[n]? = some (.lst xs)) : lstAt h (.obj n) = some (n, xs) := by
  show (match h[n]? with
    | some (.lst xs) => some (n, xs)
    | _ => none) = _
  rw [e]
theorem addD_ll {xs ys : List D} {h : Hs} (l : xs.length + ys.length ≤ 16777216) : addD (.lst xs) (.lst ys) h = .ok (.lst (xs ++ ys)) h := if_pos (okLen_of l)
/-! ### any of some things -/
end Pl

/-! Plain laws, 5: shares, trials. -/
namespace Pl
open Dl Sh
local instance : Dl.Tb := ⟨fun _ => []⟩

theorem comp_eq {ci : Env → M ItD} {p : Pat} {own : List Nat} {ce : Env → M D} {ρ : Env} {h : Hs} {xs : List D} {f : D → D} (e : ci ρ h = .ok ⟨xs, []⟩ h) (l : xs.length ≤ 16777216) (k : ∀ x ∈ xs, ∃ ρ1, patD p x (wipeD ρ own) = some ρ1 ∧ ce ρ1 h = .ok (f x) h) :
    nLc ci p own tYes' ce ρ h = .ok (xs.map f) h := by
  rw [nLc_eq, e]
  show (if okLen xs.length = true then _ else _) = _
  rw [if_pos (okLen_of l)]
  exact lcF_pure rfl k
theorem allBl_map {α : Type} (t : α → Bool) : ∀ xs : List α, allBl (xs.map fun x => D.bl (t x)) = some (xs.map t)
  | [] => rfl
  | x :: xs => by
    show (allBl (xs.map fun x => D.bl (t x))).map (t x :: ·) = _
    rw [allBl_map t xs]
    rfl
theorem allInt_map : ∀ xs : List Int, allInt (xs.map D.int) = some xs
  | [] => rfl
  | x :: xs => by
    show (allInt (xs.map D.int)).map (x :: ·) = _
    rw [allInt_map xs]
    rfl
theorem allD_map {α : Type} (t : α → Bool) (xs : List α) (h : Hs) : allD [.lst (xs.map fun x => D.bl (t x))] h = .ok (.bl (xs.all t)) h := by
  show (match (some (xs.map fun x => D.bl (t x))).bind allBl with
    | some bs => Dl.R.ok (D.bl (bs.all id)) h
    | none => .bad) = _
  rw [Option.bind_some, allBl_map]
  show Dl.R.ok (D.bl ((xs.map t).all id)) h = _
  rw [List.all_map]
  rfl
theorem sumD_ints (xs : List Int) (h : Hs) : sumD [.lst (xs.map D.int)] h = .ok (.int xs.sum) h := by
  show (match (some (xs.map D.int)).bind allInt with
    | some ns => Dl.R.ok (D.int ns.sum) h
    | none => .bad) = _
  rw [Option.bind_some, allInt_map]
theorem isi_int {i : Int} {h : Hs} : isiD [] [.int i, .ty "int"] h = .ok (.bl true) h := nr rfl
theorem isi_bool {i : Int} {h : Hs} : isiD [] [.int i, .ty "bool"] h = .ok (.bl false) h := nr rfl
theorem isi_tup {xs : List D} {h : Hs} : isiD [] [.tup xs, .ty "tuple"] h = .ok (.bl true) h := nr rfl
theorem notX_b {b : Bool} {h : Hs} : notX (.bl b) h = .ok (.bl (!b)) h := nr rfl
theorem isint_eq {i : Int} {h : Hs} : m_is_integer [.int i] h = .ok (.bl true) h := by
  refine mdef_ret (h' := h) ?_
  unfold c_is_integer
  simp only [eV0, eVs, bind_ok', then_ok, q_e2, q_e1, q_eC, q_aC, q_aN, q_sPar2, q_sPar3, q_sSet, q_sRet, q_eBf, q_nBf, q_eCall, q_tst, q_tru, q_ifV, q_sIf, q_eTup, q_sPass, q_sExp, q_eLm, q_nLst, q_frz, q_thaw, q_iSeq, q_iR2, q_iR3, q_iEnumD, q_iZip, q_andX, q_andT, q_orT, q_notT, q_eCh, q_sPat, q_eSl, q_nSl, q_pS, q_pN, q_sRetN, q_tYes, q_eDct0, okL0, okL1, okL2, okL3, okL4, okL5, okL6, ent, List.map_cons, List.map_nil, List.length_cons, List.length_nil, List.set_cons_zero, List.set_cons_succ, List.replicate, List.cons_append, List.nil_append, Nat.reduceAdd, Nat.reduceSub, Nat.sub_self, Nat.sub_zero, zero_add', ↓reduceIte, Bool.false_eq_true, item0, item1, addD_ii, subD_ii, negD_i, absD_i, ltD_ii, leD_ii, gtD_ii, geD_ii, truD_bl, decide_true, decide_false, isi_int, isi_bool, notX_b, Bool.not_false]
theorem istup_eq {xs : List D} {lo hi : Int} {h : Hs} (h1 : lo ≤ xs.length) (h2 : (xs.length : Int) ≤ hi) : m_is_tuple [.tup xs, .int lo, .int hi] h = .ok (.bl true) h := by
  refine mdef_ret (h' := h) ?_
  unfold c_is_tuple
  simp only [eV0, eVs, bind_ok', then_ok, q_e2, q_e1, q_eC, q_aC, q_aN, q_sPar2, q_sPar3, q_sSet, q_sRet, q_eBf, q_nBf, q_eCall, q_tst, q_tru, q_ifV, q_sIf, q_eTup, q_sPass, q_sExp, q_eLm, q_nLst, q_frz, q_thaw, q_iSeq, q_iR2, q_iR3, q_iEnumD, q_iZip, q_andX, q_andT, q_orT, q_notT, q_eCh, q_sPat, q_eSl, q_nSl, q_pS, q_pN, q_sRetN, q_tYes, q_eDct0, okL0, okL1, okL2, okL3, okL4, okL5, okL6, ent, List.map_cons, List.map_nil, List.length_cons, List.length_nil, List.set_cons_zero, List.set_cons_succ, List.replicate, List.cons_append, List.nil_append, Nat.reduceAdd, Nat.reduceSub, Nat.sub_self, Nat.sub_zero, zero_add', ↓reduceIte, Bool.false_eq_true, item0, item1, addD_ii, subD_ii, negD_i, absD_i, ltD_ii, leD_ii, gtD_ii, geD_ii, truD_bl, decide_true, decide_false, isi_tup, lenD_tup, decide_eq_true h1, decide_eq_true h2]
theorem iswithin_eq {i lo hi : Int} {h : Hs} (h1 : lo ≤ i) (h2 : i ≤ hi) : m_is_within [.int i, .int lo, .int hi] h = .ok (.bl true) h := by
  refine mdef_ret (h' := h) ?_
  unfold c_is_within
  simp only [eV0, eVs, bind_ok', then_ok, q_e2, q_e1, q_eC, q_aC, q_aN, q_sPar2, q_sPar3, q_sSet, q_sRet, q_eBf, q_nBf, q_eCall, q_tst, q_tru, q_ifV, q_sIf, q_eTup, q_sPass, q_sExp, q_eLm, q_nLst, q_frz, q_thaw, q_iSeq, q_iR2, q_iR3, q_iEnumD, q_iZip, q_andX, q_andT, q_orT, q_notT, q_eCh, q_sPat, q_eSl, q_nSl, q_pS, q_pN, q_sRetN, q_tYes, q_eDct0, okL0, okL1, okL2, okL3, okL4, okL5, okL6, ent, List.map_cons, List.map_nil, List.length_cons, List.length_nil, List.set_cons_zero, List.set_cons_succ, List.replicate, List.cons_append, List.nil_append, Nat.reduceAdd, Nat.reduceSub, Nat.sub_self, Nat.sub_zero, zero_add', ↓reduceIte, Bool.false_eq_true, item0, item1, addD_ii, subD_ii, negD_i, absD_i, ltD_ii, leD_ii, gtD_ii, geD_ii, truD_bl, decide_true, decide_false, isint_eq, decide_eq_true h1, decide_eq_true h2]
theorem seq_tup {ce : Env → M D} {ρ : Env} {h : Hs} {xs : List D} (e : ce ρ h = .ok (.tup xs) h) : iSeq ce ρ h = .ok ⟨xs, []⟩ h := by
  rw [q_iSeq, e]
  rfl
theorem seq_lst {ce : Env → M D} {ρ : Env} {h : Hs} {xs : List D} (e : ce ρ h = .ok (.lst xs) h) : iSeq ce ρ h = .ok ⟨xs, []⟩ h := by
  rw [q_iSeq, e]
  rfl
theorem isfrac_eq {q : Rat} {h : Hs} : m_is_fraction [fr q] h = .ok (.bl true) h := by
  refine mdef_ret (h' := h) ?_
  unfold c_is_fraction
  have c := comp_eq (ci := iSeq (eV 0)) (p := .nm 1) (own := [1]) (ce := eCall 1 m_is_integer (aC (eV 1) aN)) (ρ := [some (fr q), none]) (h := h) (xs := [.int q.num, .int q.den]) (f := fun _ => .bl true)
    (seq_tup eV0) (by simp) fun x hx => ⟨[some (fr q), some x], rfl, by
      obtain ⟨i, rfl⟩ : ∃ i, x = .int i := by
        rcases List.mem_cons.mp hx with e | hx
        · exact ⟨_, e⟩
        · exact ⟨_, List.mem_singleton.mp hx⟩
      simp only [eV0, eVs, bind_ok', then_ok, q_e2, q_e1, q_eC, q_aC, q_aN, q_sPar2, q_sPar3, q_sSet, q_sRet, q_eBf, q_nBf, q_eCall, q_tst, q_tru, q_ifV, q_sIf, q_eTup, q_sPass, q_sExp, q_eLm, q_nLst, q_frz, q_thaw, q_iSeq, q_iR2, q_iR3, q_iEnumD, q_iZip, q_andX, q_andT, q_orT, q_notT, q_eCh, q_sPat, q_eSl, q_nSl, q_pS, q_pN, q_sRetN, q_tYes, q_eDct0, okL0, okL1, okL2, okL3, okL4, okL5, okL6, ent, List.map_cons, List.map_nil, List.length_cons, List.length_nil, List.set_cons_zero, List.set_cons_succ, List.replicate, List.cons_append, List.nil_append, Nat.reduceAdd, Nat.reduceSub, Nat.sub_self, Nat.sub_zero, zero_add', ↓reduceIte, Bool.false_eq_true, item0, item1, addD_ii, subD_ii, negD_i, absD_i, ltD_ii, leD_ii, gtD_ii, geD_ii, truD_bl, decide_true, decide_false, isint_eq]⟩
  have a : allD [.lst [.bl true, .bl true]] h = .ok (.bl true) h := nr rfl
  have d0 : ¬ ((q.den : Int) < 1) := by have := den_pos q; omega
  have t2 : m_is_tuple [fr q, .int 2, .int 2] h = .ok (.bl true) h := istup_eq (by simp) (by simp)
  have g1 : ((Int.gcd q.num q.den : Nat) : Int) = 1 := by
    have z := q.reduced
    have e : Int.gcd q.num q.den = q.num.natAbs.gcd q.den := rfl
    rw [e, z]
    rfl
  simp only [eV0, eVs, bind_ok', then_ok, q_e2, q_e1, q_eC, q_aC, q_aN, q_sPar2, q_sPar3, q_sSet, q_sRet, q_eBf, q_nBf, q_eCall, q_tst, q_tru, q_ifV, q_sIf, q_eTup, q_sPass, q_sExp, q_eLm, q_nLst, q_frz, q_thaw, q_iSeq, q_iR2, q_iR3, q_iEnumD, q_iZip, q_andX, q_andT, q_orT, q_notT, q_eCh, q_sPat, q_eSl, q_nSl, q_pS, q_pN, q_sRetN, q_tYes, q_eDct0, okL0, okL1, okL2, okL3, okL4, okL5, okL6, ent, List.map_cons, List.map_nil, List.length_cons, List.length_nil, List.set_cons_zero, List.set_cons_succ, List.replicate, List.cons_append, List.nil_append, Nat.reduceAdd, Nat.reduceSub, Nat.sub_self, Nat.sub_zero, zero_add', ↓reduceIte, Bool.false_eq_true, item0, item1, addD_ii, subD_ii, negD_i, absD_i, ltD_ii, leD_ii, gtD_ii, geD_ii, truD_bl, decide_true, decide_false, t2, c, a, fr_num, fr_den, decide_eq_false d0, Bool.not_true, wps_ite, sPass, common_eq, g1, eqD_ii, List.all_cons, List.all_nil, Bool.and_true, sSeq]
theorem isshare_eq {q : Rat} {h : Hs} (h0 : 0 ≤ q) (h1 : q ≤ 1) : m_is_share [fr q] h = .ok (.bl true) h := by
  have n0 : (0 : Int) ≤ q.num := Rat.num_nonneg.mpr h0
  have n1 : q.num ≤ q.den := by
    have z := (Rat.le_iff q 1).mp h1
    simpa using z
  refine mdef_ret (h' := h) ?_
  unfold c_is_share
  simp only [eV0, eVs, bind_ok', then_ok, q_e2, q_e1, q_eC, q_aC, q_aN, q_sPar2, q_sPar3, q_sSet, q_sRet, q_eBf, q_nBf, q_eCall, q_tst, q_tru, q_ifV, q_sIf, q_eTup, q_sPass, q_sExp, q_eLm, q_nLst, q_frz, q_thaw, q_iSeq, q_iR2, q_iR3, q_iEnumD, q_iZip, q_andX, q_andT, q_orT, q_notT, q_eCh, q_sPat, q_eSl, q_nSl, q_pS, q_pN, q_sRetN, q_tYes, q_eDct0, okL0, okL1, okL2, okL3, okL4, okL5, okL6, ent, List.map_cons, List.map_nil, List.length_cons, List.length_nil, List.set_cons_zero, List.set_cons_succ, List.replicate, List.cons_append, List.nil_append, Nat.reduceAdd, Nat.reduceSub, Nat.sub_self, Nat.sub_zero, zero_add', ↓reduceIte, Bool.false_eq_true, item0, item1, addD_ii, subD_ii, negD_i, absD_i, ltD_ii, leD_ii, gtD_ii, geD_ii, truD_bl, decide_true, decide_false, isfrac_eq, fr_num, fr_den, decide_eq_true n0, decide_eq_true n1]
theorem low_eq (n d : Int) (h : Hs) (hd : 0 < d) (hs : d.natAbs < 2 ^ 9000) : m__law_low [.int n, .int d] h = .ok (fr (Rat.divInt n d)) h := by
  have g1 : (0 : Int) < (Int.gcd n d : Int) := by
    have := Int.gcd_pos_of_ne_zero_right n (show d ≠ 0 by omega)
    omega
  have g2 : Int.gcd n d ≤ d.natAbs := Nat.le_of_dvd (by omega) (Int.gcd_dvd_natAbs_right n d)
  have g3 : ((Int.gcd n d : Int)).natAbs < 2 ^ 9000 := by rw [Int.natAbs_natCast]; exact Nat.lt_of_le_of_lt g2 hs
  have k3 : (Rat.divInt n d).num = n / (Int.gcd n d : Int) := by rw [Rat.num_divInt, Int.sign_eq_one_of_pos hd, Int.one_mul, Int.gcd_comm]
  have k4 : ((Rat.divInt n d).den : Int) = d / (Int.gcd n d : Int) := by
    rw [Rat.den_divInt, if_neg (by omega), Int.gcd_comm]
    have e : (d.natAbs : Int) = d := by omega
    rw [Int.natCast_ediv, e]
  refine mdef_ret (h' := h) ?_
  have w := gcd_while (ct := tst (e2 gtD (eV 3) (eC (.int 0)))) (body := sPar2 2 3 (aC (eV 3) (aC (e2 modD (eBf intD (aC (eV 2) aN)) (eV 3)) aN))) (mk := fun a b => [some (.int n), some (.int d), some (.int a), some (.int b)]) (fun a b h => rfl) (fun a b h _ hb => ?_) h
    (d.natAbs + 2) n.natAbs d (by omega) (by omega) (by omega)
  · unfold c__law_low
    rw [seq_nx (ρ1 := [some (.int n), some (.int d), some (.int n.natAbs), some (.int d)]) (h1 := h), seq_nx (ρ1 := [some (.int n), some (.int d), some (.int (Int.gcd n d)), some (.int 0)]) (h1 := h)]
    · simp only [eV0, eVs, bind_ok', then_ok, q_e2, q_e1, q_eC, q_aC, q_aN, q_sPar2, q_sPar3, q_sSet, q_sRet, q_eBf, q_nBf, q_eCall, q_tst, q_tru, q_ifV, q_sIf, q_eTup, q_sPass, q_sExp, q_eLm, q_nLst, q_frz, q_thaw, q_iSeq, q_iR2, q_iR3, q_iEnumD, q_iZip, q_andX, q_andT, q_orT, q_notT, q_eCh, q_sPat, q_eSl, q_nSl, q_pS, q_pN, q_sRetN, q_tYes, q_eDct0, okL0, okL1, okL2, okL3, okL4, okL5, okL6, ent, List.map_cons, List.map_nil, List.length_cons, List.length_nil, List.set_cons_zero, List.set_cons_succ, List.replicate, List.cons_append, List.nil_append, Nat.reduceAdd, Nat.reduceSub, Nat.sub_self, Nat.sub_zero, zero_add', ↓reduceIte, Bool.false_eq_true, item0, item1, addD_ii, subD_ii, negD_i, absD_i, ltD_ii, leD_ii, gtD_ii, geD_ii, truD_bl, decide_true, decide_false, divD_ii (okDiv_of (i := n) g1 g3), divD_ii (okDiv_of (i := d) g1 g3)]
      unfold fr
      rw [k3, k4]
    · rw [show Int.gcd n d = Int.gcd (n.natAbs : Int) d by simp [Int.gcd]]
      exact w
    · simp only [eV0, eVs, bind_ok', then_ok, q_e2, q_e1, q_eC, q_aC, q_aN, q_sPar2, q_sPar3, q_sSet, q_sRet, q_eBf, q_nBf, q_eCall, q_tst, q_tru, q_ifV, q_sIf, q_eTup, q_sPass, q_sExp, q_eLm, q_nLst, q_frz, q_thaw, q_iSeq, q_iR2, q_iR3, q_iEnumD, q_iZip, q_andX, q_andT, q_orT, q_notT, q_eCh, q_sPat, q_eSl, q_nSl, q_pS, q_pN, q_sRetN, q_tYes, q_eDct0, okL0, okL1, okL2, okL3, okL4, okL5, okL6, ent, List.map_cons, List.map_nil, List.length_cons, List.length_nil, List.set_cons_zero, List.set_cons_succ, List.replicate, List.cons_append, List.nil_append, Nat.reduceAdd, Nat.reduceSub, Nat.sub_self, Nat.sub_zero, zero_add', ↓reduceIte, Bool.false_eq_true, item0, item1, addD_ii, subD_ii, negD_i, absD_i, ltD_ii, leD_ii, gtD_ii, geD_ii, truD_bl, decide_true, decide_false]
  · simp only [eV0, eVs, bind_ok', then_ok, q_e2, q_e1, q_eC, q_aC, q_aN, q_sPar2, q_sPar3, q_sSet, q_sRet, q_eBf, q_nBf, q_eCall, q_tst, q_tru, q_ifV, q_sIf, q_eTup, q_sPass, q_sExp, q_eLm, q_nLst, q_frz, q_thaw, q_iSeq, q_iR2, q_iR3, q_iEnumD, q_iZip, q_andX, q_andT, q_orT, q_notT, q_eCh, q_sPat, q_eSl, q_nSl, q_pS, q_pN, q_sRetN, q_tYes, q_eDct0, okL0, okL1, okL2, okL3, okL4, okL5, okL6, ent, List.map_cons, List.map_nil, List.length_cons, List.length_nil, List.set_cons_zero, List.set_cons_succ, List.replicate, List.cons_append, List.nil_append, Nat.reduceAdd, Nat.reduceSub, Nat.sub_self, Nat.sub_zero, zero_add', ↓reduceIte, Bool.false_eq_true, item0, item1, addD_ii, subD_ii, negD_i, absD_i, ltD_ii, leD_ii, gtD_ii, geD_ii, truD_bl, decide_true, decide_false, intD_i, modD_ii hb]
theorem lplus_eq {p q : Rat} {a b : Nat} (hp : Sz a p) (hq : Sz b q) (hab : a + b ≤ 8000) (h : Hs) : m__law_plus [fr p, fr q] h = .ok (fr (p + q)) h := by
  have d0 : (0 : Int) < (p.den : Int) * (q.den : Int) := by
    have := Nat.mul_pos (den_pos p) (den_pos q)
    have e : ((p.den * q.den : Nat) : Int) = (p.den : Int) * (q.den : Int) := Int.natCast_mul ..
    omega
  refine mdef_ret (h' := h) ?_
  unfold c__law_plus
  simp only [eV0, eVs, bind_ok', then_ok, q_e2, q_e1, q_eC, q_aC, q_aN, q_sPar2, q_sPar3, q_sSet, q_sRet, q_eBf, q_nBf, q_eCall, q_tst, q_tru, q_ifV, q_sIf, q_eTup, q_sPass, q_sExp, q_eLm, q_nLst, q_frz, q_thaw, q_iSeq, q_iR2, q_iR3, q_iEnumD, q_iZip, q_andX, q_andT, q_orT, q_notT, q_eCh, q_sPat, q_eSl, q_nSl, q_pS, q_pN, q_sRetN, q_tYes, q_eDct0, okL0, okL1, okL2, okL3, okL4, okL5, okL6, ent, List.map_cons, List.map_nil, List.length_cons, List.length_nil, List.set_cons_zero, List.set_cons_succ, List.replicate, List.cons_append, List.nil_append, Nat.reduceAdd, Nat.reduceSub, Nat.sub_self, Nat.sub_zero, zero_add', ↓reduceIte, Bool.false_eq_true, item0, item1, addD_ii, subD_ii, negD_i, absD_i, ltD_ii, leD_ii, gtD_ii, geD_ii, truD_bl, decide_true, decide_false, fr_num, fr_den, mulD_ii (ok_nd hp hq hab), mulD_ii (ok_dn hp hq hab), mulD_ii (ok_dd hp hq hab), low_eq _ _ h d0 (lt9000 hp hq hab (mul_dd hp hq))]
  rw [Rat.add_def', ← Int.natCast_mul, Rat.divInt_ofNat]
/-! ### odds -/
def od (q : Rat) : Option Rat := if q = 1 then none else some (q / (1 - q))
def fo : Option Rat → D
  | none => .non
  | some q => fr q
theorem Sz.od {q r : Rat} {a : Nat} (hq : Sz a q) (e : od q = some r) : Sz (2 * a + 2) r := by
  unfold Pl.od at e
  split at e
  · cases e
  · cases e
    exact (hq.div (sz1.sub hq)).mono (by omega)
end Pl

/-! Plain laws, 6: a Trials object; from which trial on. -/
namespace Pl
open Dl Sh
local instance : Dl.Tb := ⟨fun _ => []⟩

theorem eq_of_wp {α : Type} {r : Dl.R α} {a : α} {h : Hs} (w : Wp r fun d h' => d = a ∧ h' = h) : r = .ok a h := by
  obtain ⟨d, h', e, rfl, rfl⟩ := wp_ex w
  exact e
theorem fields_at {h : Hs} {n : Nat} {C : PySem.Str} {fs : List (PySem.Str × D)} (e : h[n]? = some (.ins C fs)) : fieldsAt C h (.obj n) = some fs := by
  show (match h[n]? with
    | some (.ins C' fs) => if decide (C' = C) then some fs else none
    | _ => none) = _
  rw [e]
  exact if_pos (decide_eq_true rfl)
theorem wps_fld {C f : PySem.Str} {ce co : Env → M D} {ρ : Env} {h : Hs} {N : Env → Hs → Prop} {T : D → Hs → Prop} {v : D} {n : Nat} {fs : List (PySem.Str × D)} {h1 : Hs} (e1 : ce ρ h = .ok v h1) (e2 : co ρ h1 = .ok (.obj n) h1) (e : h1[n]? = some (.ins C fs)) (hl : fs.length < 1000) (k : N ρ (h1.set n (.ins C (putFD f v fs)))) : WpS (sFldD C f ce co ρ h) N T := by
  rw [q_sFldD, e1, then_ok, e2, then_ok, fields_at e]
  show WpS (if decide (fs.length < 1000) = true then _ else _) N T
  rw [if_pos (decide_eq_true hl)]
  exact k
theorem set_last {α : Type} {l : List α} {x y : α} : (l ++ [x]).set l.length y = l ++ [y] := by
  rw [List.set_append_right _ _ (Nat.le_refl _)]
  simp
theorem get_last {α : Type} {l t : List α} {x : α} : (l ++ x :: t)[l.length]? = some x := by
  rw [List.getElem?_append_right (Nat.le_refl _)]
  simp
end Pl

/-! Plain laws, 7: the trial from which to take, the program's way and the law's. -/
namespace Pl
open Dl Sh
local instance : Dl.Tb := ⟨fun _ => []⟩

theorem cutL_from {α : Type} (xs : List α) (m : Nat) : cutL xs (some (m : Int)) none = xs.drop m := by
  unfold cutL
  rw [HT.sIx_nat, HT.sIx_none]
  by_cases h : m ≤ xs.length
  · rw [Nat.min_eq_left h]
    exact List.take_of_length_le (by rw [List.length_drop]; omega)
  · rw [Nat.min_eq_right (by omega), List.drop_of_length_le (Nat.le_refl _), List.drop_of_length_le (by omega)]
    simp
theorem cutL_to {α : Type} (xs : List α) (m : Nat) : cutL xs none (some (m : Int)) = xs.take m := by
  unfold cutL
  rw [HT.sIx_nat, HT.sIx_none, List.drop_zero]
  by_cases h : m ≤ xs.length
  · rw [Nat.min_eq_left h, Nat.sub_zero]
  · rw [Nat.min_eq_right (by omega), Nat.sub_zero, List.take_of_length_le (Nat.le_refl _), List.take_of_length_le (by omega)]
theorem slD_tup_from {xs : List D} {m : Nat} {h : Hs} : sliceD (.tup xs) (some (m : Int)) none h = .ok (.tup (xs.drop m)) h := by
  show Dl.R.ok (D.tup (cutL xs (some (m : Int)) none)) h = _
  rw [cutL_from]
def so : List Rat → Rat
  | [] => 0
  | q :: cs => q / (1 - q) + so cs
def good (cs : List Rat) : Bool := decide ((1 : Rat) ∉ cs ∧ so cs < 1)
/-! ### a sum of fractions -/
end Pl

/-! Plain laws, 8: the law's own way to it; its facts. -/
namespace Pl
open Dl Sh
local instance : Dl.Tb := ⟨fun _ => []⟩

/-! ### a trial ahead, a trial behind -/
end Pl

/-! Plain laws, 9: texts that are shown, compared; the tape made; draws of chances. -/
namespace Pl
open Dl Sh
local instance : Dl.Tb := ⟨fun _ => []⟩

/-! ### the tape is made -/
theorem slD_scr_to {ns : List Int} {m : Nat} {h : Hs} : sliceD (.scr ns) none (some (m : Int)) h = .ok (.lst ((ns.take m).map D.int)) h := by
  rw [show sliceD (.scr ns) none (some (m : Int)) h = ((Dl.R.ok ((cutL ns none (some (m : Int))).map D.int) h : Dl.R (List D)).bind fun xs h1 => .ok (.lst xs) h1) from rfl, cutL_to]
  rfl
theorem pow_1018 {h : Hs} : powD (.int 10) (.int 18) h = .ok (.int 1000000000000000000) h := nr rfl
theorem all_ints : ∀ {l : List D}, (∀ d ∈ l, ∃ i, d = .int i) → ∃ cs : List Int, l = cs.map D.int
  | [], _ => ⟨[], rfl⟩
  | d :: l, h => by
    obtain ⟨i, rfl⟩ := h d List.mem_cons_self
    obtain ⟨cs, e⟩ := all_ints fun x hx => h x (List.mem_cons_of_mem _ hx)
    exact ⟨i :: cs, by rw [e]; rfl⟩
end Pl

/-! Plain laws, 10: chances that are drawn. -/
namespace Pl
open Dl Sh
local instance : Dl.Tb := ⟨fun _ => []⟩

/-- a share of a small size -/
def Sh1 (q : Rat) : Prop := 0 ≤ q ∧ q ≤ 1 ∧ Sz 40 q
theorem div_sh {n d : Int} (h0 : 0 ≤ n) (h1 : n ≤ d) (h2 : 0 < d) (h3 : d < 1099511627776) : Sh1 (Rat.divInt n d) := by
  have dp : (0 : Rat) < (d : Rat) := Rat.intCast_pos.mpr h2
  have e : Rat.divInt n d = (n : Rat) / (d : Rat) := Rat.divInt_eq_div n d
  refine ⟨?_, ?_, ?_⟩
  · exact Rat.divInt_nonneg h0 (by omega)
  · rw [e]
    have c : (n : Rat) ≤ (d : Rat) := Rat.intCast_le_intCast.mpr h1
    have m : (n : Rat) / d * d = n := Rat.div_mul_cancel (by grind)
    rcases Rat.le_total (a := (n : Rat) / d) (b := 1) with z | z
    · exact z
    · have k := Rat.mul_le_mul_of_nonneg_right z (Rat.le_of_lt dp)
      rw [m, Rat.one_mul] at k
      have eq : (n : Rat) = d := Rat.le_antisymm c k
      rw [eq, Rat.div_def, Rat.mul_inv_cancel _ (by grind)]
      exact Rat.le_refl
  · have p : (2 : Nat) ^ 40 = 1099511627776 := by decide
    exact sz_divInt (by rw [p]; omega) (by rw [p]; omega) (by omega)
theorem iR1_eq {cs : Env → M (List D)} {ρ : Env} {h h' : Hs} {n : Nat} (e : cs ρ h = .ok [.int n] h') (l : n ≤ 1000000) : iR1 cs ρ h = .ok ⟨rng 0 1 n, []⟩ h' := by
  rw [q_iR1, e, bind_ok']
  show (if okI n = true then Dl.R.ok (ItD.mk (rng 0 1 ((n : Int)).toNat) []) h' else .bad) = _
  rw [if_pos (okI_of (by omega) (by omega)), Int.toNat_natCast]
theorem Ge.set' {h h' : Hs} {i : Nat} {o : DO} (g : Ge h h') (hi : h.length ≤ i) : Ge h (h'.set i o) := ⟨by rw [List.length_set]; exact g.len, fun j h1 h2 => by rw [List.getElem?_set_ne (by omega)]; exact g.keep j h1 h2⟩
end Pl

/-! Plain laws, 11: draws in general; the hand. -/
namespace Pl
open Dl Sh
local instance : Dl.Tb := ⟨fun _ => []⟩

/-- what stood from b on stands -/
structure Gb (b : Nat) (h h' : Hs) : Prop where
  len : h.length ≤ h'.length
  keep : ∀ j, b ≤ j → j < h.length → h'[j]? = h[j]?
section
variable {b : Nat}
theorem Gb.refl {h : Hs} : Gb b h h := ⟨Nat.le_refl _, fun _ _ _ => rfl⟩
theorem Gb.trans {x y z : Hs} (p : Gb b x y) (q : Gb b y z) : Gb b x z := ⟨Nat.le_trans p.len q.len, fun j h1 h2 => (q.keep j h1 (Nat.lt_of_lt_of_le h2 p.len)).trans (p.keep j h1 h2)⟩
theorem Gb.set {h : Hs} {i : Nat} {o : DO} (hi : i < b) : Gb b h (h.set i o) := ⟨by rw [List.length_set]; exact Nat.le_refl _, fun j h1 _ => List.getElem?_set_ne (by omega)⟩
theorem Gb.app {h : Hs} {l : List DO} : Gb b h (h ++ l) := ⟨by rw [List.length_append]; omega, fun j _ h2 => List.getElem?_append_left h2⟩
theorem Gb.at {h h' : Hs} (g : Gb b h h') {j : Nat} {o : DO} (hj : b ≤ j) (e : h[j]? = some o) : h'[j]? = some o := (g.keep j hj (List.getElem?_eq_some_iff.mp e).1).trans e
theorem Gb.set' {h h' : Hs} {i : Nat} {o : DO} (g : Gb b h h') (hi : h.length ≤ i) : Gb b h (h'.set i o) := ⟨by rw [List.length_set]; exact g.len, fun j h1 h2 => by rw [List.getElem?_set_ne (by omega)]; exact g.keep j h1 h2⟩
end
/-- a way to draw: dm, with the thing o, what stands below b -/
structure Dr (dm : List D → M D) (o : D) (b : Nat) (T : Hs → Nat → Prop) : Prop where
  len : ∀ {h N}, T h N → b ≤ h.length
  app : ∀ {h N} {l : List DO}, T h N → T (h ++ l) N
  set : ∀ {h N i} {x : DO}, T h N → b ≤ i → T (h.set i x) N
  mono : ∀ {h N M}, T h N → N ≤ M → T h M
  draw : ∀ {h : Hs} {N : Nat} {sides : Int} {Q : D → Hs → Prop}, T h N → 0 < sides → sides < 18446744073709551616 → N < 1000000 → (∀ d h', 0 ≤ d → d < sides → T h' (N + 1) → Gb b h h' → Q (.int d) h') → Wp (dm [o, .int sides] h) Q
section
variable {dm : List D → M D} {o : D} {b : Nat} {T : Hs → Nat → Prop} (R : Dr dm o b T)
include R
theorem Dr.any {h : Hs} {N : Nat} {xs : List D} {Q : D → Hs → Prop} (t : T h N) (hx : xs ≠ []) (hl : xs.length ≤ 1000000) (hN : N < 1000000) (k : ∀ d h', d ∈ xs → T h' (N + 1) → Gb b h h' → Q d h') : Wp (mDef 2 (sRet (e2 itemD (eV 1) (eCall 2 dm (aC (eV 0) (aC (eBf lenD (aC (eV 1) aN)) aN))))) [o, .lst xs] h) Q := by
  have hp : 0 < xs.length := List.length_pos_iff.mpr hx
  simp only [eV0, eVs, bind_ok', then_ok, q_e2, q_e1, q_eC, q_aC, q_aN, q_sPar2, q_sPar3, q_sSet, q_sRet, q_eBf, q_nBf, q_eCall, q_tst, q_tru, q_ifV, q_sIf, q_eTup, q_sPass, q_sExp, q_eLm, q_nLst, q_frz, q_thaw, q_iSeq, q_iR2, q_iR3, q_iEnumD, q_iZip, q_andX, q_andT, q_orT, q_notT, q_eCh, q_sPat, q_eSl, q_nSl, q_pS, q_pN, q_sRetN, q_tYes, q_eDct0, okL0, okL1, okL2, okL3, okL4, okL5, okL6, ent, List.map_cons, List.map_nil, List.length_cons, List.length_nil, List.set_cons_zero, List.set_cons_succ, List.replicate, List.cons_append, List.nil_append, Nat.reduceAdd, Nat.reduceSub, Nat.sub_self, Nat.sub_zero, zero_add', ↓reduceIte, Bool.false_eq_true, item0, item1, addD_ii, subD_ii, negD_i, absD_i, ltD_ii, leD_ii, gtD_ii, geD_ii, truD_bl, decide_true, decide_false, wp_ok, wp_bad, wp_bind, wp_nox, wp_def, wps_then, wps_seq, wps_nx, wps_ret, wp_ite, wps_ite, lenD_lst]
  refine R.draw t (sides := xs.length) (by omega) (by omega) hN fun d h' d0 d1 t' g => ?_
  obtain ⟨i, rfl⟩ : ∃ i : Nat, d = i := ⟨d.toNat, by omega⟩
  have hi : i < xs.length := by omega
  rw [item_lst (List.getElem?_eq_getElem hi), wp_ok]
  exact k _ _ (List.getElem_mem hi) t' g
/-- a comprehension over things, its items drawn -/
theorem Dr.comp {p : Pat} {ce : Env → M D} {ρ : Env} {h : Hs} {N c : Nat} {xs : List D} {Q : List D → Hs → Prop} (P : D → Prop) (t : T h N)
    (step : ∀ (j : Nat) (x : D) (h' : Hs), xs[j]? = some x → T h' (N + c * j) → Gb b h h' → ∃ ρ1, patD p x ρ = some ρ1 ∧ Wp (ce ρ1 h') fun d h2 => P d ∧ T h2 (N + c * j + c) ∧ Gb b h' h2)
    (k : ∀ ds h', ds.length = xs.length → (∀ d ∈ ds, P d) → T h' (N + c * xs.length) → Gb b h h' → Q ds h') : Wp (lcF p tYes' ce [] ρ xs h) Q := by
  refine wp_lc (fun j h' => T h' (N + c * j) ∧ Gb b h h') P xs 0 h ?_ (fun _ _ => rfl) ⟨t, .refl⟩ ?_
  · rintro j x h' hx ⟨t', g'⟩
    rw [Nat.zero_add] at t' ⊢
    obtain ⟨ρ1, e, s⟩ := step j x h' hx t' g'
    refine ⟨rfl, ρ1, e, wp_mono s fun d h2 ⟨pd, t2, g2⟩ => ⟨pd, ?_, g'.trans g2⟩⟩
    rw [Nat.mul_add, Nat.mul_one, ← Nat.add_assoc]
    exact t2
  · intro ds h' hl hp ⟨t', g'⟩
    rw [Nat.zero_add] at t'
    exact k ds h' hl hp t' g'
theorem Dr.range1 {h : Hs} {N : Nat} {ce : Env → M D} {ρ : Env} {s : Int} {Q : ItD → Hs → Prop} (t : T h N) (h0 : 0 < s) (hs : s ≤ 1000) (hN : N < 1000000) (e0 : eV 0 ρ h = .ok o h) (es : ce ρ h = .ok (.int s) h) (k : ∀ (n : Nat) h', 1 ≤ n → (n : Int) ≤ s → T h' (N + 1) → Gb b h h' → Q ⟨rng 0 1 n, []⟩ h') : Wp (iR1 (aC (e2 addD (eC (.int 1)) (eCall 2 dm (aC (eV 0) (aC ce aN)))) aN) ρ h) Q := by
  rw [q_iR1]
  simp only [eV0, eVs, bind_ok', then_ok, q_e2, q_e1, q_eC, q_aC, q_aN, q_sPar2, q_sPar3, q_sSet, q_sRet, q_eBf, q_nBf, q_eCall, q_tst, q_tru, q_ifV, q_sIf, q_eTup, q_sPass, q_sExp, q_eLm, q_nLst, q_frz, q_thaw, q_iSeq, q_iR2, q_iR3, q_iEnumD, q_iZip, q_andX, q_andT, q_orT, q_notT, q_eCh, q_sPat, q_eSl, q_nSl, q_pS, q_pN, q_sRetN, q_tYes, q_eDct0, okL0, okL1, okL2, okL3, okL4, okL5, okL6, ent, List.map_cons, List.map_nil, List.length_cons, List.length_nil, List.set_cons_zero, List.set_cons_succ, List.replicate, List.cons_append, List.nil_append, Nat.reduceAdd, Nat.reduceSub, Nat.sub_self, Nat.sub_zero, zero_add', ↓reduceIte, Bool.false_eq_true, item0, item1, addD_ii, subD_ii, negD_i, absD_i, ltD_ii, leD_ii, gtD_ii, geD_ii, truD_bl, decide_true, decide_false, wp_ok, wp_bad, wp_bind, wp_nox, wp_def, wps_then, wps_seq, wps_nx, wps_ret, wp_ite, wps_ite, e0, es]
  refine R.draw t h0 (by omega) hN fun d h1 d0 d1 t1 g1 => ?_
  simp only [addD_ii, wp_ok]
  rw [if_pos (okI_of (by omega) (by omega))]
  exact k (1 + d).toNat h1 (by omega) (by omega) t1 g1
end
/-! ### the hand -/
/-- the hand stands at 0; N bounds the draws so far -/
structure Hd (h : Hs) (N : Nat) : Prop where
  ex : ∃ (cs : List Int) (p : Nat) (z s n : Int), h[0]? = some (.lst [.lst (cs.map D.int), .int p, .int z, .int s, .int n]) ∧ (∀ c ∈ cs, 0 ≤ c ∧ PySem.Builtin.Int.intBits c ≤ 1048576) ∧ 0 ≤ z ∧ 0 ≤ s ∧ s < 4294967296 ∧ 0 ≤ n ∧ n ≤ N
theorem Hd.one {h : Hs} {N : Nat} (t : Hd h N) : 1 ≤ h.length := by
  obtain ⟨cs, p, z, s, n, h1, _⟩ := t.ex
  exact (List.getElem?_eq_some_iff.mp h1).1
/-- a draw from the hand, its number put on by e3 -/
def cHand (e3 : Env → M D) : SM := sSeq (sIf (andT (tst (e2 eqD (e2 itemD (eV 0) (eC (.int 2))) (eC (.int 0)))) (tst (e2 ltD (e2 itemD (eV 0) (eC (.int 1))) (eBf lenD (aC (e2 itemD (eV 0) (eC (.int 0))) aN))))) (sSeq (sSet 2 (e2 itemD (e2 itemD (eV 0) (eC (.int 0))) (e2 itemD (eV 0) (eC (.int 1))))) (sSeq (sStore (e2 addD (e2 itemD (eV 0) (eC (.int 1))) (eC (.int 1))) (eV 0) (eC (.int 1))) (sSeq (sStore (e2 modD (eBf intD (aC e3 aN)) (eC (.int 2147483629))) (eV 0) (eC (.int 3))) (sIf (tst (e2 geD (eV 2) (e2 powD (eC (.int 10)) (eC (.int 18))))) (sStore (eV 2) (eV 0) (eC (.int 2))) (sPass))))) (sPass)) (sSeq (sIf (tst (e2 gtD (e2 itemD (eV 0) (eC (.int 2))) (eC (.int 0)))) (sSeq (sSet 3 (e2 modD (eBf intD (aC (e2 itemD (eV 0) (eC (.int 2))) aN)) (eV 1))) (sSeq (sStore (e2 divD (e2 itemD (eV 0) (eC (.int 2))) (eV 1)) (eV 0) (eC (.int 2))) (sRet (eV 3)))) (sPass)) (sSeq (sStore (e2 addD (e2 itemD (eV 0) (eC (.int 4))) (eC (.int 1))) (eV 0) (eC (.int 4))) (sSeq (sSet 4 (e2 modD (eBf intD (aC (e2 mulD (eBf intD (aC (e2 addD (e2 itemD (eV 0) (eC (.int 3))) (e2 mulD (eC (.int 7919)) (e2 itemD (eV 0) (eC (.int 4))))) aN)) (eC (.int 48271))) aN)) (eC (.int 2147483647)))) (sSeq (sSet 4 (e2 modD (eBf intD (aC (e2 mulD (eV 4) (e2 addD (e2 divD (eV 4) (eC (.int 1009))) (eC (.int 69621)))) aN)) (eC (.int 2147483647)))) (sSeq (sSet 4 (e2 modD (eBf intD (aC (e2 mulD (eV 4) (e2 addD (e2 divD (eV 4) (eC (.int 2003))) (eC (.int 40692)))) aN)) (eC (.int 2147483399)))) (sRet (e2 modD (eBf intD (aC (e2 divD (eV 4) (eC (.int 16))) aN)) (eV 1))))))))
theorem hand_draw {e3 : Env → M D} (he : ∀ (h : Hs) (l z n : D) (p s c : Int) (a b d : Option D), h[0]? = some (.lst [l, .int p, z, .int s, n]) → 0 ≤ s → s < 4294967296 → 0 ≤ c → PySem.Builtin.Int.intBits c ≤ 1048576 → ∃ v, e3 [some (.obj 0), a, some (.int c), b, d] h = .ok (.int v) h) {h : Hs} {N : Nat} {sides : Int} {Q : D → Hs → Prop} (t : Hd h N) (h0 : 0 < sides) (hs : sides < 18446744073709551616) (hN : N < 1000000) (k : ∀ d h', 0 ≤ d → d < sides → Hd h' (N + 1) → Gb 1 h h' → Q (.int d) h') : Wp (mDef 5 (cHand e3) [.obj 0, .int sides] h) Q := by
  have one := t.one
  have e1 : ent 5 [D.obj 0, .int sides] = [some (.obj 0), some (.int sides), none, none, none] := rfl
  -- the end, no cell to be used up
  have last : ∀ (g : Hs) (cs : List Int) (p : Nat) (z s n : Int) (a2 a3 : Option D), g[0]? = some (.lst [.lst (cs.map D.int), .int p, .int z, .int s, .int n]) → (∀ c ∈ cs, 0 ≤ c ∧ PySem.Builtin.Int.intBits c ≤ 1048576) → 0 ≤ z → 0 ≤ s → s < 4294967296 → 0 ≤ n → n ≤ N → Gb 1 h g →
      WpS (sSeq (sIf (tst (e2 gtD (e2 itemD (eV 0) (eC (.int 2))) (eC (.int 0)))) (sSeq (sSet 3 (e2 modD (eBf intD (aC (e2 itemD (eV 0) (eC (.int 2))) aN)) (eV 1))) (sSeq (sStore (e2 divD (e2 itemD (eV 0) (eC (.int 2))) (eV 1)) (eV 0) (eC (.int 2))) (sRet (eV 3)))) (sPass)) (sSeq (sStore (e2 addD (e2 itemD (eV 0) (eC (.int 4))) (eC (.int 1))) (eV 0) (eC (.int 4))) (sSeq (sSet 4 (e2 modD (eBf intD (aC (e2 mulD (eBf intD (aC (e2 addD (e2 itemD (eV 0) (eC (.int 3))) (e2 mulD (eC (.int 7919)) (e2 itemD (eV 0) (eC (.int 4))))) aN)) (eC (.int 48271))) aN)) (eC (.int 2147483647)))) (sSeq (sSet 4 (e2 modD (eBf intD (aC (e2 mulD (eV 4) (e2 addD (e2 divD (eV 4) (eC (.int 1009))) (eC (.int 69621)))) aN)) (eC (.int 2147483647)))) (sSeq (sSet 4 (e2 modD (eBf intD (aC (e2 mulD (eV 4) (e2 addD (e2 divD (eV 4) (eC (.int 2003))) (eC (.int 40692)))) aN)) (eC (.int 2147483399)))) (sRet (e2 modD (eBf intD (aC (e2 divD (eV 4) (eC (.int 16))) aN)) (eV 1))))))) [some (.obj 0), some (.int sides), a2, a3, none] g) (fun _ h => Q .non h) Q := by
    intro g cs p z s n a2 a3 g0 hc z0 s0 s1 n0 n1 gg
    have lg : 0 < g.length := (List.getElem?_eq_some_iff.mp g0).1
    have i2 : itemD (.obj 0) (.int 2) g = .ok (.int z) g := item_obj (i := 2) g0 rfl
    simp only [eV0, eVs, bind_ok', then_ok, q_e2, q_e1, q_eC, q_aC, q_aN, q_sPar2, q_sPar3, q_sSet, q_sRet, q_eBf, q_nBf, q_eCall, q_tst, q_tru, q_ifV, q_sIf, q_eTup, q_sPass, q_sExp, q_eLm, q_nLst, q_frz, q_thaw, q_iSeq, q_iR2, q_iR3, q_iEnumD, q_iZip, q_andX, q_andT, q_orT, q_notT, q_eCh, q_sPat, q_eSl, q_nSl, q_pS, q_pN, q_sRetN, q_tYes, q_eDct0, okL0, okL1, okL2, okL3, okL4, okL5, okL6, ent, List.map_cons, List.map_nil, List.length_cons, List.length_nil, List.set_cons_zero, List.set_cons_succ, List.replicate, List.cons_append, List.nil_append, Nat.reduceAdd, Nat.reduceSub, Nat.sub_self, Nat.sub_zero, zero_add', ↓reduceIte, Bool.false_eq_true, item0, item1, addD_ii, subD_ii, negD_i, absD_i, ltD_ii, leD_ii, gtD_ii, geD_ii, truD_bl, decide_true, decide_false, wp_ok, wp_bad, wp_bind, wp_nox, wp_def, wps_then, wps_seq, wps_nx, wps_ret, wp_ite, wps_ite, i2]
    by_cases zp : 0 < z
    · have st : setItemD (.obj 0) (.int 2) (.int (z / sides)) g = some (g.set 0 (.lst [.lst (cs.map D.int), .int p, .int (z / sides), .int s, .int n])) := set_obj (i := 2) g0 (by simp)
      simp only [decide_eq_true zp, eV0, eVs, bind_ok', then_ok, q_e2, q_e1, q_eC, q_aC, q_aN, q_sPar2, q_sPar3, q_sSet, q_sRet, q_eBf, q_nBf, q_eCall, q_tst, q_tru, q_ifV, q_sIf, q_eTup, q_sPass, q_sExp, q_eLm, q_nLst, q_frz, q_thaw, q_iSeq, q_iR2, q_iR3, q_iEnumD, q_iZip, q_andX, q_andT, q_orT, q_notT, q_eCh, q_sPat, q_eSl, q_nSl, q_pS, q_pN, q_sRetN, q_tYes, q_eDct0, okL0, okL1, okL2, okL3, okL4, okL5, okL6, ent, List.map_cons, List.map_nil, List.length_cons, List.length_nil, List.set_cons_zero, List.set_cons_succ, List.replicate, List.cons_append, List.nil_append, Nat.reduceAdd, Nat.reduceSub, Nat.sub_self, Nat.sub_zero, zero_add', ↓reduceIte, Bool.false_eq_true, item0, item1, addD_ii, subD_ii, negD_i, absD_i, ltD_ii, leD_ii, gtD_ii, geD_ii, truD_bl, decide_true, decide_false, wp_ok, wp_bad, wp_bind, wp_nox, wp_def, wps_then, wps_seq, wps_nx, wps_ret, wp_ite, wps_ite, wps_store, i2, intD_i, modD_ii h0, divD_ii (okDiv_small (i := z) h0 (by omega)), st]
      refine k _ _ (Int.emod_nonneg _ (by omega)) (Int.emod_lt_of_pos _ h0) ⟨cs, p, z / sides, s, n, List.getElem?_set_self lg, hc, Int.ediv_nonneg z0 (by omega), s0, s1, n0, by omega⟩ (gg.trans (.set (by decide)))
    · have i4 : itemD (.obj 0) (.int 4) g = .ok (.int n) g := item_obj (i := 4) g0 rfl
      have st : setItemD (.obj 0) (.int 4) (.int (n + 1)) g = some (g.set 0 (.lst [.lst (cs.map D.int), .int p, .int z, .int s, .int (n + 1)])) := set_obj (i := 4) g0 (by simp)
      simp only [decide_eq_false zp, eV0, eVs, bind_ok', then_ok, q_e2, q_e1, q_eC, q_aC, q_aN, q_sPar2, q_sPar3, q_sSet, q_sRet, q_eBf, q_nBf, q_eCall, q_tst, q_tru, q_ifV, q_sIf, q_eTup, q_sPass, q_sExp, q_eLm, q_nLst, q_frz, q_thaw, q_iSeq, q_iR2, q_iR3, q_iEnumD, q_iZip, q_andX, q_andT, q_orT, q_notT, q_eCh, q_sPat, q_eSl, q_nSl, q_pS, q_pN, q_sRetN, q_tYes, q_eDct0, okL0, okL1, okL2, okL3, okL4, okL5, okL6, ent, List.map_cons, List.map_nil, List.length_cons, List.length_nil, List.set_cons_zero, List.set_cons_succ, List.replicate, List.cons_append, List.nil_append, Nat.reduceAdd, Nat.reduceSub, Nat.sub_self, Nat.sub_zero, zero_add', ↓reduceIte, Bool.false_eq_true, item0, item1, addD_ii, subD_ii, negD_i, absD_i, ltD_ii, leD_ii, gtD_ii, geD_ii, truD_bl, decide_true, decide_false, wp_ok, wp_bad, wp_bind, wp_nox, wp_def, wps_then, wps_seq, wps_nx, wps_ret, wp_ite, wps_ite, wps_store, sPass, i4, st]
      have f0 : (g.set 0 (.lst [.lst (cs.map D.int), .int p, .int z, .int s, .int (n + 1)]))[0]? = some (.lst [.lst (cs.map D.int), .int p, .int z, .int s, .int (n + 1)]) := List.getElem?_set_self lg
      have ff : Gb 1 h (g.set 0 (.lst [.lst (cs.map D.int), .int p, .int z, .int s, .int (n + 1)])) := gg.trans (.set (by decide))
      generalize g.set 0 (.lst [.lst (cs.map D.int), .int p, .int z, .int s, .int (n + 1)]) = f at f0 ff ⊢
      have j3 : itemD (.obj 0) (.int 3) f = .ok (.int s) f := item_obj (i := 3) f0 rfl
      have j4 : itemD (.obj 0) (.int 4) f = .ok (.int (n + 1)) f := item_obj (i := 4) f0 rfl
      have m1 : okMul 7919 (n + 1) = true := okMul_small (by decide +kernel) (small_lt (by omega))
      have m2 : okMul (s + 7919 * (n + 1)) 48271 = true := okMul_small (small_lt (by omega)) (by decide +kernel)
      have b0 := Int.emod_nonneg ((s + 7919 * (n + 1)) * 48271) (show (2147483647 : Int) ≠ 0 by decide)
      have b1 := Int.emod_lt_of_pos ((s + 7919 * (n + 1)) * 48271) (show (0 : Int) < 2147483647 by decide)
      simp only [eV0, eVs, bind_ok', then_ok, q_e2, q_e1, q_eC, q_aC, q_aN, q_sPar2, q_sPar3, q_sSet, q_sRet, q_eBf, q_nBf, q_eCall, q_tst, q_tru, q_ifV, q_sIf, q_eTup, q_sPass, q_sExp, q_eLm, q_nLst, q_frz, q_thaw, q_iSeq, q_iR2, q_iR3, q_iEnumD, q_iZip, q_andX, q_andT, q_orT, q_notT, q_eCh, q_sPat, q_eSl, q_nSl, q_pS, q_pN, q_sRetN, q_tYes, q_eDct0, okL0, okL1, okL2, okL3, okL4, okL5, okL6, ent, List.map_cons, List.map_nil, List.length_cons, List.length_nil, List.set_cons_zero, List.set_cons_succ, List.replicate, List.cons_append, List.nil_append, Nat.reduceAdd, Nat.reduceSub, Nat.sub_self, Nat.sub_zero, zero_add', ↓reduceIte, Bool.false_eq_true, item0, item1, addD_ii, subD_ii, negD_i, absD_i, ltD_ii, leD_ii, gtD_ii, geD_ii, truD_bl, decide_true, decide_false, wp_ok, wp_bad, wp_bind, wp_nox, wp_def, wps_then, wps_seq, wps_nx, wps_ret, wp_ite, wps_ite, j3, j4, mulD_ii m1, mulD_ii m2, intD_i, modD_ii (show (0 : Int) < 2147483647 by decide)]
      generalize (s + 7919 * (n + 1)) * 48271 % 2147483647 = x at b0 b1 ⊢
      obtain ⟨m3, _⟩ := mixed_le b0 b1
      have c0 := Int.emod_nonneg (x * (x / 1009 + 69621)) (show (2147483647 : Int) ≠ 0 by decide)
      have c1 := Int.emod_lt_of_pos (x * (x / 1009 + 69621)) (show (0 : Int) < 2147483647 by decide)
      simp only [eV0, eVs, bind_ok', then_ok, q_e2, q_e1, q_eC, q_aC, q_aN, q_sPar2, q_sPar3, q_sSet, q_sRet, q_eBf, q_nBf, q_eCall, q_tst, q_tru, q_ifV, q_sIf, q_eTup, q_sPass, q_sExp, q_eLm, q_nLst, q_frz, q_thaw, q_iSeq, q_iR2, q_iR3, q_iEnumD, q_iZip, q_andX, q_andT, q_orT, q_notT, q_eCh, q_sPat, q_eSl, q_nSl, q_pS, q_pN, q_sRetN, q_tYes, q_eDct0, okL0, okL1, okL2, okL3, okL4, okL5, okL6, ent, List.map_cons, List.map_nil, List.length_cons, List.length_nil, List.set_cons_zero, List.set_cons_succ, List.replicate, List.cons_append, List.nil_append, Nat.reduceAdd, Nat.reduceSub, Nat.sub_self, Nat.sub_zero, zero_add', ↓reduceIte, Bool.false_eq_true, item0, item1, addD_ii, subD_ii, negD_i, absD_i, ltD_ii, leD_ii, gtD_ii, geD_ii, truD_bl, decide_true, decide_false, wp_ok, wp_bad, wp_bind, wp_nox, wp_def, wps_then, wps_seq, wps_nx, wps_ret, wp_ite, wps_ite, divD_ii (okDiv_small (i := x) (j := 1009) (by decide) (by decide)), mulD_ii m3, intD_i, modD_ii (show (0 : Int) < 2147483647 by decide)]
      generalize x * (x / 1009 + 69621) % 2147483647 = y at c0 c1 ⊢
      obtain ⟨_, m4⟩ := mixed_le c0 c1
      simp only [eV0, eVs, bind_ok', then_ok, q_e2, q_e1, q_eC, q_aC, q_aN, q_sPar2, q_sPar3, q_sSet, q_sRet, q_eBf, q_nBf, q_eCall, q_tst, q_tru, q_ifV, q_sIf, q_eTup, q_sPass, q_sExp, q_eLm, q_nLst, q_frz, q_thaw, q_iSeq, q_iR2, q_iR3, q_iEnumD, q_iZip, q_andX, q_andT, q_orT, q_notT, q_eCh, q_sPat, q_eSl, q_nSl, q_pS, q_pN, q_sRetN, q_tYes, q_eDct0, okL0, okL1, okL2, okL3, okL4, okL5, okL6, ent, List.map_cons, List.map_nil, List.length_cons, List.length_nil, List.set_cons_zero, List.set_cons_succ, List.replicate, List.cons_append, List.nil_append, Nat.reduceAdd, Nat.reduceSub, Nat.sub_self, Nat.sub_zero, zero_add', ↓reduceIte, Bool.false_eq_true, item0, item1, addD_ii, subD_ii, negD_i, absD_i, ltD_ii, leD_ii, gtD_ii, geD_ii, truD_bl, decide_true, decide_false, wp_ok, wp_bad, wp_bind, wp_nox, wp_def, wps_then, wps_seq, wps_nx, wps_ret, wp_ite, wps_ite, divD_ii (okDiv_small (i := y) (j := 2003) (by decide) (by decide)), mulD_ii m4, intD_i, modD_ii (show (0 : Int) < 2147483399 by decide)]
      generalize y * (y / 2003 + 40692) % 2147483399 = u
      simp only [eV0, eVs, bind_ok', then_ok, q_e2, q_e1, q_eC, q_aC, q_aN, q_sPar2, q_sPar3, q_sSet, q_sRet, q_eBf, q_nBf, q_eCall, q_tst, q_tru, q_ifV, q_sIf, q_eTup, q_sPass, q_sExp, q_eLm, q_nLst, q_frz, q_thaw, q_iSeq, q_iR2, q_iR3, q_iEnumD, q_iZip, q_andX, q_andT, q_orT, q_notT, q_eCh, q_sPat, q_eSl, q_nSl, q_pS, q_pN, q_sRetN, q_tYes, q_eDct0, okL0, okL1, okL2, okL3, okL4, okL5, okL6, ent, List.map_cons, List.map_nil, List.length_cons, List.length_nil, List.set_cons_zero, List.set_cons_succ, List.replicate, List.cons_append, List.nil_append, Nat.reduceAdd, Nat.reduceSub, Nat.sub_self, Nat.sub_zero, zero_add', ↓reduceIte, Bool.false_eq_true, item0, item1, addD_ii, subD_ii, negD_i, absD_i, ltD_ii, leD_ii, gtD_ii, geD_ii, truD_bl, decide_true, decide_false, wp_ok, wp_bad, wp_bind, wp_nox, wp_def, wps_then, wps_seq, wps_nx, wps_ret, wp_ite, wps_ite, divD_ii (okDiv_small (i := u) (j := 16) (by decide) (by decide)), intD_i, modD_ii h0]
      exact k _ _ (Int.emod_nonneg _ (by omega)) (Int.emod_lt_of_pos _ h0) ⟨cs, p, z, s, n + 1, f0, hc, z0, s0, s1, by omega, by omega⟩ ff
  obtain ⟨cs, p, z, s, n, g0, hc, z0, s0, s1, n0, n1⟩ := t.ex
  have i0 : itemD (.obj 0) (.int 0) h = .ok (.lst (cs.map D.int)) h := item_obj (i := 0) g0 rfl
  have i1 : itemD (.obj 0) (.int 1) h = .ok (.int p) h := item_obj (i := 1) g0 rfl
  have i2 : itemD (.obj 0) (.int 2) h = .ok (.int z) h := item_obj (i := 2) g0 rfl
  rw [wp_def, e1]
  unfold cHand
  rw [wps_seq]
  refine wps_mono (N := fun ρ g => ∃ (cs : List Int) (p : Nat) (z s n : Int) (a2 : Option D), ρ = [some (.obj 0), some (.int sides), a2, none, none] ∧ g[0]? = some (.lst [.lst (cs.map D.int), .int p, .int z, .int s, .int n]) ∧ (∀ c ∈ cs, 0 ≤ c ∧ PySem.Builtin.Int.intBits c ≤ 1048576) ∧ 0 ≤ z ∧ 0 ≤ s ∧ s < 4294967296 ∧ 0 ≤ n ∧ n ≤ N ∧ Gb 1 h g) (T := fun d h => Q d h) ?_ (fun ρ g ⟨cs, p, z, s, n, a2, e, g0, r1, r2, r3, r4, r5, r6, r7⟩ => by rw [e]; exact last g cs p z s n a2 none g0 r1 r2 r3 r4 r5 r6 r7) (fun _ _ q => q)
  rw [q_sIf, wps_then, q_andT]
  simp only [eV0, eVs, bind_ok', then_ok, q_e2, q_e1, q_eC, q_aC, q_aN, q_sPar2, q_sPar3, q_sSet, q_sRet, q_eBf, q_nBf, q_eCall, q_tst, q_tru, q_ifV, q_sIf, q_eTup, q_sPass, q_sExp, q_eLm, q_nLst, q_frz, q_thaw, q_iSeq, q_iR2, q_iR3, q_iEnumD, q_iZip, q_andX, q_andT, q_orT, q_notT, q_eCh, q_sPat, q_eSl, q_nSl, q_pS, q_pN, q_sRetN, q_tYes, q_eDct0, okL0, okL1, okL2, okL3, okL4, okL5, okL6, ent, List.map_cons, List.map_nil, List.length_cons, List.length_nil, List.set_cons_zero, List.set_cons_succ, List.replicate, List.cons_append, List.nil_append, Nat.reduceAdd, Nat.reduceSub, Nat.sub_self, Nat.sub_zero, zero_add', ↓reduceIte, Bool.false_eq_true, item0, item1, addD_ii, subD_ii, negD_i, absD_i, ltD_ii, leD_ii, gtD_ii, geD_ii, truD_bl, decide_true, decide_false, wp_ok, wp_bad, wp_bind, wp_nox, wp_def, wps_then, wps_seq, wps_nx, wps_ret, wp_ite, wps_ite, i0, i1, i2, eqD_ii, lenD_lst, List.length_map]
  by_cases zz : z = 0
  · simp only [decide_eq_true zz, ↓reduceIte, wp_ok]
    by_cases pl : (p : Int) < cs.length
    · have pn : p < cs.length := by omega
      obtain ⟨c0, cb⟩ := hc _ (List.getElem_mem pn)
      have ic : itemD (.lst (cs.map D.int)) (.int p) h = .ok (.int cs[p]) h := item_lst (by rw [List.getElem?_map, List.getElem?_eq_getElem pn]; rfl)
      generalize cs[p] = c at c0 cb ic
      have st1 : setItemD (.obj 0) (.int 1) (.int ((p : Int) + 1)) h = some (h.set 0 (.lst [.lst (cs.map D.int), .int ((p + 1 : Nat) : Int), .int z, .int s, .int n])) := by
        have := set_obj (i := 1) (v := .int ((p : Int) + 1)) g0 (by simp)
        simpa using this
      simp only [decide_eq_true pl, ↓reduceIte, wps_store, eV0, eVs, bind_ok', then_ok, q_e2, q_e1, q_eC, q_aC, q_aN, q_sPar2, q_sPar3, q_sSet, q_sRet, q_eBf, q_nBf, q_eCall, q_tst, q_tru, q_ifV, q_sIf, q_eTup, q_sPass, q_sExp, q_eLm, q_nLst, q_frz, q_thaw, q_iSeq, q_iR2, q_iR3, q_iEnumD, q_iZip, q_andX, q_andT, q_orT, q_notT, q_eCh, q_sPat, q_eSl, q_nSl, q_pS, q_pN, q_sRetN, q_tYes, q_eDct0, okL0, okL1, okL2, okL3, okL4, okL5, okL6, ent, List.map_cons, List.map_nil, List.length_cons, List.length_nil, List.set_cons_zero, List.set_cons_succ, List.replicate, List.cons_append, List.nil_append, Nat.reduceAdd, Nat.reduceSub, Nat.sub_self, Nat.sub_zero, zero_add', ↓reduceIte, Bool.false_eq_true, item0, item1, addD_ii, subD_ii, negD_i, absD_i, ltD_ii, leD_ii, gtD_ii, geD_ii, truD_bl, decide_true, decide_false, wp_ok, wp_bad, wp_bind, wp_nox, wp_def, wps_then, wps_seq, wps_nx, wps_ret, wp_ite, wps_ite, i0, i1, ic, st1]
      have f0 : (h.set 0 (.lst [.lst (cs.map D.int), .int ((p + 1 : Nat) : Int), .int z, .int s, .int n]))[0]? = some (.lst [.lst (cs.map D.int), .int ((p + 1 : Nat) : Int), .int z, .int s, .int n]) := List.getElem?_set_self (by omega)
      have ff : Gb 1 h (h.set 0 (.lst [.lst (cs.map D.int), .int ((p + 1 : Nat) : Int), .int z, .int s, .int n])) := .set (by decide)
      generalize h.set 0 (.lst [.lst (cs.map D.int), .int ((p + 1 : Nat) : Int), .int z, .int s, .int n]) = f at f0 ff ⊢
      obtain ⟨v, hv⟩ := he f _ _ _ _ s c (some (.int sides)) none none f0 s0 s1 c0 cb
      have v0 := Int.emod_nonneg v (show (2147483629 : Int) ≠ 0 by decide)
      have v1 := Int.emod_lt_of_pos v (show (0 : Int) < 2147483629 by decide)
      have lf : 0 < f.length := (List.getElem?_eq_some_iff.mp f0).1
      have st2 : setItemD (.obj 0) (.int 3) (.int (v % 2147483629)) f = some (f.set 0 (.lst [.lst (cs.map D.int), .int ((p + 1 : Nat) : Int), .int z, .int (v % 2147483629), .int n])) := set_obj (i := 3) f0 (by simp)
      simp only [hv, bind_ok', wp_ok, intD_i, modD_ii (show (0 : Int) < 2147483629 by decide), st2, wps_nx]
      generalize v % 2147483629 = s' at v0 v1 st2 ⊢
      have e0 : (f.set 0 (.lst [.lst (cs.map D.int), .int ((p + 1 : Nat) : Int), .int z, .int s', .int n]))[0]? = some (.lst [.lst (cs.map D.int), .int ((p + 1 : Nat) : Int), .int z, .int s', .int n]) := List.getElem?_set_self lf
      have ee : Gb 1 h (f.set 0 (.lst [.lst (cs.map D.int), .int ((p + 1 : Nat) : Int), .int z, .int s', .int n])) := ff.trans (.set (by decide))
      generalize f.set 0 (.lst [.lst (cs.map D.int), .int ((p + 1 : Nat) : Int), .int z, .int s', .int n]) = e at e0 ee ⊢
      have le : 0 < e.length := (List.getElem?_eq_some_iff.mp e0).1
      by_cases big : (1000000000000000000 : Int) ≤ c
      · have st3 : setItemD (.obj 0) (.int 2) (.int c) e = some (e.set 0 (.lst [.lst (cs.map D.int), .int ((p + 1 : Nat) : Int), .int c, .int s', .int n])) := set_obj (i := 2) e0 (by simp)
        simp only [pow_1018, wps_store, eV0, eVs, bind_ok', then_ok, q_e2, q_e1, q_eC, q_aC, q_aN, q_sPar2, q_sPar3, q_sSet, q_sRet, q_eBf, q_nBf, q_eCall, q_tst, q_tru, q_ifV, q_sIf, q_eTup, q_sPass, q_sExp, q_eLm, q_nLst, q_frz, q_thaw, q_iSeq, q_iR2, q_iR3, q_iEnumD, q_iZip, q_andX, q_andT, q_orT, q_notT, q_eCh, q_sPat, q_eSl, q_nSl, q_pS, q_pN, q_sRetN, q_tYes, q_eDct0, okL0, okL1, okL2, okL3, okL4, okL5, okL6, ent, List.map_cons, List.map_nil, List.length_cons, List.length_nil, List.set_cons_zero, List.set_cons_succ, List.replicate, List.cons_append, List.nil_append, Nat.reduceAdd, Nat.reduceSub, Nat.sub_self, Nat.sub_zero, zero_add', ↓reduceIte, Bool.false_eq_true, item0, item1, addD_ii, subD_ii, negD_i, absD_i, ltD_ii, leD_ii, gtD_ii, geD_ii, truD_bl, decide_true, decide_false, wp_ok, wp_bad, wp_bind, wp_nox, wp_def, wps_then, wps_seq, wps_nx, wps_ret, wp_ite, wps_ite, decide_eq_true big, st3]
        exact ⟨cs, p + 1, c, s', n, _, rfl, List.getElem?_set_self le, hc, c0, v0, by omega, n0, n1, ee.trans (.set (by decide))⟩
      · simp only [pow_1018, wps_store, eV0, eVs, bind_ok', then_ok, q_e2, q_e1, q_eC, q_aC, q_aN, q_sPar2, q_sPar3, q_sSet, q_sRet, q_eBf, q_nBf, q_eCall, q_tst, q_tru, q_ifV, q_sIf, q_eTup, q_sPass, q_sExp, q_eLm, q_nLst, q_frz, q_thaw, q_iSeq, q_iR2, q_iR3, q_iEnumD, q_iZip, q_andX, q_andT, q_orT, q_notT, q_eCh, q_sPat, q_eSl, q_nSl, q_pS, q_pN, q_sRetN, q_tYes, q_eDct0, okL0, okL1, okL2, okL3, okL4, okL5, okL6, ent, List.map_cons, List.map_nil, List.length_cons, List.length_nil, List.set_cons_zero, List.set_cons_succ, List.replicate, List.cons_append, List.nil_append, Nat.reduceAdd, Nat.reduceSub, Nat.sub_self, Nat.sub_zero, zero_add', ↓reduceIte, Bool.false_eq_true, item0, item1, addD_ii, subD_ii, negD_i, absD_i, ltD_ii, leD_ii, gtD_ii, geD_ii, truD_bl, decide_true, decide_false, wp_ok, wp_bad, wp_bind, wp_nox, wp_def, wps_then, wps_seq, wps_nx, wps_ret, wp_ite, wps_ite, decide_eq_false big, sPass]
        exact ⟨cs, p + 1, z, s', n, _, rfl, e0, hc, z0, v0, by omega, n0, n1, ee⟩
    · simp only [decide_eq_false pl, Bool.false_eq_true, ↓reduceIte, sPass, wps_nx]
      exact ⟨cs, p, z, s, n, _, rfl, g0, hc, z0, s0, s1, n0, n1, .refl⟩
  · simp only [decide_eq_false zz, Bool.false_eq_true, ↓reduceIte, sPass, wps_nx, wp_ok]
    exact ⟨cs, p, z, s, n, _, rfl, g0, hc, z0, s0, s1, n0, n1, .refl⟩
theorem hand_dr {e3 : Env → M D} (he : ∀ (h : Hs) (l z n : D) (p s c : Int) (a b d : Option D), h[0]? = some (.lst [l, .int p, z, .int s, n]) → 0 ≤ s → s < 4294967296 → 0 ≤ c → PySem.Builtin.Int.intBits c ≤ 1048576 → ∃ v, e3 [some (.obj 0), a, some (.int c), b, d] h = .ok (.int v) h) : Dr (mDef 5 (cHand e3)) (.obj 0) 1 Hd where
  len := fun t => t.one
  app := fun {h N l} t => by
    obtain ⟨cs, p, z, s, n, g0, r⟩ := t.ex
    exact ⟨cs, p, z, s, n, by rw [List.getElem?_append_left t.one]; exact g0, r⟩
  set := fun {h N i x} t hi => by
    obtain ⟨cs, p, z, s, n, g0, r⟩ := t.ex
    exact ⟨cs, p, z, s, n, by rw [List.getElem?_set_ne (by omega)]; exact g0, r⟩
  mono := fun {h N M} t l => by
    obtain ⟨cs, p, z, s, n, g0, r1, r2, r3, r4, r5, r6⟩ := t.ex
    exact ⟨cs, p, z, s, n, g0, r1, r2, r3, r4, r5, by omega⟩
  draw := fun t a b c k => hand_draw he t a b c k
end Pl

/-! Plain laws, 12: products of fractions; what is left when none is good; the shares of the last good ones. -/
namespace Pl
open Dl Sh
local instance : Dl.Tb := ⟨fun _ => []⟩

section
variable {p q : Rat} {a b : Nat} (hp : Sz a p) (hq : Sz b q) (hab : a + b ≤ 8000)
include hp hq hab
theorem product_eq (h : Hs) : m_product [fr p, fr q] h = .ok (fr (p * q)) h := by
  refine mdef_ret (h' := h) ?_
  unfold c_product
  have nn : okMul p.num q.num = true := okMul_of hp.1 hq.1 (by omega)
  simp only [eV0, eVs, bind_ok', then_ok, q_e2, q_e1, q_eC, q_aC, q_aN, q_sPar2, q_sPar3, q_sSet, q_sRet, q_eBf, q_nBf, q_eCall, q_tst, q_tru, q_ifV, q_sIf, q_eTup, q_sPass, q_sExp, q_eLm, q_nLst, q_frz, q_thaw, q_iSeq, q_iR2, q_iR3, q_iEnumD, q_iZip, q_andX, q_andT, q_orT, q_notT, q_eCh, q_sPat, q_eSl, q_nSl, q_pS, q_pN, q_sRetN, q_tYes, q_eDct0, okL0, okL1, okL2, okL3, okL4, okL5, okL6, ent, List.map_cons, List.map_nil, List.length_cons, List.length_nil, List.set_cons_zero, List.set_cons_succ, List.replicate, List.cons_append, List.nil_append, Nat.reduceAdd, Nat.reduceSub, Nat.sub_self, Nat.sub_zero, zero_add', ↓reduceIte, Bool.false_eq_true, item0, item1, addD_ii, subD_ii, negD_i, absD_i, ltD_ii, leD_ii, gtD_ii, geD_ii, truD_bl, decide_true, decide_false, fr_num, fr_den, mulD_ii nn, mulD_ii (ok_dd hp hq hab), lowest_eq _ _ h (dd_ne (p := p) (q := q)) (lt9000 hp hq hab (mul_dd hp hq))]
  rw [Rat.mul_def', ← Int.natCast_mul, Rat.divInt_ofNat]
theorem lmul_eq (h : Hs) : m__law_mul [fr p, fr q] h = .ok (fr (p * q)) h := by
  have d0 : (0 : Int) < (p.den : Int) * (q.den : Int) := by
    have := Nat.mul_pos (den_pos p) (den_pos q)
    have e : ((p.den * q.den : Nat) : Int) = (p.den : Int) * (q.den : Int) := Int.natCast_mul ..
    omega
  refine mdef_ret (h' := h) ?_
  unfold c__law_mul
  have nn : okMul p.num q.num = true := okMul_of hp.1 hq.1 (by omega)
  simp only [eV0, eVs, bind_ok', then_ok, q_e2, q_e1, q_eC, q_aC, q_aN, q_sPar2, q_sPar3, q_sSet, q_sRet, q_eBf, q_nBf, q_eCall, q_tst, q_tru, q_ifV, q_sIf, q_eTup, q_sPass, q_sExp, q_eLm, q_nLst, q_frz, q_thaw, q_iSeq, q_iR2, q_iR3, q_iEnumD, q_iZip, q_andX, q_andT, q_orT, q_notT, q_eCh, q_sPat, q_eSl, q_nSl, q_pS, q_pN, q_sRetN, q_tYes, q_eDct0, okL0, okL1, okL2, okL3, okL4, okL5, okL6, ent, List.map_cons, List.map_nil, List.length_cons, List.length_nil, List.set_cons_zero, List.set_cons_succ, List.replicate, List.cons_append, List.nil_append, Nat.reduceAdd, Nat.reduceSub, Nat.sub_self, Nat.sub_zero, zero_add', ↓reduceIte, Bool.false_eq_true, item0, item1, addD_ii, subD_ii, negD_i, absD_i, ltD_ii, leD_ii, gtD_ii, geD_ii, truD_bl, decide_true, decide_false, fr_num, fr_den, mulD_ii nn, mulD_ii (ok_dd hp hq hab), low_eq _ _ h d0 (lt9000 hp hq hab (mul_dd hp hq))]
  rw [Rat.mul_def', ← Int.natCast_mul, Rat.divInt_ofNat]
theorem lbelow_eq (h : Hs) : m__law_below [fr p, fr q] h = .ok (.bl (decide (p < q))) h := by
  refine mdef_ret (h' := h) ?_
  unfold c__law_below
  simp only [eV0, eVs, bind_ok', then_ok, q_e2, q_e1, q_eC, q_aC, q_aN, q_sPar2, q_sPar3, q_sSet, q_sRet, q_eBf, q_nBf, q_eCall, q_tst, q_tru, q_ifV, q_sIf, q_eTup, q_sPass, q_sExp, q_eLm, q_nLst, q_frz, q_thaw, q_iSeq, q_iR2, q_iR3, q_iEnumD, q_iZip, q_andX, q_andT, q_orT, q_notT, q_eCh, q_sPat, q_eSl, q_nSl, q_pS, q_pN, q_sRetN, q_tYes, q_eDct0, okL0, okL1, okL2, okL3, okL4, okL5, okL6, ent, List.map_cons, List.map_nil, List.length_cons, List.length_nil, List.set_cons_zero, List.set_cons_succ, List.replicate, List.cons_append, List.nil_append, Nat.reduceAdd, Nat.reduceSub, Nat.sub_self, Nat.sub_zero, zero_add', ↓reduceIte, Bool.false_eq_true, item0, item1, addD_ii, subD_ii, negD_i, absD_i, ltD_ii, leD_ii, gtD_ii, geD_ii, truD_bl, decide_true, decide_false, fr_num, fr_den, mulD_ii (ok_nd hp hq hab), mulD_ii (ok_dn hp hq hab)]
  congr 2
  exact decide_eq_decide.mpr (Rat.lt_iff p q).symm
theorem greatest_eq (h : Hs) : m_greatest [fr p, fr q] h = .ok (fr (if p < q then q else p)) h := by
  refine mdef_ret (h' := h) ?_
  unfold c_greatest
  simp only [eV0, eVs, bind_ok', then_ok, q_e2, q_e1, q_eC, q_aC, q_aN, q_sPar2, q_sPar3, q_sSet, q_sRet, q_eBf, q_nBf, q_eCall, q_tst, q_tru, q_ifV, q_sIf, q_eTup, q_sPass, q_sExp, q_eLm, q_nLst, q_frz, q_thaw, q_iSeq, q_iR2, q_iR3, q_iEnumD, q_iZip, q_andX, q_andT, q_orT, q_notT, q_eCh, q_sPat, q_eSl, q_nSl, q_pS, q_pN, q_sRetN, q_tYes, q_eDct0, okL0, okL1, okL2, okL3, okL4, okL5, okL6, ent, List.map_cons, List.map_nil, List.length_cons, List.length_nil, List.set_cons_zero, List.set_cons_succ, List.replicate, List.cons_append, List.nil_append, Nat.reduceAdd, Nat.reduceSub, Nat.sub_self, Nat.sub_zero, zero_add', ↓reduceIte, Bool.false_eq_true, item0, item1, addD_ii, subD_ii, negD_i, absD_i, ltD_ii, leD_ii, gtD_ii, geD_ii, truD_bl, decide_true, decide_false, less_eq hp hq hab]
  by_cases z : p < q
  · simp only [decide_eq_true z, z, eV0, eVs, bind_ok', then_ok, q_e2, q_e1, q_eC, q_aC, q_aN, q_sPar2, q_sPar3, q_sSet, q_sRet, q_eBf, q_nBf, q_eCall, q_tst, q_tru, q_ifV, q_sIf, q_eTup, q_sPass, q_sExp, q_eLm, q_nLst, q_frz, q_thaw, q_iSeq, q_iR2, q_iR3, q_iEnumD, q_iZip, q_andX, q_andT, q_orT, q_notT, q_eCh, q_sPat, q_eSl, q_nSl, q_pS, q_pN, q_sRetN, q_tYes, q_eDct0, okL0, okL1, okL2, okL3, okL4, okL5, okL6, ent, List.map_cons, List.map_nil, List.length_cons, List.length_nil, List.set_cons_zero, List.set_cons_succ, List.replicate, List.cons_append, List.nil_append, Nat.reduceAdd, Nat.reduceSub, Nat.sub_self, Nat.sub_zero, zero_add', ↓reduceIte, Bool.false_eq_true, item0, item1, addD_ii, subD_ii, negD_i, absD_i, ltD_ii, leD_ii, gtD_ii, geD_ii, truD_bl, decide_true, decide_false]
  · simp only [decide_eq_false z, z, eV0, eVs, bind_ok', then_ok, q_e2, q_e1, q_eC, q_aC, q_aN, q_sPar2, q_sPar3, q_sSet, q_sRet, q_eBf, q_nBf, q_eCall, q_tst, q_tru, q_ifV, q_sIf, q_eTup, q_sPass, q_sExp, q_eLm, q_nLst, q_frz, q_thaw, q_iSeq, q_iR2, q_iR3, q_iEnumD, q_iZip, q_andX, q_andT, q_orT, q_notT, q_eCh, q_sPat, q_eSl, q_nSl, q_pS, q_pN, q_sRetN, q_tYes, q_eDct0, okL0, okL1, okL2, okL3, okL4, okL5, okL6, ent, List.map_cons, List.map_nil, List.length_cons, List.length_nil, List.set_cons_zero, List.set_cons_succ, List.replicate, List.cons_append, List.nil_append, Nat.reduceAdd, Nat.reduceSub, Nat.sub_self, Nat.sub_zero, zero_add', ↓reduceIte, Bool.false_eq_true, item0, item1, addD_ii, subD_ii, negD_i, absD_i, ltD_ii, leD_ii, gtD_ii, geD_ii, truD_bl, decide_true, decide_false]
end
theorem one_sub (q : Rat) : 1 - q = Rat.divInt (q.den - q.num) q.den := by
  have qe : q = Rat.divInt q.num q.den := (Rat.num_divInt_den q).symm
  have dn : (q.den : Int) ≠ 0 := by have := den_pos q; omega
  conv => lhs; rw [qe]
  rw [Rat.divInt_eq_div, Rat.divInt_eq_div]
  have dn' : ((q.den : Int) : Rat) ≠ 0 := by
    intro y
    exact dn (by simpa using y)
  rw [Rat.intCast_sub]
  grind
/-! ### a bottom that all have -/
def Iq (d : Nat) (q : Rat) : Prop := ∃ m : Int, q = Rat.divInt m d
theorem Iq.self (q : Rat) : Iq q.den q := ⟨q.num, (Rat.num_divInt_den q).symm⟩
theorem Iq.one : Iq 1 1 := ⟨1, by decide +kernel⟩
theorem Iq.zero : Iq 1 0 := ⟨0, by decide +kernel⟩
theorem Iq.mul {a b : Nat} {p q : Rat} (x : Iq a p) (y : Iq b q) : Iq (a * b) (p * q) := by
  obtain ⟨m, rfl⟩ := x
  obtain ⟨n, rfl⟩ := y
  exact ⟨m * n, by rw [Rat.divInt_mul_divInt, Int.natCast_mul]⟩
theorem Iq.up {a : Nat} {p : Rat} (x : Iq a p) {b : Nat} (h : a ∣ b) (hb : 0 < b) : Iq b p := by
  obtain ⟨m, rfl⟩ := x
  obtain ⟨k, rfl⟩ := h
  have k0 : (k : Int) ≠ 0 := fun z => by
    have : k = 0 := by omega
    subst this
    simp at hb
  exact ⟨m * k, by rw [Int.natCast_mul, Rat.divInt_mul_right k0]⟩
theorem Iq.add {d : Nat} {p q : Rat} (x : Iq d p) (y : Iq d q) : Iq d (p + q) := by
  obtain ⟨m, rfl⟩ := x
  obtain ⟨n, rfl⟩ := y
  exact ⟨m + n, by rw [Rat.divInt_eq_div, Rat.divInt_eq_div, Rat.divInt_eq_div, Rat.div_def, Rat.div_def, Rat.div_def, ← Rat.add_mul, Rat.intCast_add]⟩
theorem Iq.rest (q : Rat) : Iq q.den (1 - q) := ⟨_, one_sub q⟩
theorem Iq.sz {d b k : Nat} {q : Rat} (x : Iq d q) (h0 : 0 < d) (hb : k * d < 2 ^ b) (hk : 0 < k) (q0 : 0 ≤ q) (q1 : q ≤ (k : Int)) : Sz b q := by
  have dl : q.den ≤ d := by
    obtain ⟨m, rfl⟩ := x
    rw [Rat.den_divInt, if_neg (by omega)]
    exact Nat.div_le_self _ _
  have n0 : (0 : Int) ≤ q.num := Rat.num_nonneg.mpr q0
  have n1 : q.num ≤ k * q.den := by
    have z := (Rat.le_iff q ((k : Int) : Rat)).mp q1
    simpa using z
  have kd : k * q.den ≤ k * d := Nat.mul_le_mul_left _ dl
  have k1 : d ≤ k * d := Nat.le_mul_of_pos_left _ hk
  refine ⟨?_, by omega⟩
  have e : ((k * q.den : Nat) : Int) = (k : Int) * (q.den : Int) := Int.natCast_mul ..
  omega
theorem Iq.sz1 {d b : Nat} {q : Rat} (x : Iq d q) (h0 : 0 < d) (hb : d < 2 ^ b) (q0 : 0 ≤ q) (q1 : q ≤ 1) : Sz b q := x.sz (k := 1) h0 (by omega) (by decide) q0 (by simpa using q1)
def Dd : List Rat → Nat
  | [] => 1
  | c :: cs => c.den * Dd cs
theorem Dd_pos : ∀ cs : List Rat, 0 < Dd cs
  | [] => Nat.one_pos
  | c :: cs => Nat.mul_pos (den_pos c) (Dd_pos cs)
theorem Dd_le {a : Nat} : ∀ {cs : List Rat}, (∀ c ∈ cs, Sz a c) → Dd cs ≤ 2 ^ (a * cs.length)
  | [], _ => Nat.le_refl _
  | c :: cs, h => by
    have h1 := (h c List.mem_cons_self).2
    have h2 := Dd_le (cs := cs) fun x hx => h x (List.mem_cons_of_mem _ hx)
    rw [List.length_cons, Nat.mul_succ, Nat.add_comm, Nat.pow_add]
    exact Nat.mul_le_mul (Nat.le_of_lt h1) h2
theorem Dd_app : ∀ (xs ys : List Rat), Dd (xs ++ ys) = Dd xs * Dd ys
  | [], ys => (Nat.one_mul _).symm
  | x :: xs, ys => by
    show x.den * Dd (xs ++ ys) = x.den * Dd xs * Dd ys
    rw [Dd_app xs ys, Nat.mul_assoc]
theorem Dd_drop (cs : List Rat) (m : Nat) : Dd (cs.drop m) ∣ Dd cs := by
  conv => rhs; rw [← List.take_append_drop m cs, Dd_app]
  exact Nat.dvd_mul_left _ _
/-! ### none is good -/
def nf : List Rat → Rat
  | [] => 1
  | c :: cs => (1 - c) * nf cs
def In1 (q : Rat) : Prop := 0 ≤ q ∧ q ≤ 1
theorem In1.rest {q : Rat} (h : In1 q) : In1 (1 - q) := ⟨by have := h.2; grind, by have := h.1; grind⟩
theorem In1.mul {p q : Rat} (h : In1 p) (k : In1 q) : In1 (p * q) := ⟨Rat.mul_nonneg h.1 k.1, by
  have z := Rat.mul_le_mul_of_nonneg_left k.2 h.1
  rw [Rat.mul_one] at z
  exact Rat.le_trans z h.2⟩
theorem In1.one : In1 1 := ⟨by decide +kernel, Rat.le_refl⟩
/-- chances of a size, all bottoms together below 2 ^ B -/
structure Cs (B : Nat) (cs : List Rat) : Prop where
  one : ∀ c ∈ cs, In1 c
  dd : Dd cs < 2 ^ B
theorem Cs.den {B : Nat} {cs : List Rat} (k : Cs B cs) {c : Rat} (hc : c ∈ cs) : c.den < 2 ^ B := by
  have d : ∀ {cs : List Rat}, c ∈ cs → c.den ∣ Dd cs := fun {cs} h => by
    induction cs with
    | nil => simp at h
    | cons x xs ih =>
      rcases List.mem_cons.mp h with e | e
      · rw [e]; exact Nat.dvd_mul_right _ _
      · exact Nat.dvd_trans (ih e) (Nat.dvd_mul_left _ _)
  exact Nat.lt_of_le_of_lt (Nat.le_of_dvd (Dd_pos _) (d hc)) k.dd
theorem Cs.sz {B : Nat} {cs : List Rat} (k : Cs B cs) {c : Rat} (hc : c ∈ cs) : Sz B c := (Iq.self c).sz1 (den_pos c) (k.den hc) (k.one c hc).1 (k.one c hc).2
theorem Cs.drop {B : Nat} {cs : List Rat} (k : Cs B cs) (m : Nat) : Cs B (cs.drop m) := ⟨fun c hc => k.one c (List.mem_of_mem_drop hc), Nat.lt_of_le_of_lt (Nat.le_of_dvd (Dd_pos _) (Dd_drop cs m)) k.dd⟩
theorem Cs.take {B : Nat} {cs : List Rat} (k : Cs B cs) (m : Nat) : Cs B (cs.take m) := ⟨fun c hc => k.one c (List.mem_of_mem_take hc), Nat.lt_of_le_of_lt (Nat.le_of_dvd (Dd_pos _) (by
  conv => rhs; rw [← List.take_append_drop m cs, Dd_app]
  exact Nat.dvd_mul_right _ _)) k.dd⟩
end Pl

/-! Plain laws, 13: lots: what they win. -/
namespace Pl
open Dl Sh
local instance : Dl.Tb := ⟨fun _ => []⟩

/-- numbers that rise, from k on, below n -/
def Inc (n : Nat) : Nat → List Nat → Prop
  | _, [] => True
  | k, m :: l => k ≤ m ∧ m < n ∧ Inc n (m + 1) l
theorem Inc.from {n : Nat} : ∀ {l : List Nat} {k j : Nat}, Inc n k l → j ≤ k → Inc n j l
  | [], _, _, _, _ => trivial
  | m :: l, k, j, h, hj => ⟨Nat.le_trans hj h.1, h.2⟩
theorem Inc.all {n : Nat} : ∀ {l : List Nat} {k : Nat}, Inc n k l → ∀ m ∈ l, k ≤ m ∧ m < n
  | [], _, _, m, hm => by simp at hm
  | x :: l, k, h, m, hm => by
    rcases List.mem_cons.mp hm with e | e
    · rw [e]; exact ⟨h.1, h.2.1⟩
    · have z := h.2.2.all m e
      exact ⟨by have := h.1; omega, z.2⟩
theorem Inc.len {n : Nat} : ∀ {l : List Nat} {k : Nat}, Inc n k l → k ≤ n → l.length + k ≤ n
  | [], k, _, h => by simpa using h
  | x :: l, k, h, _ => by
    have z := h.2.2.len (by have := h.2.1; omega)
    have := h.1
    rw [List.length_cons]
    omega
/-- what a lot wins -/
def wn (cs : List Rat) : List Nat → Rat
  | [] => 0
  | m :: l => cs.getD m 0 * nf (cs.drop (m + 1)) + (1 - cs.getD m 0) * wn cs l
/-! ### lots that are lots -/
end Pl

/-! Plain laws, 14: the best lots. -/
namespace Pl
open Dl Sh
local instance : Dl.Tb := ⟨fun _ => []⟩

/-! ### comprehensions over what is made of things -/
section
variable {α : Type} {p : Pat} {ce : Env → M D} {ρ : Env} {h : Hs} {g f : α → D}
theorem lcM : ∀ {xs : List α}, (∀ x ∈ xs, ∃ ρ1, patD p (g x) ρ = some ρ1 ∧ ce ρ1 h = .ok (f x) h) → lcF p tYes' ce [] ρ (xs.map g) h = .ok (xs.map f) h
  | [], _ => by
    show lcF p tYes' ce [] ρ [] h = _
    unfold lcF
    rw [if_pos okG_nil]
    rfl
  | x :: xs, k => by
    obtain ⟨ρ1, e, c⟩ := k x List.mem_cons_self
    rw [List.map_cons]
    unfold lcF
    rw [if_pos okG_nil, e]
    show ((ce ρ1 h).nox.bind fun d h2 => (lcF p tYes' ce [] ρ (xs.map g) h2).bind fun ds h3 => .ok (d :: ds) h3) = _
    rw [c]
    show ((lcF p tYes' ce [] ρ (xs.map g) h).bind fun ds h3 => .ok (f x :: ds) h3) = _
    rw [lcM fun y hy => k y (List.mem_cons_of_mem _ hy)]
    rfl
theorem compM {ci : Env → M ItD} {own : List Nat} {ρ : Env} {xs : List α} (e : ci ρ h = .ok ⟨xs.map g, []⟩ h) (l : xs.length ≤ 16777216) (k : ∀ x ∈ xs, ∃ ρ1, patD p (g x) (wipeD ρ own) = some ρ1 ∧ ce ρ1 h = .ok (f x) h) : nLc ci p own tYes' ce ρ h = .ok (xs.map f) h := by
  rw [nLc_eq, e]
  show (if okLen (xs.map g).length = true then _ else _) = _
  rw [if_pos (okLen_of (by rw [List.length_map]; exact l))]
  exact lcM k
end
/-! ### all lots -/
def lots : Nat → List (List Nat)
  | 0 => [[]]
  | n + 1 => lots n ++ (lots n).map (· ++ [n])
/-! ### the greatest -/
def mxq (x y : Rat) : Rat := if x < y then y else x
def tp (cs : List Rat) : Rat := (lots cs.length).foldl (fun x l => mxq x (wn cs l)) 0
/-! ### sorted -/
end Pl

/-! Plain laws, 15: best_lots, best. -/
namespace Pl
open Dl Sh
local instance : Dl.Tb := ⟨fun _ => []⟩

end Pl

/-! Plain laws, 16: the first hand: its draws, shares, rows; what is due of last good ones. -/
namespace Pl
open Dl Sh
local instance : Dl.Tb := ⟨fun _ => []⟩

theorem intBits_abs (i : Int) : PySem.Builtin.Int.intBits (i.natAbs : Int) = PySem.Builtin.Int.intBits i := by
  unfold PySem.Builtin.Int.intBits
  simp only [Int.natAbs_natCast]
  split <;> split <;> simp_all
/-- a share as drawn: of 0 to 1, its bottom below 2 ^ 67 -/
def Shr (q : Rat) : Prop := In1 q ∧ q.den < 2 ^ 67
/-- a row as drawn -/
def Row (qs : List Rat) : Prop := 1 ≤ qs.length ∧ qs.length ≤ 12 ∧ ∀ q ∈ qs, Shr q
theorem Row.cs {qs : List Rat} (r : Row qs) : Cs 1000 qs := by
  refine ⟨fun q hq => (r.2.2 q hq).1, ?_⟩
  have f : ∀ {l : List Rat}, (∀ q ∈ l, Shr q) → Dd l ≤ 2 ^ (67 * l.length) := by
    intro l
    induction l with
    | nil => intro _; exact Nat.le_refl _
    | cons q l ih =>
      intro h
      have h1 := (h q List.mem_cons_self).2
      have h2 := ih fun x hx => h x (List.mem_cons_of_mem _ hx)
      rw [List.length_cons, Nat.mul_succ, Nat.add_comm, Nat.pow_add]
      exact Nat.mul_le_mul (Nat.le_of_lt h1) h2
  exact Nat.lt_of_le_of_lt (f r.2.2) (Nat.pow_lt_pow_right (by decide) (by have := r.2.1; omega))
/-! ### what is due -/
end Pl

/-! Plain laws, deals 1: fractions of a bottom, sums. -/
namespace Pl
open Dl Sh
local instance : Dl.Tb := ⟨fun _ => []⟩

theorem rat_add_le {a b c d : Rat} (h : a ≤ b) (k : c ≤ d) : a + c ≤ b + d := by grind
theorem fr_int (v : Int) : D.tup [.int v, .int 1] = fr (v : Rat) := rfl
theorem nat_rat (a b : Nat) : (((a + b : Nat) : Int) : Rat) = ((a : Int) : Rat) + ((b : Int) : Rat) := by rw [Int.natCast_add, Rat.intCast_add]
theorem nat_mul_rat (a b : Nat) : (((a * b : Nat) : Int) : Rat) = ((a : Int) : Rat) * ((b : Int) : Rat) := by rw [Int.natCast_mul, Rat.intCast_mul]
theorem nat_rat_le {a b : Nat} (h : a ≤ b) : ((a : Int) : Rat) ≤ ((b : Int) : Rat) := Rat.intCast_le_intCast.mpr (by omega)
theorem nat_rat_nn (a : Nat) : (0 : Rat) ≤ ((a : Int) : Rat) := by
  have := Rat.intCast_le_intCast (a := 0) (b := (a : Int)) |>.mpr (by omega)
  simpa using this
/-- q has the bottom E, and is of 0 to M -/
structure Bq (E M : Nat) (q : Rat) : Prop where
  iq : Iq E q
  lo : 0 ≤ q
  hi : q ≤ ((M : Int) : Rat)
section
variable {E F M N : Nat} {p q : Rat}
theorem Bq.sz {b : Nat} (h : Bq E M q) (h0 : 0 < E) (hb : (M + 1) * E < 2 ^ b) : Sz b q := h.iq.sz h0 hb (Nat.succ_pos _) h.lo (Rat.le_trans h.hi (nat_rat_le (Nat.le_succ _)))
theorem Iq.neg (x : Iq E q) : Iq E (-q) := by
  obtain ⟨m, rfl⟩ := x
  exact ⟨-m, by rw [Rat.neg_divInt]⟩
theorem Iq.sub (x : Iq E p) (y : Iq E q) : Iq E (p - q) := by
  rw [Rat.sub_eq_add_neg]
  exact x.add y.neg
theorem Bq.mul (h : Bq E M p) (k : Bq F N q) : Bq (E * F) (M * N) (p * q) := ⟨h.iq.mul k.iq, Rat.mul_nonneg h.lo k.lo, by
  rw [nat_mul_rat]
  exact Rat.le_trans (Rat.mul_le_mul_of_nonneg_right h.hi k.lo) (Rat.mul_le_mul_of_nonneg_left k.hi (nat_rat_nn M))⟩
theorem Bq.add (h : Bq E M p) (k : Bq E N q) : Bq E (M + N) (p + q) := ⟨h.iq.add k.iq, Rat.add_nonneg h.lo k.lo, by
  rw [nat_rat]
  exact rat_add_le h.hi k.hi⟩
theorem Bq.up (h : Bq E M q) (d : E ∣ F) (h0 : 0 < F) (l : M ≤ N) : Bq F N q := ⟨h.iq.up d h0, h.lo, Rat.le_trans h.hi (nat_rat_le l)⟩
theorem Bq.sub (h : Bq E M p) (k : Bq E N q) (l : q ≤ p) : Bq E M (p - q) := ⟨h.iq.sub k.iq, by grind, by
  have h1 := h.hi
  have h2 := k.lo
  grind⟩
theorem Bq.one' (h0 : 0 < E) : Bq E 1 1 := ⟨Iq.one.up (Nat.one_dvd _) h0, by decide +kernel, by decide +kernel⟩
theorem Bq.zero' (h0 : 0 < E) (M : Nat) : Bq E M 0 := ⟨Iq.zero.up (Nat.one_dvd _) h0, Rat.le_refl, nat_rat_nn M⟩
theorem Bq.rest (h0 : 0 < E) (h : Bq E 1 q) : Bq E 1 (1 - q) := (Bq.one' h0).sub h h.hi
theorem Bq.int {v : Int} (h0 : 0 ≤ v) (h1 : v ≤ (M : Int)) : Bq 1 M (v : Rat) := ⟨⟨v, (Rat.num_divInt_den (v : Rat)).symm⟩, by
  have := Rat.intCast_le_intCast (a := 0) (b := v) |>.mpr h0
  simpa using this, Rat.intCast_le_intCast.mpr h1⟩
theorem Bq.in1 (h : Bq E 1 q) : In1 q := ⟨h.lo, h.hi⟩
theorem Bq.of1 (x : Iq E q) (h : In1 q) : Bq E 1 q := ⟨x, h.1, h.2⟩
theorem Bq.mx (h : Bq E M p) (k : Bq E N q) : Bq E (max M N) (mxq p q) := by
  unfold mxq
  split
  · exact ⟨k.iq, k.lo, Rat.le_trans k.hi (nat_rat_le (Nat.le_max_right _ _))⟩
  · exact ⟨h.iq, h.lo, Rat.le_trans h.hi (nat_rat_le (Nat.le_max_left _ _))⟩
end
theorem mxq_ge (p q : Rat) : p ≤ mxq p q ∧ q ≤ mxq p q := by
  unfold mxq
  split
  · rename_i z
    exact ⟨Rat.le_of_lt z, Rat.le_refl⟩
  · rename_i z
    exact ⟨Rat.le_refl, Rat.not_lt.mp z⟩
/-! ### sums -/
def sm : List Rat → Rat
  | [] => 0
  | x :: xs => x + sm xs
theorem sm_bq {E M : Nat} (h0 : 0 < E) : ∀ {xs : List Rat}, (∀ x ∈ xs, Bq E M x) → Bq E (xs.length * M) (sm xs)
  | [], _ => Bq.zero' h0 _
  | x :: xs, h => by
    have z := (h x List.mem_cons_self).add (sm_bq h0 fun y hy => h y (List.mem_cons_of_mem _ hy))
    have e : (x :: xs).length * M = M + xs.length * M := by rw [List.length_cons, Nat.succ_mul, Nat.add_comm]
    rw [e]
    exact z
section
variable {α : Type}
theorem sm_map_le {f g : α → Rat} : ∀ {xs : List α}, (∀ x ∈ xs, f x ≤ g x) → sm (xs.map f) ≤ sm (xs.map g)
  | [], _ => Rat.le_refl
  | x :: xs, h => rat_add_le (h x List.mem_cons_self) (sm_map_le fun y hy => h y (List.mem_cons_of_mem _ hy))
theorem sm_map_mul {f : α → Rat} (c : Rat) : ∀ xs : List α, sm (xs.map fun x => c * f x) = c * sm (xs.map f)
  | [] => (Rat.mul_zero c).symm
  | x :: xs => by
    show c * f x + sm (xs.map fun x => c * f x) = c * (f x + sm (xs.map f))
    rw [sm_map_mul c xs]
    grind
theorem sm_map_mul' {f : α → Rat} (c : Rat) (xs : List α) : sm (xs.map fun x => f x * c) = sm (xs.map f) * c := by
  have e : (fun x => f x * c) = fun x => c * f x := funext fun x => Rat.mul_comm _ _
  rw [e, sm_map_mul, Rat.mul_comm]
theorem sm_map_congr {f g : α → Rat} {xs : List α} (h : ∀ x ∈ xs, f x = g x) : sm (xs.map f) = sm (xs.map g) := by rw [List.map_congr_left h]
end
/-- the program's sum, in any list -/
theorem wsum_eq {E M B : Nat} {rs : List Rat} (h0 : 0 < E) (hr : ∀ r ∈ rs, Bq E M r) (hB : (rs.length * M + 1) * E < 2 ^ B) (hB2 : B ≤ 2000) (h : Hs) {x : D} (hx : x = .lst (rs.map fr) ∨ x = .tup (rs.map fr)) : m_whole_sum [x] h = .ok (fr (sm rs)) h := by
  have loop : ∀ (rs : List Rat) (x0 : Rat) (m : Nat) (d2 : Option D), (∀ r ∈ rs, Bq E M r) → Bq E m x0 → (m + rs.length * M + 1) * E < 2 ^ B →
      WpS (loopF (.nm 2) (sSet 1 (eCall 2 m_plus (aC (eV 1) (aC (eV 2) aN)))) [] (rs.map fr) [some x, some (fr x0), d2] h) (fun ρ h' => ∃ d2, ρ = [some x, some (fr (x0 + sm rs)), d2] ∧ h' = h) (fun _ _ => False) := by
    intro rs
    induction rs with
    | nil =>
      intro x0 m d2 _ _ _
      unfold loopF
      have e : x0 + sm [] = x0 := by show x0 + 0 = x0; grind
      rw [e]
      exact ⟨d2, rfl, rfl⟩
    | cons r rs ih =>
      intro x0 m d2 hr hx0 hb
      rw [List.map_cons]
      unfold loopF
      rw [if_pos okG_nil]
      have r1 := hr r List.mem_cons_self
      have el : (r :: rs).length * M = M + rs.length * M := by rw [List.length_cons, Nat.succ_mul, Nat.add_comm]
      rw [el] at hb
      have s0 : Sz B x0 := hx0.sz h0 (Nat.lt_of_le_of_lt (Nat.mul_le_mul_right _ (by omega)) hb)
      have s1 : Sz B r := r1.sz h0 (Nat.lt_of_le_of_lt (Nat.mul_le_mul_right _ (by omega)) hb)
      have e : sSet 1 (eCall 2 m_plus (aC (eV 1) (aC (eV 2) aN))) [some x, some (fr x0), some (fr r)] h = .nx [some x, some (fr (x0 + r)), some (fr r)] h := by
        simp only [eV0, eVs, bind_ok', then_ok, q_e2, q_e1, q_eC, q_aC, q_aN, q_sPar2, q_sPar3, q_sSet, q_sRet, q_eBf, q_nBf, q_eCall, q_tst, q_tru, q_ifV, q_sIf, q_eTup, q_sPass, q_sExp, q_eLm, q_nLst, q_frz, q_thaw, q_iSeq, q_iR2, q_iR3, q_iEnumD, q_iZip, q_andX, q_andT, q_orT, q_notT, q_eCh, q_sPat, q_eSl, q_nSl, q_pS, q_pN, q_sRetN, q_tYes, q_eDct0, okL0, okL1, okL2, okL3, okL4, okL5, okL6, ent, List.map_cons, List.map_nil, List.length_cons, List.length_nil, List.set_cons_zero, List.set_cons_succ, List.replicate, List.cons_append, List.nil_append, Nat.reduceAdd, Nat.reduceSub, Nat.sub_self, Nat.sub_zero, zero_add', ↓reduceIte, Bool.false_eq_true, item0, item1, addD_ii, subD_ii, negD_i, absD_i, ltD_ii, leD_ii, gtD_ii, geD_ii, truD_bl, decide_true, decide_false, plus_eq s0 s1 (by omega)]
      show WpS (match sSet 1 (eCall 2 m_plus (aC (eV 1) (aC (eV 2) aN))) [some x, some (fr x0), some (fr r)] h with
        | .nx ρ2 h2 => loopF _ _ _ _ ρ2 h2
        | .ct ρ2 h2 => loopF _ _ _ _ ρ2 h2
        | .bk ρ2 h2 => .nx ρ2 h2
        | r => r) _ _
      rw [e]
      have z := ih (x0 + r) (m + M) (some (fr r)) (fun q hq => hr q (List.mem_cons_of_mem _ hq)) (hx0.add r1) (by rw [Nat.add_assoc m M]; exact hb)
      have e2 : x0 + r + sm rs = x0 + sm (r :: rs) := by show x0 + r + sm rs = x0 + (r + sm rs); grind
      rw [e2] at z
      exact z
  refine eq_of_wp ?_
  unfold m_whole_sum c_whole_sum
  have e1 : ent 3 [x] = [some x, none, none] := rfl
  rw [wp_def, e1, wps_seq, q_sSet, q_eC, then_ok, wps_nx, wps_seq]
  simp only [List.set_cons_zero, List.set_cons_succ, ← fr0]
  have si : iSeq (eV 0) [some x, some (fr 0), none] h = .ok ⟨rs.map fr, []⟩ h := by
    rcases hx with e | e
    · exact seq_lst (by rw [e]; rfl)
    · exact seq_tup (by rw [e]; rfl)
  rw [wps_for, si, wp_ok]
  have z := loop rs 0 0 none hr (Bq.zero' h0 0) (by rw [Nat.zero_add]; exact hB)
  refine wps_mono z (fun ρ h' ⟨d2, e, eh⟩ => ?_) fun _ _ f => f.elim
  rw [e, eh]
  have e0 : (0 : Rat) + sm rs = sm rs := by grind
  rw [e0]
  simp only [eV0, eVs, bind_ok', then_ok, q_e2, q_e1, q_eC, q_aC, q_aN, q_sPar2, q_sPar3, q_sSet, q_sRet, q_eBf, q_nBf, q_eCall, q_tst, q_tru, q_ifV, q_sIf, q_eTup, q_sPass, q_sExp, q_eLm, q_nLst, q_frz, q_thaw, q_iSeq, q_iR2, q_iR3, q_iEnumD, q_iZip, q_andX, q_andT, q_orT, q_notT, q_eCh, q_sPat, q_eSl, q_nSl, q_pS, q_pN, q_sRetN, q_tYes, q_eDct0, okL0, okL1, okL2, okL3, okL4, okL5, okL6, ent, List.map_cons, List.map_nil, List.length_cons, List.length_nil, List.set_cons_zero, List.set_cons_succ, List.replicate, List.cons_append, List.nil_append, Nat.reduceAdd, Nat.reduceSub, Nat.sub_self, Nat.sub_zero, zero_add', ↓reduceIte, Bool.false_eq_true, item0, item1, addD_ii, subD_ii, negD_i, absD_i, ltD_ii, leD_ii, gtD_ii, geD_ii, truD_bl, decide_true, decide_false, wp_ok, wp_bad, wp_bind, wp_nox, wp_def, wps_then, wps_seq, wps_nx, wps_ret, wp_ite, wps_ite]
  exact ⟨trivial, trivial⟩
/-! ### the law's own fractions -/
section
variable {p q : Rat} {a b : Nat} (hp : Sz a p) (hq : Sz b q) (hab : a + b ≤ 8000)
include hp hq hab
theorem lsum_eq (h : Hs) : m__law_sum [fr p, fr q] h = .ok (fr (p + q)) h := lplus_eq hp hq hab h
theorem lprod_eq (h : Hs) : m__law_prod [fr p, fr q] h = .ok (fr (p * q)) h := lmul_eq hp hq hab h
theorem lless_eq (h : Hs) : m__law_less [fr p, fr q] h = .ok (.bl (decide (p < q))) h := lbelow_eq hp hq hab h
theorem lmost_eq (h : Hs) : m__law_most [fr p, fr q] h = .ok (fr (mxq p q)) h := by
  refine mdef_ret (h' := h) ?_
  unfold c__law_most
  unfold mxq
  simp only [eV0, eVs, bind_ok', then_ok, q_e2, q_e1, q_eC, q_aC, q_aN, q_sPar2, q_sPar3, q_sSet, q_sRet, q_eBf, q_nBf, q_eCall, q_tst, q_tru, q_ifV, q_sIf, q_eTup, q_sPass, q_sExp, q_eLm, q_nLst, q_frz, q_thaw, q_iSeq, q_iR2, q_iR3, q_iEnumD, q_iZip, q_andX, q_andT, q_orT, q_notT, q_eCh, q_sPat, q_eSl, q_nSl, q_pS, q_pN, q_sRetN, q_tYes, q_eDct0, okL0, okL1, okL2, okL3, okL4, okL5, okL6, ent, List.map_cons, List.map_nil, List.length_cons, List.length_nil, List.set_cons_zero, List.set_cons_succ, List.replicate, List.cons_append, List.nil_append, Nat.reduceAdd, Nat.reduceSub, Nat.sub_self, Nat.sub_zero, zero_add', ↓reduceIte, Bool.false_eq_true, item0, item1, addD_ii, subD_ii, negD_i, absD_i, ltD_ii, leD_ii, gtD_ii, geD_ii, truD_bl, decide_true, decide_false, lless_eq hp hq hab, truD_bl]
  by_cases z : p < q
  · simp only [decide_eq_true z, z, eV0, eVs, bind_ok', then_ok, q_e2, q_e1, q_eC, q_aC, q_aN, q_sPar2, q_sPar3, q_sSet, q_sRet, q_eBf, q_nBf, q_eCall, q_tst, q_tru, q_ifV, q_sIf, q_eTup, q_sPass, q_sExp, q_eLm, q_nLst, q_frz, q_thaw, q_iSeq, q_iR2, q_iR3, q_iEnumD, q_iZip, q_andX, q_andT, q_orT, q_notT, q_eCh, q_sPat, q_eSl, q_nSl, q_pS, q_pN, q_sRetN, q_tYes, q_eDct0, okL0, okL1, okL2, okL3, okL4, okL5, okL6, ent, List.map_cons, List.map_nil, List.length_cons, List.length_nil, List.set_cons_zero, List.set_cons_succ, List.replicate, List.cons_append, List.nil_append, Nat.reduceAdd, Nat.reduceSub, Nat.sub_self, Nat.sub_zero, zero_add', ↓reduceIte, Bool.false_eq_true, item0, item1, addD_ii, subD_ii, negD_i, absD_i, ltD_ii, leD_ii, gtD_ii, geD_ii, truD_bl, decide_true, decide_false]
  · simp only [decide_eq_false z, z, eV0, eVs, bind_ok', then_ok, q_e2, q_e1, q_eC, q_aC, q_aN, q_sPar2, q_sPar3, q_sSet, q_sRet, q_eBf, q_nBf, q_eCall, q_tst, q_tru, q_ifV, q_sIf, q_eTup, q_sPass, q_sExp, q_eLm, q_nLst, q_frz, q_thaw, q_iSeq, q_iR2, q_iR3, q_iEnumD, q_iZip, q_andX, q_andT, q_orT, q_notT, q_eCh, q_sPat, q_eSl, q_nSl, q_pS, q_pN, q_sRetN, q_tYes, q_eDct0, okL0, okL1, okL2, okL3, okL4, okL5, okL6, ent, List.map_cons, List.map_nil, List.length_cons, List.length_nil, List.set_cons_zero, List.set_cons_succ, List.replicate, List.cons_append, List.nil_append, Nat.reduceAdd, Nat.reduceSub, Nat.sub_self, Nat.sub_zero, zero_add', ↓reduceIte, Bool.false_eq_true, item0, item1, addD_ii, subD_ii, negD_i, absD_i, ltD_ii, leD_ii, gtD_ii, geD_ii, truD_bl, decide_true, decide_false]
theorem great_eq (h : Hs) : m_greatest [fr p, fr q] h = .ok (fr (mxq p q)) h := greatest_eq hp hq hab h
end
end Pl

/-! Plain laws, deals 2: loops in general; offers; means, sums of shares. -/
namespace Pl
open Dl Sh
local instance : Dl.Tb := ⟨fun _ => []⟩

/-! ### loops -/
theorem loop_st {α σ : Type} {p : Pat} {body : SM} {g : α → D} (st : σ → Env → Hs → Prop) (step : σ → α → σ) (J : σ → List α → Prop)
    (k : ∀ s x xs ρ h, J s (x :: xs) → st s ρ h → ∃ ρ1 ρ2 h2, patD p (g x) ρ = some ρ1 ∧ body ρ1 h = .nx ρ2 h2 ∧ st (step s x) ρ2 h2 ∧ J (step s x) xs) :
    ∀ (xs : List α) (s : σ) (ρ : Env) (h : Hs), J s xs → st s ρ h → ∃ ρ' h', loopF p body [] (xs.map g) ρ h = .nx ρ' h' ∧ st (xs.foldl step s) ρ' h' ∧ J (xs.foldl step s) []
  | [], s, ρ, h, j, e => ⟨ρ, h, by unfold loopF; rw [List.map_nil]; rfl, e, j⟩
  | x :: xs, s, ρ, h, j, e => by
    obtain ⟨ρ1, ρ2, h2, e1, e2, e3, j2⟩ := k s x xs ρ h j e
    obtain ⟨ρ', h', a, b, c⟩ := loop_st st step J k xs (step s x) ρ2 h2 j2 e3
    refine ⟨ρ', h', ?_, b, c⟩
    rw [List.map_cons]
    unfold loopF
    rw [if_pos okG_nil, e1]
    show (match body ρ1 h with
      | .nx ρ2 h2 => loopF p body [] (xs.map g) ρ2 h2
      | .ct ρ2 h2 => loopF p body [] (xs.map g) ρ2 h2
      | .bk ρ2 h2 => .nx ρ2 h2
      | r => r) = _
    rw [e2]
    exact a
theorem for_of {ci : Env → M ItD} {p : Pat} {body : SM} {ρ : Env} {h h1 : Hs} {xs : List D} (e : ci ρ h = .ok ⟨xs, []⟩ h1) : sFor ci p body ρ h = loopF p body [] xs ρ h1 := by
  rw [q_sFor, e]
  rfl
theorem seq_it {ce : Env → M D} {ρ : Env} {h h1 : Hs} {x : D} {xs : List D} (e : ce ρ h = .ok x h1) (hx : x = .tup xs ∨ x = .lst xs) : iSeq ce ρ h = .ok ⟨xs, []⟩ h1 := by
  rw [q_iSeq, e]
  rcases hx with z | z <;> rw [z] <;> rfl
/-! ### offers -/
abbrev Offer := List (Int × Rat)
def pairD (p : Int × Rat) : D := .tup [.int p.1, fr p.2]
def offD (o : Offer) : D := .tup (o.map pairD)
def dealD (os : List Offer) : D := .tup (os.map offD)
def Do (o : Offer) : Nat := Dd (o.map (·.2))
def De : List Offer → Nat
  | [] => 1
  | o :: os => Do o * De os
theorem De_pos : ∀ os : List Offer, 0 < De os
  | [] => Nat.one_pos
  | o :: os => Nat.mul_pos (Dd_pos _) (De_pos os)
theorem Dd_mem {c : Rat} : ∀ {cs : List Rat}, c ∈ cs → c.den ∣ Dd cs
  | [], h => by simp at h
  | x :: xs, h => by
    rcases List.mem_cons.mp h with e | e
    · rw [e]; exact Nat.dvd_mul_right _ _
    · exact Nat.dvd_trans (Dd_mem e) (Nat.dvd_mul_left _ _)
/-- an offer as it may be handed in, of a size -/
structure Ofr (o : Offer) : Prop where
  l1 : 1 ≤ o.length
  l5 : o.length ≤ 5
  val : ∀ p ∈ o, 0 ≤ p.1 ∧ p.1 ≤ 1000
  sh : ∀ p ∈ o, 0 < p.2 ∧ p.2 ≤ 1
  up : (o.map (·.1)).Pairwise (· < ·)
  one : sm (o.map (·.2)) = 1
  dn : Do o < 2 ^ 60
structure Dl8 (os : List Offer) : Prop where
  l1 : 1 ≤ os.length
  l8 : os.length ≤ 8
  ofr : ∀ o ∈ os, Ofr o
theorem De_lt : ∀ {os : List Offer}, (∀ o ∈ os, Ofr o) → De os ≤ 2 ^ (60 * os.length)
  | [], _ => Nat.le_refl _
  | o :: os, h => by
    have h1 := (h o List.mem_cons_self).dn
    have h2 := De_lt fun x hx => h x (List.mem_cons_of_mem _ hx)
    rw [List.length_cons, Nat.mul_succ, Nat.add_comm, Nat.pow_add]
    exact Nat.mul_le_mul (Nat.le_of_lt h1) h2
theorem De_500 {os : List Offer} (h : ∀ o ∈ os, Ofr o) (l : os.length ≤ 8) : De os < 2 ^ 500 := Nat.lt_of_le_of_lt (De_lt h) (Nat.pow_lt_pow_right (by decide) (by omega))
/-- pairs of a bottom -/
structure Prs (E : Nat) (g : Offer) : Prop where
  e0 : 0 < E
  len : g.length ≤ 5
  val : ∀ p ∈ g, 0 ≤ p.1 ∧ p.1 ≤ 1000
  sh : ∀ p ∈ g, Bq E 1 p.2
theorem Ofr.prs {o : Offer} (h : Ofr o) : Prs (Do o) o := ⟨Dd_pos _, h.l5, h.val, fun p hp => Bq.of1 ((Iq.self p.2).up (Dd_mem (List.mem_map.mpr ⟨p, hp, rfl⟩)) (Dd_pos _)) ⟨Rat.le_of_lt (h.sh p hp).1, (h.sh p hp).2⟩⟩
theorem Prs.filter {E : Nat} {g : Offer} (k : Prs E g) (t : Int × Rat → Bool) : Prs E (g.filter t) := ⟨k.e0, Nat.le_trans (List.length_filter_le _ _) k.len, fun p hp => k.val p (List.mem_filter.mp hp).1, fun p hp => k.sh p (List.mem_filter.mp hp).1⟩
def ss (g : Offer) : Rat := sm (g.map (·.2))
section
variable {E : Nat} {g : Offer} (k : Prs E g) {h : Hs}
include k
theorem Prs.ss : Bq E 5 (ss g) := by
  have z := sm_bq (E := E) (M := 1) k.e0 (xs := g.map (·.2)) fun x hx => by
    obtain ⟨p, hp, rfl⟩ := List.mem_map.mp hx
    exact k.sh p hp
  exact z.up (Nat.dvd_refl _) k.e0 (by rw [List.length_map]; have := k.len; omega)
/-- the sum of the shares that are told one by one -/
theorem sharesum_eq (hE : E < 2 ^ 1000) : m_whole_sum [.lst (g.map fun p => fr p.2)] h = .ok (fr (ss g)) h := by
  have lg := k.len
  have mm : (g.map fun p => fr p.2) = (g.map (·.2)).map fr := by rw [List.map_map]; rfl
  rw [mm]
  exact wsum_eq (E := E) (M := 1) (B := 2000) (rs := g.map (·.2)) k.e0 (fun r hr => by
    obtain ⟨p, hp, rfl⟩ := List.mem_map.mp hr
    exact k.sh p hp) (by
      have : (2 : Nat) ^ 1003 ≤ 2 ^ 2000 := Nat.pow_le_pow_right (by decide) (by decide)
      have e : (2 : Nat) ^ 1003 = 8 * 2 ^ 1000 := by rw [show 1003 = 1000 + 3 from rfl, Nat.pow_add, Nat.mul_comm]
      have l : ((g.map (·.2)).length * 1 + 1) * E ≤ 8 * E := Nat.mul_le_mul_right _ (by rw [List.length_map]; omega)
      omega) (by decide) h (.inl rfl)
end
/-- a bound that is enough -/
theorem Bq.s {E M : Nat} {q : Rat} (h : Bq E M q) (h0 : 0 < E) (hE : E < 2 ^ 1500) (hM : M < 2 ^ 60) : Sz 2000 q := h.sz h0 (by
  have e : (2 : Nat) ^ 1560 = 2 ^ 60 * 2 ^ 1500 := by rw [← Nat.pow_add]
  have l : (M + 1) * E ≤ 2 ^ 60 * E := Nat.mul_le_mul_right _ hM
  have l2 : 2 ^ 60 * E < 2 ^ 60 * 2 ^ 1500 := Nat.mul_lt_mul_of_pos_left hE (Nat.pow_pos (by decide))
  have l3 : (2 : Nat) ^ 1560 ≤ 2 ^ 2000 := Nat.pow_le_pow_right (by decide) (by decide)
  omega)
/-! ### an offer is one -/
theorem up_zip : ∀ {o : Offer}, (o.map (·.1)).Pairwise (· < ·) → ∀ x ∈ zipD (o.map pairD) ((o.map pairD).drop 1), ∃ a b : Int × Rat, x = .tup [pairD a, pairD b] ∧ a.1 < b.1
  | [], _, x, hx => by simp [zipD] at hx
  | [_], _, x, hx => by simp [zipD] at hx
  | a :: b :: l, h, x, hx => by
    have e : zipD ((a :: b :: l).map pairD) (((a :: b :: l).map pairD).drop 1) = .tup [pairD a, pairD b] :: zipD ((b :: l).map pairD) (((b :: l).map pairD).drop 1) := rfl
    rw [e] at hx
    obtain ⟨h1, h2⟩ := List.pairwise_cons.mp (show (a.1 :: (b :: l).map (·.1)).Pairwise (· < ·) from h)
    rcases List.mem_cons.mp hx with z | z
    · exact ⟨a, b, z, h1 b.1 (by simp)⟩
    · exact up_zip h2 x z
theorem pair0 {p : Int × Rat} {h : Hs} : itemD (pairD p) (.int 0) h = .ok (.int p.1) h := item0
theorem pair1 {p : Int × Rat} {h : Hs} : itemD (pairD p) (.int 1) h = .ok (fr p.2) h := item1
theorem is_pair_eq {p : Int × Rat} {h : Hs} (v : 0 ≤ p.1 ∧ p.1 ≤ 1000) (s : 0 < p.2 ∧ p.2 ≤ 1) : m_is_value_pair [pairD p] h = .ok (.bl true) h := by
  refine mdef_ret (h' := h) ?_
  unfold c_is_value_pair
  have t2 : m_is_tuple [pairD p, .int 2, .int 2] h = .ok (.bl true) h := istup_eq (by simp) (by simp)
  have n0 : (0 : Int) < p.2.num := by
    have a := Rat.num_nonneg.mpr (Rat.le_of_lt s.1)
    have b : p.2.num ≠ 0 := fun z => by
      have y := Rat.num_eq_zero.mp z
      rw [y] at s
      exact absurd s.1 (by decide +kernel)
    omega
  simp only [eV0, eVs, bind_ok', then_ok, q_e2, q_e1, q_eC, q_aC, q_aN, q_sPar2, q_sPar3, q_sSet, q_sRet, q_eBf, q_nBf, q_eCall, q_tst, q_tru, q_ifV, q_sIf, q_eTup, q_sPass, q_sExp, q_eLm, q_nLst, q_frz, q_thaw, q_iSeq, q_iR2, q_iR3, q_iEnumD, q_iZip, q_andX, q_andT, q_orT, q_notT, q_eCh, q_sPat, q_eSl, q_nSl, q_pS, q_pN, q_sRetN, q_tYes, q_eDct0, okL0, okL1, okL2, okL3, okL4, okL5, okL6, ent, List.map_cons, List.map_nil, List.length_cons, List.length_nil, List.set_cons_zero, List.set_cons_succ, List.replicate, List.cons_append, List.nil_append, Nat.reduceAdd, Nat.reduceSub, Nat.sub_self, Nat.sub_zero, zero_add', ↓reduceIte, Bool.false_eq_true, item0, item1, addD_ii, subD_ii, negD_i, absD_i, ltD_ii, leD_ii, gtD_ii, geD_ii, truD_bl, decide_true, decide_false, t2, pair0, pair1, iswithin_eq v.1 v.2, isshare_eq (Rat.le_of_lt s.1) s.2, fr_num, decide_eq_true n0]
theorem is_offer_eq {o : Offer} (k : Ofr o) {h : Hs} : m_is_offer [offD o] h = .ok (.bl true) h := by
  have l1 := k.l1
  have l5 := k.l5
  refine eq_of_wp ?_
  unfold m_is_offer c_is_offer
  have e1 : ent 6 [offD o] = [some (offD o), none, none, none, none, none] := rfl
  have t := istup_eq (xs := o.map pairD) (lo := 1) (hi := 5) (h := h) (by rw [List.length_map]; omega) (by rw [List.length_map]; omega)
  have t' : m_is_tuple [offD o, .int 1, .int 5] h = .ok (.bl true) h := t
  have c1 := compM (α := Int × Rat) (ci := iSeq (eV 0)) (p := .nm 1) (own := [1]) (ce := eCall 1 m_is_value_pair (aC (eV 1) aN)) (ρ := [some (offD o), none, none, none, none, none]) (h := h) (xs := o) (g := pairD) (f := fun _ => .bl true)
    (seq_tup (by simp only [eV0, eVs, bind_ok', then_ok, q_e2, q_e1, q_eC, q_aC, q_aN, q_sPar2, q_sPar3, q_sSet, q_sRet, q_eBf, q_nBf, q_eCall, q_tst, q_tru, q_ifV, q_sIf, q_eTup, q_sPass, q_sExp, q_eLm, q_nLst, q_frz, q_thaw, q_iSeq, q_iR2, q_iR3, q_iEnumD, q_iZip, q_andX, q_andT, q_orT, q_notT, q_eCh, q_sPat, q_eSl, q_nSl, q_pS, q_pN, q_sRetN, q_tYes, q_eDct0, okL0, okL1, okL2, okL3, okL4, okL5, okL6, ent, List.map_cons, List.map_nil, List.length_cons, List.length_nil, List.set_cons_zero, List.set_cons_succ, List.replicate, List.cons_append, List.nil_append, Nat.reduceAdd, Nat.reduceSub, Nat.sub_self, Nat.sub_zero, zero_add', ↓reduceIte, Bool.false_eq_true, item0, item1, addD_ii, subD_ii, negD_i, absD_i, ltD_ii, leD_ii, gtD_ii, geD_ii, truD_bl, decide_true, decide_false]; rfl)) (by omega) fun p hp => ⟨_, rfl, by simp only [wipeD, eV0, eVs, bind_ok', then_ok, q_e2, q_e1, q_eC, q_aC, q_aN, q_sPar2, q_sPar3, q_sSet, q_sRet, q_eBf, q_nBf, q_eCall, q_tst, q_tru, q_ifV, q_sIf, q_eTup, q_sPass, q_sExp, q_eLm, q_nLst, q_frz, q_thaw, q_iSeq, q_iR2, q_iR3, q_iEnumD, q_iZip, q_andX, q_andT, q_orT, q_notT, q_eCh, q_sPat, q_eSl, q_nSl, q_pS, q_pN, q_sRetN, q_tYes, q_eDct0, okL0, okL1, okL2, okL3, okL4, okL5, okL6, ent, List.map_cons, List.map_nil, List.length_cons, List.length_nil, List.set_cons_zero, List.set_cons_succ, List.replicate, List.cons_append, List.nil_append, Nat.reduceAdd, Nat.reduceSub, Nat.sub_self, Nat.sub_zero, zero_add', ↓reduceIte, Bool.false_eq_true, item0, item1, addD_ii, subD_ii, negD_i, absD_i, ltD_ii, leD_ii, gtD_ii, geD_ii, truD_bl, decide_true, decide_false, is_pair_eq (k.val p hp) (k.sh p hp)]⟩
  have zi : iZip (aC (eV 0) (aC (eSl (eV 0) (pS (eC (.int 1))) pN) aN)) [some (offD o), none, none, none, none, none] h = .ok ⟨zipD (o.map pairD) ((o.map pairD).drop 1), []⟩ h := by
    have sl : sliceD (offD o) (some 1) none h = .ok (.tup ((o.map pairD).drop 1)) h := slD_tup_from (m := 1)
    simp only [eV0, eVs, bind_ok', then_ok, q_e2, q_e1, q_eC, q_aC, q_aN, q_sPar2, q_sPar3, q_sSet, q_sRet, q_eBf, q_nBf, q_eCall, q_tst, q_tru, q_ifV, q_sIf, q_eTup, q_sPass, q_sExp, q_eLm, q_nLst, q_frz, q_thaw, q_iSeq, q_iR2, q_iR3, q_iEnumD, q_iZip, q_andX, q_andT, q_orT, q_notT, q_eCh, q_sPat, q_eSl, q_nSl, q_pS, q_pN, q_sRetN, q_tYes, q_eDct0, okL0, okL1, okL2, okL3, okL4, okL5, okL6, ent, List.map_cons, List.map_nil, List.length_cons, List.length_nil, List.set_cons_zero, List.set_cons_succ, List.replicate, List.cons_append, List.nil_append, Nat.reduceAdd, Nat.reduceSub, Nat.sub_self, Nat.sub_zero, zero_add', ↓reduceIte, Bool.false_eq_true, item0, item1, addD_ii, subD_ii, negD_i, absD_i, ltD_ii, leD_ii, gtD_ii, geD_ii, truD_bl, decide_true, decide_false, sl]
    rfl
  have c2 := comp_eq (ci := iZip (aC (eV 0) (aC (eSl (eV 0) (pS (eC (.int 1))) pN) aN))) (p := .tp [.nm 2, .nm 3]) (own := [2, 3]) (ce := e2 ltD (e2 itemD (eV 2) (eC (.int 0))) (e2 itemD (eV 3) (eC (.int 0)))) (ρ := [some (offD o), none, none, none, none, none]) (h := h) (f := fun _ => .bl true)
    zi (by rw [zipD_len, List.length_map]; omega) fun x hx => by
      obtain ⟨a, b, rfl, lt⟩ := up_zip k.up x hx
      refine ⟨_, rfl, ?_⟩
      simp only [wipeD, eV0, eVs, bind_ok', then_ok, q_e2, q_e1, q_eC, q_aC, q_aN, q_sPar2, q_sPar3, q_sSet, q_sRet, q_eBf, q_nBf, q_eCall, q_tst, q_tru, q_ifV, q_sIf, q_eTup, q_sPass, q_sExp, q_eLm, q_nLst, q_frz, q_thaw, q_iSeq, q_iR2, q_iR3, q_iEnumD, q_iZip, q_andX, q_andT, q_orT, q_notT, q_eCh, q_sPat, q_eSl, q_nSl, q_pS, q_pN, q_sRetN, q_tYes, q_eDct0, okL0, okL1, okL2, okL3, okL4, okL5, okL6, ent, List.map_cons, List.map_nil, List.length_cons, List.length_nil, List.set_cons_zero, List.set_cons_succ, List.replicate, List.cons_append, List.nil_append, Nat.reduceAdd, Nat.reduceSub, Nat.sub_self, Nat.sub_zero, zero_add', ↓reduceIte, Bool.false_eq_true, item0, item1, addD_ii, subD_ii, negD_i, absD_i, ltD_ii, leD_ii, gtD_ii, geD_ii, truD_bl, decide_true, decide_false, pair0, decide_eq_true lt]
  have c3 := compM (α := Int × Rat) (ci := iSeq (eV 0)) (p := .tp [.nm 4, .nm 5]) (own := [4, 5]) (ce := eV 5) (ρ := [some (offD o), none, none, none, none, none]) (h := h) (xs := o) (g := pairD) (f := fun p => fr p.2)
    (seq_tup (by simp only [eV0, eVs, bind_ok', then_ok, q_e2, q_e1, q_eC, q_aC, q_aN, q_sPar2, q_sPar3, q_sSet, q_sRet, q_eBf, q_nBf, q_eCall, q_tst, q_tru, q_ifV, q_sIf, q_eTup, q_sPass, q_sExp, q_eLm, q_nLst, q_frz, q_thaw, q_iSeq, q_iR2, q_iR3, q_iEnumD, q_iZip, q_andX, q_andT, q_orT, q_notT, q_eCh, q_sPat, q_eSl, q_nSl, q_pS, q_pN, q_sRetN, q_tYes, q_eDct0, okL0, okL1, okL2, okL3, okL4, okL5, okL6, ent, List.map_cons, List.map_nil, List.length_cons, List.length_nil, List.set_cons_zero, List.set_cons_succ, List.replicate, List.cons_append, List.nil_append, Nat.reduceAdd, Nat.reduceSub, Nat.sub_self, Nat.sub_zero, zero_add', ↓reduceIte, Bool.false_eq_true, item0, item1, addD_ii, subD_ii, negD_i, absD_i, ltD_ii, leD_ii, gtD_ii, geD_ii, truD_bl, decide_true, decide_false]; rfl)) (by omega) fun p hp => ⟨_, rfl, by simp only [wipeD, eV0, eVs, bind_ok', then_ok, q_e2, q_e1, q_eC, q_aC, q_aN, q_sPar2, q_sPar3, q_sSet, q_sRet, q_eBf, q_nBf, q_eCall, q_tst, q_tru, q_ifV, q_sIf, q_eTup, q_sPass, q_sExp, q_eLm, q_nLst, q_frz, q_thaw, q_iSeq, q_iR2, q_iR3, q_iEnumD, q_iZip, q_andX, q_andT, q_orT, q_notT, q_eCh, q_sPat, q_eSl, q_nSl, q_pS, q_pN, q_sRetN, q_tYes, q_eDct0, okL0, okL1, okL2, okL3, okL4, okL5, okL6, ent, List.map_cons, List.map_nil, List.length_cons, List.length_nil, List.set_cons_zero, List.set_cons_succ, List.replicate, List.cons_append, List.nil_append, Nat.reduceAdd, Nat.reduceSub, Nat.sub_self, Nat.sub_zero, zero_add', ↓reduceIte, Bool.false_eq_true, item0, item1, addD_ii, subD_ii, negD_i, absD_i, ltD_ii, leD_ii, gtD_ii, geD_ii, truD_bl, decide_true, decide_false]⟩
  have a1 : ∀ {α : Type} (xs : List α), allD [.lst (xs.map fun _ => D.bl true)] h = .ok (.bl true) h := fun xs => by
    rw [allD_map (fun _ => true) xs h]
    simp
  have s := sharesum_eq k.prs (h := h) (Nat.lt_of_lt_of_le k.dn (Nat.pow_le_pow_right (by decide) (by decide)))
  have so : ss o = 1 := k.one
  rw [so] at s
  have w1 := eqD_fz (h := h) ((fz_fr 1).mono (by decide)) ((fz_fr 1).mono (by decide))
  rw [fr1] at s w1
  rw [wp_def, e1]
  simp only [eV0, eVs, bind_ok', then_ok, q_e2, q_e1, q_eC, q_aC, q_aN, q_sPar2, q_sPar3, q_sSet, q_sRet, q_eBf, q_nBf, q_eCall, q_tst, q_tru, q_ifV, q_sIf, q_eTup, q_sPass, q_sExp, q_eLm, q_nLst, q_frz, q_thaw, q_iSeq, q_iR2, q_iR3, q_iEnumD, q_iZip, q_andX, q_andT, q_orT, q_notT, q_eCh, q_sPat, q_eSl, q_nSl, q_pS, q_pN, q_sRetN, q_tYes, q_eDct0, okL0, okL1, okL2, okL3, okL4, okL5, okL6, ent, List.map_cons, List.map_nil, List.length_cons, List.length_nil, List.set_cons_zero, List.set_cons_succ, List.replicate, List.cons_append, List.nil_append, Nat.reduceAdd, Nat.reduceSub, Nat.sub_self, Nat.sub_zero, zero_add', ↓reduceIte, Bool.false_eq_true, item0, item1, addD_ii, subD_ii, negD_i, absD_i, ltD_ii, leD_ii, gtD_ii, geD_ii, truD_bl, decide_true, decide_false, wp_ok, wp_bad, wp_bind, wp_nox, wp_def, wps_then, wps_seq, wps_nx, wps_ret, wp_ite, wps_ite, t', c1, c2, c3, a1, s, w1, Bool.not_true, sPass]
  exact ⟨trivial, trivial⟩
/-! ### a Deal object -/
def DealAt (h : Hs) (i : Nat) (os : List Offer) : Prop := ∃ fs, h[i]? = some (.ins "Deal" fs) ∧ fs.lookup ("offers" : PySem.Str) = some (dealD os)
def newD (h : Hs) (os : List Offer) : Hs := h ++ [.ins "Deal" [("offers", dealD os)]]
theorem newD_at {h : Hs} {os : List Offer} : DealAt (newD h os) h.length os := ⟨[("offers", dealD os)], get_last, rfl⟩
theorem initD_eq {os : List Offer} {h : Hs} (o : Dl8 os) : m_Deal___init__ [.obj h.length, dealD os] (h ++ [.ins "Deal" []]) = .ok .non (newD h os) := by
  obtain ⟨o1, o2, o3⟩ := o
  generalize hg : (h ++ [DO.ins "Deal" []]) = g
  have c := compM (α := Offer) (ci := iSeq (eV 1)) (p := .nm 2) (own := [2]) (ce := eCall 1 m_is_offer (aC (eV 2) aN)) (ρ := [some (.obj h.length), some (dealD os), none]) (h := g) (xs := os) (g := offD) (f := fun _ => .bl true)
    (seq_tup (by simp only [eV0, eVs, bind_ok', then_ok, q_e2, q_e1, q_eC, q_aC, q_aN, q_sPar2, q_sPar3, q_sSet, q_sRet, q_eBf, q_nBf, q_eCall, q_tst, q_tru, q_ifV, q_sIf, q_eTup, q_sPass, q_sExp, q_eLm, q_nLst, q_frz, q_thaw, q_iSeq, q_iR2, q_iR3, q_iEnumD, q_iZip, q_andX, q_andT, q_orT, q_notT, q_eCh, q_sPat, q_eSl, q_nSl, q_pS, q_pN, q_sRetN, q_tYes, q_eDct0, okL0, okL1, okL2, okL3, okL4, okL5, okL6, ent, List.map_cons, List.map_nil, List.length_cons, List.length_nil, List.set_cons_zero, List.set_cons_succ, List.replicate, List.cons_append, List.nil_append, Nat.reduceAdd, Nat.reduceSub, Nat.sub_self, Nat.sub_zero, zero_add', ↓reduceIte, Bool.false_eq_true, item0, item1, addD_ii, subD_ii, negD_i, absD_i, ltD_ii, leD_ii, gtD_ii, geD_ii, truD_bl, decide_true, decide_false]; rfl)) (by omega) fun x hx => ⟨_, rfl, by simp only [wipeD, eV0, eVs, bind_ok', then_ok, q_e2, q_e1, q_eC, q_aC, q_aN, q_sPar2, q_sPar3, q_sSet, q_sRet, q_eBf, q_nBf, q_eCall, q_tst, q_tru, q_ifV, q_sIf, q_eTup, q_sPass, q_sExp, q_eLm, q_nLst, q_frz, q_thaw, q_iSeq, q_iR2, q_iR3, q_iEnumD, q_iZip, q_andX, q_andT, q_orT, q_notT, q_eCh, q_sPat, q_eSl, q_nSl, q_pS, q_pN, q_sRetN, q_tYes, q_eDct0, okL0, okL1, okL2, okL3, okL4, okL5, okL6, ent, List.map_cons, List.map_nil, List.length_cons, List.length_nil, List.set_cons_zero, List.set_cons_succ, List.replicate, List.cons_append, List.nil_append, Nat.reduceAdd, Nat.reduceSub, Nat.sub_self, Nat.sub_zero, zero_add', ↓reduceIte, Bool.false_eq_true, item0, item1, addD_ii, subD_ii, negD_i, absD_i, ltD_ii, leD_ii, gtD_ii, geD_ii, truD_bl, decide_true, decide_false, is_offer_eq (o3 x hx)]⟩
  have a : allD [.lst (os.map fun _ => D.bl true)] g = .ok (.bl true) g := by
    rw [allD_map (fun _ => true) os g]
    simp
  have t := istup_eq (xs := os.map offD) (lo := 1) (hi := 8) (h := g) (by rw [List.length_map]; omega) (by rw [List.length_map]; omega)
  have t' : m_is_tuple [dealD os, .int 1, .int 8] g = .ok (.bl true) g := t
  refine eq_of_wp ?_
  unfold m_Deal___init__ c_Deal___init__
  have e1 : ent 3 [D.obj h.length, dealD os] = [some (.obj h.length), some (dealD os), none] := rfl
  rw [wp_def, e1]
  simp only [eV0, eVs, bind_ok', then_ok, q_e2, q_e1, q_eC, q_aC, q_aN, q_sPar2, q_sPar3, q_sSet, q_sRet, q_eBf, q_nBf, q_eCall, q_tst, q_tru, q_ifV, q_sIf, q_eTup, q_sPass, q_sExp, q_eLm, q_nLst, q_frz, q_thaw, q_iSeq, q_iR2, q_iR3, q_iEnumD, q_iZip, q_andX, q_andT, q_orT, q_notT, q_eCh, q_sPat, q_eSl, q_nSl, q_pS, q_pN, q_sRetN, q_tYes, q_eDct0, okL0, okL1, okL2, okL3, okL4, okL5, okL6, ent, List.map_cons, List.map_nil, List.length_cons, List.length_nil, List.set_cons_zero, List.set_cons_succ, List.replicate, List.cons_append, List.nil_append, Nat.reduceAdd, Nat.reduceSub, Nat.sub_self, Nat.sub_zero, zero_add', ↓reduceIte, Bool.false_eq_true, item0, item1, addD_ii, subD_ii, negD_i, absD_i, ltD_ii, leD_ii, gtD_ii, geD_ii, truD_bl, decide_true, decide_false, wp_ok, wp_bad, wp_bind, wp_nox, wp_def, wps_then, wps_seq, wps_nx, wps_ret, wp_ite, wps_ite, t', c, a, Bool.not_true, sPass]
  refine wps_fld (v := dealD os) (n := h.length) (fs := []) (h1 := g) (by simp only [eV0, eVs, bind_ok', then_ok, q_e2, q_e1, q_eC, q_aC, q_aN, q_sPar2, q_sPar3, q_sSet, q_sRet, q_eBf, q_nBf, q_eCall, q_tst, q_tru, q_ifV, q_sIf, q_eTup, q_sPass, q_sExp, q_eLm, q_nLst, q_frz, q_thaw, q_iSeq, q_iR2, q_iR3, q_iEnumD, q_iZip, q_andX, q_andT, q_orT, q_notT, q_eCh, q_sPat, q_eSl, q_nSl, q_pS, q_pN, q_sRetN, q_tYes, q_eDct0, okL0, okL1, okL2, okL3, okL4, okL5, okL6, ent, List.map_cons, List.map_nil, List.length_cons, List.length_nil, List.set_cons_zero, List.set_cons_succ, List.replicate, List.cons_append, List.nil_append, Nat.reduceAdd, Nat.reduceSub, Nat.sub_self, Nat.sub_zero, zero_add', ↓reduceIte, Bool.false_eq_true, item0, item1, addD_ii, subD_ii, negD_i, absD_i, ltD_ii, leD_ii, gtD_ii, geD_ii, truD_bl, decide_true, decide_false]) (by simp only [eV0, eVs, bind_ok', then_ok, q_e2, q_e1, q_eC, q_aC, q_aN, q_sPar2, q_sPar3, q_sSet, q_sRet, q_eBf, q_nBf, q_eCall, q_tst, q_tru, q_ifV, q_sIf, q_eTup, q_sPass, q_sExp, q_eLm, q_nLst, q_frz, q_thaw, q_iSeq, q_iR2, q_iR3, q_iEnumD, q_iZip, q_andX, q_andT, q_orT, q_notT, q_eCh, q_sPat, q_eSl, q_nSl, q_pS, q_pN, q_sRetN, q_tYes, q_eDct0, okL0, okL1, okL2, okL3, okL4, okL5, okL6, ent, List.map_cons, List.map_nil, List.length_cons, List.length_nil, List.set_cons_zero, List.set_cons_succ, List.replicate, List.cons_append, List.nil_append, Nat.reduceAdd, Nat.reduceSub, Nat.sub_self, Nat.sub_zero, zero_add', ↓reduceIte, Bool.false_eq_true, item0, item1, addD_ii, subD_ii, negD_i, absD_i, ltD_ii, leD_ii, gtD_ii, geD_ii, truD_bl, decide_true, decide_false]) (by rw [← hg]; exact get_last) (by decide) ?_
  rw [← hg, set_last]
  exact ⟨trivial, rfl⟩
/-- Deal(..) -/
theorem makeD_eq {os : List Offer} {ca : Env → M (List D)} {ρ : Env} {h h0 : Hs} (o : Dl8 os) (e : ca ρ h0 = .ok [dealD os] h) : eMake "Deal" 2 m_Deal___init__ ca ρ h0 = .ok (.obj h.length) (newD h os) := by
  rw [q_eMake, e, bind_ok']
  show (if decide (1 + 1 = 2) = true then _ else _) = _
  rw [if_pos (show decide (1 + 1 = 2) = true from rfl), initD_eq o, bind_ok']
theorem fld_of {h : Hs} {i : Nat} {os : List Offer} (t : DealAt h i os) {ca : Env → M D} {ρ : Env} {h0 : Hs} (e : ca ρ h0 = .ok (.obj i) h) : eFld "Deal" "offers" ca ρ h0 = .ok (dealD os) h := by
  obtain ⟨fs, h1, h2⟩ := t
  rw [q_eFld, e, bind_ok', fields_at h1, Option.bind_some, h2]
theorem DealAt.app {h l : Hs} {i : Nat} {os : List Offer} (t : DealAt h i os) : DealAt (h ++ l) i os := by
  obtain ⟨fs, h1, h2⟩ := t
  exact ⟨fs, getl h1, h2⟩
theorem DealAt.gb {b : Nat} {h h' : Hs} {i : Nat} {os : List Offer} (t : DealAt h i os) (g : Gb b h h') (hi : b ≤ i) : DealAt h' i os := by
  obtain ⟨fs, h1, h2⟩ := t
  exact ⟨fs, g.at hi h1, h2⟩
end Pl

/-! Plain laws, deals 3: worths, one floor. -/
namespace Pl
open Dl Sh
local instance : Dl.Tb := ⟨fun _ => []⟩

/-! ### means -/
def ex (o : Offer) (f : Int → Rat) : Rat := sm (o.map fun p => p.2 * f p.1)
section
variable {o : Offer} (k : Ofr o) {f g : Int → Rat}
include k
theorem ex_const (c : Rat) : ex o (fun _ => c) = c := by
  unfold ex
  rw [sm_map_mul', show sm (o.map fun p => p.2) = 1 from k.one, Rat.one_mul]
theorem ex_mono (h : ∀ p ∈ o, f p.1 ≤ g p.1) : ex o f ≤ ex o g := sm_map_le fun p hp => Rat.mul_le_mul_of_nonneg_left (h p hp) (Rat.le_of_lt (k.sh p hp).1)
theorem ex_le {c : Rat} (h : ∀ p ∈ o, f p.1 ≤ c) : ex o f ≤ c := by
  have z := ex_mono k (f := f) (g := fun _ => c) h
  rwa [ex_const k] at z
theorem ex_bq {F M : Nat} (h : ∀ p ∈ o, Bq F M (f p.1)) (hF : 0 < F) : Bq (Do o * F) M (ex o f) := by
  have pos : 0 < Do o * F := Nat.mul_pos (Dd_pos _) hF
  have z := sm_bq (E := Do o * F) (M := M) pos (xs := o.map fun p => p.2 * f p.1) fun x hx => by
    obtain ⟨p, hp, rfl⟩ := List.mem_map.mp hx
    have y := (k.prs.sh p hp).mul (h p hp)
    rwa [Nat.one_mul] at y
  exact ⟨z.iq, z.lo, ex_le k fun p hp => (h p hp).hi⟩
end
/-! ### the worths -/
def wf (o : Offer) (x : Rat) : Rat := ex o fun v => mxq (v : Rat) x
def w : List Offer → Rat
  | [] => 0
  | o :: os => wf o (w os)
def ws : List Offer → List Rat
  | [] => [0]
  | o :: os => w (o :: os) :: ws os
theorem ws_cons : ∀ os : List Offer, ∃ t, ws os = w os :: t
  | [] => ⟨[], rfl⟩
  | o :: os => ⟨ws os, rfl⟩
theorem ws_len : ∀ os : List Offer, (ws os).length = os.length + 1
  | [] => rfl
  | o :: os => by unfold ws; rw [List.length_cons, ws_len os, List.length_cons]
theorem ws_at : ∀ (os : List Offer) (i : Nat), i ≤ os.length → (ws os)[i]? = some (w (os.drop i))
  | [], i, h => by
    have : i = 0 := by simpa using h
    subst this
    rfl
  | o :: os, 0, _ => rfl
  | o :: os, i + 1, h => by
    unfold ws
    rw [List.getElem?_cons_succ, ws_at os i (by simpa using h), List.drop_succ_cons]
theorem w_bq : ∀ {os : List Offer}, (∀ o ∈ os, Ofr o) → Bq (De os) 1000 (w os)
  | [], _ => Bq.zero' Nat.one_pos _
  | o :: os, h => show Bq (Do o * De os) 1000 (ex o fun v => mxq (v : Rat) (w os)) from ex_bq (h o List.mem_cons_self) (fun p hp => by
    have z := ((Bq.int (M := 1000) ((h o List.mem_cons_self).val p hp).1 ((h o List.mem_cons_self).val p hp).2).up (Nat.one_dvd _) (De_pos os) (Nat.le_refl _)).mx (w_bq fun x hx => h x (List.mem_cons_of_mem _ hx))
    rwa [Nat.max_self] at z) (De_pos os)
theorem lt1500 {a b : Nat} (ha : a < 2 ^ 60) (hb : b < 2 ^ 500) : a * b < 2 ^ 1500 := by
  have h1 : a * b ≤ 2 ^ 60 * b := Nat.mul_le_mul_right _ (Nat.le_of_lt ha)
  have h2 : 2 ^ 60 * b < 2 ^ 60 * 2 ^ 500 := Nat.mul_lt_mul_of_pos_left hb (Nat.pow_pos (by decide))
  have h3 : (2 : Nat) ^ 60 * 2 ^ 500 = 2 ^ 560 := by rw [← Nat.pow_add]
  have h4 : (2 : Nat) ^ 560 ≤ 2 ^ 1500 := Nat.pow_le_pow_right (by decide) (by decide)
  omega
theorem int_s {v : Int} (h0 : 0 ≤ v) (h1 : v ≤ 1001) : Sz 2000 (v : Rat) := (Bq.int (M := 1001) h0 h1).s Nat.one_pos (Nat.one_lt_two_pow (by decide)) (by decide)
theorem share_s {o : Offer} (k : Ofr o) {p : Int × Rat} (hp : p ∈ o) : Sz 2000 p.2 := (k.prs.sh p hp).s (Dd_pos _) (Nat.lt_of_lt_of_le k.dn (Nat.pow_le_pow_right (by decide) (by decide))) (by decide)
theorem with_floor_eq {o : Offer} (k : Ofr o) {F : Nat} {x : Rat} (hx : Bq F 1000 x) (h0 : 0 < F) (hF : F < 2 ^ 500) (h : Hs) : m_with_floor [offD o, fr x] h = .ok (fr (wf o x)) h := by
  have l5 := k.l5
  have E0 : 0 < Do o * F := Nat.mul_pos (Dd_pos _) h0
  have E1 := lt1500 k.dn hF
  have sx : Sz 2000 x := hx.s h0 (Nat.lt_of_lt_of_le hF (Nat.pow_le_pow_right (by decide) (by decide))) (by decide)
  refine mdef_ret (h' := h) ?_
  unfold c_with_floor
  have e1 : ent 4 [offD o, fr x] = [some (offD o), some (fr x), none, none] := rfl
  have mb : ∀ p ∈ o, Bq F 1000 (mxq (p.1 : Rat) x) := fun p hp => by
    have z := ((Bq.int (M := 1000) (k.val p hp).1 (k.val p hp).2).up (Nat.one_dvd _) h0 (Nat.le_refl _)).mx hx
    rwa [Nat.max_self] at z
  have c := compM (α := Int × Rat) (ci := iSeq (eV 0)) (p := .tp [.nm 2, .nm 3]) (own := [2, 3]) (ce := eCall 2 m_product (aC (eV 3) (aC (eCall 2 m_greatest (aC (eTup (aC (eV 2) (aC (eC (.int 1)) aN))) (aC (eV 1) aN))) aN))) (ρ := [some (offD o), some (fr x), none, none]) (h := h) (xs := o) (g := pairD) (f := fun p => fr (p.2 * mxq (p.1 : Rat) x))
    (seq_tup (by simp only [eV0, eVs, bind_ok', then_ok, q_e2, q_e1, q_eC, q_aC, q_aN, q_sPar2, q_sPar3, q_sSet, q_sRet, q_eBf, q_nBf, q_eCall, q_tst, q_tru, q_ifV, q_sIf, q_eTup, q_sPass, q_sExp, q_eLm, q_nLst, q_frz, q_thaw, q_iSeq, q_iR2, q_iR3, q_iEnumD, q_iZip, q_andX, q_andT, q_orT, q_notT, q_eCh, q_sPat, q_eSl, q_nSl, q_pS, q_pN, q_sRetN, q_tYes, q_eDct0, okL0, okL1, okL2, okL3, okL4, okL5, okL6, ent, List.map_cons, List.map_nil, List.length_cons, List.length_nil, List.set_cons_zero, List.set_cons_succ, List.replicate, List.cons_append, List.nil_append, Nat.reduceAdd, Nat.reduceSub, Nat.sub_self, Nat.sub_zero, zero_add', ↓reduceIte, Bool.false_eq_true, item0, item1, addD_ii, subD_ii, negD_i, absD_i, ltD_ii, leD_ii, gtD_ii, geD_ii, truD_bl, decide_true, decide_false]; rfl)) (by omega) fun p hp => ⟨_, rfl, by
      have v := k.val p hp
      have s1 := int_s v.1 (by omega)
      have s3 : Sz 2000 (mxq (p.1 : Rat) x) := (mb p hp).s h0 (Nat.lt_of_lt_of_le hF (Nat.pow_le_pow_right (by decide) (by decide))) (by decide)
      simp only [wipeD, eV0, eVs, bind_ok', then_ok, q_e2, q_e1, q_eC, q_aC, q_aN, q_sPar2, q_sPar3, q_sSet, q_sRet, q_eBf, q_nBf, q_eCall, q_tst, q_tru, q_ifV, q_sIf, q_eTup, q_sPass, q_sExp, q_eLm, q_nLst, q_frz, q_thaw, q_iSeq, q_iR2, q_iR3, q_iEnumD, q_iZip, q_andX, q_andT, q_orT, q_notT, q_eCh, q_sPat, q_eSl, q_nSl, q_pS, q_pN, q_sRetN, q_tYes, q_eDct0, okL0, okL1, okL2, okL3, okL4, okL5, okL6, ent, List.map_cons, List.map_nil, List.length_cons, List.length_nil, List.set_cons_zero, List.set_cons_succ, List.replicate, List.cons_append, List.nil_append, Nat.reduceAdd, Nat.reduceSub, Nat.sub_self, Nat.sub_zero, zero_add', ↓reduceIte, Bool.false_eq_true, item0, item1, addD_ii, subD_ii, negD_i, absD_i, ltD_ii, leD_ii, gtD_ii, geD_ii, truD_bl, decide_true, decide_false, fr_int, great_eq s1 sx (by decide), product_eq (share_s k hp) s3 (by decide)]⟩
  have mm : (o.map fun p => fr (p.2 * mxq (p.1 : Rat) x)) = (o.map fun p => p.2 * mxq (p.1 : Rat) x).map fr := by rw [List.map_map]; rfl
  rw [mm] at c
  have s := wsum_eq (E := Do o * F) (M := 1000) (B := 2000) (rs := o.map fun p => p.2 * mxq (p.1 : Rat) x) E0 (fun r hr => by
    obtain ⟨p, hp, rfl⟩ := List.mem_map.mp hr
    have y := (k.prs.sh p hp).mul (mb p hp)
    rwa [Nat.one_mul] at y) (by
      have : (2 : Nat) ^ 1513 ≤ 2 ^ 2000 := Nat.pow_le_pow_right (by decide) (by decide)
      have e : (2 : Nat) ^ 1513 = 8192 * 2 ^ 1500 := by rw [show 1513 = 1500 + 13 from rfl, Nat.pow_add, Nat.mul_comm]
      have l : ((o.map fun p => p.2 * mxq (p.1 : Rat) x).length * 1000 + 1) * (Do o * F) ≤ 8192 * (Do o * F) := Nat.mul_le_mul_right _ (by rw [List.length_map]; omega)
      omega) (by decide) h (.inl rfl)
  rw [e1]
  simp only [eV0, eVs, bind_ok', then_ok, q_e2, q_e1, q_eC, q_aC, q_aN, q_sPar2, q_sPar3, q_sSet, q_sRet, q_eBf, q_nBf, q_eCall, q_tst, q_tru, q_ifV, q_sIf, q_eTup, q_sPass, q_sExp, q_eLm, q_nLst, q_frz, q_thaw, q_iSeq, q_iR2, q_iR3, q_iEnumD, q_iZip, q_andX, q_andT, q_orT, q_notT, q_eCh, q_sPat, q_eSl, q_nSl, q_pS, q_pN, q_sRetN, q_tYes, q_eDct0, okL0, okL1, okL2, okL3, okL4, okL5, okL6, ent, List.map_cons, List.map_nil, List.length_cons, List.length_nil, List.set_cons_zero, List.set_cons_succ, List.replicate, List.cons_append, List.nil_append, Nat.reduceAdd, Nat.reduceSub, Nat.sub_self, Nat.sub_zero, zero_add', ↓reduceIte, Bool.false_eq_true, item0, item1, addD_ii, subD_ii, negD_i, absD_i, ltD_ii, leD_ii, gtD_ii, geD_ii, truD_bl, decide_true, decide_false, c, s]
  rfl
theorem item_last {h : Hs} {n : Nat} {xs : List D} {d : D} (e : h[n]? = some (.lst (xs ++ [d]))) : itemD (.obj n) (.int (-1)) h = .ok d h := by
  have z : L2.atI (xs ++ [d]) (-1) = some d := by
    unfold L2.atI L2.ixN
    rw [if_neg (by decide), if_pos (by rw [List.length_append, List.length_singleton]; omega), Option.bind_some]
    have e : ((-1 : Int) + ((xs ++ [d]).length : Nat)).toNat = xs.length := by rw [List.length_append, List.length_singleton]; omega
    rw [e]
    simp
  have s : seqOf h (.obj n) = some (xs ++ [d]) := items_obj e
  show (match seqOf h (.obj n) with
    | some xs => (match L2.atI xs (-1) with
        | some d => Dl.R.ok d h
        | none => .bad)
    | none => _) = _
  rw [s]
  show (match L2.atI (xs ++ [d]) (-1) with
        | some d => Dl.R.ok d h
        | none => .bad) = _
  rw [z]
theorem foldl_rev {α : Type} : ∀ (xs done : List α), xs.foldl (fun d o => o :: d) done = xs.reverse ++ done
  | [], done => rfl
  | x :: xs, done => by
    show xs.foldl (fun d o => o :: d) (x :: done) = _
    rw [foldl_rev xs, List.reverse_cons, List.append_assoc]
    rfl
theorem revD_seq {x : D} {xs : List D} {h : Hs} (hx : x = .tup xs ∨ x = .lst xs) : ∃ y, revD x h = .ok y h ∧ (y = .tup xs.reverse ∨ y = .lst xs.reverse) := by
  rcases hx with e | e
  · exact ⟨.tup xs.reverse, by rw [e]; rfl, .inl rfl⟩
  · exact ⟨.lst xs.reverse, by rw [e]; rfl, .inr rfl⟩
theorem worths_eq {os : List Offer} (k : ∀ o ∈ os, Ofr o) (l8 : os.length ≤ 8) {h : Hs} {x : D} (hx : x = .tup (os.map offD) ∨ x = .lst (os.map offD)) : ∃ u, m_worths [x] h = .ok (.lst ((ws os).map fr)) (h ++ [u]) := by
  have en : ent 3 [x] = [some x, none, none] := rfl
  obtain ⟨y, ey, hy⟩ := revD_seq (h := h ++ [.lst [fr 0]]) hx
  have s0 : sSet 1 (thaw (nLst (aC (eC (.tup [.int 0, .int 1])) aN))) [some x, none, none] h = .nx [some x, some (.obj h.length), none] (h ++ [.lst [fr 0]]) := by
    simp only [eV0, eVs, bind_ok', then_ok, q_e2, q_e1, q_eC, q_aC, q_aN, q_sPar2, q_sPar3, q_sSet, q_sRet, q_eBf, q_nBf, q_eCall, q_tst, q_tru, q_ifV, q_sIf, q_eTup, q_sPass, q_sExp, q_eLm, q_nLst, q_frz, q_thaw, q_iSeq, q_iR2, q_iR3, q_iEnumD, q_iZip, q_andX, q_andT, q_orT, q_notT, q_eCh, q_sPat, q_eSl, q_nSl, q_pS, q_pN, q_sRetN, q_tYes, q_eDct0, okL0, okL1, okL2, okL3, okL4, okL5, okL6, ent, List.map_cons, List.map_nil, List.length_cons, List.length_nil, List.set_cons_zero, List.set_cons_succ, List.replicate, List.cons_append, List.nil_append, Nat.reduceAdd, Nat.reduceSub, Nat.sub_self, Nat.sub_zero, zero_add', ↓reduceIte, Bool.false_eq_true, item0, item1, addD_ii, subD_ii, negD_i, absD_i, ltD_ii, leD_ii, gtD_ii, geD_ii, truD_bl, decide_true, decide_false]
    rfl
  have it : iSeq (e1 revD (eV 0)) [some x, some (.obj h.length), none] (h ++ [.lst [fr 0]]) = .ok ⟨(os.reverse).map offD, []⟩ (h ++ [.lst [fr 0]]) := by
    rw [List.map_reverse]
    refine seq_it (x := y) ?_ hy
    simp only [eV0, eVs, bind_ok', then_ok, q_e2, q_e1, q_eC, q_aC, q_aN, q_sPar2, q_sPar3, q_sSet, q_sRet, q_eBf, q_nBf, q_eCall, q_tst, q_tru, q_ifV, q_sIf, q_eTup, q_sPass, q_sExp, q_eLm, q_nLst, q_frz, q_thaw, q_iSeq, q_iR2, q_iR3, q_iEnumD, q_iZip, q_andX, q_andT, q_orT, q_notT, q_eCh, q_sPat, q_eSl, q_nSl, q_pS, q_pN, q_sRetN, q_tYes, q_eDct0, okL0, okL1, okL2, okL3, okL4, okL5, okL6, ent, List.map_cons, List.map_nil, List.length_cons, List.length_nil, List.set_cons_zero, List.set_cons_succ, List.replicate, List.cons_append, List.nil_append, Nat.reduceAdd, Nat.reduceSub, Nat.sub_self, Nat.sub_zero, zero_add', ↓reduceIte, Bool.false_eq_true, item0, item1, addD_ii, subD_ii, negD_i, absD_i, ltD_ii, leD_ii, gtD_ii, geD_ii, truD_bl, decide_true, decide_false, ey]
  obtain ⟨ρ', h', el, st, -⟩ := loop_st (p := .nm 2) (body := sExp (eLm appD (eV 1) (aC (eCall 2 m_with_floor (aC (eV 2) (aC (e2 itemD (eV 1) (e1 negD (eC (.int 1)))) aN))) aN))) (g := offD)
    (fun done ρ h' => (∃ d, ρ = [some x, some (.obj h.length), d]) ∧ h' = h ++ [.lst ((ws done).reverse.map fr)]) (fun done o => o :: done) (fun done rest => (∀ o ∈ done, Ofr o) ∧ (∀ o ∈ rest, Ofr o) ∧ done.length + rest.length ≤ 8)
    (fun done o rest ρ h' ⟨j1, j2, j3⟩ ⟨⟨d, er⟩, eh⟩ => by
      subst er eh
      have ko := j2 o List.mem_cons_self
      have wb := w_bq j1
      have hl : done.length ≤ 8 := by omega
      obtain ⟨t, et⟩ := ws_cons done
      have cell : (h ++ [DO.lst ((ws done).reverse.map fr)])[h.length]? = some (.lst ((ws done).reverse.map fr)) := get_last
      have il : itemD (.obj h.length) (.int (-1)) (h ++ [DO.lst ((ws done).reverse.map fr)]) = .ok (fr (w done)) (h ++ [DO.lst ((ws done).reverse.map fr)]) := by
        refine item_last (xs := t.reverse.map fr) ?_
        rw [cell, et, List.reverse_cons, List.map_append]
        rfl
      have wfe := with_floor_eq ko wb (De_pos done) (De_500 j1 hl) (h ++ [DO.lst ((ws done).reverse.map fr)])
      have ap := app_obj (y := fr (w (o :: done))) cell (by rw [List.length_map, List.length_reverse, ws_len]; omega)
      have ap' : appD (.obj h.length) [fr (wf o (w done))] (h ++ [DO.lst ((ws done).reverse.map fr)]) = .ok .non (h ++ [DO.lst ((ws (o :: done)).reverse.map fr)]) := by
        have q : (ws (o :: done)).reverse.map fr = (ws done).reverse.map fr ++ [fr (w (o :: done))] := by
          show (w (o :: done) :: ws done).reverse.map fr = _
          rw [List.reverse_cons, List.map_append]
          rfl
        rw [q]
        rw [set_last] at ap
        exact ap
      refine ⟨_, [some x, some (.obj h.length), some (offD o)], h ++ [.lst ((ws (o :: done)).reverse.map fr)], rfl, ?_, ⟨⟨_, rfl⟩, rfl⟩, ?_⟩
      · simp only [List.set_cons_zero, List.set_cons_succ, eV0, eVs, bind_ok', then_ok, q_e2, q_e1, q_eC, q_aC, q_aN, q_sPar2, q_sPar3, q_sSet, q_sRet, q_eBf, q_nBf, q_eCall, q_tst, q_tru, q_ifV, q_sIf, q_eTup, q_sPass, q_sExp, q_eLm, q_nLst, q_frz, q_thaw, q_iSeq, q_iR2, q_iR3, q_iEnumD, q_iZip, q_andX, q_andT, q_orT, q_notT, q_eCh, q_sPat, q_eSl, q_nSl, q_pS, q_pN, q_sRetN, q_tYes, q_eDct0, okL0, okL1, okL2, okL3, okL4, okL5, okL6, ent, List.map_cons, List.map_nil, List.length_cons, List.length_nil, List.set_cons_zero, List.set_cons_succ, List.replicate, List.cons_append, List.nil_append, Nat.reduceAdd, Nat.reduceSub, Nat.sub_self, Nat.sub_zero, zero_add', ↓reduceIte, Bool.false_eq_true, item0, item1, addD_ii, subD_ii, negD_i, absD_i, ltD_ii, leD_ii, gtD_ii, geD_ii, truD_bl, decide_true, decide_false, lstAt_obj cell, il, wfe, ap']
      · refine ⟨fun q hq => ?_, fun q hq => j2 q (List.mem_cons_of_mem _ hq), by rw [List.length_cons] at j3 ⊢; omega⟩
        rcases List.mem_cons.mp hq with e | e
        · rw [e]; exact ko
        · exact j1 q e)
    os.reverse [] [some x, some (.obj h.length), none] (h ++ [.lst [fr 0]]) ⟨by simp, fun o ho => k o (List.mem_reverse.mp ho), by rw [List.length_reverse]; simpa using l8⟩ ⟨⟨none, rfl⟩, rfl⟩
  rw [foldl_rev, List.reverse_reverse, List.append_nil] at st
  obtain ⟨⟨d, er⟩, eh⟩ := st
  subst er eh
  refine ⟨.lst ((ws os).reverse.map fr), mdef_ret ?_⟩
  unfold c_worths
  have cell : (h ++ [DO.lst ((ws os).reverse.map fr)])[h.length]? = some (.lst ((ws os).reverse.map fr)) := get_last
  have ro : revD (.obj h.length) (h ++ [DO.lst ((ws os).reverse.map fr)]) = .ok (.lst ((ws os).map fr)) (h ++ [DO.lst ((ws os).reverse.map fr)]) := by
    show (match items (h ++ [DO.lst ((ws os).reverse.map fr)]) (.obj h.length) with
      | some xs => Dl.R.ok (D.lst xs.reverse) _
      | none => .bad) = _
    rw [items_obj cell]
    show Dl.R.ok (D.lst ((ws os).reverse.map fr).reverse) _ = _
    rw [← List.map_reverse, List.reverse_reverse]
  rw [en, seq_nx s0, seq_nx (by rw [for_of it]; exact el)]
  simp only [eV0, eVs, bind_ok', then_ok, q_e2, q_e1, q_eC, q_aC, q_aN, q_sPar2, q_sPar3, q_sSet, q_sRet, q_eBf, q_nBf, q_eCall, q_tst, q_tru, q_ifV, q_sIf, q_eTup, q_sPass, q_sExp, q_eLm, q_nLst, q_frz, q_thaw, q_iSeq, q_iR2, q_iR3, q_iEnumD, q_iZip, q_andX, q_andT, q_orT, q_notT, q_eCh, q_sPat, q_eSl, q_nSl, q_pS, q_pN, q_sRetN, q_tYes, q_eDct0, okL0, okL1, okL2, okL3, okL4, okL5, okL6, ent, List.map_cons, List.map_nil, List.length_cons, List.length_nil, List.set_cons_zero, List.set_cons_succ, List.replicate, List.cons_append, List.nil_append, Nat.reduceAdd, Nat.reduceSub, Nat.sub_self, Nat.sub_zero, zero_add', ↓reduceIte, Bool.false_eq_true, item0, item1, addD_ii, subD_ii, negD_i, absD_i, ltD_ii, leD_ii, gtD_ii, geD_ii, truD_bl, decide_true, decide_false, ro]
theorem worth_eq {os : List Offer} (k : Dl8 os) {h : Hs} {i : Nat} (t : DealAt h i os) : ∃ u, m_worth [.obj i] h = .ok (fr (w os)) (h ++ [u]) := by
  obtain ⟨u, e⟩ := worths_eq k.ofr k.l8 (h := h) (x := dealD os) (.inl rfl)
  refine ⟨u, mdef_ret ?_⟩
  unfold c_worth
  have f : ∀ ρ : Env, eFld "Deal" "offers" (eV 0) (some (.obj i) :: ρ) h = .ok (dealD os) h := fun ρ => fld_of t eV0
  obtain ⟨tl, et⟩ := ws_cons os
  have it : itemD (.lst ((ws os).map fr)) (.int 0) (h ++ [u]) = .ok (fr (w os)) (h ++ [u]) := item_lst (i := 0) (by rw [et]; rfl)
  simp only [eV0, eVs, bind_ok', then_ok, q_e2, q_e1, q_eC, q_aC, q_aN, q_sPar2, q_sPar3, q_sSet, q_sRet, q_eBf, q_nBf, q_eCall, q_tst, q_tru, q_ifV, q_sIf, q_eTup, q_sPass, q_sExp, q_eLm, q_nLst, q_frz, q_thaw, q_iSeq, q_iR2, q_iR3, q_iEnumD, q_iZip, q_andX, q_andT, q_orT, q_notT, q_eCh, q_sPat, q_eSl, q_nSl, q_pS, q_pN, q_sRetN, q_tYes, q_eDct0, okL0, okL1, okL2, okL3, okL4, okL5, okL6, ent, List.map_cons, List.map_nil, List.length_cons, List.length_nil, List.set_cons_zero, List.set_cons_succ, List.replicate, List.cons_append, List.nil_append, Nat.reduceAdd, Nat.reduceSub, Nat.sub_self, Nat.sub_zero, zero_add', ↓reduceIte, Bool.false_eq_true, item0, item1, addD_ii, subD_ii, negD_i, absD_i, ltD_ii, leD_ii, gtD_ii, geD_ii, truD_bl, decide_true, decide_false, f, e, it]
theorem floors_eq {os : List Offer} (k : Dl8 os) {h : Hs} {i : Nat} (t : DealAt h i os) : ∃ u, m_floors [.obj i] h = .ok (.tup (((ws os).drop 1).map fr)) (h ++ [u]) := by
  obtain ⟨u, e⟩ := worths_eq k.ofr k.l8 (h := h) (x := dealD os) (.inl rfl)
  refine ⟨u, mdef_ret ?_⟩
  unfold c_floors
  have f : ∀ ρ : Env, eFld "Deal" "offers" (eV 0) (some (.obj i) :: ρ) h = .ok (dealD os) h := fun ρ => fld_of t eV0
  have sl : sliceD (.lst ((ws os).map fr)) (some 1) none (h ++ [u]) = .ok (.lst (((ws os).drop 1).map fr)) (h ++ [u]) := by
    show Dl.R.ok (D.lst (cutL ((ws os).map fr) (some ((1 : Nat) : Int)) none)) (h ++ [u]) = _
    rw [cutL_from, List.map_drop]
  simp only [eV0, eVs, bind_ok', then_ok, q_e2, q_e1, q_eC, q_aC, q_aN, q_sPar2, q_sPar3, q_sSet, q_sRet, q_eBf, q_nBf, q_eCall, q_tst, q_tru, q_ifV, q_sIf, q_eTup, q_sPass, q_sExp, q_eLm, q_nLst, q_frz, q_thaw, q_iSeq, q_iR2, q_iR3, q_iEnumD, q_iZip, q_andX, q_andT, q_orT, q_notT, q_eCh, q_sPat, q_eSl, q_nSl, q_pS, q_pN, q_sRetN, q_tYes, q_eDct0, okL0, okL1, okL2, okL3, okL4, okL5, okL6, ent, List.map_cons, List.map_nil, List.length_cons, List.length_nil, List.set_cons_zero, List.set_cons_succ, List.replicate, List.cons_append, List.nil_append, Nat.reduceAdd, Nat.reduceSub, Nat.sub_self, Nat.sub_zero, zero_add', ↓reduceIte, Bool.false_eq_true, item0, item1, addD_ii, subD_ii, negD_i, absD_i, ltD_ii, leD_ii, gtD_ii, geD_ii, truD_bl, decide_true, decide_false, f, e, sl, tupD_lst]
end Pl

/-! Plain laws, deals 4: one floor; what no offer exceeds; all values; the mean of the greatest; the best floor. -/
namespace Pl
open Dl Sh
local instance : Dl.Tb := ⟨fun _ => []⟩

/-! ### one floor -/
theorem p500 {F : Nat} (h : F < 2 ^ 500) : F < 2 ^ 1500 := Nat.lt_of_lt_of_le h (Nat.pow_le_pow_right (by decide) (by decide))
/-! ### no offer has more than a value -/
def leq (v : Int) (p : Int × Rat) : Bool := decide (p.1 ≤ v)
def nm : List Offer → Int → Rat
  | [], _ => 1
  | o :: os, v => ss (o.filter (leq v)) * nm os v
/-! ### all values -/
def kv (ks : List Int) : List (L2.Key × D) := ks.map fun k => (.inl k, .bl true)
theorem insU_len {x : Int} : ∀ {ys : List Int}, (insU x ys).length ≤ ys.length + 1
  | [] => Nat.le_refl _
  | y :: ys => by
    unfold insU
    split
    · simp
    · split
      · simp
      · rw [List.length_cons, List.length_cons]
        exact Nat.succ_le_succ insU_len
theorem usort_len : ∀ xs : List Int, (usort xs).length ≤ xs.length
  | [] => Nat.le_refl _
  | x :: xs => Nat.le_trans insU_len (Nat.succ_le_succ (usort_len xs))
end Pl

/-! Plain laws, deals 5: the mean of the greatest; the best floor; the law's own ways. -/
namespace Pl
open Dl Sh
local instance : Dl.Tb := ⟨fun _ => []⟩

/-- of a bottom, and of a size to both sides -/
structure Bz (E M : Nat) (q : Rat) : Prop where
  iq : Iq E q
  lo : -((M : Int) : Rat) ≤ q
  hi : q ≤ ((M : Int) : Rat)
section
variable {E M N : Nat} {p q : Rat}
theorem Sz.neg {b : Nat} (h : Sz b (-q)) : Sz b q := by
  obtain ⟨h1, h2⟩ := h
  rw [Rat.neg_num, Int.natAbs_neg] at h1
  rw [Rat.neg_den] at h2
  exact ⟨h1, h2⟩
theorem Bz.s (h : Bz E M q) (h0 : 0 < E) (hE : E < 2 ^ 1500) (hM : M < 2 ^ 60) : Sz 2000 q := by
  rcases Rat.le_total (a := 0) (b := q) with z | z
  · exact (Bq.mk h.iq z h.hi).s h0 hE hM
  · refine Sz.neg ((Bq.mk (M := M) h.iq.neg (by grind) ?_).s h0 hE hM)
    have := h.lo
    grind
theorem Bq.z (h : Bq E M q) : Bz E M q := ⟨h.iq, by
  have := h.lo
  have := nat_rat_nn M
  grind, h.hi⟩
theorem Bz.add (h : Bz E M p) (k : Bz E N q) : Bz E (M + N) (p + q) := ⟨h.iq.add k.iq, by
  have := h.lo
  have := k.lo
  rw [nat_rat]
  grind, by
  have := h.hi
  have := k.hi
  rw [nat_rat]
  grind⟩
theorem Bz.sub (h : Bz E M p) (k : Bz E N q) : Bz E (M + N) (p - q) := ⟨h.iq.sub k.iq, by
  have := h.lo
  have := k.hi
  rw [nat_rat]
  grind, by
  have := h.hi
  have := k.lo
  rw [nat_rat]
  grind⟩
theorem Bz.up (h : Bz E M q) (l : M ≤ N) : Bz E N q := ⟨h.iq, by
  have := h.lo
  have := nat_rat_le l
  grind, Rat.le_trans h.hi (nat_rat_le l)⟩
end
/-! ### the mean of the greatest -/
/-! ### the best floor -/
end Pl

/-! Plain laws, deals 6: the second hand: offers, deals that are drawn; equal things. -/
namespace Pl
open Dl Sh
local instance : Dl.Tb := ⟨fun _ => []⟩

def e3b : Env → M D := e2 addD (e2 addD (e2 mulD (e2 itemD (eV 0) (eC (.int 3))) (eC (.int 69621))) (eV 2)) (eC (.int 29))
theorem hand_b : Dr m__law_draw_v3 (.obj 0) 1 Hd := by
  have z : Dr (mDef 5 (cHand e3b)) (.obj 0) 1 Hd := hand_dr fun h l z n p s c a b d e s0 s1 c0 cb => by
    have i3 : itemD (.obj 0) (.int 3) h = .ok (.int s) h := item_obj (i := 3) e rfl
    have m : okMul s 69621 = true := okMul_small (small_lt (by omega)) (by decide +kernel)
    refine ⟨s * 69621 + c + 29, ?_⟩
    unfold e3b
    simp only [eV0, eVs, bind_ok', then_ok, q_e2, q_e1, q_eC, q_aC, q_aN, q_sPar2, q_sPar3, q_sSet, q_sRet, q_eBf, q_nBf, q_eCall, q_tst, q_tru, q_ifV, q_sIf, q_eTup, q_sPass, q_sExp, q_eLm, q_nLst, q_frz, q_thaw, q_iSeq, q_iR2, q_iR3, q_iEnumD, q_iZip, q_andX, q_andT, q_orT, q_notT, q_eCh, q_sPat, q_eSl, q_nSl, q_pS, q_pN, q_sRetN, q_tYes, q_eDct0, okL0, okL1, okL2, okL3, okL4, okL5, okL6, ent, List.map_cons, List.map_nil, List.length_cons, List.length_nil, List.set_cons_zero, List.set_cons_succ, List.replicate, List.cons_append, List.nil_append, Nat.reduceAdd, Nat.reduceSub, Nat.sub_self, Nat.sub_zero, zero_add', ↓reduceIte, Bool.false_eq_true, item0, item1, addD_ii, subD_ii, negD_i, absD_i, ltD_ii, leD_ii, gtD_ii, geD_ii, truD_bl, decide_true, decide_false, i3, mulD_ii m]
  exact z
theorem hand_spec2 {ns : List Int} {Q : D → Hs → Prop} (hl : ns.length ≤ 63) (hb : ∀ z ∈ ns, PySem.Builtin.Int.intBits z ≤ 1048576) (k : ∀ h, Hd h 0 → h.length = 1 → Q (.obj 0) h) : Wp (m__law_hand_v2 [.scr ns] []) Q := by
  unfold m__law_hand_v2 c__law_hand_v2
  have e1 : ent 3 [D.scr ns] = [some (.scr ns), none, none] := rfl
  have s63 : ∀ ρ : Env, eSl (eV 0) pN (pS (eC (.int 63))) (some (.scr ns) :: ρ) [] = .ok (.lst ((ns.take 63).map D.int)) [] := fun ρ => by
    have z : sliceD (.scr ns) none (some 63) [] = .ok (.lst ((ns.take 63).map D.int)) [] := slD_scr_to (m := 63)
    simp only [eV0, eVs, bind_ok', then_ok, q_e2, q_e1, q_eC, q_aC, q_aN, q_sPar2, q_sPar3, q_sSet, q_sRet, q_eBf, q_nBf, q_eCall, q_tst, q_tru, q_ifV, q_sIf, q_eTup, q_sPass, q_sExp, q_eLm, q_nLst, q_frz, q_thaw, q_iSeq, q_iR2, q_iR3, q_iEnumD, q_iZip, q_andX, q_andT, q_orT, q_notT, q_eCh, q_sPat, q_eSl, q_nSl, q_pS, q_pN, q_sRetN, q_tYes, q_eDct0, okL0, okL1, okL2, okL3, okL4, okL5, okL6, ent, List.map_cons, List.map_nil, List.length_cons, List.length_nil, List.set_cons_zero, List.set_cons_succ, List.replicate, List.cons_append, List.nil_append, Nat.reduceAdd, Nat.reduceSub, Nat.sub_self, Nat.sub_zero, zero_add', ↓reduceIte, Bool.false_eq_true, item0, item1, addD_ii, subD_ii, negD_i, absD_i, ltD_ii, leD_ii, gtD_ii, geD_ii, truD_bl, decide_true, decide_false, z]
  have c := compM (α := Int) (ci := iSeq (eSl (eV 0) pN (pS (eC (.int 63))))) (p := .nm 2) (own := [2]) (ce := eBf absD (aC (eBf intD (aC (eV 2) aN)) aN)) (ρ := [some (.scr ns), none, none]) (h := []) (xs := ns.take 63) (g := D.int) (f := fun i => .int i.natAbs)
    (seq_lst (s63 _)) (by rw [List.length_take]; omega) fun i hi => ⟨_, rfl, by simp only [wipeD, eV0, eVs, bind_ok', then_ok, q_e2, q_e1, q_eC, q_aC, q_aN, q_sPar2, q_sPar3, q_sSet, q_sRet, q_eBf, q_nBf, q_eCall, q_tst, q_tru, q_ifV, q_sIf, q_eTup, q_sPass, q_sExp, q_eLm, q_nLst, q_frz, q_thaw, q_iSeq, q_iR2, q_iR3, q_iEnumD, q_iZip, q_andX, q_andT, q_orT, q_notT, q_eCh, q_sPat, q_eSl, q_nSl, q_pS, q_pN, q_sRetN, q_tYes, q_eDct0, okL0, okL1, okL2, okL3, okL4, okL5, okL6, ent, List.map_cons, List.map_nil, List.length_cons, List.length_nil, List.set_cons_zero, List.set_cons_succ, List.replicate, List.cons_append, List.nil_append, Nat.reduceAdd, Nat.reduceSub, Nat.sub_self, Nat.sub_zero, zero_add', ↓reduceIte, Bool.false_eq_true, item0, item1, addD_ii, subD_ii, negD_i, absD_i, ltD_ii, leD_ii, gtD_ii, geD_ii, truD_bl, decide_true, decide_false, intD_i]⟩
  have m37 : okMul 37 (((ns.take 63).length : Nat) : Int) = true := okMul_small (by decide +kernel) (small_lt (by rw [List.length_take]; omega))
  rw [wp_def, e1]
  simp only [eV0, eVs, bind_ok', then_ok, q_e2, q_e1, q_eC, q_aC, q_aN, q_sPar2, q_sPar3, q_sSet, q_sRet, q_eBf, q_nBf, q_eCall, q_tst, q_tru, q_ifV, q_sIf, q_eTup, q_sPass, q_sExp, q_eLm, q_nLst, q_frz, q_thaw, q_iSeq, q_iR2, q_iR3, q_iEnumD, q_iZip, q_andX, q_andT, q_orT, q_notT, q_eCh, q_sPat, q_eSl, q_nSl, q_pS, q_pN, q_sRetN, q_tYes, q_eDct0, okL0, okL1, okL2, okL3, okL4, okL5, okL6, ent, List.map_cons, List.map_nil, List.length_cons, List.length_nil, List.set_cons_zero, List.set_cons_succ, List.replicate, List.cons_append, List.nil_append, Nat.reduceAdd, Nat.reduceSub, Nat.sub_self, Nat.sub_zero, zero_add', ↓reduceIte, Bool.false_eq_true, item0, item1, addD_ii, subD_ii, negD_i, absD_i, ltD_ii, leD_ii, gtD_ii, geD_ii, truD_bl, decide_true, decide_false, wp_ok, wp_bad, wp_bind, wp_nox, wp_def, wps_then, wps_seq, wps_nx, wps_ret, wp_ite, wps_ite, c, lenD_lst, List.length_map, mulD_ii m37]
  refine k _ ⟨(ns.take 63).map fun i => (i.natAbs : Int), 0, 0, 251 + 37 * ((ns.take 63).length : Int), 0, ?_, ?_, Int.le_refl _, by omega, ?_, Int.le_refl _, Int.le_refl _⟩ rfl
  · rw [List.map_map]
    rfl
  · intro c hc
    obtain ⟨i, hi, rfl⟩ := List.mem_map.mp hc
    exact ⟨Int.natCast_nonneg _, by rw [intBits_abs]; exact hb i (List.mem_of_mem_take hi)⟩
  · rw [List.length_take]
    omega
theorem some_spec {h : Hs} {N : Nat} {xs : List D} {Q : D → Hs → Prop} (t : Hd h N) (hx : xs ≠ []) (hl : xs.length ≤ 1000000) (hN : N < 1000000) (k : ∀ d h', d ∈ xs → Hd h' (N + 1) → Gb 1 h h' → Q d h') : Wp (m__law_some [.obj 0, .lst xs] h) Q := hand_b.any t hx hl hN k
/-! ### an offer that is drawn -/
theorem sumB_le {a b : Int} : ∀ {ws : List Int}, (∀ x ∈ ws, a ≤ x ∧ x ≤ b) → a * ws.length ≤ ws.sum ∧ ws.sum ≤ b * ws.length
  | [], _ => by simp
  | x :: ws, h => by
    have h1 := h x List.mem_cons_self
    have h2 := sumB_le fun y hy => h y (List.mem_cons_of_mem _ hy)
    rw [List.sum_cons, List.length_cons, Int.natCast_succ, Int.mul_add, Int.mul_add, Int.mul_one, Int.mul_one]
    omega
theorem sum_mem {x : Int} : ∀ {ws : List Int}, (∀ y ∈ ws, 0 ≤ y) → x ∈ ws → x ≤ ws.sum
  | [], _, h => by simp at h
  | y :: ws, k, h => by
    have k1 := k y List.mem_cons_self
    have k2 : 0 ≤ ws.sum := by
      have : ∀ {l : List Int}, (∀ y ∈ l, 0 ≤ y) → 0 ≤ l.sum := by
        intro l
        induction l with
        | nil => intro _; simp
        | cons a l ih =>
          intro q
          have := q a List.mem_cons_self
          have := ih fun z hz => q z (List.mem_cons_of_mem _ hz)
          rw [List.sum_cons]
          omega
      exact this fun z hz => k z (List.mem_cons_of_mem _ hz)
    rw [List.sum_cons]
    rcases List.mem_cons.mp h with e | e
    · omega
    · have := sum_mem (fun z hz => k z (List.mem_cons_of_mem _ hz)) e
      omega
theorem sm_divInt (S : Int) : ∀ ws : List Int, sm (ws.map fun x => Rat.divInt x S) = Rat.divInt ws.sum S
  | [] => by
    show (0 : Rat) = Rat.divInt ([] : List Int).sum S
    rw [List.sum_nil, Rat.zero_divInt]
  | x :: ws => by
    show Rat.divInt x S + sm (ws.map fun x => Rat.divInt x S) = _
    rw [sm_divInt S ws, List.sum_cons, Rat.divInt_eq_div, Rat.divInt_eq_div, Rat.divInt_eq_div, Rat.div_def, Rat.div_def, Rat.div_def, ← Rat.add_mul, Rat.intCast_add]
/-- the pairs of values and weights -/
def mkO (vs ws : List Int) : Offer := (vs.zip ws).map fun p => (p.1, Rat.divInt p.2 ws.sum)
theorem mkO_fst : ∀ {vs ws : List Int} (S : Int), vs.length = ws.length → ((vs.zip ws).map fun p => (p.1, Rat.divInt p.2 S)).map (·.1) = vs ∧ ((vs.zip ws).map fun p => (p.1, Rat.divInt p.2 S)).map (·.2) = ws.map fun x => Rat.divInt x S
  | [], [], _, _ => ⟨rfl, rfl⟩
  | [], _ :: _, _, h => by simp at h
  | _ :: _, [], _, h => by simp at h
  | v :: vs, x :: ws, S, h => by
    obtain ⟨h1, h2⟩ := mkO_fst (vs := vs) (ws := ws) S (by simpa using h)
    constructor
    · show v :: ((vs.zip ws).map fun p => (p.1, Rat.divInt p.2 S)).map (·.1) = _
      rw [h1]
    · show Rat.divInt x S :: ((vs.zip ws).map fun p => (p.1, Rat.divInt p.2 S)).map (·.2) = _
      rw [h2]
      rfl
theorem mkO_den {vs ws : List Int} (hl : vs.length = ws.length) (h1 : 1 ≤ vs.length) (h5 : vs.length ≤ 5) (hw : ∀ x ∈ ws, 1 ≤ x ∧ x ≤ 4) : ∀ p ∈ mkO vs ws, p.2.den < 32 := fun p hp => by
  obtain ⟨e1, e2⟩ := mkO_fst (vs := vs) (ws := ws) ws.sum hl
  have sl := sumB_le (a := 1) (b := 4) hw
  have S1 : 1 ≤ ws.sum := by omega
  have S2 : ws.sum ≤ 20 := by omega
  have hq : p.2 ∈ (mkO vs ws).map (·.2) := List.mem_map.mpr ⟨p, hp, rfl⟩
  have hq' : p.2 ∈ ws.map fun x => Rat.divInt x ws.sum := by rw [← e2]; exact hq
  obtain ⟨x, hx, e⟩ := List.mem_map.mp hq'
  rw [← e, Rat.den_divInt, if_neg (by omega)]
  exact Nat.lt_of_le_of_lt (Nat.div_le_self _ _) (by omega)
theorem mkO_ok {vs ws : List Int} (hl : vs.length = ws.length) (h1 : 1 ≤ vs.length) (h5 : vs.length ≤ 5) (hv : ∀ v ∈ vs, 0 ≤ v ∧ v ≤ 1000) (up : vs.Pairwise (· < ·)) (hw : ∀ x ∈ ws, 1 ≤ x ∧ x ≤ 4) : Ofr (mkO vs ws) := by
  obtain ⟨e1, e2⟩ := mkO_fst (vs := vs) (ws := ws) ws.sum hl
  have sl := sumB_le (a := 1) (b := 4) hw
  have S1 : 1 ≤ ws.sum := by omega
  have S2 : ws.sum ≤ 20 := by omega
  have S0 : (0 : Rat) < ((ws.sum : Int) : Rat) := Rat.intCast_pos.mpr (by omega)
  have sh : ∀ q ∈ (mkO vs ws).map (·.2), 0 < q ∧ q ≤ 1 ∧ q.den < 2 ^ 5 := fun q hq => by
    have hq' : q ∈ ws.map fun x => Rat.divInt x ws.sum := by rw [← e2]; exact hq
    obtain ⟨x, hx, rfl⟩ := List.mem_map.mp hq'
    have x1 := hw x hx
    have x2 : x ≤ ws.sum := sum_mem (fun y hy => by have := hw y hy; omega) hx
    refine ⟨?_, (div_sh (by omega) x2 (by omega) (by omega)).2.1, ?_⟩
    · rw [Rat.divInt_eq_div, Rat.div_def]
      exact Rat.mul_pos (Rat.intCast_pos.mpr (by omega)) (Rat.inv_pos.mpr S0)
    · rw [Rat.den_divInt, if_neg (by omega)]
      exact Nat.lt_of_le_of_lt (Nat.div_le_self _ _) (by omega)
  refine ⟨?_, ?_, ?_, ?_, ?_, ?_, ?_⟩
  · unfold mkO
    rw [List.length_map, List.length_zip]
    omega
  · unfold mkO
    rw [List.length_map, List.length_zip]
    omega
  · intro p hp
    have m : p.1 ∈ (mkO vs ws).map (·.1) := List.mem_map.mpr ⟨p, hp, rfl⟩
    have m' : p.1 ∈ vs := by rw [← e1]; exact m
    exact hv _ m'
  · intro p hp
    have z := sh p.2 (List.mem_map.mpr ⟨p, hp, rfl⟩)
    exact ⟨z.1, z.2.1⟩
  · have e : (mkO vs ws).map (·.1) = vs := e1
    rw [e]
    exact up
  · have e : (mkO vs ws).map (·.2) = ws.map fun x => Rat.divInt x ws.sum := e2
    rw [e, sm_divInt, Rat.divInt_eq_div, Rat.div_def, Rat.mul_inv_cancel _ (by grind)]
  · have z := Dd_le (a := 5) (cs := (mkO vs ws).map (·.2)) fun q hq => ⟨by
      obtain ⟨a, b, c⟩ := sh q hq
      have n0 := Rat.num_nonneg.mpr (Rat.le_of_lt a)
      have n1 : q.num ≤ q.den := by
        have y := (Rat.le_iff q 1).mp b
        simpa using y
      omega, (sh q hq).2.2⟩
    have l : ((mkO vs ws).map (·.2)).length ≤ 5 := by
      rw [List.length_map]
      unfold mkO
      rw [List.length_map, List.length_zip]
      omega
    exact Nat.lt_of_le_of_lt z (Nat.pow_lt_pow_right (by decide) (by omega))
theorem zipD_ints : ∀ (vs ws : List Int), zipD (vs.map D.int) (ws.map D.int) = (vs.zip ws).map fun p => .tup [.int p.1, .int p.2]
  | [], _ => rfl
  | _ :: _, [] => rfl
  | v :: vs, x :: ws => by
    show .tup [.int v, .int x] :: zipD (vs.map D.int) (ws.map D.int) = _
    rw [zipD_ints vs ws]
    rfl
theorem offer_spec32 {h : Hs} {N : Nat} {most : Int} {Q : D → Hs → Prop} (t : Hd h N) (m1 : 1 ≤ most) (m5 : most ≤ 5) (hN : N + 30 ≤ 1000000) (k : ∀ o h', Ofr o → (∀ p ∈ o, p.2.den < 32) → Hd h' (N + 30) → Gb 1 h h' → Q (offD o) h') : Wp (m__law_offer [.obj 0, .int most] h) Q := by
  unfold m__law_offer c__law_offer
  have en : ent 7 [D.obj 0, .int most] = [some (.obj 0), some (.int most), none, none, none, none, none] := rfl
  have one := t.one
  rw [wp_def, en, wps_seq, q_sSet, wps_then]
  simp only [eV0, eVs, bind_ok', then_ok, q_e2, q_e1, q_eC, q_aC, q_aN, q_sPar2, q_sPar3, q_sSet, q_sRet, q_eBf, q_nBf, q_eCall, q_tst, q_tru, q_ifV, q_sIf, q_eTup, q_sPass, q_sExp, q_eLm, q_nLst, q_frz, q_thaw, q_iSeq, q_iR2, q_iR3, q_iEnumD, q_iZip, q_andX, q_andT, q_orT, q_notT, q_eCh, q_sPat, q_eSl, q_nSl, q_pS, q_pN, q_sRetN, q_tYes, q_eDct0, okL0, okL1, okL2, okL3, okL4, okL5, okL6, ent, List.map_cons, List.map_nil, List.length_cons, List.length_nil, List.set_cons_zero, List.set_cons_succ, List.replicate, List.cons_append, List.nil_append, Nat.reduceAdd, Nat.reduceSub, Nat.sub_self, Nat.sub_zero, zero_add', ↓reduceIte, Bool.false_eq_true, item0, item1, addD_ii, subD_ii, negD_i, absD_i, ltD_ii, leD_ii, gtD_ii, geD_ii, truD_bl, decide_true, decide_false, wp_ok, wps_nx]
  rw [wps_seq, wps_for]
  refine hand_b.range1 (hand_b.app (l := [.lst []]) t) (s := most) (by omega) (by omega) (by omega) rfl rfl fun n h1 n1 n2 t1 g1 => ?_
  have gg : Gb 1 h h1 := (Gb.app (l := [.lst []])).trans g1
  have f0 : h1[h.length]? = some (.lst []) := g1.at one get_last
  refine wps_loop (fun j ρ h' => Hd h' (N + 1 + 2 * j) ∧ Gb 1 h h' ∧ ∃ (vs : List Int) (z : Option D), ρ = [some (.obj 0), some (.int most), some (.obj h.length), z, none, none, none] ∧ h'[h.length]? = some (.lst (vs.map D.int)) ∧ vs.length = j ∧ ∀ v ∈ vs, 0 ≤ v ∧ v ≤ 1000) _ 0 _ _ ?_ ?_ ⟨t1, gg, [], none, rfl, f0, rfl, by simp⟩
  · rintro j x ρ h2 hx ⟨t2, g2, vs, z, rfl, fq, lq, sq⟩
    rw [Nat.zero_add] at t2 lq ⊢
    have hj : j < n := by
      have := (List.getElem?_eq_some_iff.mp hx).1
      rwa [rng_len] at this
    refine ⟨rfl, [some (.obj 0), some (.int most), some (.obj h.length), some x, none, none, none], rfl, ?_⟩
    simp only [eV0, eVs, bind_ok', then_ok, q_e2, q_e1, q_eC, q_aC, q_aN, q_sPar2, q_sPar3, q_sSet, q_sRet, q_eBf, q_nBf, q_eCall, q_tst, q_tru, q_ifV, q_sIf, q_eTup, q_sPass, q_sExp, q_eLm, q_nLst, q_frz, q_thaw, q_iSeq, q_iR2, q_iR3, q_iEnumD, q_iZip, q_andX, q_andT, q_orT, q_notT, q_eCh, q_sPat, q_eSl, q_nSl, q_pS, q_pN, q_sRetN, q_tYes, q_eDct0, okL0, okL1, okL2, okL3, okL4, okL5, okL6, ent, List.map_cons, List.map_nil, List.length_cons, List.length_nil, List.set_cons_zero, List.set_cons_succ, List.replicate, List.cons_append, List.nil_append, Nat.reduceAdd, Nat.reduceSub, Nat.sub_self, Nat.sub_zero, zero_add', ↓reduceIte, Bool.false_eq_true, item0, item1, addD_ii, subD_ii, negD_i, absD_i, ltD_ii, leD_ii, gtD_ii, geD_ii, truD_bl, decide_true, decide_false, wp_ok, wp_bad, wp_bind, wp_nox, wp_def, wps_then, wps_seq, wps_nx, wps_ret, wp_ite, wps_ite, lstAt_obj fq]
    refine hand_b.draw t2 (sides := 6) (by decide) (by decide) (by omega) fun d h3 d0 d1 t3 g3 => ?_
    have fin : ∀ v9 : Int, 0 ≤ v9 ∧ v9 ≤ 1000 → Wp (m__law_some [.obj 0, .lst [.int 0, .int 1, .int 2, .int 3, .int 5, .int 8, .int 9, .int 20, .int v9]] h3) fun a h4 => Wp (appD (.obj h.length) [a] h4) fun _ h5 => Hd h5 (N + 1 + 2 * (j + 1)) ∧ Gb 1 h h5 ∧ ∃ (vs : List Int) (z : Option D), [some (.obj 0), some (.int most), some (.obj h.length), some x, none, none, none] = [some (.obj 0), some (.int most), some (.obj h.length), z, none, none, none] ∧ h5[h.length]? = some (.lst (vs.map D.int)) ∧ vs.length = j + 1 ∧ ∀ v ∈ vs, 0 ≤ v ∧ v ≤ 1000 := fun v9 hv9 => by
      refine some_spec t3 (by simp) (by simp) (by omega) fun b h4 hb t4 g4 => ?_
      have g34 := g3.trans g4
      have f4 : h4[h.length]? = some (.lst (vs.map D.int)) := g34.at one fq
      obtain ⟨v, rfl, hv⟩ : ∃ v : Int, b = .int v ∧ 0 ≤ v ∧ v ≤ 1000 := by
        simp only [List.mem_cons, List.not_mem_nil, or_false] at hb
        rcases hb with e | e | e | e | e | e | e | e | e <;> first | exact ⟨_, e, by decide, by decide⟩ | exact ⟨v9, e, hv9⟩
      rw [app_obj f4 (by rw [List.length_map]; omega), wp_ok]
      have l4 : h.length < h4.length := (List.getElem?_eq_some_iff.mp f4).1
      refine ⟨hand_b.set (hand_b.mono t4 (by omega)) one, (g2.trans g34).set' (Nat.le_refl _), vs ++ [v], _, rfl, by rw [List.getElem?_set_self l4, List.map_append]; rfl, by rw [List.length_append, lq]; rfl, fun y hy => ?_⟩
      rcases List.mem_append.mp hy with e | e
      · exact sq y e
      · rw [List.mem_singleton.mp e]; exact hv
    have ok9 : okLen 9 = true := rfl
    by_cases z6 : d = 0
    · simp only [eqD_ii, decide_eq_true z6, wp_ok, ↓reduceIte, eV0, eVs, bind_ok', then_ok, q_e2, q_e1, q_eC, q_aC, q_aN, q_sPar2, q_sPar3, q_sSet, q_sRet, q_eBf, q_nBf, q_eCall, q_tst, q_tru, q_ifV, q_sIf, q_eTup, q_sPass, q_sExp, q_eLm, q_nLst, q_frz, q_thaw, q_iSeq, q_iR2, q_iR3, q_iEnumD, q_iZip, q_andX, q_andT, q_orT, q_notT, q_eCh, q_sPat, q_eSl, q_nSl, q_pS, q_pN, q_sRetN, q_tYes, q_eDct0, okL0, okL1, okL2, okL3, okL4, okL5, okL6, ent, List.map_cons, List.map_nil, List.length_cons, List.length_nil, List.set_cons_zero, List.set_cons_succ, List.replicate, List.cons_append, List.nil_append, Nat.reduceAdd, Nat.reduceSub, Nat.sub_self, Nat.sub_zero, zero_add', ↓reduceIte, Bool.false_eq_true, item0, item1, addD_ii, subD_ii, negD_i, absD_i, ltD_ii, leD_ii, gtD_ii, geD_ii, truD_bl, decide_true, decide_false, wp_ok, wp_bad, wp_bind, wp_nox, wp_def, wps_then, wps_seq, wps_nx, wps_ret, wp_ite, wps_ite, ok9]
      exact fin 1000 (by decide)
    · simp only [eqD_ii, decide_eq_false z6, wp_ok, Bool.false_eq_true, ↓reduceIte, eV0, eVs, bind_ok', then_ok, q_e2, q_e1, q_eC, q_aC, q_aN, q_sPar2, q_sPar3, q_sSet, q_sRet, q_eBf, q_nBf, q_eCall, q_tst, q_tru, q_ifV, q_sIf, q_eTup, q_sPass, q_sExp, q_eLm, q_nLst, q_frz, q_thaw, q_iSeq, q_iR2, q_iR3, q_iEnumD, q_iZip, q_andX, q_andT, q_orT, q_notT, q_eCh, q_sPat, q_eSl, q_nSl, q_pS, q_pN, q_sRetN, q_tYes, q_eDct0, okL0, okL1, okL2, okL3, okL4, okL5, okL6, ent, List.map_cons, List.map_nil, List.length_cons, List.length_nil, List.set_cons_zero, List.set_cons_succ, List.replicate, List.cons_append, List.nil_append, Nat.reduceAdd, Nat.reduceSub, Nat.sub_self, Nat.sub_zero, zero_add', ↓reduceIte, Bool.false_eq_true, item0, item1, addD_ii, subD_ii, negD_i, absD_i, ltD_ii, leD_ii, gtD_ii, geD_ii, truD_bl, decide_true, decide_false, wp_ok, wp_bad, wp_bind, wp_nox, wp_def, wps_then, wps_seq, wps_nx, wps_ret, wp_ite, wps_ite, ok9]
      exact fin 4 (by decide)
  · rintro ρ h2 ⟨t2, g2, vs, z, rfl, fq, lq, sq⟩
    rw [Nat.zero_add, rng_len] at t2 lq
    refine ⟨rfl, ?_⟩
    have l60 : vs.length < 60 := by omega
    have so : nSortU (eV 2) [some (.obj 0), some (.int most), some (.obj h.length), z, none, none, none] h2 = .ok ((usort vs).map D.int) h2 := by
      show ((Dl.R.ok (D.obj h.length) h2 : Dl.R D).bind sortUN) = _
      rw [bind_ok']
      show (match (items h2 (.obj h.length)).bind allInt with
        | some ns => if decide (ns.length < 60) then Dl.R.ok ((usort ns).map D.int) h2 else .bad
        | none => .bad) = _
      rw [items_obj fq, Option.bind_some, allInt_map]
      exact if_pos (decide_eq_true l60)
    have ul := usort_len vs
    have u1 : 1 ≤ (usort vs).length := by
      cases q : usort vs with
      | nil =>
        cases vs with
        | nil => simp at lq; omega
        | cons v vs =>
          have m : v ∈ usort (v :: vs) := usort_mem.mpr List.mem_cons_self
          rw [q] at m
          simp at m
      | cons a b => simp
    rw [wps_seq, q_sSet, q_thaw, so, bind_ok', then_ok, wps_nx]
    simp only [List.set_cons_zero, List.set_cons_succ]
    have f3 : (h2 ++ [DO.lst ((usort vs).map D.int)])[h2.length]? = some (.lst ((usort vs).map D.int)) := get_last
    have t3 := hand_b.app (l := [.lst ((usort vs).map D.int)]) t2
    have g3 : Gb 1 h (h2 ++ [.lst ((usort vs).map D.int)]) := g2.trans .app
    have one2 : 1 ≤ h2.length := Nat.le_trans one g2.len
    generalize hi : h2.length = i at f3 one2 ⊢
    generalize h2 ++ [DO.lst ((usort vs).map D.int)] = h3 at f3 t3 g3 ⊢
    have io : itOf h3 (.obj i) = some ⟨(usort vs).map D.int, [(i, (usort vs).map D.int)]⟩ := by
      show (match h3[i]? with
        | some (.lst xs) => some (ItD.mk xs [(i, xs)])
        | _ => none) = _
      rw [f3]
    have gok : ∀ g : Hs, Gb 1 h3 g → okG [(i, (usort vs).map D.int)] g = true := fun g gg => by
      unfold okG
      simp only [List.all_cons, List.all_nil, Bool.and_true]
      rw [gg.at one2 f3]
      exact D.beqs_refl _
    rw [wps_seq, q_sSet, wps_then, q_frz, wp_bind, nLc_eq, wp_bind]
    have si : iSeq (eV 2) [some (.obj 0), some (.int most), some (.obj i), z, none, none, none] h3 = .ok ⟨(usort vs).map D.int, [(i, (usort vs).map D.int)]⟩ h3 := by
      rw [q_iSeq]
      show (match itOf h3 (.obj i) with
        | some it => if okG it.gs h3 then Dl.R.ok it h3 else .bad
        | none => .bad) = _
      rw [io]
      exact if_pos (gok h3 .refl)
    rw [si, wp_ok]
    show Wp (if okLen ((usort vs).map D.int).length = true then _ else _) _
    rw [if_pos (okLen_of (by rw [List.length_map]; omega))]
    refine wp_lc (fun j h' => Hd h' (N + 1 + 2 * n + j) ∧ Gb 1 h3 h') (fun d => ∃ x : Int, d = .int x ∧ 1 ≤ x ∧ x ≤ 4) _ 0 h3 ?_ (fun h' ⟨_, g⟩ => gok h' g) ⟨t3, .refl⟩ ?_
    · rintro j x h' hx ⟨t', g'⟩
      rw [Nat.zero_add] at t' ⊢
      have hj := (List.getElem?_eq_some_iff.mp hx).1
      rw [List.length_map] at hj
      refine ⟨gok h' g', _, rfl, ?_⟩
      simp only [wipeD, eV0, eVs, bind_ok', then_ok, q_e2, q_e1, q_eC, q_aC, q_aN, q_sPar2, q_sPar3, q_sSet, q_sRet, q_eBf, q_nBf, q_eCall, q_tst, q_tru, q_ifV, q_sIf, q_eTup, q_sPass, q_sExp, q_eLm, q_nLst, q_frz, q_thaw, q_iSeq, q_iR2, q_iR3, q_iEnumD, q_iZip, q_andX, q_andT, q_orT, q_notT, q_eCh, q_sPat, q_eSl, q_nSl, q_pS, q_pN, q_sRetN, q_tYes, q_eDct0, okL0, okL1, okL2, okL3, okL4, okL5, okL6, ent, List.map_cons, List.map_nil, List.length_cons, List.length_nil, List.set_cons_zero, List.set_cons_succ, List.replicate, List.cons_append, List.nil_append, Nat.reduceAdd, Nat.reduceSub, Nat.sub_self, Nat.sub_zero, zero_add', ↓reduceIte, Bool.false_eq_true, item0, item1, addD_ii, subD_ii, negD_i, absD_i, ltD_ii, leD_ii, gtD_ii, geD_ii, truD_bl, decide_true, decide_false, wp_ok, wp_bad, wp_bind, wp_nox, wp_def, wps_then, wps_seq, wps_nx, wps_ret, wp_ite, wps_ite]
      refine hand_b.draw t' (sides := 4) (by decide) (by decide) (by omega) fun d h4 d0 d1 t4 g4 => ?_
      simp only [addD_ii, wp_ok]
      exact ⟨⟨1 + d, rfl, by omega, by omega⟩, t4, g'.trans g4⟩
    · intro ds h4 hl hp ⟨t4, g4⟩
      rw [List.length_map] at hl
      rw [Nat.zero_add, List.length_map] at t4
      obtain ⟨ws, rfl⟩ := all_ints fun d hd => by
        obtain ⟨x, e, _⟩ := hp d hd
        exact ⟨x, e⟩
      rw [List.length_map] at hl
      have hw : ∀ x ∈ ws, 1 ≤ x ∧ x ≤ 4 := fun x hx => by
        obtain ⟨y, e, b⟩ := hp _ (List.mem_map.mpr ⟨x, hx, rfl⟩)
        cases e
        exact b
      have sl := sumB_le (a := 1) (b := 4) hw
      have f4 : h4[i]? = some (.lst ((usort vs).map D.int)) := g4.at one2 f3
      have io4 : itOf h4 (.obj i) = some ⟨(usort vs).map D.int, [(i, (usort vs).map D.int)]⟩ := by
        show (match h4[i]? with
          | some (.lst xs) => some (ItD.mk xs [(i, xs)])
          | _ => none) = _
        rw [f4]
      have zi : iZip (aC (eV 2) (aC (eV 4) aN)) [some (.obj 0), some (.int most), some (.obj i), z, some (.lst (ws.map D.int)), none, none] h4 = .ok ⟨((usort vs).zip ws).map fun p => .tup [.int p.1, .int p.2], [(i, (usort vs).map D.int)]⟩ h4 := by
        rw [q_iZip]
        simp only [q_aC, q_aN, eV0, eVs, bind_ok']
        show (match itOf h4 (.obj i), itOf h4 (.lst (ws.map D.int)) with
          | some it, some jt => if okG it.gs h4 && okG jt.gs h4 then Dl.R.ok (ItD.mk (zipD it.items jt.items) (it.gs ++ jt.gs)) h4 else .bad
          | _, _ => .bad) = _
        rw [io4]
        show (if (okG [(i, (usort vs).map D.int)] h4 && okG [] h4) = true then Dl.R.ok (ItD.mk (zipD ((usort vs).map D.int) (ws.map D.int)) ([(i, (usort vs).map D.int)] ++ [])) h4 else .bad) = _
        rw [gok h4 g4, zipD_ints]
        rfl
      have cc : nLc (iZip (aC (eV 2) (aC (eV 4) aN))) (.tp [.nm 5, .nm 6]) [5, 6] (tYes') (eTup (aC (eV 5) (aC (eCall 2 m__law_low (aC (eV 6) (aC (eBf sumD (aC (eV 4) aN)) aN))) aN))) [some (.obj 0), some (.int most), some (.obj i), z, some (.lst (ws.map D.int)), none, none] h4 = .ok ((mkO (usort vs) ws).map pairD) h4 := by
        rw [nLc_eq, zi, bind_ok']
        show (if okLen (((usort vs).zip ws).map fun p => D.tup [.int p.1, .int p.2]).length = true then _ else _) = _
        rw [if_pos (okLen_of (by rw [List.length_map, List.length_zip]; omega))]
        have lp := lcF_pure (p := .tp [.nm 5, .nm 6]) (ce := eTup (aC (eV 5) (aC (eCall 2 m__law_low (aC (eV 6) (aC (eBf sumD (aC (eV 4) aN)) aN))) aN))) (ρ := wipeD [some (.obj 0), some (.int most), some (.obj i), z, some (.lst (ws.map D.int)), none, none] [5, 6]) (h := h4) (f := fun d => match d with
            | .tup [.int a, .int b] => .tup [.int a, fr (Rat.divInt b ws.sum)]
            | _ => .non) (gok h4 g4) (xs := ((usort vs).zip ws).map fun p => D.tup [.int p.1, .int p.2]) fun x hx => by
          obtain ⟨⟨a, b⟩, hp', rfl⟩ := List.mem_map.mp hx
          have b1 := hw b (List.of_mem_zip hp').2
          refine ⟨_, rfl, ?_⟩
          have su := sumD_ints ws h4
          have le := low_eq b ws.sum h4 (by omega) (Nat.lt_of_lt_of_le (show ws.sum.natAbs < 2 ^ 64 by omega) pow18)
          simp only [wipeD, eV0, eVs, bind_ok', then_ok, q_e2, q_e1, q_eC, q_aC, q_aN, q_sPar2, q_sPar3, q_sSet, q_sRet, q_eBf, q_nBf, q_eCall, q_tst, q_tru, q_ifV, q_sIf, q_eTup, q_sPass, q_sExp, q_eLm, q_nLst, q_frz, q_thaw, q_iSeq, q_iR2, q_iR3, q_iEnumD, q_iZip, q_andX, q_andT, q_orT, q_notT, q_eCh, q_sPat, q_eSl, q_nSl, q_pS, q_pN, q_sRetN, q_tYes, q_eDct0, okL0, okL1, okL2, okL3, okL4, okL5, okL6, ent, List.map_cons, List.map_nil, List.length_cons, List.length_nil, List.set_cons_zero, List.set_cons_succ, List.replicate, List.cons_append, List.nil_append, Nat.reduceAdd, Nat.reduceSub, Nat.sub_self, Nat.sub_zero, zero_add', ↓reduceIte, Bool.false_eq_true, item0, item1, addD_ii, subD_ii, negD_i, absD_i, ltD_ii, leD_ii, gtD_ii, geD_ii, truD_bl, decide_true, decide_false, su, le]
        rw [lp, List.map_map]
        unfold mkO
        rw [List.map_map]
        rfl
      rw [wp_ok, wps_nx]
      simp only [List.set_cons_zero, List.set_cons_succ]
      rw [q_sRet, wps_then, q_eBf]
      simp only [q_aC, q_aN, q_frz, cc, bind_ok', tupD_lst, wp_ok, wps_ret]
      refine k _ h4 (mkO_ok (by omega) u1 (by omega) (fun v hv => sq v (usort_mem.mp hv)) (usort_up vs) hw) (mkO_den (by omega) u1 (by omega) hw) (hand_b.mono t4 (by omega)) (g3.trans g4)
theorem offer_spec {h : Hs} {N : Nat} {most : Int} {Q : D → Hs → Prop} (t : Hd h N) (m1 : 1 ≤ most) (m5 : most ≤ 5) (hN : N + 30 ≤ 1000000) (k : ∀ o h', Ofr o → Hd h' (N + 30) → Gb 1 h h' → Q (offD o) h') : Wp (m__law_offer [.obj 0, .int most] h) Q := offer_spec32 t m1 m5 hN fun o h' a _ b c => k o h' a b c
theorem gatherO : ∀ {ds : List D}, (∀ d ∈ ds, ∃ o, d = offD o ∧ Ofr o) → ∃ os : List Offer, ds = os.map offD ∧ ∀ o ∈ os, Ofr o
  | [], _ => ⟨[], rfl, by simp⟩
  | d :: ds, h => by
    obtain ⟨o, rfl, ko⟩ := h d List.mem_cons_self
    obtain ⟨os, rfl, k⟩ := gatherO fun x hx => h x (List.mem_cons_of_mem _ hx)
    exact ⟨o :: os, rfl, fun x hx => by
      rcases List.mem_cons.mp hx with e | e
      · rw [e]; exact ko
      · exact k x e⟩
theorem deal_spec {h : Hs} {N : Nat} {most pairs : Int} {Q : D → Hs → Prop} (t : Hd h N) (m1 : 1 ≤ most) (m8 : most ≤ 8) (p1 : 1 ≤ pairs) (p5 : pairs ≤ 5) (hN : N + 300 ≤ 1000000) (k : ∀ os h', Dl8 os → (os.length : Int) ≤ most → Hd h' (N + 300) → Gb 1 h h' → Q (dealD os) h') : Wp (m__law_deal [.obj 0, .int most, .int pairs] h) Q := by
  unfold m__law_deal c__law_deal
  have en : ent 4 [D.obj 0, .int most, .int pairs] = [some (.obj 0), some (.int most), some (.int pairs), none] := rfl
  rw [wp_def, en, q_sRet, wps_then, q_eBf, wp_bind, q_aC, wp_bind, q_frz, wp_bind, nLc_eq, wp_bind]
  refine hand_b.range1 t (s := most) (by omega) (by omega) (by omega) rfl rfl fun n h1 n1 n2 t1 g1 => ?_
  show Wp (if okLen (rng 0 1 n).length = true then _ else _) _
  rw [rng_len, if_pos (okLen_of (by omega))]
  refine hand_b.comp (c := 30) (fun d => ∃ o, d = offD o ∧ Ofr o) t1 (fun j x h' hx t' g' => ?_) fun ds h2 hl hp t2 g2 => ?_
  · have hj := (List.getElem?_eq_some_iff.mp hx).1
    rw [rng_len] at hj
    refine ⟨_, rfl, ?_⟩
    simp only [wipeD, eV0, eVs, bind_ok', then_ok, q_e2, q_e1, q_eC, q_aC, q_aN, q_sPar2, q_sPar3, q_sSet, q_sRet, q_eBf, q_nBf, q_eCall, q_tst, q_tru, q_ifV, q_sIf, q_eTup, q_sPass, q_sExp, q_eLm, q_nLst, q_frz, q_thaw, q_iSeq, q_iR2, q_iR3, q_iEnumD, q_iZip, q_andX, q_andT, q_orT, q_notT, q_eCh, q_sPat, q_eSl, q_nSl, q_pS, q_pN, q_sRetN, q_tYes, q_eDct0, okL0, okL1, okL2, okL3, okL4, okL5, okL6, ent, List.map_cons, List.map_nil, List.length_cons, List.length_nil, List.set_cons_zero, List.set_cons_succ, List.replicate, List.cons_append, List.nil_append, Nat.reduceAdd, Nat.reduceSub, Nat.sub_self, Nat.sub_zero, zero_add', ↓reduceIte, Bool.false_eq_true, item0, item1, addD_ii, subD_ii, negD_i, absD_i, ltD_ii, leD_ii, gtD_ii, geD_ii, truD_bl, decide_true, decide_false]
    exact offer_spec t' p1 p5 (by omega) fun o h3 ko t3 g3 => ⟨⟨o, rfl, ko⟩, t3, g3⟩
  rw [rng_len] at hl t2
  obtain ⟨os, rfl, ko⟩ := gatherO hp
  rw [List.length_map] at hl
  simp only [eV0, eVs, bind_ok', then_ok, q_e2, q_e1, q_eC, q_aC, q_aN, q_sPar2, q_sPar3, q_sSet, q_sRet, q_eBf, q_nBf, q_eCall, q_tst, q_tru, q_ifV, q_sIf, q_eTup, q_sPass, q_sExp, q_eLm, q_nLst, q_frz, q_thaw, q_iSeq, q_iR2, q_iR3, q_iEnumD, q_iZip, q_andX, q_andT, q_orT, q_notT, q_eCh, q_sPat, q_eSl, q_nSl, q_pS, q_pN, q_sRetN, q_tYes, q_eDct0, okL0, okL1, okL2, okL3, okL4, okL5, okL6, ent, List.map_cons, List.map_nil, List.length_cons, List.length_nil, List.set_cons_zero, List.set_cons_succ, List.replicate, List.cons_append, List.nil_append, Nat.reduceAdd, Nat.reduceSub, Nat.sub_self, Nat.sub_zero, zero_add', ↓reduceIte, Bool.false_eq_true, item0, item1, addD_ii, subD_ii, negD_i, absD_i, ltD_ii, leD_ii, gtD_ii, geD_ii, truD_bl, decide_true, decide_false, wp_ok, wp_bad, wp_bind, wp_nox, wp_def, wps_then, wps_seq, wps_nx, wps_ret, wp_ite, wps_ite, tupD_lst]
  exact k os h2 ⟨by omega, by omega, ko⟩ (by omega) (hand_b.mono t2 (by omega)) (g1.trans g2)
/-! ### equal things -/
theorem neD_bb {a b : Bool} {h : Hs} : neD (.bl a) (.bl b) h = .ok (.bl (a != b)) h := by cases a <;> cases b <;> rfl
theorem eqD_bb {a b : Bool} {h : Hs} : eqD (.bl a) (.bl b) h = .ok (.bl (a == b)) h := by cases a <;> cases b <;> rfl
theorem zipD_self : ∀ xs : List D, zipD xs xs = xs.map fun x => .tup [x, x]
  | [] => rfl
  | x :: xs => by
    show .tup [x, x] :: zipD xs xs = _
    rw [zipD_self xs]
    rfl
/-- ints, tuples and lists of such, short -/
inductive Lw : Nat → D → Prop
  | int {n : Nat} (i : Int) : Lw n (.int i)
  | tup {n : Nat} {xs : List D} : xs.length ≤ 1000 → (∀ x ∈ xs, Lw n x) → Lw (n + 1) (.tup xs)
  | lst {n : Nat} {xs : List D} : xs.length ≤ 1000 → (∀ x ∈ xs, Lw n x) → Lw (n + 1) (.lst xs)
theorem is_refl {n : Nat} {x : D} (f : Lw n x) : ∀ {m : Nat} {h : Hs}, n < m → r__law_is m [x, x] h = .ok (.bl true) h := by
  induction f with
  | @int n i =>
    intro m h hm
    obtain ⟨m, rfl⟩ : ∃ k, m = k + 1 := ⟨m - 1, by omega⟩
    refine mdef_ret (h' := h) ?_
    unfold c__law_is
    have en : ent 5 [D.int i, .int i] = [some (.int i), some (.int i), none, none, none] := rfl
    have i1 : isiD [] [.int i, .ty "bool"] h = .ok (.bl false) h := rfl
    have i2 : isiD [] [.int i, .ty "tuple"] h = .ok (.bl false) h := rfl
    have i3 : isiD [] [.int i, .ty "list"] h = .ok (.bl false) h := rfl
    have i4 : isiD [] [.int i, .ty "dict"] h = .ok (.bl false) h := rfl
    have i5 : isiD [] [.int i, .ty "int"] h = .ok (.bl true) h := rfl
    rw [en, seq_nx (ρ1 := [some (.int i), some (.int i), none, none, none]) (h1 := h) (by simp only [eV0, eVs, bind_ok', then_ok, q_e2, q_e1, q_eC, q_aC, q_aN, q_sPar2, q_sPar3, q_sSet, q_sRet, q_eBf, q_nBf, q_eCall, q_tst, q_tru, q_ifV, q_sIf, q_eTup, q_sPass, q_sExp, q_eLm, q_nLst, q_frz, q_thaw, q_iSeq, q_iR2, q_iR3, q_iEnumD, q_iZip, q_andX, q_andT, q_orT, q_notT, q_eCh, q_sPat, q_eSl, q_nSl, q_pS, q_pN, q_sRetN, q_tYes, q_eDct0, okL0, okL1, okL2, okL3, okL4, okL5, okL6, ent, List.map_cons, List.map_nil, List.length_cons, List.length_nil, List.set_cons_zero, List.set_cons_succ, List.replicate, List.cons_append, List.nil_append, Nat.reduceAdd, Nat.reduceSub, Nat.sub_self, Nat.sub_zero, zero_add', ↓reduceIte, Bool.false_eq_true, item0, item1, addD_ii, subD_ii, negD_i, absD_i, ltD_ii, leD_ii, gtD_ii, geD_ii, truD_bl, decide_true, decide_false, i1]), seq_nx (ρ1 := [some (.int i), some (.int i), none, none, none]) (h1 := h) (by simp only [eV0, eVs, bind_ok', then_ok, q_e2, q_e1, q_eC, q_aC, q_aN, q_sPar2, q_sPar3, q_sSet, q_sRet, q_eBf, q_nBf, q_eCall, q_tst, q_tru, q_ifV, q_sIf, q_eTup, q_sPass, q_sExp, q_eLm, q_nLst, q_frz, q_thaw, q_iSeq, q_iR2, q_iR3, q_iEnumD, q_iZip, q_andX, q_andT, q_orT, q_notT, q_eCh, q_sPat, q_eSl, q_nSl, q_pS, q_pN, q_sRetN, q_tYes, q_eDct0, okL0, okL1, okL2, okL3, okL4, okL5, okL6, ent, List.map_cons, List.map_nil, List.length_cons, List.length_nil, List.set_cons_zero, List.set_cons_succ, List.replicate, List.cons_append, List.nil_append, Nat.reduceAdd, Nat.reduceSub, Nat.sub_self, Nat.sub_zero, zero_add', ↓reduceIte, Bool.false_eq_true, item0, item1, addD_ii, subD_ii, negD_i, absD_i, ltD_ii, leD_ii, gtD_ii, geD_ii, truD_bl, decide_true, decide_false, i2, i3]), seq_nx (ρ1 := [some (.int i), some (.int i), none, none, none]) (h1 := h) (by simp only [eV0, eVs, bind_ok', then_ok, q_e2, q_e1, q_eC, q_aC, q_aN, q_sPar2, q_sPar3, q_sSet, q_sRet, q_eBf, q_nBf, q_eCall, q_tst, q_tru, q_ifV, q_sIf, q_eTup, q_sPass, q_sExp, q_eLm, q_nLst, q_frz, q_thaw, q_iSeq, q_iR2, q_iR3, q_iEnumD, q_iZip, q_andX, q_andT, q_orT, q_notT, q_eCh, q_sPat, q_eSl, q_nSl, q_pS, q_pN, q_sRetN, q_tYes, q_eDct0, okL0, okL1, okL2, okL3, okL4, okL5, okL6, ent, List.map_cons, List.map_nil, List.length_cons, List.length_nil, List.set_cons_zero, List.set_cons_succ, List.replicate, List.cons_append, List.nil_append, Nat.reduceAdd, Nat.reduceSub, Nat.sub_self, Nat.sub_zero, zero_add', ↓reduceIte, Bool.false_eq_true, item0, item1, addD_ii, subD_ii, negD_i, absD_i, ltD_ii, leD_ii, gtD_ii, geD_ii, truD_bl, decide_true, decide_false, i4])]
    simp only [eV0, eVs, bind_ok', then_ok, q_e2, q_e1, q_eC, q_aC, q_aN, q_sPar2, q_sPar3, q_sSet, q_sRet, q_eBf, q_nBf, q_eCall, q_tst, q_tru, q_ifV, q_sIf, q_eTup, q_sPass, q_sExp, q_eLm, q_nLst, q_frz, q_thaw, q_iSeq, q_iR2, q_iR3, q_iEnumD, q_iZip, q_andX, q_andT, q_orT, q_notT, q_eCh, q_sPat, q_eSl, q_nSl, q_pS, q_pN, q_sRetN, q_tYes, q_eDct0, okL0, okL1, okL2, okL3, okL4, okL5, okL6, ent, List.map_cons, List.map_nil, List.length_cons, List.length_nil, List.set_cons_zero, List.set_cons_succ, List.replicate, List.cons_append, List.nil_append, Nat.reduceAdd, Nat.reduceSub, Nat.sub_self, Nat.sub_zero, zero_add', ↓reduceIte, Bool.false_eq_true, item0, item1, addD_ii, subD_ii, negD_i, absD_i, ltD_ii, leD_ii, gtD_ii, geD_ii, truD_bl, decide_true, decide_false, i5, eqD_bb, eqD_ii, beq_self_eq_true]
  | @tup n xs l _ ih =>
    intro m h hm
    obtain ⟨m, rfl⟩ : ∃ k, m = k + 1 := ⟨m - 1, by omega⟩
    refine eq_of_wp ?_
    show Wp (mDef 5 (c__law_is (r__law_is m)) [.tup xs, .tup xs] h) _
    unfold c__law_is
    have en : ent 5 [D.tup xs, .tup xs] = [some (.tup xs), some (.tup xs), none, none, none] := rfl
    have i1 : isiD [] [.tup xs, .ty "bool"] h = .ok (.bl false) h := rfl
    have i2 : isiD [] [.tup xs, .ty "tuple"] h = .ok (.bl true) h := rfl
    have i3 : isiD [] [.tup xs, .ty "list"] h = .ok (.bl false) h := rfl
    have zi : iZip (aC (eV 0) (aC (eV 1) aN)) [some (.tup xs), some (.tup xs), none, none, none] h = .ok ⟨xs.map fun x => .tup [x, x], []⟩ h := by
      rw [← zipD_self]
      simp only [eV0, eVs, bind_ok', then_ok, q_e2, q_e1, q_eC, q_aC, q_aN, q_sPar2, q_sPar3, q_sSet, q_sRet, q_eBf, q_nBf, q_eCall, q_tst, q_tru, q_ifV, q_sIf, q_eTup, q_sPass, q_sExp, q_eLm, q_nLst, q_frz, q_thaw, q_iSeq, q_iR2, q_iR3, q_iEnumD, q_iZip, q_andX, q_andT, q_orT, q_notT, q_eCh, q_sPat, q_eSl, q_nSl, q_pS, q_pN, q_sRetN, q_tYes, q_eDct0, okL0, okL1, okL2, okL3, okL4, okL5, okL6, ent, List.map_cons, List.map_nil, List.length_cons, List.length_nil, List.set_cons_zero, List.set_cons_succ, List.replicate, List.cons_append, List.nil_append, Nat.reduceAdd, Nat.reduceSub, Nat.sub_self, Nat.sub_zero, zero_add', ↓reduceIte, Bool.false_eq_true, item0, item1, addD_ii, subD_ii, negD_i, absD_i, ltD_ii, leD_ii, gtD_ii, geD_ii, truD_bl, decide_true, decide_false]
      rfl
    have c := compM (α := D) (ci := iZip (aC (eV 0) (aC (eV 1) aN))) (p := .tp [.nm 2, .nm 3]) (own := [2, 3]) (ce := eCall 2 (r__law_is m) (aC (eV 2) (aC (eV 3) aN))) (ρ := [some (.tup xs), some (.tup xs), none, none, none]) (h := h) (xs := xs) (g := fun x => .tup [x, x]) (f := fun _ => .bl true)
      zi (by omega) fun x hx => ⟨_, rfl, by simp only [wipeD, eV0, eVs, bind_ok', then_ok, q_e2, q_e1, q_eC, q_aC, q_aN, q_sPar2, q_sPar3, q_sSet, q_sRet, q_eBf, q_nBf, q_eCall, q_tst, q_tru, q_ifV, q_sIf, q_eTup, q_sPass, q_sExp, q_eLm, q_nLst, q_frz, q_thaw, q_iSeq, q_iR2, q_iR3, q_iEnumD, q_iZip, q_andX, q_andT, q_orT, q_notT, q_eCh, q_sPat, q_eSl, q_nSl, q_pS, q_pN, q_sRetN, q_tYes, q_eDct0, okL0, okL1, okL2, okL3, okL4, okL5, okL6, ent, List.map_cons, List.map_nil, List.length_cons, List.length_nil, List.set_cons_zero, List.set_cons_succ, List.replicate, List.cons_append, List.nil_append, Nat.reduceAdd, Nat.reduceSub, Nat.sub_self, Nat.sub_zero, zero_add', ↓reduceIte, Bool.false_eq_true, item0, item1, addD_ii, subD_ii, negD_i, absD_i, ltD_ii, leD_ii, gtD_ii, geD_ii, truD_bl, decide_true, decide_false, ih x hx (show n < m by omega)]⟩
    have a1 : allD [.lst (xs.map fun _ => D.bl true)] h = .ok (.bl true) h := by
      rw [allD_map (fun _ => true) xs h]
      simp
    rw [wp_def, en]
    simp only [eV0, eVs, bind_ok', then_ok, q_e2, q_e1, q_eC, q_aC, q_aN, q_sPar2, q_sPar3, q_sSet, q_sRet, q_eBf, q_nBf, q_eCall, q_tst, q_tru, q_ifV, q_sIf, q_eTup, q_sPass, q_sExp, q_eLm, q_nLst, q_frz, q_thaw, q_iSeq, q_iR2, q_iR3, q_iEnumD, q_iZip, q_andX, q_andT, q_orT, q_notT, q_eCh, q_sPat, q_eSl, q_nSl, q_pS, q_pN, q_sRetN, q_tYes, q_eDct0, okL0, okL1, okL2, okL3, okL4, okL5, okL6, ent, List.map_cons, List.map_nil, List.length_cons, List.length_nil, List.set_cons_zero, List.set_cons_succ, List.replicate, List.cons_append, List.nil_append, Nat.reduceAdd, Nat.reduceSub, Nat.sub_self, Nat.sub_zero, zero_add', ↓reduceIte, Bool.false_eq_true, item0, item1, addD_ii, subD_ii, negD_i, absD_i, ltD_ii, leD_ii, gtD_ii, geD_ii, truD_bl, decide_true, decide_false, wp_ok, wp_bad, wp_bind, wp_nox, wp_def, wps_then, wps_seq, wps_nx, wps_ret, wp_ite, wps_ite, i1, i2, i3, neD_bb, bne_self_eq_false, lenD_tup, eqD_ii, decide_true, c, a1, sPass]
    exact ⟨trivial, trivial⟩
  | @lst n xs l _ ih =>
    intro m h hm
    obtain ⟨m, rfl⟩ : ∃ k, m = k + 1 := ⟨m - 1, by omega⟩
    refine eq_of_wp ?_
    show Wp (mDef 5 (c__law_is (r__law_is m)) [.lst xs, .lst xs] h) _
    unfold c__law_is
    have en : ent 5 [D.lst xs, .lst xs] = [some (.lst xs), some (.lst xs), none, none, none] := rfl
    have i1 : isiD [] [.lst xs, .ty "bool"] h = .ok (.bl false) h := rfl
    have i2 : isiD [] [.lst xs, .ty "tuple"] h = .ok (.bl false) h := rfl
    have i3 : isiD [] [.lst xs, .ty "list"] h = .ok (.bl true) h := rfl
    have zi : iZip (aC (eV 0) (aC (eV 1) aN)) [some (.lst xs), some (.lst xs), none, none, none] h = .ok ⟨xs.map fun x => .tup [x, x], []⟩ h := by
      rw [← zipD_self]
      simp only [eV0, eVs, bind_ok', then_ok, q_e2, q_e1, q_eC, q_aC, q_aN, q_sPar2, q_sPar3, q_sSet, q_sRet, q_eBf, q_nBf, q_eCall, q_tst, q_tru, q_ifV, q_sIf, q_eTup, q_sPass, q_sExp, q_eLm, q_nLst, q_frz, q_thaw, q_iSeq, q_iR2, q_iR3, q_iEnumD, q_iZip, q_andX, q_andT, q_orT, q_notT, q_eCh, q_sPat, q_eSl, q_nSl, q_pS, q_pN, q_sRetN, q_tYes, q_eDct0, okL0, okL1, okL2, okL3, okL4, okL5, okL6, ent, List.map_cons, List.map_nil, List.length_cons, List.length_nil, List.set_cons_zero, List.set_cons_succ, List.replicate, List.cons_append, List.nil_append, Nat.reduceAdd, Nat.reduceSub, Nat.sub_self, Nat.sub_zero, zero_add', ↓reduceIte, Bool.false_eq_true, item0, item1, addD_ii, subD_ii, negD_i, absD_i, ltD_ii, leD_ii, gtD_ii, geD_ii, truD_bl, decide_true, decide_false]
      rfl
    have c := compM (α := D) (ci := iZip (aC (eV 0) (aC (eV 1) aN))) (p := .tp [.nm 2, .nm 3]) (own := [2, 3]) (ce := eCall 2 (r__law_is m) (aC (eV 2) (aC (eV 3) aN))) (ρ := [some (.lst xs), some (.lst xs), none, none, none]) (h := h) (xs := xs) (g := fun x => .tup [x, x]) (f := fun _ => .bl true)
      zi (by omega) fun x hx => ⟨_, rfl, by simp only [wipeD, eV0, eVs, bind_ok', then_ok, q_e2, q_e1, q_eC, q_aC, q_aN, q_sPar2, q_sPar3, q_sSet, q_sRet, q_eBf, q_nBf, q_eCall, q_tst, q_tru, q_ifV, q_sIf, q_eTup, q_sPass, q_sExp, q_eLm, q_nLst, q_frz, q_thaw, q_iSeq, q_iR2, q_iR3, q_iEnumD, q_iZip, q_andX, q_andT, q_orT, q_notT, q_eCh, q_sPat, q_eSl, q_nSl, q_pS, q_pN, q_sRetN, q_tYes, q_eDct0, okL0, okL1, okL2, okL3, okL4, okL5, okL6, ent, List.map_cons, List.map_nil, List.length_cons, List.length_nil, List.set_cons_zero, List.set_cons_succ, List.replicate, List.cons_append, List.nil_append, Nat.reduceAdd, Nat.reduceSub, Nat.sub_self, Nat.sub_zero, zero_add', ↓reduceIte, Bool.false_eq_true, item0, item1, addD_ii, subD_ii, negD_i, absD_i, ltD_ii, leD_ii, gtD_ii, geD_ii, truD_bl, decide_true, decide_false, ih x hx (show n < m by omega)]⟩
    have a1 : allD [.lst (xs.map fun _ => D.bl true)] h = .ok (.bl true) h := by
      rw [allD_map (fun _ => true) xs h]
      simp
    rw [wp_def, en]
    simp only [eV0, eVs, bind_ok', then_ok, q_e2, q_e1, q_eC, q_aC, q_aN, q_sPar2, q_sPar3, q_sSet, q_sRet, q_eBf, q_nBf, q_eCall, q_tst, q_tru, q_ifV, q_sIf, q_eTup, q_sPass, q_sExp, q_eLm, q_nLst, q_frz, q_thaw, q_iSeq, q_iR2, q_iR3, q_iEnumD, q_iZip, q_andX, q_andT, q_orT, q_notT, q_eCh, q_sPat, q_eSl, q_nSl, q_pS, q_pN, q_sRetN, q_tYes, q_eDct0, okL0, okL1, okL2, okL3, okL4, okL5, okL6, ent, List.map_cons, List.map_nil, List.length_cons, List.length_nil, List.set_cons_zero, List.set_cons_succ, List.replicate, List.cons_append, List.nil_append, Nat.reduceAdd, Nat.reduceSub, Nat.sub_self, Nat.sub_zero, zero_add', ↓reduceIte, Bool.false_eq_true, item0, item1, addD_ii, subD_ii, negD_i, absD_i, ltD_ii, leD_ii, gtD_ii, geD_ii, truD_bl, decide_true, decide_false, wp_ok, wp_bad, wp_bind, wp_nox, wp_def, wps_then, wps_seq, wps_nx, wps_ret, wp_ite, wps_ite, i1, i2, i3, neD_bb, bne_self_eq_false, lenD_lst, eqD_ii, decide_true, c, a1, sPass]
    exact ⟨trivial, trivial⟩
theorem lw_fr (q : Rat) : Lw 1 (fr q) := .tup (by simp) fun x hx => by
  rcases List.mem_cons.mp hx with e | hx
  · subst e; exact .int _
  · rw [List.mem_singleton.mp hx]; exact .int _
theorem is_fr {q : Rat} {h : Hs} : m__law_is [fr q, fr q] h = .ok (.bl true) h := is_refl (lw_fr q) (by decide)
end Pl

/-! Plain laws, deals 7: loops as wished; the law's own way by a floor; what is more. -/
namespace Pl
open Dl Sh
local instance : Dl.Tb := ⟨fun _ => []⟩

theorem wps_loop_st {α σ : Type} {p : Pat} {body : SM} {g : α → D} {N : Env → Hs → Prop} {T : D → Hs → Prop} (st : σ → Env → Hs → Prop) (step : σ → α → σ) (J : σ → List α → Prop)
    (k : ∀ s x xs ρ h, J s (x :: xs) → st s ρ h → ∃ ρ1, patD p (g x) ρ = some ρ1 ∧ WpS (body ρ1 h) (fun ρ2 h2 => st (step s x) ρ2 h2 ∧ J (step s x) xs) T) :
    ∀ (xs : List α) (s : σ) (ρ : Env) (h : Hs), J s xs → st s ρ h → (∀ ρ' h', st (xs.foldl step s) ρ' h' → J (xs.foldl step s) [] → N ρ' h') → WpS (loopF p body [] (xs.map g) ρ h) N T
  | [], s, ρ, h, j, e, fin => by
    rw [List.map_nil]
    unfold loopF
    exact fin ρ h e j
  | x :: xs, s, ρ, h, j, e, fin => by
    obtain ⟨ρ1, e1, w⟩ := k s x xs ρ h j e
    rw [List.map_cons]
    unfold loopF
    rw [if_pos okG_nil, e1]
    show WpS (match body ρ1 h with
      | .nx ρ2 h2 => loopF p body [] (xs.map g) ρ2 h2
      | .ct ρ2 h2 => loopF p body [] (xs.map g) ρ2 h2
      | .bk ρ2 h2 => .nx ρ2 h2
      | r => r) N T
    cases q : body ρ1 h with
    | nx ρ2 h2 =>
      rw [q] at w
      obtain ⟨w1, w2⟩ := w
      exact wps_loop_st st step J k xs (step s x) ρ2 h2 w2 w1 fin
    | ret d h2 => rw [q] at w; exact w
    | bk ρ2 h2 => rw [q] at w; exact w.elim
    | ct ρ2 h2 => rw [q] at w; exact w.elim
    | exc ρ2 C fs h2 => rw [q] at w; exact w.elim
    | bad => rw [q] at w; exact w.elim
theorem wps_for_st {α σ : Type} {ci : Env → M ItD} {p : Pat} {body : SM} {g : α → D} {ρ : Env} {h h1 : Hs} {N : Env → Hs → Prop} {T : D → Hs → Prop} {xs : List α} (e : ci ρ h = .ok ⟨xs.map g, []⟩ h1) (s : σ) (st : σ → Env → Hs → Prop) (step : σ → α → σ) (J : σ → List α → Prop) (j0 : J s xs) (s0 : st s ρ h1)
    (k : ∀ s x xs ρ h, J s (x :: xs) → st s ρ h → ∃ ρ1, patD p (g x) ρ = some ρ1 ∧ WpS (body ρ1 h) (fun ρ2 h2 => st (step s x) ρ2 h2 ∧ J (step s x) xs) T)
    (fin : ∀ ρ' h', st (xs.foldl step s) ρ' h' → J (xs.foldl step s) [] → N ρ' h') : WpS (sFor ci p body ρ h) N T := by
  rw [for_of e]
  exact wps_loop_st st step J k xs s ρ h1 j0 s0 fin
/-! ### by a floor, the law's own way -/
/-! ### no floor has more than the worth -/
end Pl

/-! Plain laws, deals 8: the mean of the greatest, over all that can come; the second fact. -/
namespace Pl
open Dl Sh
local instance : Dl.Tb := ⟨fun _ => []⟩

/-- the mean of the greatest of m and all values -/
def em : Int → List Offer → Rat
  | m, [] => (m : Rat)
  | m, o :: os => ex o fun v => em (max m v) os
/-! ### it is the mean by values -/
/-! ### the second fact -/
def pos (x : Rat) : Rat := if 0 ≤ x then x else 0
/-! ### the best of all values as floors -/
end Pl

/-! Plain laws, deals 9: all rows of values. -/
namespace Pl
open Dl Sh
local instance : Dl.Tb := ⟨fun _ => []⟩

/-! ### the rows -/
def rowsS (rows : Offer) (o : Offer) : Offer := (rows.map fun r => o.map fun p => (max r.1 p.1, r.2 * p.2)).flatten
def rw' (rows : Offer) (os : List Offer) : Rat := sm (rows.map fun r => r.2 * em r.1 os)
/-- rows of a bottom -/
structure Rws (F : Nat) (rows : Offer) : Prop where
  val : ∀ r ∈ rows, 0 ≤ r.1 ∧ r.1 ≤ 1000
  sh : ∀ r ∈ rows, Bq F 1 r.2
theorem Rws.step {F : Nat} {rows : Offer} {o : Offer} (k : Rws F rows) (ko : Ofr o) : Rws (F * Do o) (rowsS rows o) := by
  have mem : ∀ q ∈ rowsS rows o, ∃ r ∈ rows, ∃ p ∈ o, q = (max r.1 p.1, r.2 * p.2) := fun q hq => by
    obtain ⟨l, hl, hm⟩ := List.mem_flatten.mp hq
    obtain ⟨r, hr, rfl⟩ := List.mem_map.mp hl
    obtain ⟨p, hp, rfl⟩ := List.mem_map.mp hm
    exact ⟨r, hr, p, hp, rfl⟩
  refine ⟨fun q hq => ?_, fun q hq => ?_⟩
  · obtain ⟨r, hr, p, hp, rfl⟩ := mem q hq
    have a := k.val r hr
    have b := ko.val p hp
    show 0 ≤ max r.1 p.1 ∧ max r.1 p.1 ≤ 1000
    omega
  · obtain ⟨r, hr, p, hp, rfl⟩ := mem q hq
    exact (k.sh r hr).mul (ko.prs.sh p hp)
end Pl

/-! Plain laws, deals 10: the law's own hopes; what falls by nothing; an offer more. -/
namespace Pl
open Dl Sh
local instance : Dl.Tb := ⟨fun _ => []⟩

theorem wp_u {α : Type} {r : Dl.R α} {d : α} {h : Hs} {Q : α → Hs → Prop} (e : ∃ u, r = .ok d (h ++ [u])) (k : ∀ h', Gb 0 h h' → Q d h') : Wp r Q := by
  obtain ⟨u, e⟩ := e
  rw [e, wp_ok]
  exact k _ .app
theorem Hd.gb0 {h h' : Hs} {N : Nat} (t : Hd h N) (g : Gb 0 h h') : Hd h' N := by
  obtain ⟨cs, p, z, s, n, q1, q2⟩ := t.ex
  exact ⟨cs, p, z, s, n, g.at (Nat.zero_le _) q1, q2⟩
theorem Gb.newD {h : Hs} {os : List Offer} : Gb 0 h (newD h os) := .app
theorem DealAt.g0 {h h' : Hs} {i : Nat} {os : List Offer} (t : DealAt h i os) (g : Gb 0 h h') : DealAt h' i os := t.gb g (Nat.zero_le _)
/-! ### hopes -/
theorem hopes_eq {os : List Offer} (k : ∀ o ∈ os, Ofr o) (l8 : os.length ≤ 8) (h : Hs) : m__law_hopes [dealD os] h = .ok (.lst ((ws os).map fr)) h := by
  refine eq_of_wp ?_
  unfold m__law_hopes c__law_hopes
  have en : ent 6 [dealD os] = [some (dealD os), none, none, none, none, none] := rfl
  have s0 : sSet 1 (frz (nLst (aC (eTup (aC (eC (.int 0)) (aC (eC (.int 1)) aN))) aN))) [some (dealD os), none, none, none, none, none] h = .nx [some (dealD os), some (.lst ((ws []).map fr)), none, none, none, none] h := by
    simp only [eV0, eVs, bind_ok', then_ok, q_e2, q_e1, q_eC, q_aC, q_aN, q_sPar2, q_sPar3, q_sSet, q_sRet, q_eBf, q_nBf, q_eCall, q_tst, q_tru, q_ifV, q_sIf, q_eTup, q_sPass, q_sExp, q_eLm, q_nLst, q_frz, q_thaw, q_iSeq, q_iR2, q_iR3, q_iEnumD, q_iZip, q_andX, q_andT, q_orT, q_notT, q_eCh, q_sPat, q_eSl, q_nSl, q_pS, q_pN, q_sRetN, q_tYes, q_eDct0, okL0, okL1, okL2, okL3, okL4, okL5, okL6, ent, List.map_cons, List.map_nil, List.length_cons, List.length_nil, List.set_cons_zero, List.set_cons_succ, List.replicate, List.cons_append, List.nil_append, Nat.reduceAdd, Nat.reduceSub, Nat.sub_self, Nat.sub_zero, zero_add', ↓reduceIte, Bool.false_eq_true, item0, item1, addD_ii, subD_ii, negD_i, absD_i, ltD_ii, leD_ii, gtD_ii, geD_ii, truD_bl, decide_true, decide_false]
    rfl
  rw [wp_def, en, wps_seq, s0, wps_nx, wps_seq]
  have it : iSeq (e1 revD (eV 0)) [some (dealD os), some (.lst ((ws []).map fr)), none, none, none, none] h = .ok ⟨(os.reverse).map offD, []⟩ h := by
    rw [List.map_reverse]
    exact seq_tup rfl
  refine wps_for_st (xs := os.reverse) (g := offD) (h1 := h) it ([] : List Offer) (fun done ρ g => (∃ a2 a3 a4 a5, ρ = [some (dealD os), some (.lst ((ws done).map fr)), a2, a3, a4, a5]) ∧ g = h) (fun done o => o :: done) (fun done rest => (∀ o ∈ done, Ofr o) ∧ (∀ o ∈ rest, Ofr o) ∧ done.length + rest.length ≤ 8) ⟨by simp, fun o ho => k o (List.mem_reverse.mp ho), by rw [List.length_reverse]; simpa using l8⟩ ⟨⟨_, _, _, _, rfl⟩, rfl⟩ ?_ ?_
  · rintro done o rest ρ g ⟨j1, j2, j3⟩ ⟨⟨a2, a3, a4, a5, rfl⟩, rfl⟩
    have ko := j2 o List.mem_cons_self
    have wb := w_bq j1
    have hl : done.length ≤ 8 := by omega
    have E0 := De_pos done
    have E5 := De_500 j1 hl
    have EE := lt1500 ko.dn E5
    have EP : 0 < Do o * De done := Nat.mul_pos (Dd_pos _) E0
    have wsz : Sz 2000 (w done) := wb.s E0 (p500 E5) (by decide)
    obtain ⟨t, et⟩ := ws_cons done
    have i0 : itemD (.lst ((ws done).map fr)) (.int 0) g = .ok (fr (w done)) g := item_lst (i := 0) (by rw [et]; rfl)
    refine ⟨[some (dealD os), some (.lst ((ws done).map fr)), some (offD o), a3, a4, a5], rfl, ?_⟩
    have s3 : sSet 3 (eTup (aC (eC (.int 0)) (aC (eC (.int 1)) aN))) [some (dealD os), some (.lst ((ws done).map fr)), some (offD o), a3, a4, a5] g = .nx [some (dealD os), some (.lst ((ws done).map fr)), some (offD o), some (fr 0), a4, a5] g := by
      simp only [eV0, eVs, bind_ok', then_ok, q_e2, q_e1, q_eC, q_aC, q_aN, q_sPar2, q_sPar3, q_sSet, q_sRet, q_eBf, q_nBf, q_eCall, q_tst, q_tru, q_ifV, q_sIf, q_eTup, q_sPass, q_sExp, q_eLm, q_nLst, q_frz, q_thaw, q_iSeq, q_iR2, q_iR3, q_iEnumD, q_iZip, q_andX, q_andT, q_orT, q_notT, q_eCh, q_sPat, q_eSl, q_nSl, q_pS, q_pN, q_sRetN, q_tYes, q_eDct0, okL0, okL1, okL2, okL3, okL4, okL5, okL6, ent, List.map_cons, List.map_nil, List.length_cons, List.length_nil, List.set_cons_zero, List.set_cons_succ, List.replicate, List.cons_append, List.nil_append, Nat.reduceAdd, Nat.reduceSub, Nat.sub_self, Nat.sub_zero, zero_add', ↓reduceIte, Bool.false_eq_true, item0, item1, addD_ii, subD_ii, negD_i, absD_i, ltD_ii, leD_ii, gtD_ii, geD_ii, truD_bl, decide_true, decide_false]
      rfl
    rw [wps_seq, s3, wps_nx, wps_seq]
    refine wps_for_st (xs := o) (g := pairD) (h1 := g) (seq_tup rfl) (0 : Rat) (fun s ρ g' => (∃ a4 a5, ρ = [some (dealD os), some (.lst ((ws done).map fr)), some (offD o), some (fr s), a4, a5]) ∧ g' = g) (fun s p => s + p.2 * mxq (p.1 : Rat) (w done)) (fun s rest => (∀ p ∈ rest, p ∈ o) ∧ ∃ m, Bq (Do o * De done) m s ∧ m + 1000 * rest.length ≤ 100000) ⟨fun _ h => h, 0, Bq.zero' EP 0, by have := ko.l5; omega⟩ ⟨⟨_, _, rfl⟩, rfl⟩ ?_ ?_
    · rintro s p rest2 ρ g' ⟨i1, m, sb, ml⟩ ⟨⟨a4, a5, rfl⟩, rfl⟩
      rw [List.length_cons] at ml
      have hp := i1 p List.mem_cons_self
      have v := ko.val p hp
      have mb : Bq (De done) 1000 (mxq (p.1 : Rat) (w done)) := by
        have z := ((Bq.int (M := 1000) v.1 v.2).up (Nat.one_dvd _) E0 (Nat.le_refl _)).mx wb
        rwa [Nat.max_self] at z
      have tb := (ko.prs.sh p hp).mul mb
      rw [Nat.one_mul] at tb
      have ms : Sz 2000 (mxq (p.1 : Rat) (w done)) := mb.s E0 (p500 E5) (by decide)
      have ts : Sz 2000 (p.2 * mxq (p.1 : Rat) (w done)) := tb.s EP EE (by decide)
      have ss' : Sz 2000 s := sb.s EP EE (by omega)
      refine ⟨_, rfl, ?_⟩
      simp only [eV0, eVs, bind_ok', then_ok, q_e2, q_e1, q_eC, q_aC, q_aN, q_sPar2, q_sPar3, q_sSet, q_sRet, q_eBf, q_nBf, q_eCall, q_tst, q_tru, q_ifV, q_sIf, q_eTup, q_sPass, q_sExp, q_eLm, q_nLst, q_frz, q_thaw, q_iSeq, q_iR2, q_iR3, q_iEnumD, q_iZip, q_andX, q_andT, q_orT, q_notT, q_eCh, q_sPat, q_eSl, q_nSl, q_pS, q_pN, q_sRetN, q_tYes, q_eDct0, okL0, okL1, okL2, okL3, okL4, okL5, okL6, ent, List.map_cons, List.map_nil, List.length_cons, List.length_nil, List.set_cons_zero, List.set_cons_succ, List.replicate, List.cons_append, List.nil_append, Nat.reduceAdd, Nat.reduceSub, Nat.sub_self, Nat.sub_zero, zero_add', ↓reduceIte, Bool.false_eq_true, item0, item1, addD_ii, subD_ii, negD_i, absD_i, ltD_ii, leD_ii, gtD_ii, geD_ii, truD_bl, decide_true, decide_false, wp_ok, wp_bad, wp_bind, wp_nox, wp_def, wps_then, wps_seq, wps_nx, wps_ret, wp_ite, wps_ite, List.set_cons_zero, List.set_cons_succ, fr_int, i0, lmost_eq (int_s v.1 (by omega)) wsz (by decide), lprod_eq (share_s ko hp) ms (by decide), lsum_eq ss' ts (by decide)]
      exact ⟨⟨⟨_, _, rfl⟩, trivial⟩, fun q hq => i1 q (List.mem_cons_of_mem _ hq), m + 1000, sb.add tb, by omega⟩
    · rintro ρ g' ⟨⟨a4, a5, rfl⟩, rfl⟩ -
      have fe : o.foldl (fun s p => s + p.2 * mxq (p.1 : Rat) (w done)) 0 = w (o :: done) := by
        have z : ∀ (l : Offer) (s : Rat), l.foldl (fun s p => s + p.2 * mxq (p.1 : Rat) (w done)) s = s + ex l fun v => mxq (v : Rat) (w done) := by
          intro l
          induction l with
          | nil =>
            intro s
            show s = s + 0
            grind
          | cons p l ih =>
            intro s
            rw [List.foldl_cons, ih]
            show s + p.2 * mxq (p.1 : Rat) (w done) + (ex l fun v => mxq (v : Rat) (w done)) = s + (p.2 * mxq (p.1 : Rat) (w done) + ex l fun v => mxq (v : Rat) (w done))
            grind
        rw [z]
        show 0 + wf o (w done) = wf o (w done)
        grind
      rw [fe]
      have ad := addD_ll (h := g') (xs := [fr (w (o :: done))]) (ys := (ws done).map fr) (by rw [List.length_map, ws_len]; simp; omega)
      simp only [eV0, eVs, bind_ok', then_ok, q_e2, q_e1, q_eC, q_aC, q_aN, q_sPar2, q_sPar3, q_sSet, q_sRet, q_eBf, q_nBf, q_eCall, q_tst, q_tru, q_ifV, q_sIf, q_eTup, q_sPass, q_sExp, q_eLm, q_nLst, q_frz, q_thaw, q_iSeq, q_iR2, q_iR3, q_iEnumD, q_iZip, q_andX, q_andT, q_orT, q_notT, q_eCh, q_sPat, q_eSl, q_nSl, q_pS, q_pN, q_sRetN, q_tYes, q_eDct0, okL0, okL1, okL2, okL3, okL4, okL5, okL6, ent, List.map_cons, List.map_nil, List.length_cons, List.length_nil, List.set_cons_zero, List.set_cons_succ, List.replicate, List.cons_append, List.nil_append, Nat.reduceAdd, Nat.reduceSub, Nat.sub_self, Nat.sub_zero, zero_add', ↓reduceIte, Bool.false_eq_true, item0, item1, addD_ii, subD_ii, negD_i, absD_i, ltD_ii, leD_ii, gtD_ii, geD_ii, truD_bl, decide_true, decide_false, wp_ok, wp_bad, wp_bind, wp_nox, wp_def, wps_then, wps_seq, wps_nx, wps_ret, wp_ite, wps_ite, List.set_cons_zero, List.set_cons_succ, ad]
      refine ⟨⟨⟨_, _, _, _, rfl⟩, trivial⟩, fun q hq => ?_, fun q hq => j2 q (List.mem_cons_of_mem _ hq), by simp only [List.length_cons] at j3 ⊢; omega⟩
      rcases List.mem_cons.mp hq with e | e
      · rw [e]; exact ko
      · exact j1 q e
  · rintro ρ g ⟨⟨a2, a3, a4, a5, rfl⟩, rfl⟩ -
    rw [foldl_rev, List.reverse_reverse, List.append_nil]
    simp only [eV0, eVs, bind_ok', then_ok, q_e2, q_e1, q_eC, q_aC, q_aN, q_sPar2, q_sPar3, q_sSet, q_sRet, q_eBf, q_nBf, q_eCall, q_tst, q_tru, q_ifV, q_sIf, q_eTup, q_sPass, q_sExp, q_eLm, q_nLst, q_frz, q_thaw, q_iSeq, q_iR2, q_iR3, q_iEnumD, q_iZip, q_andX, q_andT, q_orT, q_notT, q_eCh, q_sPat, q_eSl, q_nSl, q_pS, q_pN, q_sRetN, q_tYes, q_eDct0, okL0, okL1, okL2, okL3, okL4, okL5, okL6, ent, List.map_cons, List.map_nil, List.length_cons, List.length_nil, List.set_cons_zero, List.set_cons_succ, List.replicate, List.cons_append, List.nil_append, Nat.reduceAdd, Nat.reduceSub, Nat.sub_self, Nat.sub_zero, zero_add', ↓reduceIte, Bool.false_eq_true, item0, item1, addD_ii, subD_ii, negD_i, absD_i, ltD_ii, leD_ii, gtD_ii, geD_ii, truD_bl, decide_true, decide_false, wp_ok, wp_bad, wp_bind, wp_nox, wp_def, wps_then, wps_seq, wps_nx, wps_ret, wp_ite, wps_ite]
    exact ⟨trivial, trivial⟩
/-! ### what falls by nothing -/
/-- offers of 0 for sure -/
def zero : Offer := [(0, 1)]
end Pl

/-! Plain laws, hand c 1: the third hand, its fractions, its offers. -/
namespace Pl
open Dl Sh
local instance : Dl.Tb := ⟨fun _ => []⟩

/-! ### fractions -/
end Pl

/-! Plain laws, hand c 2: offers, deals that are drawn. -/
namespace Pl
open Dl Sh
local instance : Dl.Tb := ⟨fun _ => []⟩

abbrev Wts := List (Int × Int)
def kw (ps : Wts) : List (L2.Key × D) := ps.map fun p => (.inl p.1, .int p.2)
def putW (ps : Wts) (v x : Int) : Wts := if v ∈ ps.map (·.1) then ps.map (fun p => if p.1 = v then (p.1, x) else p) else ps ++ [(v, x)]
theorem putW_keys {ps : Wts} {v x : Int} : (putW ps v x).map (·.1) = if v ∈ ps.map (·.1) then ps.map (·.1) else ps.map (·.1) ++ [v] := by
  unfold putW
  by_cases m : v ∈ ps.map (·.1)
  · rw [if_pos m, if_pos m, List.map_map]
    refine List.map_congr_left fun p _ => ?_
    show (if p.1 = v then (p.1, x) else p).1 = p.1
    split <;> rfl
  · rw [if_neg m, if_neg m, List.map_append]
    rfl
structure WtOk (ps : Wts) : Prop where
  nd : (ps.map (·.1)).Nodup
  key : ∀ p ∈ ps, 0 ≤ p.1 ∧ p.1 ≤ 1000
  wt : ∀ p ∈ ps, 1 ≤ p.2 ∧ p.2 ≤ 4
theorem WtOk.put {ps : Wts} {v x : Int} (k : WtOk ps) (hv : 0 ≤ v ∧ v ≤ 1000) (hx : 1 ≤ x ∧ x ≤ 4) : WtOk (putW ps v x) ∧ (putW ps v x).length ≤ ps.length + 1 ∧ 1 ≤ (putW ps v x).length := by
  refine ⟨⟨?_, fun p hp => ?_, fun p hp => ?_⟩, ?_, ?_⟩
  · rw [putW_keys]
    split
    · exact k.nd
    · rename_i n
      rw [List.nodup_append]
      refine ⟨k.nd, by simp, fun a ha b hb e => ?_⟩
      rw [List.mem_singleton.mp hb] at e
      exact n (e ▸ ha)
  · unfold putW at hp
    split at hp
    · obtain ⟨q, hq, rfl⟩ := List.mem_map.mp hp
      have := k.key q hq
      split
      · exact this
      · exact this
    · rcases List.mem_append.mp hp with e | e
      · exact k.key p e
      · rw [List.mem_singleton.mp e]; exact hv
  · unfold putW at hp
    split at hp
    · obtain ⟨q, hq, rfl⟩ := List.mem_map.mp hp
      have := k.wt q hq
      split
      · exact hx
      · exact this
    · rcases List.mem_append.mp hp with e | e
      · exact k.wt p e
      · rw [List.mem_singleton.mp e]; exact hx
  · unfold putW
    split
    · rw [List.length_map]; omega
    · rw [List.length_append, List.length_singleton]; omega
  · unfold putW
    split
    · rename_i m
      rw [List.length_map]
      obtain ⟨p, hp, _⟩ := List.mem_map.mp m
      exact List.length_pos_of_mem hp
    · rw [List.length_append, List.length_singleton]; omega
end Pl

/-! Plain laws, rules of deals: the mean of a rule, which takes some values of each offer. -/
namespace Pl
open Dl Sh
local instance : Dl.Tb := ⟨fun _ => []⟩

theorem q_nListZip {cs : Env → M (List D)} {ρ : Env} {h : Hs} : nListZip cs ρ h = (cs ρ h).bind fun ds h1 => match ds with
    | [x, y] => if isT x && !isT y then (match itOf h1 x, itOf h1 y with
      | some it, some jt => if okG it.gs h1 && okG jt.gs h1 then .ok (zipD it.items jt.items) h1 else .bad
      | _, _ => .bad) else .bad
    | _ => .bad := rfl
abbrev FO : Type := List ((Int × Rat) × Bool)
def foO (fo : FO) : Offer := fo.map (·.1)
def flD (fo : FO) : D := .lst (fo.map fun t => .bl t.2)
def foD (fo : FO) : D := .tup [offD (foO fo), flD fo]
def vl (x : Rat) (t : (Int × Rat) × Bool) : Rat := if t.2 = true then (t.1.1 : Rat) else x
def rl : List FO → Rat
  | [] => 0
  | fo :: r => sm (fo.map fun t => t.1.2 * vl (rl r) t)
theorem w_fo (fo : FO) (r : List FO) : w ((fo :: r).map foO) = sm (fo.map fun t => t.1.2 * mxq (t.1.1 : Rat) (w (r.map foO))) := by
  show sm ((fo.map (·.1)).map fun p : Int × Rat => p.2 * mxq (p.1 : Rat) (w (r.map foO))) = _
  rw [List.map_map]
  rfl
theorem vl_le {x y : Rat} (h : x ≤ y) (t : (Int × Rat) × Bool) : vl x t ≤ mxq (t.1.1 : Rat) y := by
  unfold vl
  split
  · exact (mxq_ge _ _).1
  · exact Rat.le_trans h (mxq_ge _ _).2
theorem rl_le : ∀ {fos : List FO}, (∀ fo ∈ fos, Ofr (foO fo)) → rl fos ≤ w (fos.map foO)
  | [], _ => Rat.le_refl
  | fo :: r, k => by
    rw [w_fo]
    exact sm_map_le fun t ht => Rat.mul_le_mul_of_nonneg_left (vl_le (rl_le fun x hx => k x (List.mem_cons_of_mem _ hx)) t) (Rat.le_of_lt ((k fo List.mem_cons_self).sh t.1 (List.mem_map.mpr ⟨t, ht, rfl⟩)).1)
theorem vl_bq {F : Nat} {x : Rat} (hx : Bq F 1000 x) (F0 : 0 < F) {t : (Int × Rat) × Bool} (v : 0 ≤ t.1.1 ∧ t.1.1 ≤ 1000) : Bq F 1000 (vl x t) := by
  unfold vl
  split
  · exact (Bq.int (M := 1000) v.1 v.2).up (Nat.one_dvd _) F0 (Nat.le_refl _)
  · exact hx
theorem ofr_os {fos : List FO} (k : ∀ fo ∈ fos, Ofr (foO fo)) : ∀ o ∈ fos.map foO, Ofr o := fun o ho => by
  obtain ⟨fo, h, rfl⟩ := List.mem_map.mp ho
  exact k fo h
theorem vl_term {fo : FO} (k : Ofr (foO fo)) {F : Nat} {x : Rat} (hx : Bq F 1000 x) (F0 : 0 < F) {t : (Int × Rat) × Bool} (ht : t ∈ fo) : Bq (Do (foO fo) * F) 1000 (t.1.2 * vl x t) := by
  have m : t.1 ∈ foO fo := List.mem_map.mpr ⟨t, ht, rfl⟩
  have z := (k.prs.sh t.1 m).mul (vl_bq (t := t) hx F0 (k.val t.1 m))
  rwa [Nat.one_mul] at z
theorem rl_bq : ∀ {fos : List FO}, (∀ fo ∈ fos, Ofr (foO fo)) → Bq (De (fos.map foO)) 1000 (rl fos)
  | [], _ => Bq.zero' Nat.one_pos _
  | fo :: r, k => by
    have ih := rl_bq fun x hx => k x (List.mem_cons_of_mem _ hx)
    have ko := k fo List.mem_cons_self
    have E0 := De_pos (r.map foO)
    have z := sm_bq (E := Do (foO fo) * De (r.map foO)) (M := 1000) (Nat.mul_pos (Dd_pos _) E0) (xs := fo.map fun t => t.1.2 * vl (rl r) t) fun x hx => by
      obtain ⟨t, ht, rfl⟩ := List.mem_map.mp hx
      exact vl_term ko ih E0 ht
    exact ⟨z.iq, z.lo, Rat.le_trans (rl_le k) (w_bq (ofr_os k)).hi⟩
/-- to take what is no less than the worth of what is behind -/
theorem rl_best : ∀ {fos : List FO}, (∀ (i : Nat) fo, fos[i]? = some fo → ∀ t ∈ fo, t.2 = !decide ((t.1.1 : Rat) < w ((fos.drop (i + 1)).map foO))) → rl fos = w (fos.map foO)
  | [], _ => rfl
  | fo :: r, k => by
    have ih := rl_best (fos := r) fun i fo' e t ht => k (i + 1) fo' e t ht
    rw [w_fo]
    show sm (fo.map fun t => t.1.2 * vl (rl r) t) = _
    refine sm_map_congr fun t ht => ?_
    have z := k 0 fo rfl t ht
    rw [ih]
    unfold vl mxq
    rw [z]
    by_cases c : (t.1.1 : Rat) < w (r.map foO)
    · rw [if_pos c, show ((fo :: r).drop (0 + 1)) = r from rfl, decide_eq_true c]; rfl
    · rw [if_neg c, show ((fo :: r).drop (0 + 1)) = r from rfl, decide_eq_false c]; rfl
theorem zipD_fo : ∀ fos : List FO, zipD ((fos.map foO).map offD) (fos.map flD) = fos.map foD
  | [] => rfl
  | fo :: r => by
    show zipD (offD (foO fo) :: (r.map foO).map offD) (flD fo :: r.map flD) = foD fo :: r.map foD
    unfold zipD
    rw [zipD_fo r]
    rfl
theorem enumD_mapG {α : Type} (g : α → D) : ∀ (cs : List α) (n : Nat), enumD n (cs.map g) = (cs.zipIdx n).map fun p => .tup [.int p.2, g p.1]
  | [], n => rfl
  | c :: cs, n => by
    show enumD n (g c :: cs.map g) = _
    unfold enumD
    rw [enumD_mapG g cs (n + 1)]
    rfl
theorem okG_one {h : Hs} {n : Nat} {xs : List D} (e : h[n]? = some (.lst xs)) : okG [(n, xs)] h = true := by
  show ((match h[n]? with
    | some (.lst ys) => D.beqs ys xs
    | _ => false) && true) = true
  rw [e, Bool.and_true]
  exact D.beqs_refl _
theorem by_rule_eq {fos : List FO} (k : ∀ fo ∈ fos, Ofr (foO fo)) (l8 : fos.length ≤ 8) {h : Hs} {n : Nat} (hn : h[n]? = some (.lst (fos.map flD))) : m__law_by_rule [dealD (fos.map foO), .obj n] h = .ok (fr (rl fos)) h := by
  refine eq_of_wp ?_
  unfold m__law_by_rule c__law_by_rule
  have en : ent 9 [dealD (fos.map foO), .obj n] = [some (dealD (fos.map foO)), some (.obj n), none, none, none, none, none, none, none] := rfl
  have s0 : sSet 2 (eTup (aC (eC (.int 0)) (aC (eC (.int 1)) aN))) [some (dealD (fos.map foO)), some (.obj n), none, none, none, none, none, none, none] h = .nx [some (dealD (fos.map foO)), some (.obj n), some (fr 0), none, none, none, none, none, none] h := by
    simp only [eV0, eVs, bind_ok', then_ok, q_e2, q_e1, q_eC, q_aC, q_aN, q_sPar2, q_sPar3, q_sSet, q_sRet, q_eBf, q_nBf, q_eCall, q_tst, q_tru, q_ifV, q_sIf, q_eTup, q_sPass, q_sExp, q_eLm, q_nLst, q_frz, q_thaw, q_iSeq, q_iR2, q_iR3, q_iEnumD, q_iZip, q_andX, q_andT, q_orT, q_notT, q_eCh, q_sPat, q_eSl, q_nSl, q_pS, q_pN, q_sRetN, q_tYes, q_eDct0, okL0, okL1, okL2, okL3, okL4, okL5, okL6, ent, List.map_cons, List.map_nil, List.length_cons, List.length_nil, List.set_cons_zero, List.set_cons_succ, List.replicate, List.cons_append, List.nil_append, Nat.reduceAdd, Nat.reduceSub, Nat.sub_self, Nat.sub_zero, zero_add', ↓reduceIte, Bool.false_eq_true, item0, item1, addD_ii, subD_ii, negD_i, absD_i, ltD_ii, leD_ii, gtD_ii, geD_ii, truD_bl, decide_true, decide_false]
    rfl
  rw [wp_def, en, wps_seq, s0, wps_nx, wps_seq]
  have it : iSeq (e1 revD (frz (nListZip (aC (eV 0) (aC (eV 1) aN))))) [some (dealD (fos.map foO)), some (.obj n), some (fr 0), none, none, none, none, none, none] h = .ok ⟨(fos.reverse).map foD, []⟩ h := by
    have i2 : itOf h (.obj n) = some ⟨fos.map flD, [(n, fos.map flD)]⟩ := by
      show (match h[n]? with
        | some (.lst xs) => some (ItD.mk xs [(n, xs)])
        | _ => none) = _
      rw [hn]
    have i1 : itOf h (dealD (fos.map foO)) = some ⟨(fos.map foO).map offD, []⟩ := rfl
    have g2 : okG [(n, fos.map flD)] h = true := okG_one hn
    have z : nListZip (aC (eV 0) (aC (eV 1) aN)) [some (dealD (fos.map foO)), some (.obj n), some (fr 0), none, none, none, none, none, none] h = .ok (fos.map foD) h := by
      rw [q_nListZip]
      simp only [eV0, eVs, bind_ok', then_ok, q_e2, q_e1, q_eC, q_aC, q_aN, q_sPar2, q_sPar3, q_sSet, q_sRet, q_eBf, q_nBf, q_eCall, q_tst, q_tru, q_ifV, q_sIf, q_eTup, q_sPass, q_sExp, q_eLm, q_nLst, q_frz, q_thaw, q_iSeq, q_iR2, q_iR3, q_iEnumD, q_iZip, q_andX, q_andT, q_orT, q_notT, q_eCh, q_sPat, q_eSl, q_nSl, q_pS, q_pN, q_sRetN, q_tYes, q_eDct0, okL0, okL1, okL2, okL3, okL4, okL5, okL6, ent, List.map_cons, List.map_nil, List.length_cons, List.length_nil, List.set_cons_zero, List.set_cons_succ, List.replicate, List.cons_append, List.nil_append, Nat.reduceAdd, Nat.reduceSub, Nat.sub_self, Nat.sub_zero, zero_add', ↓reduceIte, Bool.false_eq_true, item0, item1, addD_ii, subD_ii, negD_i, absD_i, ltD_ii, leD_ii, gtD_ii, geD_ii, truD_bl, decide_true, decide_false, i1, i2, g2, okG_nil, zipD_fo]
      rfl
    rw [List.map_reverse]
    refine seq_it (x := .lst (fos.map foD).reverse) ?_ (.inr rfl)
    simp only [eV0, eVs, bind_ok', then_ok, q_e2, q_e1, q_eC, q_aC, q_aN, q_sPar2, q_sPar3, q_sSet, q_sRet, q_eBf, q_nBf, q_eCall, q_tst, q_tru, q_ifV, q_sIf, q_eTup, q_sPass, q_sExp, q_eLm, q_nLst, q_frz, q_thaw, q_iSeq, q_iR2, q_iR3, q_iEnumD, q_iZip, q_andX, q_andT, q_orT, q_notT, q_eCh, q_sPat, q_eSl, q_nSl, q_pS, q_pN, q_sRetN, q_tYes, q_eDct0, okL0, okL1, okL2, okL3, okL4, okL5, okL6, ent, List.map_cons, List.map_nil, List.length_cons, List.length_nil, List.set_cons_zero, List.set_cons_succ, List.replicate, List.cons_append, List.nil_append, Nat.reduceAdd, Nat.reduceSub, Nat.sub_self, Nat.sub_zero, zero_add', ↓reduceIte, Bool.false_eq_true, item0, item1, addD_ii, subD_ii, negD_i, absD_i, ltD_ii, leD_ii, gtD_ii, geD_ii, truD_bl, decide_true, decide_false, z]
    rfl
  refine wps_for_st (xs := fos.reverse) (g := foD) (h1 := h) it ([] : List FO) (fun done ρ g => (∃ a3 a4 a5 a6 a7 a8, ρ = [some (dealD (fos.map foO)), some (.obj n), some (fr (rl done)), a3, a4, a5, a6, a7, a8]) ∧ g = h) (fun done o => o :: done) (fun done rest => (∀ o ∈ done, Ofr (foO o)) ∧ (∀ o ∈ rest, Ofr (foO o)) ∧ done.length + rest.length ≤ 8) ⟨by simp, fun o ho => k o (List.mem_reverse.mp ho), by rw [List.length_reverse]; simpa using l8⟩ ⟨⟨_, _, _, _, _, _, rfl⟩, rfl⟩ ?_ ?_
  · rintro done o rest ρ g ⟨j1, j2, j3⟩ ⟨⟨a3, a4, a5, a6, a7, a8, rfl⟩, rfl⟩
    have ko := j2 o List.mem_cons_self
    have rb := rl_bq j1
    have hl : (done.map foO).length ≤ 8 := by rw [List.length_map]; omega
    have E0 := De_pos (done.map foO)
    have E5 := De_500 (ofr_os j1) hl
    have EE := lt1500 ko.dn E5
    have EP : 0 < Do (foO o) * De (done.map foO) := Nat.mul_pos (Dd_pos _) E0
    have l5 : o.length ≤ 5 := by have := ko.l5; rw [foO, List.length_map] at this; exact this
    refine ⟨[some (dealD (fos.map foO)), some (.obj n), some (fr (rl done)), some (offD (foO o)), some (flD o), a5, a6, a7, a8], rfl, ?_⟩
    have s3 : sSet 5 (eTup (aC (eC (.int 0)) (aC (eC (.int 1)) aN))) [some (dealD (fos.map foO)), some (.obj n), some (fr (rl done)), some (offD (foO o)), some (flD o), a5, a6, a7, a8] g = .nx [some (dealD (fos.map foO)), some (.obj n), some (fr (rl done)), some (offD (foO o)), some (flD o), some (fr 0), a6, a7, a8] g := by
      simp only [eV0, eVs, bind_ok', then_ok, q_e2, q_e1, q_eC, q_aC, q_aN, q_sPar2, q_sPar3, q_sSet, q_sRet, q_eBf, q_nBf, q_eCall, q_tst, q_tru, q_ifV, q_sIf, q_eTup, q_sPass, q_sExp, q_eLm, q_nLst, q_frz, q_thaw, q_iSeq, q_iR2, q_iR3, q_iEnumD, q_iZip, q_andX, q_andT, q_orT, q_notT, q_eCh, q_sPat, q_eSl, q_nSl, q_pS, q_pN, q_sRetN, q_tYes, q_eDct0, okL0, okL1, okL2, okL3, okL4, okL5, okL6, ent, List.map_cons, List.map_nil, List.length_cons, List.length_nil, List.set_cons_zero, List.set_cons_succ, List.replicate, List.cons_append, List.nil_append, Nat.reduceAdd, Nat.reduceSub, Nat.sub_self, Nat.sub_zero, zero_add', ↓reduceIte, Bool.false_eq_true, item0, item1, addD_ii, subD_ii, negD_i, absD_i, ltD_ii, leD_ii, gtD_ii, geD_ii, truD_bl, decide_true, decide_false]
      rfl
    rw [wps_seq, s3, wps_nx, wps_seq]
    have en : iEnumD (aC (eV 3) aN) [some (dealD (fos.map foO)), some (.obj n), some (fr (rl done)), some (offD (foO o)), some (flD o), some (fr 0), a6, a7, a8] g = .ok ⟨(o.zipIdx 0).map (fun p => .tup [.int (p.2 : Nat), pairD p.1.1]), []⟩ g := by
      have e1 : itOf g (offD (foO o)) = some ⟨o.map fun t => pairD t.1, []⟩ := by
        show some (ItD.mk ((o.map (·.1)).map pairD) []) = _
        rw [List.map_map]
        rfl
      rw [← enumD_mapG (fun t : (Int × Rat) × Bool => pairD t.1) o 0]
      simp only [eV0, eVs, bind_ok', then_ok, q_e2, q_e1, q_eC, q_aC, q_aN, q_sPar2, q_sPar3, q_sSet, q_sRet, q_eBf, q_nBf, q_eCall, q_tst, q_tru, q_ifV, q_sIf, q_eTup, q_sPass, q_sExp, q_eLm, q_nLst, q_frz, q_thaw, q_iSeq, q_iR2, q_iR3, q_iEnumD, q_iZip, q_andX, q_andT, q_orT, q_notT, q_eCh, q_sPat, q_eSl, q_nSl, q_pS, q_pN, q_sRetN, q_tYes, q_eDct0, okL0, okL1, okL2, okL3, okL4, okL5, okL6, ent, List.map_cons, List.map_nil, List.length_cons, List.length_nil, List.set_cons_zero, List.set_cons_succ, List.replicate, List.cons_append, List.nil_append, Nat.reduceAdd, Nat.reduceSub, Nat.sub_self, Nat.sub_zero, zero_add', ↓reduceIte, Bool.false_eq_true, item0, item1, addD_ii, subD_ii, negD_i, absD_i, ltD_ii, leD_ii, gtD_ii, geD_ii, truD_bl, decide_true, decide_false, e1, okG_nil]
    refine wps_for_st (xs := o.zipIdx 0) (g := fun p => .tup [.int (p.2 : Nat), pairD p.1.1]) (h1 := g) en (0 : Rat) (fun s ρ g' => (∃ a6 a7 a8, ρ = [some (dealD (fos.map foO)), some (.obj n), some (fr (rl done)), some (offD (foO o)), some (flD o), some (fr s), a6, a7, a8]) ∧ g' = g) (fun s p => s + p.1.1.2 * vl (rl done) p.1) (fun s rest => (∀ p ∈ rest, o[p.2]? = some p.1) ∧ ∃ m, Bq (Do (foO o) * De (done.map foO)) m s ∧ m + 1000 * rest.length ≤ 100000) ⟨fun p hp => List.mk_mem_zipIdx_iff_getElem?.mp hp, 0, Bq.zero' EP 0, by rw [List.length_zipIdx]; omega⟩ ⟨⟨_, _, _, rfl⟩, rfl⟩ ?_ ?_
    · rintro s ⟨t, i⟩ rest2 ρ g' ⟨i1, m, sb, ml⟩ ⟨⟨a6, a7, a8, rfl⟩, rfl⟩
      rw [List.length_cons] at ml
      have hi : o[i]? = some t := i1 (t, i) List.mem_cons_self
      have ht := List.mem_of_getElem? hi
      have hp : t.1 ∈ foO o := List.mem_map.mpr ⟨t, ht, rfl⟩
      have v := ko.val _ hp
      have tb := vl_term ko rb E0 ht
      have ms : Sz 2000 (vl (rl done) t) := (vl_bq (t := t) rb E0 v).s E0 (p500 E5) (by decide)
      have ts : Sz 2000 (t.1.2 * vl (rl done) t) := tb.s EP EE (by decide)
      have ss' : Sz 2000 s := sb.s EP EE (by omega)
      have fl : itemD (flD o) (.int (i : Nat)) g' = .ok (.bl t.2) g' := item_lst (by rw [List.getElem?_map, hi]; rfl)
      refine ⟨_, rfl, ?_⟩
      have iv : ifV (tru (e2 itemD (eV 4) (eV 6))) (eTup (aC (eV 7) (aC (eC (.int 1)) aN))) (eV 2) [some (dealD (fos.map foO)), some (.obj n), some (fr (rl done)), some (offD (foO o)), some (flD o), some (fr s), some (.int (i : Nat)), some (.int t.1.1), some (fr t.1.2)] g' = .ok (fr (vl (rl done) t)) g' := by
        unfold vl
        cases z : t.2 <;> simp only [eV0, eVs, bind_ok', then_ok, q_e2, q_e1, q_eC, q_aC, q_aN, q_sPar2, q_sPar3, q_sSet, q_sRet, q_eBf, q_nBf, q_eCall, q_tst, q_tru, q_ifV, q_sIf, q_eTup, q_sPass, q_sExp, q_eLm, q_nLst, q_frz, q_thaw, q_iSeq, q_iR2, q_iR3, q_iEnumD, q_iZip, q_andX, q_andT, q_orT, q_notT, q_eCh, q_sPat, q_eSl, q_nSl, q_pS, q_pN, q_sRetN, q_tYes, q_eDct0, okL0, okL1, okL2, okL3, okL4, okL5, okL6, ent, List.map_cons, List.map_nil, List.length_cons, List.length_nil, List.set_cons_zero, List.set_cons_succ, List.replicate, List.cons_append, List.nil_append, Nat.reduceAdd, Nat.reduceSub, Nat.sub_self, Nat.sub_zero, zero_add', ↓reduceIte, Bool.false_eq_true, item0, item1, addD_ii, subD_ii, negD_i, absD_i, ltD_ii, leD_ii, gtD_ii, geD_ii, truD_bl, decide_true, decide_false, fl, z, truD_bl, fr_int]
      generalize ifV (tru (e2 itemD (eV 4) (eV 6))) (eTup (aC (eV 7) (aC (eC (.int 1)) aN))) (eV 2) = F at iv ⊢
      simp only [eV0, eVs, bind_ok', then_ok, q_e2, q_e1, q_eC, q_aC, q_aN, q_sPar2, q_sPar3, q_sSet, q_sRet, q_eBf, q_nBf, q_eCall, q_tst, q_tru, q_ifV, q_sIf, q_eTup, q_sPass, q_sExp, q_eLm, q_nLst, q_frz, q_thaw, q_iSeq, q_iR2, q_iR3, q_iEnumD, q_iZip, q_andX, q_andT, q_orT, q_notT, q_eCh, q_sPat, q_eSl, q_nSl, q_pS, q_pN, q_sRetN, q_tYes, q_eDct0, okL0, okL1, okL2, okL3, okL4, okL5, okL6, ent, List.map_cons, List.map_nil, List.length_cons, List.length_nil, List.set_cons_zero, List.set_cons_succ, List.replicate, List.cons_append, List.nil_append, Nat.reduceAdd, Nat.reduceSub, Nat.sub_self, Nat.sub_zero, zero_add', ↓reduceIte, Bool.false_eq_true, item0, item1, addD_ii, subD_ii, negD_i, absD_i, ltD_ii, leD_ii, gtD_ii, geD_ii, truD_bl, decide_true, decide_false, wp_ok, wp_bad, wp_bind, wp_nox, wp_def, wps_then, wps_seq, wps_nx, wps_ret, wp_ite, wps_ite, List.set_cons_zero, List.set_cons_succ, iv, lprod_eq (share_s ko hp) ms (by decide), lsum_eq ss' ts (by decide)]
      exact ⟨⟨⟨_, _, _, rfl⟩, trivial⟩, fun q hq => i1 q (List.mem_cons_of_mem _ hq), m + 1000, sb.add tb, by omega⟩
    · rintro ρ g' ⟨⟨a6, a7, a8, rfl⟩, rfl⟩ -
      have fe : (o.zipIdx 0).foldl (fun s p => s + p.1.1.2 * vl (rl done) p.1) 0 = rl (o :: done) := by
        have z : ∀ (l : FO) (j : Nat) (s : Rat), (l.zipIdx j).foldl (fun s p => s + p.1.1.2 * vl (rl done) p.1) s = s + sm (l.map fun t => t.1.2 * vl (rl done) t) := by
          intro l
          induction l with
          | nil =>
            intro j s
            show s = s + 0
            grind
          | cons p l ih =>
            intro j s
            rw [List.zipIdx_cons, List.foldl_cons, ih]
            show s + p.1.2 * vl (rl done) p + (sm (l.map fun t => t.1.2 * vl (rl done) t)) = s + (p.1.2 * vl (rl done) p + sm (l.map fun t => t.1.2 * vl (rl done) t))
            grind
        rw [z]
        show 0 + rl (o :: done) = rl (o :: done)
        grind
      rw [fe]
      simp only [eV0, eVs, bind_ok', then_ok, q_e2, q_e1, q_eC, q_aC, q_aN, q_sPar2, q_sPar3, q_sSet, q_sRet, q_eBf, q_nBf, q_eCall, q_tst, q_tru, q_ifV, q_sIf, q_eTup, q_sPass, q_sExp, q_eLm, q_nLst, q_frz, q_thaw, q_iSeq, q_iR2, q_iR3, q_iEnumD, q_iZip, q_andX, q_andT, q_orT, q_notT, q_eCh, q_sPat, q_eSl, q_nSl, q_pS, q_pN, q_sRetN, q_tYes, q_eDct0, okL0, okL1, okL2, okL3, okL4, okL5, okL6, ent, List.map_cons, List.map_nil, List.length_cons, List.length_nil, List.set_cons_zero, List.set_cons_succ, List.replicate, List.cons_append, List.nil_append, Nat.reduceAdd, Nat.reduceSub, Nat.sub_self, Nat.sub_zero, zero_add', ↓reduceIte, Bool.false_eq_true, item0, item1, addD_ii, subD_ii, negD_i, absD_i, ltD_ii, leD_ii, gtD_ii, geD_ii, truD_bl, decide_true, decide_false, wp_ok, wp_bad, wp_bind, wp_nox, wp_def, wps_then, wps_seq, wps_nx, wps_ret, wp_ite, wps_ite, List.set_cons_zero, List.set_cons_succ]
      refine ⟨⟨⟨_, _, _, _, _, _, rfl⟩, trivial⟩, fun q hq => ?_, fun q hq => j2 q (List.mem_cons_of_mem _ hq), by simp only [List.length_cons] at j3 ⊢; omega⟩
      rcases List.mem_cons.mp hq with e | e
      · rw [e]; exact ko
      · exact j1 q e
  · rintro ρ g ⟨⟨a3, a4, a5, a6, a7, a8, rfl⟩, rfl⟩ -
    have fr' : fos.reverse.foldl (fun done o => o :: done) [] = fos := by
      have z : ∀ (l d : List FO), l.foldl (fun done o => o :: done) d = l.reverse ++ d := by
        intro l
        induction l with
        | nil => intro d; rfl
        | cons x l ih => intro d; rw [List.foldl_cons, ih, List.reverse_cons, List.append_assoc]; rfl
      rw [z, List.reverse_reverse, List.append_nil]
    rw [fr']
    simp only [eV0, eVs, bind_ok', then_ok, q_e2, q_e1, q_eC, q_aC, q_aN, q_sPar2, q_sPar3, q_sSet, q_sRet, q_eBf, q_nBf, q_eCall, q_tst, q_tru, q_ifV, q_sIf, q_eTup, q_sPass, q_sExp, q_eLm, q_nLst, q_frz, q_thaw, q_iSeq, q_iR2, q_iR3, q_iEnumD, q_iZip, q_andX, q_andT, q_orT, q_notT, q_eCh, q_sPat, q_eSl, q_nSl, q_pS, q_pN, q_sRetN, q_tYes, q_eDct0, okL0, okL1, okL2, okL3, okL4, okL5, okL6, ent, List.map_cons, List.map_nil, List.length_cons, List.length_nil, List.set_cons_zero, List.set_cons_succ, List.replicate, List.cons_append, List.nil_append, Nat.reduceAdd, Nat.reduceSub, Nat.sub_self, Nat.sub_zero, zero_add', ↓reduceIte, Bool.false_eq_true, item0, item1, addD_ii, subD_ii, negD_i, absD_i, ltD_ii, leD_ii, gtD_ii, geD_ii, truD_bl, decide_true, decide_false, wp_ok, wp_bad, wp_bind, wp_nox, wp_def, wps_then, wps_seq, wps_nx, wps_ret, wp_ite, wps_ite]
    exact ⟨trivial, trivial⟩
end Pl

set_option maxHeartbeats 2000000
/-! law k12 -/
namespace Pl
open Dl Sh
local instance : Dl.Tb := ⟨fun _ => []⟩

def k12s1_5 : SM := sFor (iZip (aC (eV 3) (aC (eV 6) aN))) (.tp [.nm 8, .nm 9]) (sExp (eLm appD (eV 7) (aC (frz (nLc (iSeq (eV 8)) (.tp [.nm 12, .nm 13]) [12, 13] (tYes') (e1 notX (eCall 2 m__law_less (aC (eTup (aC (eV 12) (aC (eC (.int 1)) aN))) (aC (eV 9) aN)))))) aN)))
def k12s1_7 : SM := sFor (iR1 (aC (eC (.int 6)) aN)) (.nm 10) (sSeq (sSet 7 (thaw (nLst aN))) (sSeq (sFor (iSeq (eV 3)) (.nm 8) (sExp (eLm appD (eV 7) (aC (frz (nLc (iSeq (eV 8)) (.nm 14) [14] (tYes') (e2 eqD (eCall 2 m__law_draw_v3 (aC (eV 1) (aC (eC (.int 2)) aN))) (eC (.int 0))))) aN)))) (sIf (tru (eCall 2 m__law_less (aC (e2 itemD (eV 5) (eC (.int 0))) (aC (eCall 2 m__law_by_rule (aC (eV 3) (aC (eV 7) aN))) aN)))) (sRet (eC (.bl false))) (sPass))))
theorem k12_code : c_law_k12 = sSeq (sSet 1 (eCall 1 m__law_hand_v2 (aC (eV 0) aN))) (sSeq (sFor (iR1 (aC (eC (.int 3)) aN)) (.nm 2) (sSeq (sSet 3 (eCall 3 m__law_deal (aC (eV 1) (aC (eC (.int 4)) (aC (eC (.int 4)) aN))))) (sSeq (sPar2 4 5 (aC (eMake "Deal" 2 m_Deal___init__ (aC (eV 3) aN)) (aC (eCall 1 m__law_hopes (aC (eV 3) aN)) aN))) (sSeq (sSet 6 (eCall 1 m_floors (aC (eV 4) aN))) (sSeq (sIf (orT (notT (tru (eCall 2 m__law_is (aC (eV 6) (aC (eBf tupD (aC (eSl (eV 5) (pS (eC (.int 1))) pN) aN)) aN))))) (notT (tru (eCall 2 m__law_is (aC (eCall 1 m_worth (aC (eV 4) aN)) (aC (e2 itemD (eV 5) (eC (.int 0))) aN)))))) (sRet (eC (.bl false))) (sPass)) (sSeq (sSet 7 (thaw (nLst aN))) (sSeq (k12s1_5) (sSeq (sIf (tst (e2 neD (eCall 2 m__law_by_rule (aC (eV 3) (aC (eV 7) aN))) (e2 itemD (eV 5) (eC (.int 0))))) (sRet (eC (.bl false))) (sPass)) (k12s1_7))))))))) (sSeq (sSet 11 (eTup (aC (eTup (aC (eC (.int 0)) (aC (eTup (aC (eC (.int 1)) (aC (eC (.int 2)) aN))) aN))) (aC (eTup (aC (eC (.int 4)) (aC (eTup (aC (eC (.int 1)) (aC (eC (.int 2)) aN))) aN))) aN)))) (sRet (andX (e2 eqD (eCall 1 m_floors (aC (eMake "Deal" 2 m_Deal___init__ (aC (eTup (aC (eV 11) (aC (eV 11) aN))) aN)) aN)) (eTup (aC (eTup (aC (eC (.int 2)) (aC (eC (.int 1)) aN))) (aC (eTup (aC (eC (.int 0)) (aC (eC (.int 1)) aN))) aN)))) (e2 eqD (eCall 1 m_worth (aC (eMake "Deal" 2 m_Deal___init__ (aC (eTup (aC (eV 11) (aC (eV 11) aN))) aN)) aN)) (eTup (aC (eC (.int 3)) (aC (eC (.int 1)) aN)))))))) := rfl
def bestF (os : List Offer) : List FO := (os.zip ((ws os).drop 1)).map fun p => p.1.map fun t => (t, !decide ((t.1 : Rat) < p.2))
theorem bestF_os (os : List Offer) : (bestF os).map foO = os := by
  unfold bestF
  rw [List.map_map]
  have e : (foO ∘ fun p : Offer × Rat => p.1.map fun t => (t, !decide ((t.1 : Rat) < p.2))) = fun p => p.1 := by
    funext p
    show (p.1.map fun t => (t, !decide ((t.1 : Rat) < p.2))).map (·.1) = p.1
    rw [List.map_map]
    exact List.map_id' _
  rw [e]
  exact List.map_fst_zip (by rw [List.length_drop, ws_len]; omega)
theorem bestF_at {os : List Offer} {i : Nat} {fo : FO} (e : (bestF os)[i]? = some fo) : ∀ t ∈ fo, t.2 = !decide ((t.1.1 : Rat) < w (os.drop (i + 1))) := by
  unfold bestF at e
  rw [List.getElem?_map] at e
  obtain ⟨p, ep, rfl⟩ := Option.map_eq_some_iff.mp e
  obtain ⟨e1, e2⟩ := List.getElem?_zip_eq_some.mp ep
  rw [List.getElem?_drop, Nat.add_comm] at e2
  have l := (List.getElem?_eq_some_iff.mp e1).1
  rw [ws_at os (i + 1) (by omega)] at e2
  have pe := Option.some.inj e2
  intro t ht
  obtain ⟨u, _, rfl⟩ := List.mem_map.mp ht
  exact congrArg (fun x => !decide ((u.1 : Rat) < x)) pe.symm
theorem rl_bestF (os : List Offer) : rl (bestF os) = w os := by
  have z := rl_best (fos := bestF os) fun i fo e t ht => by
    rw [List.map_drop, bestF_os]
    exact bestF_at e t ht
  rwa [bestF_os] at z
theorem ne_fr12 {p q : Rat} {h : Hs} : neD (fr p) (fr q) h = .ok (.bl (!decide (fr p = fr q))) h := neD_fz ((fz_fr p).mono (by decide)) ((fz_fr q).mono (by decide))
theorem zipD_mm {α β : Type} (f : α → D) (g : β → D) : ∀ (xs : List α) (ys : List β), zipD (xs.map f) (ys.map g) = (xs.zip ys).map fun p => .tup [f p.1, g p.2]
  | [], _ => rfl
  | _ :: _, [] => rfl
  | x :: xs, y :: ys => by
    show zipD (f x :: xs.map f) (g y :: ys.map g) = _
    unfold zipD
    rw [zipD_mm f g xs ys]
    rfl
theorem p12_15 {os : List Offer} (k : Dl8 os) {h : Hs} {n N : Nat} (one : 1 ≤ n) (t : Hd h N) (hn : h[n]? = some (.lst [])) {z0 z1 z2 z4 z5 z8 z9 z10 z11 z12 z13 z14 : Option D} :
    WpS (k12s1_5 [z0, z1, z2, some (dealD os), z4, z5, some (.tup (((ws os).drop 1).map fr)), some (.obj n), z8, z9, z10, z11, z12, z13, z14] h)
      (fun ρ h' => (∃ z8 z9, ρ = [z0, z1, z2, some (dealD os), z4, z5, some (.tup (((ws os).drop 1).map fr)), some (.obj n), z8, z9, z10, z11, z12, z13, z14]) ∧ Hd h' N ∧ h'[n]? = some (.lst ((bestF os).map flD))) fun _ _ => False := by
  unfold k12s1_5
  have zi : iZip (aC (eV 3) (aC (eV 6) aN)) [z0, z1, z2, some (dealD os), z4, z5, some (.tup (((ws os).drop 1).map fr)), some (.obj n), z8, z9, z10, z11, z12, z13, z14] h = .ok ⟨(os.zip ((ws os).drop 1)).map fun p => .tup [offD p.1, fr p.2], []⟩ h := by
    rw [q_iZip, ← zipD_mm]
    simp only [q_aC, q_aN, eV0, eVs, bind_ok']
    rfl
  have l8 := k.l8
  refine wps_for_st (xs := os.zip ((ws os).drop 1)) (g := fun p => .tup [offD p.1, fr p.2]) (h1 := h) zi ([] : List FO) (fun done ρ g => (∃ z8 z9, ρ = [z0, z1, z2, some (dealD os), z4, z5, some (.tup (((ws os).drop 1).map fr)), some (.obj n), z8, z9, z10, z11, z12, z13, z14]) ∧ Hd g N ∧ g[n]? = some (.lst (done.map flD)))
    (fun done p => done ++ [p.1.map fun t => (t, !decide ((t.1 : Rat) < p.2))]) (fun done rest => (∀ p ∈ rest, Ofr p.1 ∧ Sz 2000 p.2) ∧ done.length + rest.length ≤ 8) ⟨fun p hp => ?_, by rw [List.length_zip]; simp; omega⟩ ⟨⟨_, _, rfl⟩, t, hn⟩ ?_ ?_
  · obtain ⟨m1, m2⟩ := List.of_mem_zip hp
    refine ⟨k.ofr _ m1, ?_⟩
    obtain ⟨i, hi⟩ := List.mem_iff_getElem?.mp (List.mem_of_mem_drop m2)
    have l := (List.getElem?_eq_some_iff.mp hi).1
    rw [ws_len] at l
    rw [ws_at os i (by omega)] at hi
    have pe := Option.some.inj hi
    have kd : ∀ o ∈ os.drop i, Ofr o := fun o ho => k.ofr o (List.mem_of_mem_drop ho)
    have b := w_bq kd
    rw [← pe]
    exact b.s (De_pos _) (p500 (De_500 kd (by rw [List.length_drop]; omega))) (by decide)
  · rintro done ⟨o, x⟩ rest ρ g ⟨j1, j2⟩ ⟨⟨z8, z9, rfl⟩, t', hg⟩
    rw [List.length_cons] at j2
    obtain ⟨ko, sx⟩ := j1 (o, x) List.mem_cons_self
    have l5 : o.length ≤ 5 := ko.l5
    refine ⟨_, rfl, ?_⟩
    have cm := compM (α := Int × Rat) (ci := iSeq (eV 8)) (p := .tp [.nm 12, .nm 13]) (own := [12, 13]) (ce := e1 notX (eCall 2 m__law_less (aC (eTup (aC (eV 12) (aC (eC (.int 1)) aN))) (aC (eV 9) aN)))) (ρ := [z0, z1, z2, some (dealD os), z4, z5, some (.tup (((ws os).drop 1).map fr)), some (.obj n), some (offD o), some (fr x), z10, z11, z12, z13, z14]) (h := g) (xs := o) (g := pairD) (f := fun p => .bl (!decide ((p.1 : Rat) < x)))
      (seq_tup (by simp only [eV0, eVs, bind_ok', then_ok, q_e2, q_e1, q_eC, q_aC, q_aN, q_sPar2, q_sPar3, q_sSet, q_sRet, q_eBf, q_nBf, q_eCall, q_tst, q_tru, q_ifV, q_sIf, q_eTup, q_sPass, q_sExp, q_eLm, q_nLst, q_frz, q_thaw, q_iSeq, q_iR2, q_iR3, q_iEnumD, q_iZip, q_andX, q_andT, q_orT, q_notT, q_eCh, q_sPat, q_eSl, q_nSl, q_pS, q_pN, q_sRetN, q_tYes, q_eDct0, okL0, okL1, okL2, okL3, okL4, okL5, okL6, ent, List.map_cons, List.map_nil, List.length_cons, List.length_nil, List.set_cons_zero, List.set_cons_succ, List.replicate, List.cons_append, List.nil_append, Nat.reduceAdd, Nat.reduceSub, Nat.sub_self, Nat.sub_zero, zero_add', ↓reduceIte, Bool.false_eq_true, item0, item1, addD_ii, subD_ii, negD_i, absD_i, ltD_ii, leD_ii, gtD_ii, geD_ii, truD_bl, decide_true, decide_false]; rfl)) (by omega) fun p hp => ⟨_, rfl, by
        have v := ko.val p hp
        simp only [wipeD, eV0, eVs, bind_ok', then_ok, q_e2, q_e1, q_eC, q_aC, q_aN, q_sPar2, q_sPar3, q_sSet, q_sRet, q_eBf, q_nBf, q_eCall, q_tst, q_tru, q_ifV, q_sIf, q_eTup, q_sPass, q_sExp, q_eLm, q_nLst, q_frz, q_thaw, q_iSeq, q_iR2, q_iR3, q_iEnumD, q_iZip, q_andX, q_andT, q_orT, q_notT, q_eCh, q_sPat, q_eSl, q_nSl, q_pS, q_pN, q_sRetN, q_tYes, q_eDct0, okL0, okL1, okL2, okL3, okL4, okL5, okL6, ent, List.map_cons, List.map_nil, List.length_cons, List.length_nil, List.set_cons_zero, List.set_cons_succ, List.replicate, List.cons_append, List.nil_append, Nat.reduceAdd, Nat.reduceSub, Nat.sub_self, Nat.sub_zero, zero_add', ↓reduceIte, Bool.false_eq_true, item0, item1, addD_ii, subD_ii, negD_i, absD_i, ltD_ii, leD_ii, gtD_ii, geD_ii, truD_bl, decide_true, decide_false, fr_int, lless_eq (int_s v.1 (by omega)) sx (by decide), notX_b]⟩
    have ap := app_obj (y := flD (o.map fun t => (t, !decide ((t.1 : Rat) < x)))) hg (by rw [List.length_map]; omega)
    have fl : flD (o.map fun t => (t, !decide ((t.1 : Rat) < x))) = .lst (o.map fun p => .bl (!decide ((p.1 : Rat) < x))) := by
      unfold flD
      rw [List.map_map]
      rfl
    rw [fl] at ap
    simp only [List.set_cons_zero, List.set_cons_succ]
    have ev : sExp (eLm appD (eV 7) (aC (frz (nLc (iSeq (eV 8)) (.tp [.nm 12, .nm 13]) [12, 13] (tYes') (e1 notX (eCall 2 m__law_less (aC (eTup (aC (eV 12) (aC (eC (.int 1)) aN))) (aC (eV 9) aN)))))) aN)) [z0, z1, z2, some (dealD os), z4, z5, some (.tup (((ws os).drop 1).map fr)), some (.obj n), some (offD o), some (fr x), z10, z11, z12, z13, z14] g
        = .nx [z0, z1, z2, some (dealD os), z4, z5, some (.tup (((ws os).drop 1).map fr)), some (.obj n), some (offD o), some (fr x), z10, z11, z12, z13, z14] (g.set n (.lst (done.map flD ++ [.lst (o.map fun p => .bl (!decide ((p.1 : Rat) < x)))]))) := by
      simp only [eV0, eVs, bind_ok', then_ok, q_e2, q_e1, q_eC, q_aC, q_aN, q_sPar2, q_sPar3, q_sSet, q_sRet, q_eBf, q_nBf, q_eCall, q_tst, q_tru, q_ifV, q_sIf, q_eTup, q_sPass, q_sExp, q_eLm, q_nLst, q_frz, q_thaw, q_iSeq, q_iR2, q_iR3, q_iEnumD, q_iZip, q_andX, q_andT, q_orT, q_notT, q_eCh, q_sPat, q_eSl, q_nSl, q_pS, q_pN, q_sRetN, q_tYes, q_eDct0, okL0, okL1, okL2, okL3, okL4, okL5, okL6, ent, List.map_cons, List.map_nil, List.length_cons, List.length_nil, List.set_cons_zero, List.set_cons_succ, List.replicate, List.cons_append, List.nil_append, Nat.reduceAdd, Nat.reduceSub, Nat.sub_self, Nat.sub_zero, zero_add', ↓reduceIte, Bool.false_eq_true, item0, item1, addD_ii, subD_ii, negD_i, absD_i, ltD_ii, leD_ii, gtD_ii, geD_ii, truD_bl, decide_true, decide_false, lstAt_obj hg, cm, ap]
    rw [ev, wps_nx]
    refine ⟨⟨⟨_, _, rfl⟩, hand_b.set t' one, ?_⟩, fun q hq => j1 q (List.mem_cons_of_mem _ hq), by rw [List.length_append, List.length_singleton]; omega⟩
    rw [List.getElem?_set_self (List.getElem?_eq_some_iff.mp hg).1, List.map_append, List.map_singleton, fl]
  · rintro ρ g ⟨⟨z8, z9, rfl⟩, t', hg⟩ -
    have fe : ∀ (l : List (Offer × Rat)) (d : List FO), l.foldl (fun done p => done ++ [p.1.map fun t => (t, !decide ((t.1 : Rat) < p.2))]) d = d ++ l.map fun p => p.1.map fun t => (t, !decide ((t.1 : Rat) < p.2)) := by
      intro l
      induction l with
      | nil => intro d; simp
      | cons x l ih => intro d; rw [List.foldl_cons, ih, List.append_assoc]; rfl
    rw [fe, List.nil_append] at hg
    exact ⟨⟨_, _, rfl⟩, t', hg⟩
theorem flags_gather {o : Offer} : ∀ {ds : List D}, (∀ d ∈ ds, ∃ b : Bool, d = .bl b) → ds.length = o.length → ∃ fo : FO, foO fo = o ∧ flD fo = .lst ds := by
  induction o with
  | nil =>
    intro ds _ hl
    have : ds = [] := List.length_eq_zero_iff.mp hl
    subst this
    exact ⟨[], rfl, rfl⟩
  | cons p o ih =>
    intro ds h hl
    cases ds with
    | nil => simp at hl
    | cons d ds =>
      obtain ⟨b, rfl⟩ := h d List.mem_cons_self
      obtain ⟨fo, e1, e2⟩ := ih (fun x hx => h x (List.mem_cons_of_mem _ hx)) (by simpa using hl)
      refine ⟨(p, b) :: fo, ?_, ?_⟩
      · show p :: fo.map (·.1) = p :: o
        rw [show fo.map (·.1) = o from e1]
      · unfold flD at e2 ⊢
        rw [List.map_cons, D.lst.inj e2]
theorem p12_17 {os : List Offer} (k : Dl8 os) {h : Hs} {N : Nat} (t : Hd h N) (hN : N + 400 ≤ 1000000) {z0 z2 z4 z6 z7 z8 z9 z10 z11 z12 z13 z14 : Option D} :
    WpS (k12s1_7 [z0, some (.obj 0), z2, some (dealD os), z4, some (.lst ((ws os).map fr)), z6, z7, z8, z9, z10, z11, z12, z13, z14] h)
      (fun ρ h' => (∃ z7 z8 z10, ρ = [z0, some (.obj 0), z2, some (dealD os), z4, some (.lst ((ws os).map fr)), z6, z7, z8, z9, z10, z11, z12, z13, z14]) ∧ Hd h' (N + 240)) fun _ _ => False := by
  unfold k12s1_7
  have l8 := k.l8
  rw [wps_for, iR1_eq (n := 6) (h' := h) (by simp only [eV0, eVs, bind_ok', then_ok, q_e2, q_e1, q_eC, q_aC, q_aN, q_sPar2, q_sPar3, q_sSet, q_sRet, q_eBf, q_nBf, q_eCall, q_tst, q_tru, q_ifV, q_sIf, q_eTup, q_sPass, q_sExp, q_eLm, q_nLst, q_frz, q_thaw, q_iSeq, q_iR2, q_iR3, q_iEnumD, q_iZip, q_andX, q_andT, q_orT, q_notT, q_eCh, q_sPat, q_eSl, q_nSl, q_pS, q_pN, q_sRetN, q_tYes, q_eDct0, okL0, okL1, okL2, okL3, okL4, okL5, okL6, ent, List.map_cons, List.map_nil, List.length_cons, List.length_nil, List.set_cons_zero, List.set_cons_succ, List.replicate, List.cons_append, List.nil_append, Nat.reduceAdd, Nat.reduceSub, Nat.sub_self, Nat.sub_zero, zero_add', ↓reduceIte, Bool.false_eq_true, item0, item1, addD_ii, subD_ii, negD_i, absD_i, ltD_ii, leD_ii, gtD_ii, geD_ii, truD_bl, decide_true, decide_false]; rfl) (by decide), wp_ok]
  refine wps_loop (fun j ρ h' => Hd h' (N + 40 * j) ∧ ∃ z7 z8 z10, ρ = [z0, some (.obj 0), z2, some (dealD os), z4, some (.lst ((ws os).map fr)), z6, z7, z8, z9, z10, z11, z12, z13, z14]) _ 0 _ _ ?_ ?_ ⟨t, _, _, _, rfl⟩
  · rintro j x ρ h1 hx ⟨t1, z7, z8, z10, rfl⟩
    rw [Nat.zero_add] at t1 ⊢
    have hj := (List.getElem?_eq_some_iff.mp hx).1
    rw [rng_len] at hj
    refine ⟨rfl, _, rfl, ?_⟩
    have s7 : sSet 7 (thaw (nLst aN)) [z0, some (.obj 0), z2, some (dealD os), z4, some (.lst ((ws os).map fr)), z6, z7, z8, z9, some x, z11, z12, z13, z14] h1 = .nx [z0, some (.obj 0), z2, some (dealD os), z4, some (.lst ((ws os).map fr)), z6, some (.obj h1.length), z8, z9, some x, z11, z12, z13, z14] (h1 ++ [.lst []]) := by
      simp only [eV0, eVs, bind_ok', then_ok, q_e2, q_e1, q_eC, q_aC, q_aN, q_sPar2, q_sPar3, q_sSet, q_sRet, q_eBf, q_nBf, q_eCall, q_tst, q_tru, q_ifV, q_sIf, q_eTup, q_sPass, q_sExp, q_eLm, q_nLst, q_frz, q_thaw, q_iSeq, q_iR2, q_iR3, q_iEnumD, q_iZip, q_andX, q_andT, q_orT, q_notT, q_eCh, q_sPat, q_eSl, q_nSl, q_pS, q_pN, q_sRetN, q_tYes, q_eDct0, okL0, okL1, okL2, okL3, okL4, okL5, okL6, ent, List.map_cons, List.map_nil, List.length_cons, List.length_nil, List.set_cons_zero, List.set_cons_succ, List.replicate, List.cons_append, List.nil_append, Nat.reduceAdd, Nat.reduceSub, Nat.sub_self, Nat.sub_zero, zero_add', ↓reduceIte, Bool.false_eq_true, item0, item1, addD_ii, subD_ii, negD_i, absD_i, ltD_ii, leD_ii, gtD_ii, geD_ii, truD_bl, decide_true, decide_false]
    simp only [List.set_cons_zero, List.set_cons_succ]
    rw [wps_seq, s7, wps_nx, wps_seq]
    have one : 1 ≤ h1.length := hand_b.len t1
    have t2 := hand_b.app (l := [.lst []]) t1
    have f2 : (h1 ++ [DO.lst []])[h1.length]? = some (.lst []) := get_last
    generalize h1.length = n at one f2 ⊢
    generalize h1 ++ [DO.lst []] = h2 at t2 f2 ⊢
    rw [wps_for, seq_tup (xs := os.map offD) (h := h2) (by simp only [eV0, eVs, bind_ok', then_ok, q_e2, q_e1, q_eC, q_aC, q_aN, q_sPar2, q_sPar3, q_sSet, q_sRet, q_eBf, q_nBf, q_eCall, q_tst, q_tru, q_ifV, q_sIf, q_eTup, q_sPass, q_sExp, q_eLm, q_nLst, q_frz, q_thaw, q_iSeq, q_iR2, q_iR3, q_iEnumD, q_iZip, q_andX, q_andT, q_orT, q_notT, q_eCh, q_sPat, q_eSl, q_nSl, q_pS, q_pN, q_sRetN, q_tYes, q_eDct0, okL0, okL1, okL2, okL3, okL4, okL5, okL6, ent, List.map_cons, List.map_nil, List.length_cons, List.length_nil, List.set_cons_zero, List.set_cons_succ, List.replicate, List.cons_append, List.nil_append, Nat.reduceAdd, Nat.reduceSub, Nat.sub_self, Nat.sub_zero, zero_add', ↓reduceIte, Bool.false_eq_true, item0, item1, addD_ii, subD_ii, negD_i, absD_i, ltD_ii, leD_ii, gtD_ii, geD_ii, truD_bl, decide_true, decide_false]; rfl), wp_ok]
    refine wps_loop (fun i ρ h' => Hd h' (N + 40 * j + 5 * i) ∧ ∃ z8, ρ = [z0, some (.obj 0), z2, some (dealD os), z4, some (.lst ((ws os).map fr)), z6, some (.obj n), z8, z9, some x, z11, z12, z13, z14] ∧ ∃ fos : List FO, fos.map foO = os.take i ∧ h'[n]? = some (.lst (fos.map flD))) _ 0 _ _ ?_ ?_ ⟨t2, _, rfl, [], rfl, f2⟩
    · rintro i y ρ h3 hy ⟨t3, z8, rfl, fos, e1, e2⟩
      rw [Nat.zero_add] at t3 e1 ⊢
      obtain ⟨o, ho, rfl⟩ : ∃ o, os[i]? = some o ∧ offD o = y := by
        rw [List.getElem?_map] at hy
        exact Option.map_eq_some_iff.mp hy
      have hi := (List.getElem?_eq_some_iff.mp ho).1
      have ko := k.ofr o (List.mem_of_getElem? ho)
      have l5 := ko.l5
      have lf : fos.length ≤ 8 := by
        have z := congrArg List.length e1
        rw [List.length_map, List.length_take] at z
        omega
      refine ⟨rfl, _, rfl, ?_⟩
      simp only [List.set_cons_zero, List.set_cons_succ]
      rw [q_sExp, wps_then, q_eLm, wp_bind]
      simp only [eV0, eVs, wp_ok, lstAt_obj e2, q_aC, q_aN, q_frz, wp_bind]
      rw [nLc_eq, wp_bind, seq_tup (xs := o.map pairD) (h := h3) (by simp only [eV0, eVs, bind_ok', then_ok, q_e2, q_e1, q_eC, q_aC, q_aN, q_sPar2, q_sPar3, q_sSet, q_sRet, q_eBf, q_nBf, q_eCall, q_tst, q_tru, q_ifV, q_sIf, q_eTup, q_sPass, q_sExp, q_eLm, q_nLst, q_frz, q_thaw, q_iSeq, q_iR2, q_iR3, q_iEnumD, q_iZip, q_andX, q_andT, q_orT, q_notT, q_eCh, q_sPat, q_eSl, q_nSl, q_pS, q_pN, q_sRetN, q_tYes, q_eDct0, okL0, okL1, okL2, okL3, okL4, okL5, okL6, ent, List.map_cons, List.map_nil, List.length_cons, List.length_nil, List.set_cons_zero, List.set_cons_succ, List.replicate, List.cons_append, List.nil_append, Nat.reduceAdd, Nat.reduceSub, Nat.sub_self, Nat.sub_zero, zero_add', ↓reduceIte, Bool.false_eq_true, item0, item1, addD_ii, subD_ii, negD_i, absD_i, ltD_ii, leD_ii, gtD_ii, geD_ii, truD_bl, decide_true, decide_false]; rfl), wp_ok]
      show Wp (if okLen (o.map pairD).length = true then _ else _) _
      rw [if_pos (okLen_of (by rw [List.length_map]; omega))]
      refine hand_b.comp (c := 1) (fun d => ∃ b : Bool, d = .bl b) t3 (fun m x' h' hx' t' g' => ?_) fun ds h4 hl hp t4 g4 => ?_
      · have hm := (List.getElem?_eq_some_iff.mp hx').1
        rw [List.length_map] at hm
        refine ⟨_, rfl, ?_⟩
        simp only [wipeD, eV0, eVs, bind_ok', then_ok, q_e2, q_e1, q_eC, q_aC, q_aN, q_sPar2, q_sPar3, q_sSet, q_sRet, q_eBf, q_nBf, q_eCall, q_tst, q_tru, q_ifV, q_sIf, q_eTup, q_sPass, q_sExp, q_eLm, q_nLst, q_frz, q_thaw, q_iSeq, q_iR2, q_iR3, q_iEnumD, q_iZip, q_andX, q_andT, q_orT, q_notT, q_eCh, q_sPat, q_eSl, q_nSl, q_pS, q_pN, q_sRetN, q_tYes, q_eDct0, okL0, okL1, okL2, okL3, okL4, okL5, okL6, ent, List.map_cons, List.map_nil, List.length_cons, List.length_nil, List.set_cons_zero, List.set_cons_succ, List.replicate, List.cons_append, List.nil_append, Nat.reduceAdd, Nat.reduceSub, Nat.sub_self, Nat.sub_zero, zero_add', ↓reduceIte, Bool.false_eq_true, item0, item1, addD_ii, subD_ii, negD_i, absD_i, ltD_ii, leD_ii, gtD_ii, geD_ii, truD_bl, decide_true, decide_false, wp_ok, wp_bad, wp_bind, wp_nox, wp_def, wps_then, wps_seq, wps_nx, wps_ret, wp_ite, wps_ite]
        refine hand_b.draw t' (sides := 2) (by decide) (by decide) (by omega) fun d h5 d0 d1 t5 g5 => ?_
        simp only [eqD_ii, wp_ok]
        exact ⟨⟨_, rfl⟩, hand_b.mono t5 (by omega), g5⟩
      · rw [List.length_map] at hl t4
        obtain ⟨fo, q1, q2⟩ := flags_gather (o := o) hp hl
        have f4 : h4[n]? = some (.lst (fos.map flD)) := g4.at one e2
        have ap := app_obj (y := flD fo) f4 (by rw [List.length_map]; omega)
        rw [q2] at ap
        simp only [wp_ok, ap, wps_nx]
        refine ⟨hand_b.mono (hand_b.set t4 one) (by omega), _, rfl, fos ++ [fo], ?_, ?_⟩
        · rw [List.map_append, e1, List.map_singleton, q1, List.take_succ, ho]
          rfl
        · rw [List.getElem?_set_self (List.getElem?_eq_some_iff.mp f4).1, List.map_append, List.map_singleton, q2]
    · rintro ρ h3 ⟨t3, z8, rfl, fos, e1, e2⟩
      rw [Nat.zero_add, List.length_map] at e1 t3
      rw [List.take_length] at e1
      refine ⟨rfl, ?_⟩
      subst e1
      have kf : ∀ fo ∈ fos, Ofr (foO fo) := fun fo hf => k.ofr _ (List.mem_map.mpr ⟨fo, hf, rfl⟩)
      rw [List.length_map] at l8 t3
      have br := by_rule_eq kf l8 e2
      have le := rl_le kf
      obtain ⟨tl, et⟩ := ws_cons (fos.map foO)
      have i0 : itemD (.lst ((ws (fos.map foO)).map fr)) (.int 0) h3 = .ok (fr (w (fos.map foO))) h3 := item_lst (i := 0) (by rw [et]; rfl)
      have s1 : Sz 2000 (w (fos.map foO)) := (w_bq k.ofr).s (De_pos _) (p500 (De_500 k.ofr k.l8)) (by decide)
      have s2 : Sz 2000 (rl fos) := (rl_bq kf).s (De_pos _) (p500 (De_500 k.ofr k.l8)) (by decide)
      have nl := lless_eq s1 s2 (by decide) h3
      rw [decide_eq_false (Rat.not_lt.mpr le)] at nl
      simp only [eV0, eVs, bind_ok', then_ok, q_e2, q_e1, q_eC, q_aC, q_aN, q_sPar2, q_sPar3, q_sSet, q_sRet, q_eBf, q_nBf, q_eCall, q_tst, q_tru, q_ifV, q_sIf, q_eTup, q_sPass, q_sExp, q_eLm, q_nLst, q_frz, q_thaw, q_iSeq, q_iR2, q_iR3, q_iEnumD, q_iZip, q_andX, q_andT, q_orT, q_notT, q_eCh, q_sPat, q_eSl, q_nSl, q_pS, q_pN, q_sRetN, q_tYes, q_eDct0, okL0, okL1, okL2, okL3, okL4, okL5, okL6, ent, List.map_cons, List.map_nil, List.length_cons, List.length_nil, List.set_cons_zero, List.set_cons_succ, List.replicate, List.cons_append, List.nil_append, Nat.reduceAdd, Nat.reduceSub, Nat.sub_self, Nat.sub_zero, zero_add', ↓reduceIte, Bool.false_eq_true, item0, item1, addD_ii, subD_ii, negD_i, absD_i, ltD_ii, leD_ii, gtD_ii, geD_ii, truD_bl, decide_true, decide_false, wp_ok, wp_bad, wp_bind, wp_nox, wp_def, wps_then, wps_seq, wps_nx, wps_ret, wp_ite, wps_ite, i0, br, nl, truD_bl, sPass]
      exact ⟨hand_b.mono t3 (by omega), _, _, _, rfl⟩
  · rintro ρ h1 ⟨t1, z7, z8, z10, rfl⟩
    rw [Nat.zero_add, rng_len] at t1
    exact ⟨rfl, ⟨_, _, _, rfl⟩, t1⟩
def coin12 : Offer := [(0, 1 / 2), (4, 1 / 2)]
theorem coin12_ok : Ofr coin12 := ⟨by decide, by decide, by decide +kernel, by decide +kernel, by decide +kernel, by decide +kernel, by decide +kernel⟩
theorem coins12_ok : Dl8 [coin12, coin12] := ⟨by decide, by decide, fun o ho => by
  rcases List.mem_cons.mp ho with e | e
  · rw [e]; exact coin12_ok
  · rw [List.mem_singleton.mp e]; exact coin12_ok⟩
theorem coin12_D : D.tup [.tup [.int 0, .tup [.int 1, .int 2]], .tup [.int 4, .tup [.int 1, .int 2]]] = offD coin12 := by decide +kernel
theorem law_k12 (ns : List Int) (hl : ns.length ≤ 63) (hb : ∀ z ∈ ns, PySem.Builtin.Int.intBits z ≤ 1048576) : ∃ h', m_law_k12 [.scr ns] [] = .ok (.bl true) h' := by
  suffices wq : Wp (m_law_k12 [.scr ns] []) fun d _ => d = .bl true by
    obtain ⟨d, h', e, rfl⟩ := wp_ex wq
    exact ⟨h', e⟩
  unfold m_law_k12
  rw [k12_code]
  have en : ent 15 [D.scr ns] = [some (.scr ns), none, none, none, none, none, none, none, none, none, none, none, none, none, none] := rfl
  rw [wp_def, en, wps_seq]
  simp only [q_sSet, q_eCall, q_aC, q_aN, eV0, bind_ok', wps_then, List.length_cons, List.length_nil, Nat.reduceAdd, decide_true, ↓reduceIte]
  refine hand_spec2 hl hb fun h t one => ?_
  simp only [wps_nx, List.set_cons_zero, List.set_cons_succ]
  rw [wps_seq, wps_for, iR1_eq (n := 3) (h' := h) (by simp only [eV0, eVs, bind_ok', then_ok, q_e2, q_e1, q_eC, q_aC, q_aN, q_sPar2, q_sPar3, q_sSet, q_sRet, q_eBf, q_nBf, q_eCall, q_tst, q_tru, q_ifV, q_sIf, q_eTup, q_sPass, q_sExp, q_eLm, q_nLst, q_frz, q_thaw, q_iSeq, q_iR2, q_iR3, q_iEnumD, q_iZip, q_andX, q_andT, q_orT, q_notT, q_eCh, q_sPat, q_eSl, q_nSl, q_pS, q_pN, q_sRetN, q_tYes, q_eDct0, okL0, okL1, okL2, okL3, okL4, okL5, okL6, ent, List.map_cons, List.map_nil, List.length_cons, List.length_nil, List.set_cons_zero, List.set_cons_succ, List.replicate, List.cons_append, List.nil_append, Nat.reduceAdd, Nat.reduceSub, Nat.sub_self, Nat.sub_zero, zero_add', ↓reduceIte, Bool.false_eq_true, item0, item1, addD_ii, subD_ii, negD_i, absD_i, ltD_ii, leD_ii, gtD_ii, geD_ii, truD_bl, decide_true, decide_false]; rfl) (by decide), wp_ok]
  refine wps_loop (fun j ρ h' => Hd h' (1000 * j) ∧ ∃ a2 a3 a4 a5 a6 a7 a8 a9 a10 a11 a12 a13 a14, ρ = [some (.scr ns), some (.obj 0), a2, a3, a4, a5, a6, a7, a8, a9, a10, a11, a12, a13, a14]) _ 0 _ _ ?_ ?_ ⟨t, _, _, _, _, _, _, _, _, _, _, _, _, _, rfl⟩
  · rintro j x ρ h1 hx ⟨t1, a2, a3, a4, a5, a6, a7, a8, a9, a10, a11, a12, a13, a14, rfl⟩
    rw [Nat.zero_add] at t1 ⊢
    have hj := (List.getElem?_eq_some_iff.mp hx).1
    rw [rng_len] at hj
    refine ⟨rfl, [some (.scr ns), some (.obj 0), some x, a3, a4, a5, a6, a7, a8, a9, a10, a11, a12, a13, a14], rfl, ?_⟩
    rw [wps_seq, q_sSet, wps_then]
    simp only [eV0, eVs, bind_ok', then_ok, q_e2, q_e1, q_eC, q_aC, q_aN, q_sPar2, q_sPar3, q_sSet, q_sRet, q_eBf, q_nBf, q_eCall, q_tst, q_tru, q_ifV, q_sIf, q_eTup, q_sPass, q_sExp, q_eLm, q_nLst, q_frz, q_thaw, q_iSeq, q_iR2, q_iR3, q_iEnumD, q_iZip, q_andX, q_andT, q_orT, q_notT, q_eCh, q_sPat, q_eSl, q_nSl, q_pS, q_pN, q_sRetN, q_tYes, q_eDct0, okL0, okL1, okL2, okL3, okL4, okL5, okL6, ent, List.map_cons, List.map_nil, List.length_cons, List.length_nil, List.set_cons_zero, List.set_cons_succ, List.replicate, List.cons_append, List.nil_append, Nat.reduceAdd, Nat.reduceSub, Nat.sub_self, Nat.sub_zero, zero_add', ↓reduceIte, Bool.false_eq_true, item0, item1, addD_ii, subD_ii, negD_i, absD_i, ltD_ii, leD_ii, gtD_ii, geD_ii, truD_bl, decide_true, decide_false, wp_ok, wp_bad, wp_bind, wp_nox, wp_def, wps_then, wps_seq, wps_nx, wps_ret, wp_ite, wps_ite]
    refine deal_spec t1 (by decide) (by decide) (by decide) (by decide) (by omega) fun os h2 k lm t2 g2 => ?_
    have l8 := k.l8
    have mk := makeD_eq (ca := aC (eV 3) aN) (ρ := [some (.scr ns), some (.obj 0), some x, some (dealD os), a4, a5, a6, a7, a8, a9, a10, a11, a12, a13, a14]) (h0 := h2) (h := h2) k (by simp only [eV0, eVs, bind_ok', then_ok, q_e2, q_e1, q_eC, q_aC, q_aN, q_sPar2, q_sPar3, q_sSet, q_sRet, q_eBf, q_nBf, q_eCall, q_tst, q_tru, q_ifV, q_sIf, q_eTup, q_sPass, q_sExp, q_eLm, q_nLst, q_frz, q_thaw, q_iSeq, q_iR2, q_iR3, q_iEnumD, q_iZip, q_andX, q_andT, q_orT, q_notT, q_eCh, q_sPat, q_eSl, q_nSl, q_pS, q_pN, q_sRetN, q_tYes, q_eDct0, okL0, okL1, okL2, okL3, okL4, okL5, okL6, ent, List.map_cons, List.map_nil, List.length_cons, List.length_nil, List.set_cons_zero, List.set_cons_succ, List.replicate, List.cons_append, List.nil_append, Nat.reduceAdd, Nat.reduceSub, Nat.sub_self, Nat.sub_zero, zero_add', ↓reduceIte, Bool.false_eq_true, item0, item1, addD_ii, subD_ii, negD_i, absD_i, ltD_ii, leD_ii, gtD_ii, geD_ii, truD_bl, decide_true, decide_false])
    rw [mk, wp_ok]
    simp only [hopes_eq k.ofr k.l8, eV0, eVs, bind_ok', then_ok, q_e2, q_e1, q_eC, q_aC, q_aN, q_sPar2, q_sPar3, q_sSet, q_sRet, q_eBf, q_nBf, q_eCall, q_tst, q_tru, q_ifV, q_sIf, q_eTup, q_sPass, q_sExp, q_eLm, q_nLst, q_frz, q_thaw, q_iSeq, q_iR2, q_iR3, q_iEnumD, q_iZip, q_andX, q_andT, q_orT, q_notT, q_eCh, q_sPat, q_eSl, q_nSl, q_pS, q_pN, q_sRetN, q_tYes, q_eDct0, okL0, okL1, okL2, okL3, okL4, okL5, okL6, ent, List.map_cons, List.map_nil, List.length_cons, List.length_nil, List.set_cons_zero, List.set_cons_succ, List.replicate, List.cons_append, List.nil_append, Nat.reduceAdd, Nat.reduceSub, Nat.sub_self, Nat.sub_zero, zero_add', ↓reduceIte, Bool.false_eq_true, item0, item1, addD_ii, subD_ii, negD_i, absD_i, ltD_ii, leD_ii, gtD_ii, geD_ii, truD_bl, decide_true, decide_false, wp_ok, wp_bad, wp_bind, wp_nox, wp_def, wps_then, wps_seq, wps_nx, wps_ret, wp_ite, wps_ite]
    have da := newD_at (h := h2) (os := os)
    have t3 : Hd (newD h2 os) (1000 * j + 300) := hand_b.app t2
    have one2 : 1 ≤ h2.length := t2.one
    generalize newD h2 os = h3 at da t3 ⊢
    generalize h2.length = n at da one2 ⊢
    refine wp_u (floors_eq k da) fun h4 g4 => ?_
    have sl : sliceD (.lst ((ws os).map fr)) (some 1) none h4 = .ok (.lst (((ws os).drop 1).map fr)) h4 := by
      show Dl.R.ok (D.lst (cutL ((ws os).map fr) (some ((1 : Nat) : Int)) none)) h4 = _
      rw [cutL_from, List.map_drop]
    have lw : ∀ g : Hs, m__law_is [.tup (((ws os).drop 1).map fr), .tup (((ws os).drop 1).map fr)] g = .ok (.bl true) g := fun g => is_refl (n := 2) (.tup (by rw [List.length_map, List.length_drop, ws_len]; omega) fun y hy => by
      obtain ⟨q, _, rfl⟩ := List.mem_map.mp hy
      exact lw_fr q) (by decide)
    simp only [sl, tupD_lst, lw, truD_bl, Bool.not_true, eV0, eVs, bind_ok', then_ok, q_e2, q_e1, q_eC, q_aC, q_aN, q_sPar2, q_sPar3, q_sSet, q_sRet, q_eBf, q_nBf, q_eCall, q_tst, q_tru, q_ifV, q_sIf, q_eTup, q_sPass, q_sExp, q_eLm, q_nLst, q_frz, q_thaw, q_iSeq, q_iR2, q_iR3, q_iEnumD, q_iZip, q_andX, q_andT, q_orT, q_notT, q_eCh, q_sPat, q_eSl, q_nSl, q_pS, q_pN, q_sRetN, q_tYes, q_eDct0, okL0, okL1, okL2, okL3, okL4, okL5, okL6, ent, List.map_cons, List.map_nil, List.length_cons, List.length_nil, List.set_cons_zero, List.set_cons_succ, List.replicate, List.cons_append, List.nil_append, Nat.reduceAdd, Nat.reduceSub, Nat.sub_self, Nat.sub_zero, zero_add', ↓reduceIte, Bool.false_eq_true, item0, item1, addD_ii, subD_ii, negD_i, absD_i, ltD_ii, leD_ii, gtD_ii, geD_ii, truD_bl, decide_true, decide_false, wp_ok, wp_bad, wp_bind, wp_nox, wp_def, wps_then, wps_seq, wps_nx, wps_ret, wp_ite, wps_ite]
    refine wp_u (worth_eq k (da.g0 g4)) fun h5 g5 => ?_
    obtain ⟨tl, et⟩ := ws_cons os
    have i0 : ∀ g : Hs, itemD (.lst ((ws os).map fr)) (.int 0) g = .ok (fr (w os)) g := fun g => item_lst (i := 0) (by rw [et]; rfl)
    simp only [i0, is_fr, truD_bl, Bool.not_true, sPass, eV0, eVs, bind_ok', then_ok, q_e2, q_e1, q_eC, q_aC, q_aN, q_sPar2, q_sPar3, q_sSet, q_sRet, q_eBf, q_nBf, q_eCall, q_tst, q_tru, q_ifV, q_sIf, q_eTup, q_sPass, q_sExp, q_eLm, q_nLst, q_frz, q_thaw, q_iSeq, q_iR2, q_iR3, q_iEnumD, q_iZip, q_andX, q_andT, q_orT, q_notT, q_eCh, q_sPat, q_eSl, q_nSl, q_pS, q_pN, q_sRetN, q_tYes, q_eDct0, okL0, okL1, okL2, okL3, okL4, okL5, okL6, ent, List.map_cons, List.map_nil, List.length_cons, List.length_nil, List.set_cons_zero, List.set_cons_succ, List.replicate, List.cons_append, List.nil_append, Nat.reduceAdd, Nat.reduceSub, Nat.sub_self, Nat.sub_zero, zero_add', ↓reduceIte, Bool.false_eq_true, item0, item1, addD_ii, subD_ii, negD_i, absD_i, ltD_ii, leD_ii, gtD_ii, geD_ii, truD_bl, decide_true, decide_false, wp_ok, wp_bad, wp_bind, wp_nox, wp_def, wps_then, wps_seq, wps_nx, wps_ret, wp_ite, wps_ite]
    have t5 : Hd h5 (1000 * j + 300) := (t3.gb0 g4).gb0 g5
    have t6 := hand_b.app (l := [.lst []]) t5
    have one5 : 1 ≤ h5.length := hand_b.len t5
    have f6 : (h5 ++ [DO.lst []])[h5.length]? = some (.lst []) := get_last
    generalize h5.length = m at one5 f6 ⊢
    generalize h5 ++ [DO.lst []] = h6 at t6 f6 ⊢
    refine wps_mono (p12_15 k one5 t6 f6) ?_ fun _ _ z => z.elim
    rintro ρ h7 ⟨⟨z8, z9, rfl⟩, t7, f7⟩
    have kf : ∀ fo ∈ bestF os, Ofr (foO fo) := fun fo hf => k.ofr _ (by
      have z : foO fo ∈ (bestF os).map foO := List.mem_map.mpr ⟨fo, hf, rfl⟩
      rwa [bestF_os] at z)
    have br := by_rule_eq kf (by
      have z := congrArg List.length (bestF_os os)
      rw [List.length_map] at z
      omega) f7
    rw [bestF_os, rl_bestF] at br
    have nn : neD (fr (w os)) (fr (w os)) h7 = .ok (.bl false) h7 := by
      rw [ne_fr12, decide_eq_true rfl]
      rfl
    simp only [eV0, eVs, bind_ok', then_ok, q_e2, q_e1, q_eC, q_aC, q_aN, q_sPar2, q_sPar3, q_sSet, q_sRet, q_eBf, q_nBf, q_eCall, q_tst, q_tru, q_ifV, q_sIf, q_eTup, q_sPass, q_sExp, q_eLm, q_nLst, q_frz, q_thaw, q_iSeq, q_iR2, q_iR3, q_iEnumD, q_iZip, q_andX, q_andT, q_orT, q_notT, q_eCh, q_sPat, q_eSl, q_nSl, q_pS, q_pN, q_sRetN, q_tYes, q_eDct0, okL0, okL1, okL2, okL3, okL4, okL5, okL6, ent, List.map_cons, List.map_nil, List.length_cons, List.length_nil, List.set_cons_zero, List.set_cons_succ, List.replicate, List.cons_append, List.nil_append, Nat.reduceAdd, Nat.reduceSub, Nat.sub_self, Nat.sub_zero, zero_add', ↓reduceIte, Bool.false_eq_true, item0, item1, addD_ii, subD_ii, negD_i, absD_i, ltD_ii, leD_ii, gtD_ii, geD_ii, truD_bl, decide_true, decide_false, wp_ok, wp_bad, wp_bind, wp_nox, wp_def, wps_then, wps_seq, wps_nx, wps_ret, wp_ite, wps_ite, br, i0, nn, sPass]
    refine wps_mono (p12_17 k t7 (by omega)) ?_ fun _ _ z => z.elim
    rintro ρ h8 ⟨⟨z7, z8, z10, rfl⟩, t8⟩
    exact ⟨hand_b.mono t8 (by omega), _, _, _, _, _, _, _, _, _, _, _, _, _, rfl⟩
  · rintro ρ h1 ⟨t1, a2, a3, a4, a5, a6, a7, a8, a9, a10, a11, a12, a13, a14, rfl⟩
    refine ⟨rfl, ?_⟩
    rw [wps_seq]
    have mk1 := makeD_eq (os := [coin12, coin12]) (ca := aC (eTup (aC (eV 11) (aC (eV 11) aN))) aN) (ρ := [some (.scr ns), some (.obj 0), a2, a3, a4, a5, a6, a7, a8, a9, a10, some (offD coin12), a12, a13, a14]) (h0 := h1) (h := h1) coins12_ok (by simp only [eV0, eVs, bind_ok', then_ok, q_e2, q_e1, q_eC, q_aC, q_aN, q_sPar2, q_sPar3, q_sSet, q_sRet, q_eBf, q_nBf, q_eCall, q_tst, q_tru, q_ifV, q_sIf, q_eTup, q_sPass, q_sExp, q_eLm, q_nLst, q_frz, q_thaw, q_iSeq, q_iR2, q_iR3, q_iEnumD, q_iZip, q_andX, q_andT, q_orT, q_notT, q_eCh, q_sPat, q_eSl, q_nSl, q_pS, q_pN, q_sRetN, q_tYes, q_eDct0, okL0, okL1, okL2, okL3, okL4, okL5, okL6, ent, List.map_cons, List.map_nil, List.length_cons, List.length_nil, List.set_cons_zero, List.set_cons_succ, List.replicate, List.cons_append, List.nil_append, Nat.reduceAdd, Nat.reduceSub, Nat.sub_self, Nat.sub_zero, zero_add', ↓reduceIte, Bool.false_eq_true, item0, item1, addD_ii, subD_ii, negD_i, absD_i, ltD_ii, leD_ii, gtD_ii, geD_ii, truD_bl, decide_true, decide_false]; rfl)
    obtain ⟨u, eb⟩ := floors_eq coins12_ok (newD_at (h := h1) (os := [coin12, coin12]))
    have e1 : D.tup (((ws [coin12, coin12]).drop 1).map fr) = .tup [.tup [.int 2, .int 1], .tup [.int 0, .int 1]] := by decide +kernel
    rw [e1] at eb
    have q1 : eqD (.tup [.tup [.int 2, .int 1], .tup [.int 0, .int 1]]) (.tup [.tup [.int 2, .int 1], .tup [.int 0, .int 1]]) (newD h1 [coin12, coin12] ++ [u]) = .ok (.bl true) (newD h1 [coin12, coin12] ++ [u]) := by rfl
    have mk2 := makeD_eq (os := [coin12, coin12]) (ca := aC (eTup (aC (eV 11) (aC (eV 11) aN))) aN) (ρ := [some (.scr ns), some (.obj 0), a2, a3, a4, a5, a6, a7, a8, a9, a10, some (offD coin12), a12, a13, a14]) (h0 := newD h1 [coin12, coin12] ++ [u]) (h := newD h1 [coin12, coin12] ++ [u]) coins12_ok (by simp only [eV0, eVs, bind_ok', then_ok, q_e2, q_e1, q_eC, q_aC, q_aN, q_sPar2, q_sPar3, q_sSet, q_sRet, q_eBf, q_nBf, q_eCall, q_tst, q_tru, q_ifV, q_sIf, q_eTup, q_sPass, q_sExp, q_eLm, q_nLst, q_frz, q_thaw, q_iSeq, q_iR2, q_iR3, q_iEnumD, q_iZip, q_andX, q_andT, q_orT, q_notT, q_eCh, q_sPat, q_eSl, q_nSl, q_pS, q_pN, q_sRetN, q_tYes, q_eDct0, okL0, okL1, okL2, okL3, okL4, okL5, okL6, ent, List.map_cons, List.map_nil, List.length_cons, List.length_nil, List.set_cons_zero, List.set_cons_succ, List.replicate, List.cons_append, List.nil_append, Nat.reduceAdd, Nat.reduceSub, Nat.sub_self, Nat.sub_zero, zero_add', ↓reduceIte, Bool.false_eq_true, item0, item1, addD_ii, subD_ii, negD_i, absD_i, ltD_ii, leD_ii, gtD_ii, geD_ii, truD_bl, decide_true, decide_false]; rfl)
    obtain ⟨u2, ew⟩ := worth_eq coins12_ok (newD_at (h := newD h1 [coin12, coin12] ++ [u]) (os := [coin12, coin12]))
    have e2 : fr (w [coin12, coin12]) = .tup [.int 3, .int 1] := by decide +kernel
    rw [e2] at ew
    have q2 : ∀ g : Hs, eqD (.tup [.int 3, .int 1]) (.tup [.int 3, .int 1]) g = .ok (.bl true) g := fun g => by rfl
    simp only [eV0, eVs, bind_ok', then_ok, q_e2, q_e1, q_eC, q_aC, q_aN, q_sPar2, q_sPar3, q_sSet, q_sRet, q_eBf, q_nBf, q_eCall, q_tst, q_tru, q_ifV, q_sIf, q_eTup, q_sPass, q_sExp, q_eLm, q_nLst, q_frz, q_thaw, q_iSeq, q_iR2, q_iR3, q_iEnumD, q_iZip, q_andX, q_andT, q_orT, q_notT, q_eCh, q_sPat, q_eSl, q_nSl, q_pS, q_pN, q_sRetN, q_tYes, q_eDct0, okL0, okL1, okL2, okL3, okL4, okL5, okL6, ent, List.map_cons, List.map_nil, List.length_cons, List.length_nil, List.set_cons_zero, List.set_cons_succ, List.replicate, List.cons_append, List.nil_append, Nat.reduceAdd, Nat.reduceSub, Nat.sub_self, Nat.sub_zero, zero_add', ↓reduceIte, Bool.false_eq_true, item0, item1, addD_ii, subD_ii, negD_i, absD_i, ltD_ii, leD_ii, gtD_ii, geD_ii, truD_bl, decide_true, decide_false, wp_ok, wp_bad, wp_bind, wp_nox, wp_def, wps_then, wps_seq, wps_nx, wps_ret, wp_ite, wps_ite, coin12_D, mk1, eb, q1, mk2, ew, q2, truD_bl]
end Pl

namespace Law_k12
open PySem PySem.Spec PyProof.Rows L2 Dl Sh
def own : List (Tg × Tg × Bool) := []
/-! ### the module -/
def top (i : Nat) : Stmt := PySem.Challenge.pw_openorstop_k12_whole_floors_and_worth_by.main.body.getD i (.Pass ⟨0, 0, 0, 0⟩)
local instance : Tb := ⟨fun _ => []⟩
structure Md (K : PySem.W.Frag) (mg : Str → Option Value) : Prop where
  c_Deal : Cls K (He.ga K "Deal")
  b_abs : mg "abs" = none
  b_all : mg "all" = none
  b_bool : mg "bool" = none
  b_dict : mg "dict" = none
  b_enumerate : mg "enumerate" = none
  b_int : mg "int" = none
  b_isinstance : mg "isinstance" = none
  b_len : mg "len" = none
  b_list : mg "list" = none
  b_range : mg "range" = none
  b_set : mg "set" = none
  b_sorted : mg "sorted" = none
  b_sum : mg "sum" = none
  b_tuple : mg "tuple" = none
  b_zip : mg "zip" = none
  g_Deal : mg "Deal" = some (.ref (He.ga K "Deal"))
  g__law_by_rule : mg "_law_by_rule" = some (.ref (He.ga K "_law_by_rule"))
  g__law_deal : mg "_law_deal" = some (.ref (He.ga K "_law_deal"))
  g__law_draw : mg "_law_draw" = some (.ref (He.ga K "_law_draw"))
  g__law_hand : mg "_law_hand" = some (.ref (He.ga K "_law_hand"))
  g__law_hopes : mg "_law_hopes" = some (.ref (He.ga K "_law_hopes"))
  g__law_is : mg "_law_is" = some (.ref (He.ga K "_law_is"))
  g__law_less : mg "_law_less" = some (.ref (He.ga K "_law_less"))
  g__law_low : mg "_law_low" = some (.ref (He.ga K "_law_low"))
  g__law_most : mg "_law_most" = some (.ref (He.ga K "_law_most"))
  g__law_offer : mg "_law_offer" = some (.ref (He.ga K "_law_offer"))
  g__law_prod : mg "_law_prod" = some (.ref (He.ga K "_law_prod"))
  g__law_some : mg "_law_some" = some (.ref (He.ga K "_law_some"))
  g__law_sum : mg "_law_sum" = some (.ref (He.ga K "_law_sum"))
  g_common : mg "common" = some (.ref (He.ga K "common"))
  g_floors : mg "floors" = some (.ref (He.ga K "floors"))
  g_greatest : mg "greatest" = some (.ref (He.ga K "greatest"))
  g_is_fraction : mg "is_fraction" = some (.ref (He.ga K "is_fraction"))
  g_is_integer : mg "is_integer" = some (.ref (He.ga K "is_integer"))
  g_is_less : mg "is_less" = some (.ref (He.ga K "is_less"))
  g_is_offer : mg "is_offer" = some (.ref (He.ga K "is_offer"))
  g_is_share : mg "is_share" = some (.ref (He.ga K "is_share"))
  g_is_tuple : mg "is_tuple" = some (.ref (He.ga K "is_tuple"))
  g_is_value_pair : mg "is_value_pair" = some (.ref (He.ga K "is_value_pair"))
  g_is_within : mg "is_within" = some (.ref (He.ga K "is_within"))
  g_law : mg "law" = some (.ref (He.ga K "law"))
  g_lowest : mg "lowest" = some (.ref (He.ga K "lowest"))
  g_plus : mg "plus" = some (.ref (He.ga K "plus"))
  g_product : mg "product" = some (.ref (He.ga K "product"))
  g_whole_sum : mg "whole_sum" = some (.ref (He.ga K "whole_sum"))
  g_with_floor : mg "with_floor" = some (.ref (He.ga K "with_floor"))
  g_worth : mg "worth" = some (.ref (He.ga K "worth"))
  g_worths : mg "worths" = some (.ref (He.ga K "worths"))
  i_MOST_OFFERS : ∃ t, mg "MOST_OFFERS" = some (.int 8 t)
  i_MOST_PAIRS : ∃ t, mg "MOST_PAIRS" = some (.int 5 t)
  i_MOST_VALUE : ∃ t, mg "MOST_VALUE" = some (.int 1000 t)
  mk_Deal : Mk K (He.ga K "Deal") (He.ma K (He.ga K "Deal") "__init__")
  n_Deal_offers : NoAttr K (He.ga K "Deal") "offers"
  g_NONE : mg "NONE" = some (.ref (He.ga K "NONE"))
  t_NONE : KT K (He.ga K "NONE") ([0, 1].map V.int)
  g_WHOLE : mg "WHOLE" = some (.ref (He.ga K "WHOLE"))
  t_WHOLE : KT K (He.ga K "WHOLE") ([1, 1].map V.int)
  d_Deal___init__ : ∃ fd, FunD K "__init__" "Deal.__init__" (defArgs (inClass (top 25) 0)) (defBody (inClass (top 25) 0)) (defScope (inClass (top 25) 0)) [] [] (He.ma K (He.ga K "Deal") "__init__") fd
  d__law_by_rule : ∃ fd, FunD K "_law_by_rule" "_law_by_rule" (defArgs (top 43)) (defBody (top 43)) (defScope (top 43)) [] [] (He.ga K "_law_by_rule") fd
  d__law_deal : ∃ fd, FunD K "_law_deal" "_law_deal" (defArgs (top 41)) (defBody (top 41)) (defScope (top 41)) [] [] (He.ga K "_law_deal") fd
  d__law_draw : ∃ fd, FunD K "_law_draw" "_law_draw" (defArgs (top 32)) (defBody (top 32)) (defScope (top 32)) [] [] (He.ga K "_law_draw") fd
  d__law_hand : ∃ fd, FunD K "_law_hand" "_law_hand" (defArgs (top 31)) (defBody (top 31)) (defScope (top 31)) [] [] (He.ga K "_law_hand") fd
  d__law_hopes : ∃ fd, FunD K "_law_hopes" "_law_hopes" (defArgs (top 42)) (defBody (top 42)) (defScope (top 42)) [] [] (He.ga K "_law_hopes") fd
  d__law_is : ∃ fd, FunD K "_law_is" "_law_is" (defArgs (top 34)) (defBody (top 34)) (defScope (top 34)) [] [] (He.ga K "_law_is") fd
  d__law_less : ∃ fd, FunD K "_law_less" "_law_less" (defArgs (top 38)) (defBody (top 38)) (defScope (top 38)) [] [] (He.ga K "_law_less") fd
  d__law_low : ∃ fd, FunD K "_law_low" "_law_low" (defArgs (top 35)) (defBody (top 35)) (defScope (top 35)) [] [] (He.ga K "_law_low") fd
  d__law_most : ∃ fd, FunD K "_law_most" "_law_most" (defArgs (top 39)) (defBody (top 39)) (defScope (top 39)) [] [] (He.ga K "_law_most") fd
  d__law_offer : ∃ fd, FunD K "_law_offer" "_law_offer" (defArgs (top 40)) (defBody (top 40)) (defScope (top 40)) [] [] (He.ga K "_law_offer") fd
  d__law_prod : ∃ fd, FunD K "_law_prod" "_law_prod" (defArgs (top 37)) (defBody (top 37)) (defScope (top 37)) [] [] (He.ga K "_law_prod") fd
  d__law_some : ∃ fd, FunD K "_law_some" "_law_some" (defArgs (top 33)) (defBody (top 33)) (defScope (top 33)) [] [] (He.ga K "_law_some") fd
  d__law_sum : ∃ fd, FunD K "_law_sum" "_law_sum" (defArgs (top 36)) (defBody (top 36)) (defScope (top 36)) [] [] (He.ga K "_law_sum") fd
  d_common : ∃ fd, FunD K "common" "common" (defArgs (top 12)) (defBody (top 12)) (defScope (top 12)) [] [] (He.ga K "common") fd
  d_floors : ∃ fd, FunD K "floors" "floors" (defArgs (top 28)) (defBody (top 28)) (defScope (top 28)) [] [] (He.ga K "floors") fd
  d_greatest : ∃ fd, FunD K "greatest" "greatest" (defArgs (top 17)) (defBody (top 17)) (defScope (top 17)) [] [] (He.ga K "greatest") fd
  d_is_fraction : ∃ fd, FunD K "is_fraction" "is_fraction" (defArgs (top 19)) (defBody (top 19)) (defScope (top 19)) [] [] (He.ga K "is_fraction") fd
  d_is_integer : ∃ fd, FunD K "is_integer" "is_integer" (defArgs (top 1)) (defBody (top 1)) (defScope (top 1)) [] [] (He.ga K "is_integer") fd
  d_is_less : ∃ fd, FunD K "is_less" "is_less" (defArgs (top 16)) (defBody (top 16)) (defScope (top 16)) [] [] (He.ga K "is_less") fd
  d_is_offer : ∃ fd, FunD K "is_offer" "is_offer" (defArgs (top 22)) (defBody (top 22)) (defScope (top 22)) [] [] (He.ga K "is_offer") fd
  d_is_share : ∃ fd, FunD K "is_share" "is_share" (defArgs (top 20)) (defBody (top 20)) (defScope (top 20)) [] [] (He.ga K "is_share") fd
  d_is_tuple : ∃ fd, FunD K "is_tuple" "is_tuple" (defArgs (top 3)) (defBody (top 3)) (defScope (top 3)) [] [] (He.ga K "is_tuple") fd
  d_is_value_pair : ∃ fd, FunD K "is_value_pair" "is_value_pair" (defArgs (top 21)) (defBody (top 21)) (defScope (top 21)) [] [] (He.ga K "is_value_pair") fd
  d_is_within : ∃ fd, FunD K "is_within" "is_within" (defArgs (top 2)) (defBody (top 2)) (defScope (top 2)) [] [] (He.ga K "is_within") fd
  d_law : ∃ fd, FunD K "law" "law" (defArgs (top 44)) (defBody (top 44)) (defScope (top 44)) [] [] (He.ga K "law") fd
  d_lowest : ∃ fd, FunD K "lowest" "lowest" (defArgs (top 13)) (defBody (top 13)) (defScope (top 13)) [] [] (He.ga K "lowest") fd
  d_plus : ∃ fd, FunD K "plus" "plus" (defArgs (top 14)) (defBody (top 14)) (defScope (top 14)) [] [] (He.ga K "plus") fd
  d_product : ∃ fd, FunD K "product" "product" (defArgs (top 15)) (defBody (top 15)) (defScope (top 15)) [] [] (He.ga K "product") fd
  d_whole_sum : ∃ fd, FunD K "whole_sum" "whole_sum" (defArgs (top 18)) (defBody (top 18)) (defScope (top 18)) [] [] (He.ga K "whole_sum") fd
  d_with_floor : ∃ fd, FunD K "with_floor" "with_floor" (defArgs (top 26)) (defBody (top 26)) (defScope (top 26)) [] [] (He.ga K "with_floor") fd
  d_worth : ∃ fd, FunD K "worth" "worth" (defArgs (top 29)) (defBody (top 29)) (defScope (top 29)) [] [] (He.ga K "worth") fd
  d_worths : ∃ fd, FunD K "worths" "worths" (defArgs (top 27)) (defBody (top 27)) (defScope (top 27)) [] [] (He.ga K "worths") fd
  own : OwnF K own
/-! ### each def computes what its function says -/
theorem sc__law_hand_v2 : FnScope ["script", "cells", "cell"] ["script"] (defScope (top 31)) := ⟨rfl, rfl, rfl, by decide +kernel, rfl, by decide +kernel, by decide +kernel⟩
theorem m__law_hand_v2_ok {P : Program} {w : World} {K : PySem.W.Frag} {mg : Str → Option Value} {base : Heap} (Z : Md K mg) : FnD P w K mg base 1 (He.ga K "_law_hand") 1 m__law_hand_v2 := by
  obtain ⟨fd, F⟩ := Z.d__law_hand
  have nd := sc__law_hand_v2.nd
  refine fnD_of F sc__law_hand_v2 rfl (binds_of F fun _ _ _ _ _ _ us hl => match us, hl with | [_], _ => rfl) fun cdv A outer s H E hr gd => ?_
  exact dss_cons (ds_setLc (fun _ _ _ _ q => w_frz q) (own := [("cell", 2)]) rfl nd (di_seq (de_sl (de_v 0) do_none (do_some (de_int)))) (blkOk_by (by kernel_rfl)) (fun _ _ _ _ _ => pg_nm nd) (fun _ _ _ _ _ => dts_nil) (fun _ _ _ _ _ => de_bf o_abs call_abs rfl Z.b_abs boot_abs (da_cons (de_tf o_int call_int1 rfl Z.b_int boot_int (da_cons (de_v 2) da_nil)) da_nil))) (dss_one (ds_ret (de_thaw (dn_lst (da_cons (de_v 1) (da_cons (de_int) (da_cons (de_int) (da_cons (de_add (de_int) (de_mul (de_int) (de_bf o_len c_len rfl Z.b_len boot_len (da_cons (de_v 1) da_nil)))) (da_cons (de_int) da_nil)))))))))

theorem sc__law_draw_v3 : FnScope ["hand", "sides", "cell", "digit", "number"] ["hand", "sides"] (defScope (top 32)) := ⟨rfl, rfl, rfl, by decide +kernel, rfl, by decide +kernel, by decide +kernel⟩
theorem m__law_draw_v3_ok {P : Program} {w : World} {K : PySem.W.Frag} {mg : Str → Option Value} {base : Heap} (Z : Md K mg) : FnD P w K mg base 1 (He.ga K "_law_draw") 2 m__law_draw_v3 := by
  obtain ⟨fd, F⟩ := Z.d__law_draw
  have nd := sc__law_draw_v3.nd
  refine fnD_of F sc__law_draw_v3 rfl (binds_of F fun _ _ _ _ _ _ us hl => match us, hl with | [_, _], _ => rfl) fun cdv A outer s H E hr gd => ?_
  exact dss_cons (ds_if (dt_bool (dw_and (dt_eq (u64 hr) (de_item (u1 hr) (de_v 0) (de_int)) (de_int)) (dw_and1 (dt_lt (de_item (u1 hr) (de_v 0) (de_int)) (de_bf o_len c_len rfl Z.b_len boot_len (da_cons (de_item (u1 hr) (de_v 0) (de_int)) da_nil)))))) (dss_cons (ds_set (i := 2) nd (de_item (u1 hr) (de_item (u1 hr) (de_v 0) (de_int)) (de_item (u1 hr) (de_v 0) (de_int)))) (dss_cons (ds_store (u1 hr) (de_add (de_item (u1 hr) (de_v 0) (de_int)) (de_int)) (de_v 0) (de_int)) (dss_cons (ds_store (u1 hr) (de_mod (de_tf o_int call_int1 rfl Z.b_int boot_int (da_cons (de_add (de_add (de_mul (de_item (u1 hr) (de_v 0) (de_int)) (de_int)) (de_v 2)) (de_int)) da_nil)) (de_int)) (de_v 0) (de_int)) (dss_one (ds_if (dt_ge (de_v 2) (de_pow (de_int) (de_int))) (dss_one (ds_store (u1 hr) (de_v 2) (de_v 0) (de_int))) (dss_nil)))))) (dss_nil)) (dss_cons (ds_if (dt_gt (de_item (u1 hr) (de_v 0) (de_int)) (de_int)) (dss_cons (ds_set (i := 3) nd (de_mod (de_tf o_int call_int1 rfl Z.b_int boot_int (da_cons (de_item (u1 hr) (de_v 0) (de_int)) da_nil)) (de_v 1))) (dss_cons (ds_store (u1 hr) (de_div (de_item (u1 hr) (de_v 0) (de_int)) (de_v 1)) (de_v 0) (de_int)) (dss_one (ds_ret (de_v 3))))) (dss_nil)) (dss_cons (ds_store (u1 hr) (de_add (de_item (u1 hr) (de_v 0) (de_int)) (de_int)) (de_v 0) (de_int)) (dss_cons (ds_set (i := 4) nd (de_mod (de_tf o_int call_int1 rfl Z.b_int boot_int (da_cons (de_mul (de_tf o_int call_int1 rfl Z.b_int boot_int (da_cons (de_add (de_item (u1 hr) (de_v 0) (de_int)) (de_mul (de_int) (de_item (u1 hr) (de_v 0) (de_int)))) da_nil)) (de_int)) da_nil)) (de_int))) (dss_cons (ds_set (i := 4) nd (de_mod (de_tf o_int call_int1 rfl Z.b_int boot_int (da_cons (de_mul (de_v 4) (de_add (de_div (de_v 4) (de_int)) (de_int))) da_nil)) (de_int))) (dss_cons (ds_set (i := 4) nd (de_mod (de_tf o_int call_int1 rfl Z.b_int boot_int (da_cons (de_mul (de_v 4) (de_add (de_div (de_v 4) (de_int)) (de_int))) da_nil)) (de_int))) (dss_one (ds_ret (de_mod (de_tf o_int call_int1 rfl Z.b_int boot_int (da_cons (de_div (de_v 4) (de_int)) da_nil)) (de_v 1)))))))))

theorem sc__law_some : FnScope ["hand", "things"] ["hand", "things"] (defScope (top 33)) := ⟨rfl, rfl, rfl, by decide +kernel, rfl, by decide +kernel, by decide +kernel⟩
theorem m__law_some_ok {P : Program} {w : World} {K : PySem.W.Frag} {mg : Str → Option Value} {base : Heap} (Z : Md K mg) : FnD P w K mg base 2 (He.ga K "_law_some") 2 m__law_some := by
  obtain ⟨fd, F⟩ := Z.d__law_some
  have nd := sc__law_some.nd
  refine fnD_of F sc__law_some rfl (binds_of F fun _ _ _ _ _ _ us hl => match us, hl with | [_, _], _ => rfl) fun cdv A outer s H E hr gd => ?_
  exact dss_one (ds_ret (de_item (u1 hr) (de_v 1) (de_call ((m__law_draw_v3_ok Z).mono (by decide)) hr gd (takes_of rfl rfl rfl rfl) Z.g__law_draw rfl (da_cons (de_v 0) (da_cons (de_bf o_len c_len rfl Z.b_len boot_len (da_cons (de_v 1) da_nil)) da_nil)))))

theorem sc__law_low : FnScope ["top", "bottom", "one", "other"] ["top", "bottom"] (defScope (top 35)) := ⟨rfl, rfl, rfl, by decide +kernel, rfl, by decide +kernel, by decide +kernel⟩
theorem m__law_low_ok {P : Program} {w : World} {K : PySem.W.Frag} {mg : Str → Option Value} {base : Heap} (Z : Md K mg) : FnD P w K mg base 1 (He.ga K "_law_low") 2 m__law_low := by
  obtain ⟨fd, F⟩ := Z.d__law_low
  have nd := sc__law_low.nd
  refine fnD_of F sc__law_low rfl (binds_of F fun _ _ _ _ _ _ us hl => match us, hl with | [_, _], _ => rfl) fun cdv A outer s H E hr gd => ?_
  exact dss_cons (ds_par2 (i := 2) (j := 3) rfl nd (da_cons (de_bf o_abs call_abs rfl Z.b_abs boot_abs (da_cons (de_v 0) da_nil)) (da_cons (de_v 1) da_nil))) (dss_cons (ds_while (lim := (limI 3)) (passes_of rfl) (dt_gt (de_v 3) (de_int)) (dss_one (ds_par2 (i := 2) (j := 3) rfl nd (da_cons (de_v 3) (da_cons (de_mod (de_tf o_int call_int1 rfl Z.b_int boot_int (da_cons (de_v 2) da_nil)) (de_v 3)) da_nil))))) (dss_one (ds_ret (de_tup (da_cons (de_div (de_v 0) (de_v 2)) (da_cons (de_div (de_v 1) (de_v 2)) da_nil))))))

theorem sc__law_offer : FnScope ["hand", "most", "values", "turn", "weights", "value", "weight"] ["hand", "most"] (defScope (top 40)) := ⟨rfl, rfl, rfl, by decide +kernel, rfl, by decide +kernel, by decide +kernel⟩
theorem m__law_offer_ok {P : Program} {w : World} {K : PySem.W.Frag} {mg : Str → Option Value} {base : Heap} (Z : Md K mg) : FnD P w K mg base 3 (He.ga K "_law_offer") 2 m__law_offer := by
  obtain ⟨fd, F⟩ := Z.d__law_offer
  have nd := sc__law_offer.nd
  refine fnD_of F sc__law_offer rfl (binds_of F fun _ _ _ _ _ _ us hl => match us, hl with | [_, _], _ => rfl) fun cdv A outer s H E hr gd => ?_
  exact dss_cons (ds_set (i := 2) nd (de_thaw (dn_lst da_nil))) (dss_cons (ds_for (passes_of rfl) rfl (di_range1 rfl Z.b_range (da_cons (de_add (de_int) (de_call ((m__law_draw_v3_ok Z).mono (by decide)) hr gd (takes_of rfl rfl rfl rfl) Z.g__law_draw rfl (da_cons (de_v 0) (da_cons (de_v 1) da_nil)))) da_nil)) (pg_nm nd) (dss_one (ds_exp (de_app (de_v 2) (da_cons (de_call ((m__law_some_ok Z).mono (by decide)) hr gd (takes_of rfl rfl rfl rfl) Z.g__law_some rfl (da_cons (de_v 0) (da_cons (de_frz (dn_lst (da_cons (de_int) (da_cons (de_int) (da_cons (de_int) (da_cons (de_int) (da_cons (de_int) (da_cons (de_int) (da_cons (de_int) (da_cons (de_int) (da_cons (de_if (dt_eq (u64 hr) (de_call ((m__law_draw_v3_ok Z).mono (by decide)) hr gd (takes_of rfl rfl rfl rfl) Z.g__law_draw rfl (da_cons (de_v 0) (da_cons (de_int) da_nil))) (de_int)) (de_int) (de_int)) da_nil))))))))))) da_nil))) da_nil))))) (dss_cons (ds_set (i := 2) nd (de_thaw (dn_sortU rfl rfl Z.b_sorted rfl Z.b_set (de_v 2)))) (dss_cons (ds_set (i := 4) nd (de_frz (dn_lc (own := [("value", 5)]) rfl nd (di_seq (de_v 2)) (blkOk_by (by kernel_rfl)) (fun _ _ _ _ _ => pg_nm nd) (fun _ _ _ _ _ => dts_nil) (fun _ _ _ _ _ => de_add (de_int) (de_call ((m__law_draw_v3_ok Z).mono (by decide)) hr gd takes0 Z.g__law_draw rfl (da_cons (de_v 0) (da_cons (de_int) da_nil))))))) (dss_one (ds_ret (de_tf o_tup call_tuple_of rfl Z.b_tuple boot_tuple (da_cons (de_frz (dn_lc (own := [("value", 5), ("weight", 6)]) rfl nd (di_zip rfl Z.b_zip (da_cons (de_v 2) (da_cons (de_v 4) da_nil))) (blkOk_by (by kernel_rfl)) (fun _ _ _ _ _ => pg_tp rfl (pgs_co (pg_nm nd) (pgs_co (pg_nm nd) (pgs_no)))) (fun _ _ _ _ _ => dts_nil) (fun _ _ _ _ _ => de_tup (da_cons (de_v 5) (da_cons (de_call ((m__law_low_ok Z).mono (by decide)) hr gd takes0 Z.g__law_low rfl (da_cons (de_v 6) (da_cons (de_bf o_sum (cr_sum rfl) rfl Z.b_sum boot_sum (da_cons (de_v 4) da_nil)) da_nil))) da_nil))))) da_nil)))))))

theorem sc__law_deal : FnScope ["hand", "most", "pairs", "offer"] ["hand", "most", "pairs"] (defScope (top 41)) := ⟨rfl, rfl, rfl, by decide +kernel, rfl, by decide +kernel, by decide +kernel⟩
theorem m__law_deal_ok {P : Program} {w : World} {K : PySem.W.Frag} {mg : Str → Option Value} {base : Heap} (Z : Md K mg) : FnD P w K mg base 4 (He.ga K "_law_deal") 3 m__law_deal := by
  obtain ⟨fd, F⟩ := Z.d__law_deal
  have nd := sc__law_deal.nd
  refine fnD_of F sc__law_deal rfl (binds_of F fun _ _ _ _ _ _ us hl => match us, hl with | [_, _, _], _ => rfl) fun cdv A outer s H E hr gd => ?_
  exact dss_one (ds_ret (de_tf o_tup call_tuple_of rfl Z.b_tuple boot_tuple (da_cons (de_frz (dn_lc (own := [("offer", 3)]) rfl nd (di_range1 rfl Z.b_range (da_cons (de_add (de_int) (de_call ((m__law_draw_v3_ok Z).mono (by decide)) hr gd (takes_of rfl rfl rfl rfl) Z.g__law_draw rfl (da_cons (de_v 0) (da_cons (de_v 1) da_nil)))) da_nil)) (blkOk_by (by kernel_rfl)) (fun _ _ _ _ _ => pg_nm nd) (fun _ _ _ _ _ => dts_nil) (fun _ _ _ _ _ => de_call ((m__law_offer_ok Z).mono (by decide)) hr gd takes0 Z.g__law_offer rfl (da_cons (de_v 0) (da_cons (de_v 2) da_nil))))) da_nil)))

theorem sc__law_sum : FnScope ["one", "other"] ["one", "other"] (defScope (top 36)) := ⟨rfl, rfl, rfl, by decide +kernel, rfl, by decide +kernel, by decide +kernel⟩
theorem m__law_sum_ok {P : Program} {w : World} {K : PySem.W.Frag} {mg : Str → Option Value} {base : Heap} (Z : Md K mg) : FnD P w K mg base 2 (He.ga K "_law_sum") 2 m__law_sum := by
  obtain ⟨fd, F⟩ := Z.d__law_sum
  have nd := sc__law_sum.nd
  refine fnD_of F sc__law_sum rfl (binds_of F fun _ _ _ _ _ _ us hl => match us, hl with | [_, _], _ => rfl) fun cdv A outer s H E hr gd => ?_
  exact dss_one (ds_ret (de_call ((m__law_low_ok Z).mono (by decide)) hr gd (takes_of rfl rfl rfl rfl) Z.g__law_low rfl (da_cons (de_add (de_mul (de_item (u1 hr) (de_v 0) (de_int)) (de_item (u1 hr) (de_v 1) (de_int))) (de_mul (de_item (u1 hr) (de_v 1) (de_int)) (de_item (u1 hr) (de_v 0) (de_int)))) (da_cons (de_mul (de_item (u1 hr) (de_v 0) (de_int)) (de_item (u1 hr) (de_v 1) (de_int))) da_nil))))

theorem sc__law_prod : FnScope ["one", "other"] ["one", "other"] (defScope (top 37)) := ⟨rfl, rfl, rfl, by decide +kernel, rfl, by decide +kernel, by decide +kernel⟩
theorem m__law_prod_ok {P : Program} {w : World} {K : PySem.W.Frag} {mg : Str → Option Value} {base : Heap} (Z : Md K mg) : FnD P w K mg base 2 (He.ga K "_law_prod") 2 m__law_prod := by
  obtain ⟨fd, F⟩ := Z.d__law_prod
  have nd := sc__law_prod.nd
  refine fnD_of F sc__law_prod rfl (binds_of F fun _ _ _ _ _ _ us hl => match us, hl with | [_, _], _ => rfl) fun cdv A outer s H E hr gd => ?_
  exact dss_one (ds_ret (de_call ((m__law_low_ok Z).mono (by decide)) hr gd (takes_of rfl rfl rfl rfl) Z.g__law_low rfl (da_cons (de_mul (de_item (u1 hr) (de_v 0) (de_int)) (de_item (u1 hr) (de_v 1) (de_int))) (da_cons (de_mul (de_item (u1 hr) (de_v 0) (de_int)) (de_item (u1 hr) (de_v 1) (de_int))) da_nil))))

theorem sc__law_less : FnScope ["one", "other"] ["one", "other"] (defScope (top 38)) := ⟨rfl, rfl, rfl, by decide +kernel, rfl, by decide +kernel, by decide +kernel⟩
theorem m__law_less_ok {P : Program} {w : World} {K : PySem.W.Frag} {mg : Str → Option Value} {base : Heap} (Z : Md K mg) : FnD P w K mg base 1 (He.ga K "_law_less") 2 m__law_less := by
  obtain ⟨fd, F⟩ := Z.d__law_less
  have nd := sc__law_less.nd
  refine fnD_of F sc__law_less rfl (binds_of F fun _ _ _ _ _ _ us hl => match us, hl with | [_, _], _ => rfl) fun cdv A outer s H E hr gd => ?_
  exact dss_one (ds_ret (de_lt (de_mul (de_item (u1 hr) (de_v 0) (de_int)) (de_item (u1 hr) (de_v 1) (de_int))) (de_mul (de_item (u1 hr) (de_v 1) (de_int)) (de_item (u1 hr) (de_v 0) (de_int)))))

theorem sc__law_most : FnScope ["one", "other"] ["one", "other"] (defScope (top 39)) := ⟨rfl, rfl, rfl, by decide +kernel, rfl, by decide +kernel, by decide +kernel⟩
theorem m__law_most_ok {P : Program} {w : World} {K : PySem.W.Frag} {mg : Str → Option Value} {base : Heap} (Z : Md K mg) : FnD P w K mg base 2 (He.ga K "_law_most") 2 m__law_most := by
  obtain ⟨fd, F⟩ := Z.d__law_most
  have nd := sc__law_most.nd
  refine fnD_of F sc__law_most rfl (binds_of F fun _ _ _ _ _ _ us hl => match us, hl with | [_, _], _ => rfl) fun cdv A outer s H E hr gd => ?_
  exact dss_one (ds_ret (de_if (dt_tru (de_call ((m__law_less_ok Z).mono (by decide)) hr gd (takes_of rfl rfl rfl rfl) Z.g__law_less rfl (da_cons (de_v 0) (da_cons (de_v 1) da_nil)))) (de_v 1) (de_v 0)))

theorem sc__law_hopes : FnScope ["offers", "found", "offer", "here", "value", "share"] ["offers"] (defScope (top 42)) := ⟨rfl, rfl, rfl, by decide +kernel, rfl, by decide +kernel, by decide +kernel⟩
theorem m__law_hopes_ok {P : Program} {w : World} {K : PySem.W.Frag} {mg : Str → Option Value} {base : Heap} (Z : Md K mg) : FnD P w K mg base 3 (He.ga K "_law_hopes") 1 m__law_hopes := by
  obtain ⟨fd, F⟩ := Z.d__law_hopes
  have nd := sc__law_hopes.nd
  refine fnD_of F sc__law_hopes rfl (binds_of F fun _ _ _ _ _ _ us hl => match us, hl with | [_], _ => rfl) fun cdv A outer s H E hr gd => ?_
  exact dss_cons (ds_set (i := 1) nd (de_frz (dn_lst (da_cons (de_tup (da_cons (de_int) (da_cons (de_int) da_nil))) da_nil)))) (dss_cons (ds_for (passes_of rfl) rfl (di_seq (de_rev (de_v 0))) (pg_nm nd) (dss_cons (ds_set (i := 3) nd (de_tup (da_cons (de_int) (da_cons (de_int) da_nil)))) (dss_cons (ds_for (passes_of rfl) rfl (di_seq (de_v 2)) (pg_tp rfl (pgs_co (pg_nm nd) (pgs_co (pg_nm nd) (pgs_no)))) (dss_one (ds_set (i := 3) nd (de_call ((m__law_sum_ok Z).mono (by decide)) hr gd (takes_of rfl rfl rfl rfl) Z.g__law_sum rfl (da_cons (de_v 3) (da_cons (de_call ((m__law_prod_ok Z).mono (by decide)) hr gd (takes_of rfl rfl rfl rfl) Z.g__law_prod rfl (da_cons (de_v 5) (da_cons (de_call ((m__law_most_ok Z).mono (by decide)) hr gd (takes_of rfl rfl rfl rfl) Z.g__law_most rfl (da_cons (de_tup (da_cons (de_v 4) (da_cons (de_int) da_nil))) (da_cons (de_item (u1 hr) (de_v 1) (de_int)) da_nil))) da_nil))) da_nil)))))) (dss_one (ds_set (i := 1) nd (de_add (de_frz (dn_lst (da_cons (de_v 3) da_nil))) (de_v 1))))))) (dss_one (ds_ret (de_v 1))))

theorem sc_is_tuple : FnScope ["thing", "least", "most"] ["thing", "least", "most"] (defScope (top 3)) := ⟨rfl, rfl, rfl, by decide +kernel, rfl, by decide +kernel, by decide +kernel⟩
theorem m_is_tuple_ok {P : Program} {w : World} {K : PySem.W.Frag} {mg : Str → Option Value} {base : Heap} (Z : Md K mg) : FnD P w K mg base 1 (He.ga K "is_tuple") 3 m_is_tuple := by
  obtain ⟨fd, F⟩ := Z.d_is_tuple
  have nd := sc_is_tuple.nd
  refine fnD_of F sc_is_tuple rfl (binds_of F fun _ _ _ _ _ _ us hl => match us, hl with | [_, _, _], _ => rfl) fun cdv A outer s H E hr gd => ?_
  exact dss_one (ds_ret (de_andX (de_bf (o_isi (own := []) own_nil) call_isi rfl Z.b_isinstance boot_isinstance (da_cons (de_v 0) (da_cons (de_ty rfl Z.b_tuple boot_tuple) da_nil))) (de_one (de_lele (de_v 1) (de_bf o_len c_len rfl Z.b_len boot_len (da_cons (de_v 0) da_nil)) (de_v 2)))))

theorem sc_is_integer : FnScope ["thing"] ["thing"] (defScope (top 1)) := ⟨rfl, rfl, rfl, by decide +kernel, rfl, by decide +kernel, by decide +kernel⟩
theorem m_is_integer_ok {P : Program} {w : World} {K : PySem.W.Frag} {mg : Str → Option Value} {base : Heap} (Z : Md K mg) : FnD P w K mg base 1 (He.ga K "is_integer") 1 m_is_integer := by
  obtain ⟨fd, F⟩ := Z.d_is_integer
  have nd := sc_is_integer.nd
  refine fnD_of F sc_is_integer rfl (binds_of F fun _ _ _ _ _ _ us hl => match us, hl with | [_], _ => rfl) fun cdv A outer s H E hr gd => ?_
  exact dss_one (ds_ret (de_andX (de_bf (o_isi (own := []) own_nil) call_isi rfl Z.b_isinstance boot_isinstance (da_cons (de_v 0) (da_cons (de_ty rfl Z.b_int boot_int) da_nil))) (de_one (de_notX (de_bf (o_isi (own := []) own_nil) call_isi rfl Z.b_isinstance boot_isinstance (da_cons (de_v 0) (da_cons (de_ty rfl Z.b_bool boot_bool) da_nil)))))))

theorem sc_is_within : FnScope ["thing", "low", "high"] ["thing", "low", "high"] (defScope (top 2)) := ⟨rfl, rfl, rfl, by decide +kernel, rfl, by decide +kernel, by decide +kernel⟩
theorem m_is_within_ok {P : Program} {w : World} {K : PySem.W.Frag} {mg : Str → Option Value} {base : Heap} (Z : Md K mg) : FnD P w K mg base 2 (He.ga K "is_within") 3 m_is_within := by
  obtain ⟨fd, F⟩ := Z.d_is_within
  have nd := sc_is_within.nd
  refine fnD_of F sc_is_within rfl (binds_of F fun _ _ _ _ _ _ us hl => match us, hl with | [_, _, _], _ => rfl) fun cdv A outer s H E hr gd => ?_
  exact dss_one (ds_ret (de_andX (de_call ((m_is_integer_ok Z).mono (by decide)) hr gd (takes_of rfl rfl rfl rfl) Z.g_is_integer rfl (da_cons (de_v 0) da_nil)) (de_one (de_lele (de_v 1) (de_v 0) (de_v 2)))))

theorem sc_common : FnScope ["one", "other"] ["one", "other"] (defScope (top 12)) := ⟨rfl, rfl, rfl, by decide +kernel, rfl, by decide +kernel, by decide +kernel⟩
theorem m_common_ok {P : Program} {w : World} {K : PySem.W.Frag} {mg : Str → Option Value} {base : Heap} (Z : Md K mg) : FnD P w K mg base 1 (He.ga K "common") 2 m_common := by
  obtain ⟨fd, F⟩ := Z.d_common
  have nd := sc_common.nd
  refine fnD_of F sc_common rfl (binds_of F fun _ _ _ _ _ _ us hl => match us, hl with | [_, _], _ => rfl) fun cdv A outer s H E hr gd => ?_
  exact dss_cons (ds_par2 (i := 0) (j := 1) rfl nd (da_cons (de_bf o_abs call_abs rfl Z.b_abs boot_abs (da_cons (de_v 0) da_nil)) (da_cons (de_bf o_abs call_abs rfl Z.b_abs boot_abs (da_cons (de_v 1) da_nil)) da_nil))) (dss_cons (ds_while (lim := (limI 1)) (passes_of rfl) (dt_gt (de_v 1) (de_int)) (dss_one (ds_par2 (i := 0) (j := 1) rfl nd (da_cons (de_v 1) (da_cons (de_mod (de_v 0) (de_v 1)) da_nil))))) (dss_one (ds_ret (de_v 0))))

theorem sc_is_fraction : FnScope ["thing", "one"] ["thing"] (defScope (top 19)) := ⟨rfl, rfl, rfl, by decide +kernel, rfl, by decide +kernel, by decide +kernel⟩
theorem m_is_fraction_ok {P : Program} {w : World} {K : PySem.W.Frag} {mg : Str → Option Value} {base : Heap} (Z : Md K mg) : FnD P w K mg base 2 (He.ga K "is_fraction") 1 m_is_fraction := by
  obtain ⟨fd, F⟩ := Z.d_is_fraction
  have nd := sc_is_fraction.nd
  refine fnD_of F sc_is_fraction rfl (binds_of F fun _ _ _ _ _ _ us hl => match us, hl with | [_], _ => rfl) fun cdv A outer s H E hr gd => ?_
  exact dss_cons (ds_if (dt_bool (dw_or (dt_not (dt_tru (de_call ((m_is_tuple_ok Z).mono (by decide)) hr gd (takes_of rfl rfl rfl rfl) Z.g_is_tuple rfl (da_cons (de_v 0) (da_cons (de_int) (da_cons (de_int) da_nil)))))) (dw_or (dt_not (dt_tru (de_bf o_all (cr_all rfl) rfl Z.b_all boot_all (da_cons (de_frz (dn_lc (own := [("one", 1)]) rfl nd (di_seq (de_v 0)) (blkOk_by (by kernel_rfl)) (fun _ _ _ _ _ => pg_nm nd) (fun _ _ _ _ _ => dts_nil) (fun _ _ _ _ _ => de_call ((m_is_integer_ok Z).mono (by decide)) hr gd takes0 Z.g_is_integer rfl (da_cons (de_v 1) da_nil)))) da_nil)))) (dw_or1 (dt_lt (de_item (u1 hr) (de_v 0) (de_int)) (de_int)))))) (dss_one (ds_ret (de_bl))) (dss_nil)) (dss_one (ds_ret (de_eq (u64 hr) (de_call ((m_common_ok Z).mono (by decide)) hr gd (takes_of rfl rfl rfl rfl) Z.g_common rfl (da_cons (de_item (u1 hr) (de_v 0) (de_int)) (da_cons (de_item (u1 hr) (de_v 0) (de_int)) da_nil))) (de_int))))

theorem sc_is_share : FnScope ["thing"] ["thing"] (defScope (top 20)) := ⟨rfl, rfl, rfl, by decide +kernel, rfl, by decide +kernel, by decide +kernel⟩
theorem m_is_share_ok {P : Program} {w : World} {K : PySem.W.Frag} {mg : Str → Option Value} {base : Heap} (Z : Md K mg) : FnD P w K mg base 3 (He.ga K "is_share") 1 m_is_share := by
  obtain ⟨fd, F⟩ := Z.d_is_share
  have nd := sc_is_share.nd
  refine fnD_of F sc_is_share rfl (binds_of F fun _ _ _ _ _ _ us hl => match us, hl with | [_], _ => rfl) fun cdv A outer s H E hr gd => ?_
  exact dss_one (ds_ret (de_andX (de_call ((m_is_fraction_ok Z).mono (by decide)) hr gd (takes_of rfl rfl rfl rfl) Z.g_is_fraction rfl (da_cons (de_v 0) da_nil)) (de_one (de_lele (de_int) (de_item (u1 hr) (de_v 0) (de_int)) (de_item (u1 hr) (de_v 0) (de_int))))))

theorem sc_is_value_pair : FnScope ["thing"] ["thing"] (defScope (top 21)) := ⟨rfl, rfl, rfl, by decide +kernel, rfl, by decide +kernel, by decide +kernel⟩
theorem m_is_value_pair_ok {P : Program} {w : World} {K : PySem.W.Frag} {mg : Str → Option Value} {base : Heap} (Z : Md K mg) : FnD P w K mg base 4 (He.ga K "is_value_pair") 1 m_is_value_pair := by
  obtain ⟨fd, F⟩ := Z.d_is_value_pair
  have nd := sc_is_value_pair.nd
  refine fnD_of F sc_is_value_pair rfl (binds_of F fun _ _ _ _ _ _ us hl => match us, hl with | [_], _ => rfl) fun cdv A outer s H E hr gd => ?_
  exact dss_one (ds_ret (de_andX (de_call ((m_is_tuple_ok Z).mono (by decide)) hr gd (takes_of rfl rfl rfl rfl) Z.g_is_tuple rfl (da_cons (de_v 0) (da_cons (de_int) (da_cons (de_int) da_nil)))) (de_andX (de_call ((m_is_within_ok Z).mono (by decide)) hr gd (takes_of rfl rfl rfl rfl) Z.g_is_within rfl (da_cons (de_item (u1 hr) (de_v 0) (de_int)) (da_cons (de_int) (da_cons (de_gint rfl Z.i_MOST_VALUE) da_nil)))) (de_andX (de_call ((m_is_share_ok Z).mono (by decide)) hr gd (takes_of rfl rfl rfl rfl) Z.g_is_share rfl (da_cons (de_item (u1 hr) (de_v 0) (de_int)) da_nil)) (de_one (de_gt (de_item (u1 hr) (de_item (u1 hr) (de_v 0) (de_int)) (de_int)) (de_int)))))))

theorem sc_lowest : FnScope ["top", "bottom", "by"] ["top", "bottom"] (defScope (top 13)) := ⟨rfl, rfl, rfl, by decide +kernel, rfl, by decide +kernel, by decide +kernel⟩
theorem m_lowest_ok {P : Program} {w : World} {K : PySem.W.Frag} {mg : Str → Option Value} {base : Heap} (Z : Md K mg) : FnD P w K mg base 2 (He.ga K "lowest") 2 m_lowest := by
  obtain ⟨fd, F⟩ := Z.d_lowest
  have nd := sc_lowest.nd
  refine fnD_of F sc_lowest rfl (binds_of F fun _ _ _ _ _ _ us hl => match us, hl with | [_, _], _ => rfl) fun cdv A outer s H E hr gd => ?_
  exact dss_cons (ds_if (dt_lt (de_v 1) (de_int)) (dss_one (ds_par2 (i := 0) (j := 1) rfl nd (da_cons (de_neg (de_v 0)) (da_cons (de_neg (de_v 1)) da_nil)))) (dss_nil)) (dss_cons (ds_set (i := 2) nd (de_call ((m_common_ok Z).mono (by decide)) hr gd (takes_of rfl rfl rfl rfl) Z.g_common rfl (da_cons (de_v 0) (da_cons (de_v 1) da_nil)))) (dss_one (ds_ret (de_tup (da_cons (de_div (de_v 0) (de_v 2)) (da_cons (de_div (de_v 1) (de_v 2)) da_nil))))))

theorem sc_plus : FnScope ["one", "other"] ["one", "other"] (defScope (top 14)) := ⟨rfl, rfl, rfl, by decide +kernel, rfl, by decide +kernel, by decide +kernel⟩
theorem m_plus_ok {P : Program} {w : World} {K : PySem.W.Frag} {mg : Str → Option Value} {base : Heap} (Z : Md K mg) : FnD P w K mg base 3 (He.ga K "plus") 2 m_plus := by
  obtain ⟨fd, F⟩ := Z.d_plus
  have nd := sc_plus.nd
  refine fnD_of F sc_plus rfl (binds_of F fun _ _ _ _ _ _ us hl => match us, hl with | [_, _], _ => rfl) fun cdv A outer s H E hr gd => ?_
  exact dss_one (ds_ret (de_call ((m_lowest_ok Z).mono (by decide)) hr gd (takes_of rfl rfl rfl rfl) Z.g_lowest rfl (da_cons (de_add (de_mul (de_item (u1 hr) (de_v 0) (de_int)) (de_item (u1 hr) (de_v 1) (de_int))) (de_mul (de_item (u1 hr) (de_v 1) (de_int)) (de_item (u1 hr) (de_v 0) (de_int)))) (da_cons (de_mul (de_item (u1 hr) (de_v 0) (de_int)) (de_item (u1 hr) (de_v 1) (de_int))) da_nil))))

theorem sc_whole_sum : FnScope ["fractions", "found", "one"] ["fractions"] (defScope (top 18)) := ⟨rfl, rfl, rfl, by decide +kernel, rfl, by decide +kernel, by decide +kernel⟩
theorem m_whole_sum_ok {P : Program} {w : World} {K : PySem.W.Frag} {mg : Str → Option Value} {base : Heap} (Z : Md K mg) : FnD P w K mg base 4 (He.ga K "whole_sum") 1 m_whole_sum := by
  obtain ⟨fd, F⟩ := Z.d_whole_sum
  have nd := sc_whole_sum.nd
  refine fnD_of F sc_whole_sum rfl (binds_of F fun _ _ _ _ _ _ us hl => match us, hl with | [_], _ => rfl) fun cdv A outer s H E hr gd => ?_
  exact dss_cons (ds_set (i := 1) nd (de_gtup (is := [0, 1]) rfl Z.g_NONE Z.t_NONE)) (dss_cons (ds_for (passes_of rfl) rfl (di_seq (de_v 0)) (pg_nm nd) (dss_one (ds_set (i := 1) nd (de_call ((m_plus_ok Z).mono (by decide)) hr gd (takes_of rfl rfl rfl rfl) Z.g_plus rfl (da_cons (de_v 1) (da_cons (de_v 2) da_nil)))))) (dss_one (ds_ret (de_v 1))))

theorem sc_is_offer : FnScope ["thing", "pair", "one", "other", "value", "share"] ["thing"] (defScope (top 22)) := ⟨rfl, rfl, rfl, by decide +kernel, rfl, by decide +kernel, by decide +kernel⟩
theorem m_is_offer_ok {P : Program} {w : World} {K : PySem.W.Frag} {mg : Str → Option Value} {base : Heap} (Z : Md K mg) : FnD P w K mg base 5 (He.ga K "is_offer") 1 m_is_offer := by
  obtain ⟨fd, F⟩ := Z.d_is_offer
  have nd := sc_is_offer.nd
  refine fnD_of F sc_is_offer rfl (binds_of F fun _ _ _ _ _ _ us hl => match us, hl with | [_], _ => rfl) fun cdv A outer s H E hr gd => ?_
  exact dss_cons (ds_if (dt_bool (dw_or (dt_not (dt_tru (de_call ((m_is_tuple_ok Z).mono (by decide)) hr gd (takes_of rfl rfl rfl rfl) Z.g_is_tuple rfl (da_cons (de_v 0) (da_cons (de_int) (da_cons (de_gint rfl Z.i_MOST_PAIRS) da_nil)))))) (dw_or1 (dt_not (dt_tru (de_bf o_all (cr_all rfl) rfl Z.b_all boot_all (da_cons (de_frz (dn_lc (own := [("pair", 1)]) rfl nd (di_seq (de_v 0)) (blkOk_by (by kernel_rfl)) (fun _ _ _ _ _ => pg_nm nd) (fun _ _ _ _ _ => dts_nil) (fun _ _ _ _ _ => de_call ((m_is_value_pair_ok Z).mono (by decide)) hr gd takes0 Z.g_is_value_pair rfl (da_cons (de_v 1) da_nil)))) da_nil))))))) (dss_one (ds_ret (de_bl))) (dss_nil)) (dss_cons (ds_if (dt_not (dt_tru (de_bf o_all (cr_all rfl) rfl Z.b_all boot_all (da_cons (de_frz (dn_lc (own := [("one", 2), ("other", 3)]) rfl nd (di_zip rfl Z.b_zip (da_cons (de_v 0) (da_cons (de_sl (de_v 0) (do_some (de_int)) do_none) da_nil))) (blkOk_by (by kernel_rfl)) (fun _ _ _ _ _ => pg_tp rfl (pgs_co (pg_nm nd) (pgs_co (pg_nm nd) (pgs_no)))) (fun _ _ _ _ _ => dts_nil) (fun _ _ _ _ _ => de_lt (de_item (u1 hr) (de_v 2) (de_int)) (de_item (u1 hr) (de_v 3) (de_int))))) da_nil)))) (dss_one (ds_ret (de_bl))) (dss_nil)) (dss_one (ds_ret (de_eq (u64 hr) (de_call ((m_whole_sum_ok Z).mono (by decide)) hr gd (takes_of rfl rfl rfl rfl) Z.g_whole_sum rfl (da_cons (de_frz (dn_lc (own := [("value", 4), ("share", 5)]) rfl nd (di_seq (de_v 0)) (blkOk_by (by kernel_rfl)) (fun _ _ _ _ _ => pg_tp rfl (pgs_co (pg_nm nd) (pgs_co (pg_nm nd) (pgs_no)))) (fun _ _ _ _ _ => dts_nil) (fun _ _ _ _ _ => de_v 5))) da_nil)) (de_gtup (is := [1, 1]) rfl Z.g_WHOLE Z.t_WHOLE)))))

theorem sc_Deal___init__ : FnScope ["self", "offers", "offer"] ["self", "offers"] (defScope (inClass (top 25) 0)) := ⟨rfl, rfl, rfl, by decide +kernel, rfl, by decide +kernel, by decide +kernel⟩
theorem m_Deal___init___ok {P : Program} {w : World} {K : PySem.W.Frag} {mg : Str → Option Value} {base : Heap} (Z : Md K mg) : FnD P w K mg base 6 (He.ma K (He.ga K "Deal") "__init__") 2 m_Deal___init__ := by
  obtain ⟨fd, F⟩ := Z.d_Deal___init__
  have nd := sc_Deal___init__.nd
  refine fnD_of F sc_Deal___init__ rfl (binds_of F fun _ _ _ _ _ _ us hl => match us, hl with | [_, _], _ => rfl) fun cdv A outer s H E hr gd => ?_
  exact dss_cons (ds_if (dt_bool (dw_or (dt_not (dt_tru (de_call ((m_is_tuple_ok Z).mono (by decide)) hr gd (takes_of rfl rfl rfl rfl) Z.g_is_tuple rfl (da_cons (de_v 1) (da_cons (de_int) (da_cons (de_gint rfl Z.i_MOST_OFFERS) da_nil)))))) (dw_or1 (dt_not (dt_tru (de_bf o_all (cr_all rfl) rfl Z.b_all boot_all (da_cons (de_frz (dn_lc (own := [("offer", 2)]) rfl nd (di_seq (de_v 1)) (blkOk_by (by kernel_rfl)) (fun _ _ _ _ _ => pg_nm nd) (fun _ _ _ _ _ => dts_nil) (fun _ _ _ _ _ => de_call ((m_is_offer_ok Z).mono (by decide)) hr gd takes0 Z.g_is_offer rfl (da_cons (de_v 2) da_nil)))) da_nil))))))) (dss_one (ds_never)) (dss_nil)) (dss_one (ds_fld Z.c_Deal Z.n_Deal_offers (de_v 1) (de_v 0)))

theorem sc_product : FnScope ["one", "other"] ["one", "other"] (defScope (top 15)) := ⟨rfl, rfl, rfl, by decide +kernel, rfl, by decide +kernel, by decide +kernel⟩
theorem m_product_ok {P : Program} {w : World} {K : PySem.W.Frag} {mg : Str → Option Value} {base : Heap} (Z : Md K mg) : FnD P w K mg base 3 (He.ga K "product") 2 m_product := by
  obtain ⟨fd, F⟩ := Z.d_product
  have nd := sc_product.nd
  refine fnD_of F sc_product rfl (binds_of F fun _ _ _ _ _ _ us hl => match us, hl with | [_, _], _ => rfl) fun cdv A outer s H E hr gd => ?_
  exact dss_one (ds_ret (de_call ((m_lowest_ok Z).mono (by decide)) hr gd (takes_of rfl rfl rfl rfl) Z.g_lowest rfl (da_cons (de_mul (de_item (u1 hr) (de_v 0) (de_int)) (de_item (u1 hr) (de_v 1) (de_int))) (da_cons (de_mul (de_item (u1 hr) (de_v 0) (de_int)) (de_item (u1 hr) (de_v 1) (de_int))) da_nil))))

theorem sc_is_less : FnScope ["one", "other"] ["one", "other"] (defScope (top 16)) := ⟨rfl, rfl, rfl, by decide +kernel, rfl, by decide +kernel, by decide +kernel⟩
theorem m_is_less_ok {P : Program} {w : World} {K : PySem.W.Frag} {mg : Str → Option Value} {base : Heap} (Z : Md K mg) : FnD P w K mg base 1 (He.ga K "is_less") 2 m_is_less := by
  obtain ⟨fd, F⟩ := Z.d_is_less
  have nd := sc_is_less.nd
  refine fnD_of F sc_is_less rfl (binds_of F fun _ _ _ _ _ _ us hl => match us, hl with | [_, _], _ => rfl) fun cdv A outer s H E hr gd => ?_
  exact dss_one (ds_ret (de_lt (de_mul (de_item (u1 hr) (de_v 0) (de_int)) (de_item (u1 hr) (de_v 1) (de_int))) (de_mul (de_item (u1 hr) (de_v 1) (de_int)) (de_item (u1 hr) (de_v 0) (de_int)))))

theorem sc_greatest : FnScope ["one", "other"] ["one", "other"] (defScope (top 17)) := ⟨rfl, rfl, rfl, by decide +kernel, rfl, by decide +kernel, by decide +kernel⟩
theorem m_greatest_ok {P : Program} {w : World} {K : PySem.W.Frag} {mg : Str → Option Value} {base : Heap} (Z : Md K mg) : FnD P w K mg base 2 (He.ga K "greatest") 2 m_greatest := by
  obtain ⟨fd, F⟩ := Z.d_greatest
  have nd := sc_greatest.nd
  refine fnD_of F sc_greatest rfl (binds_of F fun _ _ _ _ _ _ us hl => match us, hl with | [_, _], _ => rfl) fun cdv A outer s H E hr gd => ?_
  exact dss_one (ds_ret (de_if (dt_tru (de_call ((m_is_less_ok Z).mono (by decide)) hr gd (takes_of rfl rfl rfl rfl) Z.g_is_less rfl (da_cons (de_v 0) (da_cons (de_v 1) da_nil)))) (de_v 1) (de_v 0)))

theorem sc_with_floor : FnScope ["offer", "floor", "value", "share"] ["offer", "floor"] (defScope (top 26)) := ⟨rfl, rfl, rfl, by decide +kernel, rfl, by decide +kernel, by decide +kernel⟩
theorem m_with_floor_ok {P : Program} {w : World} {K : PySem.W.Frag} {mg : Str → Option Value} {base : Heap} (Z : Md K mg) : FnD P w K mg base 5 (He.ga K "with_floor") 2 m_with_floor := by
  obtain ⟨fd, F⟩ := Z.d_with_floor
  have nd := sc_with_floor.nd
  refine fnD_of F sc_with_floor rfl (binds_of F fun _ _ _ _ _ _ us hl => match us, hl with | [_, _], _ => rfl) fun cdv A outer s H E hr gd => ?_
  exact dss_one (ds_ret (de_call ((m_whole_sum_ok Z).mono (by decide)) hr gd (takes_of rfl rfl rfl rfl) Z.g_whole_sum rfl (da_cons (de_frz (dn_lc (own := [("value", 2), ("share", 3)]) rfl nd (di_seq (de_v 0)) (blkOk_by (by kernel_rfl)) (fun _ _ _ _ _ => pg_tp rfl (pgs_co (pg_nm nd) (pgs_co (pg_nm nd) (pgs_no)))) (fun _ _ _ _ _ => dts_nil) (fun _ _ _ _ _ => de_call ((m_product_ok Z).mono (by decide)) hr gd takes0 Z.g_product rfl (da_cons (de_v 3) (da_cons (de_call ((m_greatest_ok Z).mono (by decide)) hr gd takes0 Z.g_greatest rfl (da_cons (de_tup (da_cons (de_v 2) (da_cons (de_int) da_nil))) (da_cons (de_v 1) da_nil))) da_nil))))) da_nil)))

theorem sc_worths : FnScope ["offers", "found", "offer"] ["offers"] (defScope (top 27)) := ⟨rfl, rfl, rfl, by decide +kernel, rfl, by decide +kernel, by decide +kernel⟩
theorem m_worths_ok {P : Program} {w : World} {K : PySem.W.Frag} {mg : Str → Option Value} {base : Heap} (Z : Md K mg) : FnD P w K mg base 6 (He.ga K "worths") 1 m_worths := by
  obtain ⟨fd, F⟩ := Z.d_worths
  have nd := sc_worths.nd
  refine fnD_of F sc_worths rfl (binds_of F fun _ _ _ _ _ _ us hl => match us, hl with | [_], _ => rfl) fun cdv A outer s H E hr gd => ?_
  exact dss_cons (ds_set (i := 1) nd (de_thaw (dn_lst (da_cons (de_gtup (is := [0, 1]) rfl Z.g_NONE Z.t_NONE) da_nil)))) (dss_cons (ds_for (passes_of rfl) rfl (di_seq (de_rev (de_v 0))) (pg_nm nd) (dss_one (ds_exp (de_app (de_v 1) (da_cons (de_call ((m_with_floor_ok Z).mono (by decide)) hr gd (takes_of rfl rfl rfl rfl) Z.g_with_floor rfl (da_cons (de_v 2) (da_cons (de_item (u1 hr) (de_v 1) (de_neg (de_int))) da_nil))) da_nil))))) (dss_one (ds_ret (de_rev (de_v 1)))))

theorem sc_floors : FnScope ["deal"] ["deal"] (defScope (top 28)) := ⟨rfl, rfl, rfl, by decide +kernel, rfl, by decide +kernel, by decide +kernel⟩
theorem m_floors_ok {P : Program} {w : World} {K : PySem.W.Frag} {mg : Str → Option Value} {base : Heap} (Z : Md K mg) : FnD P w K mg base 7 (He.ga K "floors") 1 m_floors := by
  obtain ⟨fd, F⟩ := Z.d_floors
  have nd := sc_floors.nd
  refine fnD_of F sc_floors rfl (binds_of F fun _ _ _ _ _ _ us hl => match us, hl with | [_], _ => rfl) fun cdv A outer s H E hr gd => ?_
  exact dss_one (ds_ret (de_tf o_tup call_tuple_of rfl Z.b_tuple boot_tuple (da_cons (de_sl (de_call ((m_worths_ok Z).mono (by decide)) hr gd (takes_of rfl rfl rfl rfl) Z.g_worths rfl (da_cons (de_fld Z.c_Deal Z.n_Deal_offers (de_v 0)) da_nil)) (do_some (de_int)) do_none) da_nil)))

theorem sc__law_is : FnScope ["one", "other", "mine", "yours", "key"] ["one", "other"] (defScope (top 34)) := ⟨rfl, rfl, rfl, by decide +kernel, rfl, by decide +kernel, by decide +kernel⟩
theorem r__law_is_ok {P : Program} {w : World} {K : PySem.W.Frag} {mg : Str → Option Value} {base : Heap} (Z : Md K mg) : ∀ j : Nat, FnD P w K mg base (0 + 1 * j) (He.ga K "_law_is") 2 (r__law_is j)
  | 0 => by
    obtain ⟨fd, F⟩ := Z.d__law_is
    exact fnD_bad F (ps := ["one", "other"]) rfl (binds_of F fun _ _ _ _ _ _ us hl => match us, hl with | [_, _], _ => rfl)
  | j + 1 => by
    have ih := r__law_is_ok (P := P) (w := w) (base := base) Z j
    obtain ⟨fd, F⟩ := Z.d__law_is
    have nd := sc__law_is.nd
    refine FnD.mono (j := 0 + 1 * j + 0 + 1) (fnD_of F sc__law_is rfl (binds_of F fun _ _ _ _ _ _ us hl => match us, hl with | [_, _], _ => rfl) fun cdv A outer s H E hr gd => ?_) (by omega)
    exact dss_cons (ds_if (dt_bool (dw_or (dt_tru (de_bf (o_isi (own := []) own_nil) call_isi rfl Z.b_isinstance boot_isinstance (da_cons (de_v 0) (da_cons (de_ty rfl Z.b_bool boot_bool) da_nil)))) (dw_or1 (dt_tru (de_bf (o_isi (own := []) own_nil) call_isi rfl Z.b_isinstance boot_isinstance (da_cons (de_v 1) (da_cons (de_ty rfl Z.b_bool boot_bool) da_nil))))))) (dss_one (ds_ret (de_andX (de_bf (o_isi (own := []) own_nil) call_isi rfl Z.b_isinstance boot_isinstance (da_cons (de_v 0) (da_cons (de_ty rfl Z.b_bool boot_bool) da_nil))) (de_andX (de_bf (o_isi (own := []) own_nil) call_isi rfl Z.b_isinstance boot_isinstance (da_cons (de_v 1) (da_cons (de_ty rfl Z.b_bool boot_bool) da_nil))) (de_one (de_eq (u64 hr) (de_v 0) (de_v 1))))))) (dss_nil)) (dss_cons (ds_if (dt_bool (dw_or (dt_tru (de_bf (o_isi (own := []) own_nil) call_isi rfl Z.b_isinstance boot_isinstance (da_cons (de_v 0) (da_cons (de_ty rfl Z.b_tuple boot_tuple) da_nil)))) (dw_or1 (dt_tru (de_bf (o_isi (own := []) own_nil) call_isi rfl Z.b_isinstance boot_isinstance (da_cons (de_v 0) (da_cons (de_ty rfl Z.b_list boot_list) da_nil))))))) (dss_cons (ds_if (dt_bool (dw_or (dt_ne (u64 hr) (de_bf (o_isi (own := []) own_nil) call_isi rfl Z.b_isinstance boot_isinstance (da_cons (de_v 0) (da_cons (de_ty rfl Z.b_tuple boot_tuple) da_nil))) (de_bf (o_isi (own := []) own_nil) call_isi rfl Z.b_isinstance boot_isinstance (da_cons (de_v 1) (da_cons (de_ty rfl Z.b_tuple boot_tuple) da_nil)))) (dw_or1 (dt_ne (u64 hr) (de_bf (o_isi (own := []) own_nil) call_isi rfl Z.b_isinstance boot_isinstance (da_cons (de_v 0) (da_cons (de_ty rfl Z.b_list boot_list) da_nil))) (de_bf (o_isi (own := []) own_nil) call_isi rfl Z.b_isinstance boot_isinstance (da_cons (de_v 1) (da_cons (de_ty rfl Z.b_list boot_list) da_nil))))))) (dss_one (ds_ret (de_bl))) (dss_nil)) (dss_one (ds_ret (de_andX (de_eq (u64 hr) (de_bf o_len c_len rfl Z.b_len boot_len (da_cons (de_v 0) da_nil)) (de_bf o_len c_len rfl Z.b_len boot_len (da_cons (de_v 1) da_nil))) (de_one (de_bf o_all (cr_all rfl) rfl Z.b_all boot_all (da_cons (de_frz (dn_lc (own := [("mine", 2), ("yours", 3)]) rfl nd (di_zip rfl Z.b_zip (da_cons (de_v 0) (da_cons (de_v 1) da_nil))) (blkOk_by (by kernel_rfl)) (fun _ _ _ _ _ => pg_tp rfl (pgs_co (pg_nm nd) (pgs_co (pg_nm nd) (pgs_no)))) (fun _ _ _ _ _ => dts_nil) (fun _ _ _ _ _ => de_call (ih.mono (by omega)) hr gd takes0 Z.g__law_is rfl (da_cons (de_v 2) (da_cons (de_v 3) da_nil))))) da_nil))))))) (dss_nil)) (dss_cons (ds_if (dt_tru (de_bf (o_isi (own := []) own_nil) call_isi rfl Z.b_isinstance boot_isinstance (da_cons (de_v 0) (da_cons (de_ty rfl Z.b_dict boot_dict) da_nil)))) (dss_cons (ds_if (dt_bool (dw_or (dt_not (dt_tru (de_bf (o_isi (own := []) own_nil) call_isi rfl Z.b_isinstance boot_isinstance (da_cons (de_v 1) (da_cons (de_ty rfl Z.b_dict boot_dict) da_nil))))) (dw_or1 (dt_ne (u64 hr) (de_bf o_len c_len rfl Z.b_len boot_len (da_cons (de_v 0) da_nil)) (de_bf o_len c_len rfl Z.b_len boot_len (da_cons (de_v 1) da_nil)))))) (dss_one (ds_ret (de_bl))) (dss_nil)) (dss_one (ds_ret (de_bf o_all (cr_all rfl) rfl Z.b_all boot_all (da_cons (de_frz (dn_lc (own := [("key", 4)]) rfl nd (di_seq (de_v 0)) (blkOk_by (by kernel_rfl)) (fun _ _ _ _ _ => pg_nm nd) (fun _ _ _ _ _ => dts_nil) (fun _ _ _ _ _ => de_andX (de_in (u65 hr) (de_v 4) (de_v 1)) (de_one (de_call (ih.mono (by omega)) hr gd takes0 Z.g__law_is rfl (da_cons (de_item (u1 hr) (de_v 0) (de_v 4)) (da_cons (de_item (u1 hr) (de_v 1) (de_v 4)) da_nil))))))) da_nil))))) (dss_nil)) (dss_one (ds_ret (de_andX (de_eq (u64 hr) (de_bf (o_isi (own := []) own_nil) call_isi rfl Z.b_isinstance boot_isinstance (da_cons (de_v 0) (da_cons (de_ty rfl Z.b_int boot_int) da_nil))) (de_bf (o_isi (own := []) own_nil) call_isi rfl Z.b_isinstance boot_isinstance (da_cons (de_v 1) (da_cons (de_ty rfl Z.b_int boot_int) da_nil)))) (de_one (de_eq (u64 hr) (de_v 0) (de_v 1))))))))
theorem m__law_is_ok {P : Program} {w : World} {K : PySem.W.Frag} {mg : Str → Option Value} {base : Heap} (Z : Md K mg) : FnD P w K mg base 12 (He.ga K "_law_is") 2 m__law_is := r__law_is_ok Z 12

theorem sc_worth : FnScope ["deal"] ["deal"] (defScope (top 29)) := ⟨rfl, rfl, rfl, by decide +kernel, rfl, by decide +kernel, by decide +kernel⟩
theorem m_worth_ok {P : Program} {w : World} {K : PySem.W.Frag} {mg : Str → Option Value} {base : Heap} (Z : Md K mg) : FnD P w K mg base 7 (He.ga K "worth") 1 m_worth := by
  obtain ⟨fd, F⟩ := Z.d_worth
  have nd := sc_worth.nd
  refine fnD_of F sc_worth rfl (binds_of F fun _ _ _ _ _ _ us hl => match us, hl with | [_], _ => rfl) fun cdv A outer s H E hr gd => ?_
  exact dss_one (ds_ret (de_item (u1 hr) (de_call ((m_worths_ok Z).mono (by decide)) hr gd (takes_of rfl rfl rfl rfl) Z.g_worths rfl (da_cons (de_fld Z.c_Deal Z.n_Deal_offers (de_v 0)) da_nil)) (de_int)))

theorem sc__law_by_rule : FnScope ["offers", "rule", "found", "offer", "flags", "here", "at", "value", "share"] ["offers", "rule"] (defScope (top 43)) := ⟨rfl, rfl, rfl, by decide +kernel, rfl, by decide +kernel, by decide +kernel⟩
theorem m__law_by_rule_ok {P : Program} {w : World} {K : PySem.W.Frag} {mg : Str → Option Value} {base : Heap} (Z : Md K mg) : FnD P w K mg base 3 (He.ga K "_law_by_rule") 2 m__law_by_rule := by
  obtain ⟨fd, F⟩ := Z.d__law_by_rule
  have nd := sc__law_by_rule.nd
  refine fnD_of F sc__law_by_rule rfl (binds_of F fun _ _ _ _ _ _ us hl => match us, hl with | [_, _], _ => rfl) fun cdv A outer s H E hr gd => ?_
  exact dss_cons (ds_set (i := 2) nd (de_tup (da_cons (de_int) (da_cons (de_int) da_nil)))) (dss_cons (ds_for (passes_of rfl) rfl (di_seq (de_rev (de_frz (dn_listZip rfl rfl Z.b_list rfl Z.b_zip (da_cons (de_v 0) (da_cons (de_v 1) da_nil)))))) (pg_tp rfl (pgs_co (pg_nm nd) (pgs_co (pg_nm nd) (pgs_no)))) (dss_cons (ds_set (i := 5) nd (de_tup (da_cons (de_int) (da_cons (de_int) da_nil)))) (dss_cons (ds_for (passes_of rfl) rfl (di_enumA rfl Z.b_enumerate (da_cons (de_v 3) da_nil)) (pg_tp rfl (pgs_co (pg_nm nd) (pgs_co (pg_tp rfl (pgs_co (pg_nm nd) (pgs_co (pg_nm nd) (pgs_no)))) (pgs_no)))) (dss_one (ds_set (i := 5) nd (de_call ((m__law_sum_ok Z).mono (by decide)) hr gd (takes_of rfl rfl rfl rfl) Z.g__law_sum rfl (da_cons (de_v 5) (da_cons (de_call ((m__law_prod_ok Z).mono (by decide)) hr gd (takes_of rfl rfl rfl rfl) Z.g__law_prod rfl (da_cons (de_v 8) (da_cons (de_if (dt_tru (de_item (u1 hr) (de_v 4) (de_v 6))) (de_tup (da_cons (de_v 7) (da_cons (de_int) da_nil))) (de_v 2)) da_nil))) da_nil)))))) (dss_one (ds_set (i := 2) nd (de_v 5)))))) (dss_one (ds_ret (de_v 2))))

theorem sc_law_k12 : FnScope ["script", "hand", "turn", "offers", "deal", "due", "told", "rule", "offer", "floor", "again", "coin", "value", "share", "pair"] ["script"] (defScope (top 44)) := ⟨rfl, rfl, rfl, by decide +kernel, rfl, by decide +kernel, by decide +kernel⟩
theorem m_law_k12_ok {P : Program} {w : World} {K : PySem.W.Frag} {mg : Str → Option Value} {base : Heap} (Z : Md K mg) : FnD P w K mg base 13 (He.ga K "law") 1 m_law_k12 := by
  obtain ⟨fd, F⟩ := Z.d_law
  have nd := sc_law_k12.nd
  refine fnD_of F sc_law_k12 rfl (binds_of F fun _ _ _ _ _ _ us hl => match us, hl with | [_], _ => rfl) fun cdv A outer s H E hr gd => ?_
  exact dss_cons (ds_set (i := 1) nd (de_call ((m__law_hand_v2_ok Z).mono (by decide)) hr gd (takes_of rfl rfl rfl rfl) Z.g__law_hand rfl (da_cons (de_v 0) da_nil))) (dss_cons (ds_for (passes_of rfl) rfl (di_range1 rfl Z.b_range (da_cons (de_int) da_nil)) (pg_nm nd) (dss_cons (ds_set (i := 3) nd (de_call ((m__law_deal_ok Z).mono (by decide)) hr gd (takes_of rfl rfl rfl rfl) Z.g__law_deal rfl (da_cons (de_v 1) (da_cons (de_int) (da_cons (de_int) da_nil))))) (dss_cons (ds_par2 (i := 4) (j := 5) rfl nd (da_cons (de_make (k := 11) ((m_Deal___init___ok Z).mono (by decide)) Z.mk_Deal hr gd (takes_of rfl rfl rfl rfl) Z.g_Deal rfl (da_cons (de_v 3) da_nil)) (da_cons (de_call ((m__law_hopes_ok Z).mono (by decide)) hr gd (takes_of rfl rfl rfl rfl) Z.g__law_hopes rfl (da_cons (de_v 3) da_nil)) da_nil))) (dss_cons (ds_set (i := 6) nd (de_call ((m_floors_ok Z).mono (by decide)) hr gd (takes_of rfl rfl rfl rfl) Z.g_floors rfl (da_cons (de_v 4) da_nil))) (dss_cons (ds_if (dt_bool (dw_or (dt_not (dt_tru (de_call ((m__law_is_ok Z).mono (by decide)) hr gd (takes_of rfl rfl rfl rfl) Z.g__law_is rfl (da_cons (de_v 6) (da_cons (de_tf o_tup call_tuple_of rfl Z.b_tuple boot_tuple (da_cons (de_sl (de_v 5) (do_some (de_int)) do_none) da_nil)) da_nil))))) (dw_or1 (dt_not (dt_tru (de_call ((m__law_is_ok Z).mono (by decide)) hr gd (takes_of rfl rfl rfl rfl) Z.g__law_is rfl (da_cons (de_call ((m_worth_ok Z).mono (by decide)) hr gd (takes_of rfl rfl rfl rfl) Z.g_worth rfl (da_cons (de_v 4) da_nil)) (da_cons (de_item (u1 hr) (de_v 5) (de_int)) da_nil)))))))) (dss_one (ds_ret (de_bl))) (dss_nil)) (dss_cons (ds_set (i := 7) nd (de_thaw (dn_lst da_nil))) (dss_cons (ds_for (passes_of rfl) rfl (di_zip rfl Z.b_zip (da_cons (de_v 3) (da_cons (de_v 6) da_nil))) (pg_tp rfl (pgs_co (pg_nm nd) (pgs_co (pg_nm nd) (pgs_no)))) (dss_one (ds_exp (de_app (de_v 7) (da_cons (de_frz (dn_lc (own := [("value", 12), ("share", 13)]) rfl nd (di_seq (de_v 8)) (blkOk_by (by kernel_rfl)) (fun _ _ _ _ _ => pg_tp rfl (pgs_co (pg_nm nd) (pgs_co (pg_nm nd) (pgs_no)))) (fun _ _ _ _ _ => dts_nil) (fun _ _ _ _ _ => de_notX (de_call ((m__law_less_ok Z).mono (by decide)) hr gd takes0 Z.g__law_less rfl (da_cons (de_tup (da_cons (de_v 12) (da_cons (de_int) da_nil))) (da_cons (de_v 9) da_nil)))))) da_nil))))) (dss_cons (ds_if (dt_ne (u64 hr) (de_call ((m__law_by_rule_ok Z).mono (by decide)) hr gd (takes_of rfl rfl rfl rfl) Z.g__law_by_rule rfl (da_cons (de_v 3) (da_cons (de_v 7) da_nil))) (de_item (u1 hr) (de_v 5) (de_int))) (dss_one (ds_ret (de_bl))) (dss_nil)) (dss_one (ds_for (passes_of rfl) rfl (di_range1 rfl Z.b_range (da_cons (de_int) da_nil)) (pg_nm nd) (dss_cons (ds_set (i := 7) nd (de_thaw (dn_lst da_nil))) (dss_cons (ds_for (passes_of rfl) rfl (di_seq (de_v 3)) (pg_nm nd) (dss_one (ds_exp (de_app (de_v 7) (da_cons (de_frz (dn_lc (own := [("pair", 14)]) rfl nd (di_seq (de_v 8)) (blkOk_by (by kernel_rfl)) (fun _ _ _ _ _ => pg_nm nd) (fun _ _ _ _ _ => dts_nil) (fun _ _ _ _ _ => de_eq (u64 hr) (de_call ((m__law_draw_v3_ok Z).mono (by decide)) hr gd takes0 Z.g__law_draw rfl (da_cons (de_v 1) (da_cons (de_int) da_nil))) (de_int)))) da_nil))))) (dss_one (ds_if (dt_tru (de_call ((m__law_less_ok Z).mono (by decide)) hr gd (takes_of rfl rfl rfl rfl) Z.g__law_less rfl (da_cons (de_item (u1 hr) (de_v 5) (de_int)) (da_cons (de_call ((m__law_by_rule_ok Z).mono (by decide)) hr gd (takes_of rfl rfl rfl rfl) Z.g__law_by_rule rfl (da_cons (de_v 3) (da_cons (de_v 7) da_nil))) da_nil)))) (dss_one (ds_ret (de_bl))) (dss_nil))))))))))))))) (dss_cons (ds_set (i := 11) nd (de_tup (da_cons (de_tup (da_cons (de_int) (da_cons (de_tup (da_cons (de_int) (da_cons (de_int) da_nil))) da_nil))) (da_cons (de_tup (da_cons (de_int) (da_cons (de_tup (da_cons (de_int) (da_cons (de_int) da_nil))) da_nil))) da_nil)))) (dss_one (ds_ret (de_andX (de_eq (u64 hr) (de_call ((m_floors_ok Z).mono (by decide)) hr gd (takes_of rfl rfl rfl rfl) Z.g_floors rfl (da_cons (de_make (k := 11) ((m_Deal___init___ok Z).mono (by decide)) Z.mk_Deal hr gd (takes_of rfl rfl rfl rfl) Z.g_Deal rfl (da_cons (de_tup (da_cons (de_v 11) (da_cons (de_v 11) da_nil))) da_nil)) da_nil)) (de_tup (da_cons (de_tup (da_cons (de_int) (da_cons (de_int) da_nil))) (da_cons (de_tup (da_cons (de_int) (da_cons (de_int) da_nil))) da_nil)))) (de_one (de_eq (u64 hr) (de_call ((m_worth_ok Z).mono (by decide)) hr gd (takes_of rfl rfl rfl rfl) Z.g_worth rfl (da_cons (de_make (k := 11) ((m_Deal___init___ok Z).mono (by decide)) Z.mk_Deal hr gd (takes_of rfl rfl rfl rfl) Z.g_Deal rfl (da_cons (de_tup (da_cons (de_v 11) (da_cons (de_v 11) da_nil))) da_nil)) da_nil)) (de_tup (da_cons (de_int) (da_cons (de_int) da_nil))))))))))

/-! ### the head -/
def dd_Deal___init__ : He.DefD := ⟨("Deal", some "__init__"), "__init__", "Deal.__init__", defArgs (inClass (top 25) 0), defBody (inClass (top 25) 0), defScope (inClass (top 25) 0), [], []⟩
def dd__law_by_rule : He.DefD := ⟨("_law_by_rule", none), "_law_by_rule", "_law_by_rule", defArgs (top 43), defBody (top 43), defScope (top 43), [], []⟩
def dd__law_deal : He.DefD := ⟨("_law_deal", none), "_law_deal", "_law_deal", defArgs (top 41), defBody (top 41), defScope (top 41), [], []⟩
def dd__law_draw : He.DefD := ⟨("_law_draw", none), "_law_draw", "_law_draw", defArgs (top 32), defBody (top 32), defScope (top 32), [], []⟩
def dd__law_hand : He.DefD := ⟨("_law_hand", none), "_law_hand", "_law_hand", defArgs (top 31), defBody (top 31), defScope (top 31), [], []⟩
def dd__law_hopes : He.DefD := ⟨("_law_hopes", none), "_law_hopes", "_law_hopes", defArgs (top 42), defBody (top 42), defScope (top 42), [], []⟩
def dd__law_is : He.DefD := ⟨("_law_is", none), "_law_is", "_law_is", defArgs (top 34), defBody (top 34), defScope (top 34), [], []⟩
def dd__law_less : He.DefD := ⟨("_law_less", none), "_law_less", "_law_less", defArgs (top 38), defBody (top 38), defScope (top 38), [], []⟩
def dd__law_low : He.DefD := ⟨("_law_low", none), "_law_low", "_law_low", defArgs (top 35), defBody (top 35), defScope (top 35), [], []⟩
def dd__law_most : He.DefD := ⟨("_law_most", none), "_law_most", "_law_most", defArgs (top 39), defBody (top 39), defScope (top 39), [], []⟩
def dd__law_offer : He.DefD := ⟨("_law_offer", none), "_law_offer", "_law_offer", defArgs (top 40), defBody (top 40), defScope (top 40), [], []⟩
def dd__law_prod : He.DefD := ⟨("_law_prod", none), "_law_prod", "_law_prod", defArgs (top 37), defBody (top 37), defScope (top 37), [], []⟩
def dd__law_some : He.DefD := ⟨("_law_some", none), "_law_some", "_law_some", defArgs (top 33), defBody (top 33), defScope (top 33), [], []⟩
def dd__law_sum : He.DefD := ⟨("_law_sum", none), "_law_sum", "_law_sum", defArgs (top 36), defBody (top 36), defScope (top 36), [], []⟩
def dd_common : He.DefD := ⟨("common", none), "common", "common", defArgs (top 12), defBody (top 12), defScope (top 12), [], []⟩
def dd_floors : He.DefD := ⟨("floors", none), "floors", "floors", defArgs (top 28), defBody (top 28), defScope (top 28), [], []⟩
def dd_greatest : He.DefD := ⟨("greatest", none), "greatest", "greatest", defArgs (top 17), defBody (top 17), defScope (top 17), [], []⟩
def dd_is_fraction : He.DefD := ⟨("is_fraction", none), "is_fraction", "is_fraction", defArgs (top 19), defBody (top 19), defScope (top 19), [], []⟩
def dd_is_integer : He.DefD := ⟨("is_integer", none), "is_integer", "is_integer", defArgs (top 1), defBody (top 1), defScope (top 1), [], []⟩
def dd_is_less : He.DefD := ⟨("is_less", none), "is_less", "is_less", defArgs (top 16), defBody (top 16), defScope (top 16), [], []⟩
def dd_is_offer : He.DefD := ⟨("is_offer", none), "is_offer", "is_offer", defArgs (top 22), defBody (top 22), defScope (top 22), [], []⟩
def dd_is_share : He.DefD := ⟨("is_share", none), "is_share", "is_share", defArgs (top 20), defBody (top 20), defScope (top 20), [], []⟩
def dd_is_tuple : He.DefD := ⟨("is_tuple", none), "is_tuple", "is_tuple", defArgs (top 3), defBody (top 3), defScope (top 3), [], []⟩
def dd_is_value_pair : He.DefD := ⟨("is_value_pair", none), "is_value_pair", "is_value_pair", defArgs (top 21), defBody (top 21), defScope (top 21), [], []⟩
def dd_is_within : He.DefD := ⟨("is_within", none), "is_within", "is_within", defArgs (top 2), defBody (top 2), defScope (top 2), [], []⟩
def dd_law : He.DefD := ⟨("law", none), "law", "law", defArgs (top 44), defBody (top 44), defScope (top 44), [], []⟩
def dd_lowest : He.DefD := ⟨("lowest", none), "lowest", "lowest", defArgs (top 13), defBody (top 13), defScope (top 13), [], []⟩
def dd_plus : He.DefD := ⟨("plus", none), "plus", "plus", defArgs (top 14), defBody (top 14), defScope (top 14), [], []⟩
def dd_product : He.DefD := ⟨("product", none), "product", "product", defArgs (top 15), defBody (top 15), defScope (top 15), [], []⟩
def dd_whole_sum : He.DefD := ⟨("whole_sum", none), "whole_sum", "whole_sum", defArgs (top 18), defBody (top 18), defScope (top 18), [], []⟩
def dd_with_floor : He.DefD := ⟨("with_floor", none), "with_floor", "with_floor", defArgs (top 26), defBody (top 26), defScope (top 26), [], []⟩
def dd_worth : He.DefD := ⟨("worth", none), "worth", "worth", defArgs (top 29), defBody (top 29), defScope (top 29), [], []⟩
def dd_worths : He.DefD := ⟨("worths", none), "worths", "worths", defArgs (top 27), defBody (top 27), defScope (top 27), [], []⟩
def fn : List He.DefD := [dd_Deal___init__, dd__law_by_rule, dd__law_deal, dd__law_draw, dd__law_hand, dd__law_hopes, dd__law_is, dd__law_less, dd__law_low, dd__law_most, dd__law_offer, dd__law_prod, dd__law_some, dd__law_sum, dd_common, dd_floors, dd_greatest, dd_is_fraction, dd_is_integer, dd_is_less, dd_is_offer, dd_is_share, dd_is_tuple, dd_is_value_pair, dd_is_within, dd_law, dd_lowest, dd_plus, dd_product, dd_whole_sum, dd_with_floor, dd_worth, dd_worths]
def fa : List He.Fa := [.cls "Deal", .free "abs", .free "all", .free "bool", .free "dict", .free "enumerate", .free "int", .free "isinstance", .free "len", .free "list", .free "range", .free "set", .free "sorted", .free "sum", .free "tuple", .free "zip", .glo "Deal", .glo "_law_by_rule", .glo "_law_deal", .glo "_law_draw", .glo "_law_hand", .glo "_law_hopes", .glo "_law_is", .glo "_law_less", .glo "_law_low", .glo "_law_most", .glo "_law_offer", .glo "_law_prod", .glo "_law_some", .glo "_law_sum", .glo "common", .glo "floors", .glo "greatest", .glo "is_fraction", .glo "is_integer", .glo "is_less", .glo "is_offer", .glo "is_share", .glo "is_tuple", .glo "is_value_pair", .glo "is_within", .glo "law", .glo "lowest", .glo "plus", .glo "product", .glo "whole_sum", .glo "with_floor", .glo "worth", .glo "worths", .int "MOST_OFFERS" 8, .int "MOST_PAIRS" 5, .int "MOST_VALUE" 1000, .mkr "Deal", .noat "Deal" "offers", .glo "NONE", .glo "WHOLE"]
def ex (K : PySem.W.Frag) : Bool := (He.tupB K "NONE" ([0, 1].map He.Dv.int)) && (He.tupB K "WHOLE" ([1, 1].map He.Dv.int)) && (ownB own K)
theorem ex_0 {K : PySem.W.Frag} (h : ex K = true) : He.tupB K "NONE" ([0, 1].map He.Dv.int) = true := (He.ba (He.ba h).1).1
theorem ex_1 {K : PySem.W.Frag} (h : ex K = true) : He.tupB K "WHOLE" ([1, 1].map He.Dv.int) = true := (He.ba (He.ba h).1).2
theorem ex_2 {K : PySem.W.Frag} (h : ex K = true) : ownB own K = true := (He.ba h).2
theorem own_ok {K : PySem.W.Frag} (h : ex K = true) : OwnF K own := ownB_ok (ex_2 h)
theorem md_of {K : PySem.W.Frag} {mg : Str → Option Value} {h : Heap} (X : K.In h) (G : h.Ns mainGlobals mg) (c : SaysE fa fn ex K) : Md K mg := ⟨He.cls_ok (c.d.fact 0 rfl),
  He.free_ok X G (c.d.fact 1 rfl),
  He.free_ok X G (c.d.fact 2 rfl),
  He.free_ok X G (c.d.fact 3 rfl),
  He.free_ok X G (c.d.fact 4 rfl),
  He.free_ok X G (c.d.fact 5 rfl),
  He.free_ok X G (c.d.fact 6 rfl),
  He.free_ok X G (c.d.fact 7 rfl),
  He.free_ok X G (c.d.fact 8 rfl),
  He.free_ok X G (c.d.fact 9 rfl),
  He.free_ok X G (c.d.fact 10 rfl),
  He.free_ok X G (c.d.fact 11 rfl),
  He.free_ok X G (c.d.fact 12 rfl),
  He.free_ok X G (c.d.fact 13 rfl),
  He.free_ok X G (c.d.fact 14 rfl),
  He.free_ok X G (c.d.fact 15 rfl),
  He.glo_ok X G (c.d.fact 16 rfl),
  He.glo_ok X G (c.d.fact 17 rfl),
  He.glo_ok X G (c.d.fact 18 rfl),
  He.glo_ok X G (c.d.fact 19 rfl),
  He.glo_ok X G (c.d.fact 20 rfl),
  He.glo_ok X G (c.d.fact 21 rfl),
  He.glo_ok X G (c.d.fact 22 rfl),
  He.glo_ok X G (c.d.fact 23 rfl),
  He.glo_ok X G (c.d.fact 24 rfl),
  He.glo_ok X G (c.d.fact 25 rfl),
  He.glo_ok X G (c.d.fact 26 rfl),
  He.glo_ok X G (c.d.fact 27 rfl),
  He.glo_ok X G (c.d.fact 28 rfl),
  He.glo_ok X G (c.d.fact 29 rfl),
  He.glo_ok X G (c.d.fact 30 rfl),
  He.glo_ok X G (c.d.fact 31 rfl),
  He.glo_ok X G (c.d.fact 32 rfl),
  He.glo_ok X G (c.d.fact 33 rfl),
  He.glo_ok X G (c.d.fact 34 rfl),
  He.glo_ok X G (c.d.fact 35 rfl),
  He.glo_ok X G (c.d.fact 36 rfl),
  He.glo_ok X G (c.d.fact 37 rfl),
  He.glo_ok X G (c.d.fact 38 rfl),
  He.glo_ok X G (c.d.fact 39 rfl),
  He.glo_ok X G (c.d.fact 40 rfl),
  He.glo_ok X G (c.d.fact 41 rfl),
  He.glo_ok X G (c.d.fact 42 rfl),
  He.glo_ok X G (c.d.fact 43 rfl),
  He.glo_ok X G (c.d.fact 44 rfl),
  He.glo_ok X G (c.d.fact 45 rfl),
  He.glo_ok X G (c.d.fact 46 rfl),
  He.glo_ok X G (c.d.fact 47 rfl),
  He.glo_ok X G (c.d.fact 48 rfl),
  He.int_ok X G (c.d.fact 49 rfl),
  He.int_ok X G (c.d.fact 50 rfl),
  He.int_ok X G (c.d.fact 51 rfl),
  He.mkr_ok (c.d.fact 52 rfl),
  He.noat_ok (c.d.fact 53 rfl),
  He.glo_ok X G (c.d.fact 54 rfl),
  tup_kt (ex_0 c.e),
  He.glo_ok X G (c.d.fact 55 rfl),
  tup_kt (ex_1 c.e),
  c.d.def_ 0 (d := dd_Deal___init__) rfl,
  c.d.def_ 1 (d := dd__law_by_rule) rfl,
  c.d.def_ 2 (d := dd__law_deal) rfl,
  c.d.def_ 3 (d := dd__law_draw) rfl,
  c.d.def_ 4 (d := dd__law_hand) rfl,
  c.d.def_ 5 (d := dd__law_hopes) rfl,
  c.d.def_ 6 (d := dd__law_is) rfl,
  c.d.def_ 7 (d := dd__law_less) rfl,
  c.d.def_ 8 (d := dd__law_low) rfl,
  c.d.def_ 9 (d := dd__law_most) rfl,
  c.d.def_ 10 (d := dd__law_offer) rfl,
  c.d.def_ 11 (d := dd__law_prod) rfl,
  c.d.def_ 12 (d := dd__law_some) rfl,
  c.d.def_ 13 (d := dd__law_sum) rfl,
  c.d.def_ 14 (d := dd_common) rfl,
  c.d.def_ 15 (d := dd_floors) rfl,
  c.d.def_ 16 (d := dd_greatest) rfl,
  c.d.def_ 17 (d := dd_is_fraction) rfl,
  c.d.def_ 18 (d := dd_is_integer) rfl,
  c.d.def_ 19 (d := dd_is_less) rfl,
  c.d.def_ 20 (d := dd_is_offer) rfl,
  c.d.def_ 21 (d := dd_is_share) rfl,
  c.d.def_ 22 (d := dd_is_tuple) rfl,
  c.d.def_ 23 (d := dd_is_value_pair) rfl,
  c.d.def_ 24 (d := dd_is_within) rfl,
  c.d.def_ 25 (d := dd_law) rfl,
  c.d.def_ 26 (d := dd_lowest) rfl,
  c.d.def_ 27 (d := dd_plus) rfl,
  c.d.def_ 28 (d := dd_product) rfl,
  c.d.def_ 29 (d := dd_whole_sum) rfl,
  c.d.def_ 30 (d := dd_with_floor) rfl,
  c.d.def_ 31 (d := dd_worth) rfl,
  c.d.def_ 32 (d := dd_worths) rfl,
  own_ok c.e⟩
abbrev R0 : PySem.W.OpenRow := PySem.W.OpenLaw.row PySem.Challenge.rw_openorstop_k12_whole_floors_and_worth_by
abbrev hk : PySem.W.Hook := hookE 6 fa fn ex
def ob (s : PySem.W.SharedT) : AlE := obsE 6 fa fn ex (HandSHeadRun.getT s)
theorem ob_eq (s : PySem.W.SharedT) : ob s = hk.obs s.abs := obsE_eq (HandSHeadRun.getT_eq s)
abbrev loose0 : List Str := ["is_integer", "is_within", "is_tuple", "ChanceError", "BadDeal", "MOST_VALUE", "MOST_PAIRS", "NONE", "WHOLE", "common", "lowest", "plus"]
abbrev loose1 : List Str := ["product", "is_less", "greatest", "whole_sum", "is_fraction", "is_share", "is_value_pair", "is_offer", "MOST_OFFERS", "Deal", "with_floor", "worths"]
abbrev loose2 : List Str := ["floors", "worth", "_law_hand", "_law_draw", "_law_some", "_law_is", "_law_low", "_law_sum", "_law_prod", "_law_less", "_law_most", "_law_offer"]
abbrev loose3 : List Str := ["_law_deal", "_law_hopes", "_law_by_rule"]
abbrev loose : List Str := loose0 ++ loose1 ++ loose2 ++ loose3
theorem run (w : World) : HandSHeadRun.RunEq R0 (PySem.W.view R0.prog [44]) hk ob 8000 loose w := by
  intro os
  kernel_rfl
end Law_k12
local instance : Dl.Tb := ⟨fun _ => []⟩
open PySem PySem.W PySem.Calls PyProof.Rows
theorem Law_k12_of (hm : ∀ ns : List Int, ns.length ≤ 63 → (∀ z ∈ ns, Builtin.Int.intBits z ≤ 1048576) → ∃ h', Sh.m_law_k12 [.scr ns] [] = .ok (.bl true) h') : PySem.Challenge.rw_openorstop_k12_whole_floors_and_worth_by.Holds := by
  w_on; o_law
  refine HandSHeadRun.head_any (r := OpenLaw.row PySem.Challenge.rw_openorstop_k12_whole_floors_and_worth_by) (q := view (OpenLaw.row PySem.Challenge.rw_openorstop_k12_whole_floors_and_worth_by).prog [44]) (H := Law_k12.hk) (ob := Law_k12.ob) (M := 8000) (loose := Law_k12.loose) (d := HandSHeadRun.topDef (OpenLaw.row PySem.Challenge.rw_openorstop_k12_whole_floors_and_worth_by).prog 44) (kwd := []) Law_k12.ob_eq
    (by kernel_rfl) (fun s => by kernel_rfl) Law_k12.run (by kernel_rfl) (by kernel_rfl) (by kernel_rfl) (by rfl) (by first | assumption | decide +kernel) (by decide +kernel) ⟨rfl, rfl, rfl, rfl, rfl, by decide +kernel⟩ ?hw ?hc
  case hw => w_witness2
  case hc =>
    refine Dl.walk_law (l := PySem.Challenge.rw_openorstop_k12_whole_floors_and_worth_by) (n := 63) (k := 13) (m := Sh.m_law_k12) (fun _ => rfl) rfl (by decide) (by kernel_rfl) ⟨rfl, by decide, by decide⟩ ?F hm
    intro w mg fa h Y G hmg0
    obtain ⟨K, KX, c⟩ := Y
    have Z := Law_k12.md_of KX G c
    have hmg : mg ("law" : PySem.Str) = some (.ref fa) := by
      have e : (HandSHeadRun.topDef (OpenLaw.row PySem.Challenge.rw_openorstop_k12_whole_floors_and_worth_by).prog 44).name = ("law" : PySem.Str) := by kernel_rfl
      rw [← e]
      exact hmg0
    have e := hmg.symm.trans Z.g_law
    cases e
    exact ⟨K, KX, fun base _ _ => Law_k12.m_law_k12_ok Z⟩

theorem PySem.Challenge.cw_openorstop_k12_whole_floors_and_worth_by_holds : PySem.Challenge.rw_openorstop_k12_whole_floors_and_worth_by.Holds :=
  Law_k12_of fun ns hl hb => Pl.law_k12 ns hl hb
