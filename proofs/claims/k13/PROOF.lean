import PyProof.Rows.All
import Wide.All
import OpenK.AllK
import Wide.FinOn
import HandS.ForMost
import HandS.Walk
import HandS.TupAny
import HandS.Wide
import HandS.WideBits
import HandS.Zip
import HandS.Exc
import HandS.WordsExc
import HandS.Defaults
import HandS.HeadHook2
import HandS.Deep
import HandS.TupMul
import HandS.Style
import HandS.Conv
import HandS.Flow
import HandS.ExcOwn
import HandS.IsInst
import HandS.More
import HandS.Small
import HandS.WordsDict
import HandS.SortInts
import PyProof.ReprRoads
import HandS.RaiseMore
import HandS.EndBits
import HandS.HeadEnd
import HandS.Head0
import HandS.Head1
import HandS.Head2
import HandS.Words
import KE.SortData
import KE.GoesEnum
import KE.GoesMore
import HandS.Strs
import HandS.SetFor
import HandS.Dict
import PyProof.FitsInt
import PyProof.Rows.ReprOcc
import PySem.Challenge.RW_openorstop_k13_whole_one_floor
set_option Elab.async false
set_option linter.all false
set_option maxHeartbeats 4000000
set_option maxRecDepth 100000
/-! The D layer, 1: Python's values as plain data, computations as plain functions, what they have to do with the hand layer. -/
namespace Dl
open PySem PySem.Spec PyProof.Rows L2

/-! ### data -/
inductive D where
  | non | bl (b : Bool) | int (i : Int) | str (x : Str) | ty (n : String) | glo (x : Str)
  | tup (xs : List D) | lst (xs : List D) | obj (n : Nat) | scr (ns : List Int)
inductive DO where
  | lst (xs : List D)
  | ins (C : Str) (fs : List (Str × D))
  | dI (kvs : List (Key × D))
abbrev Hs := List DO
inductive R (α : Type) where
  | ok (a : α) (h : Hs) | exc (C : Str) (fs : List (Str × D)) (h : Hs) | bad
abbrev M (α : Type) := Hs → R α
def R.bind {α β : Type} (r : R α) (f : α → M β) : R β := match r with
  | .ok a h => f a h
  | .exc C fs h => .exc C fs h
  | .bad => .bad
abbrev Env := List (Option D)

/-! ### what stands for what -/
/-- where the changing things stand, by number; lists that are being made -/
structure Ix where
  os : List Addr
  rs : List Addr
def Ix.fz (ι : Ix) (a : Addr) : Prop := a ∉ ι.os ∧ a ∉ ι.rs
def KT (K : PySem.W.Frag) (a : Addr) (xs : List V) : Prop :=
  ∃ (o : Obj) (its : Array Value) (n : Nat), K.lookup a = some o ∧ o.cls = .type "tuple" ∧ o.data = .seq its n ∧ its.size ≤ sizeLine ∧ Vals xs its.toList
def KL (K : PySem.W.Frag) (a : Addr) (xs : List V) : Prop :=
  ∃ (o : Obj) (its : Array Value) (n : Nat), K.lookup a = some o ∧ o.cls = .type "list" ∧ o.dict = none ∧ o.data = .seq its n ∧ its.size ≤ sizeLine ∧ Vals xs its.toList
def TupAt (K : PySem.W.Frag) (ι : Ix) (H : Hp) (a : Addr) (xs : List V) : Prop := (ι.fz a ∧ Rd H a (.tup xs)) ∨ KT K a xs
def LstAt (ι : Ix) (H : Hp) (a : Addr) (xs : List V) : Prop := ι.fz a ∧ H a = some (.lst xs)
/-- the script: it is read alone -/
def ScrAt (K : PySem.W.Frag) (ι : Ix) (H : Hp) (a : Addr) (xs : List V) : Prop := (ι.fz a ∧ Rd H a (.lst xs)) ∨ KL K a xs
mutual
inductive RD (K : PySem.W.Frag) (ι : Ix) (H : Hp) : D → V → Prop
  | non : RD K ι H .non .non
  | bl (b : Bool) : RD K ι H (.bl b) (.bl b)
  | int (i : Int) : RD K ι H (.int i) (.int i)
  | str (x : Str) : RD K ι H (.str x) (.str x)
  | ty (n : String) : RD K ι H (.ty n) (.ty n)
  | glo (x : Str) : RD K ι H (.glo x) (.ref (He.ga K x))
  | tup {a : Addr} {vs : List V} {xs : List D} : TupAt K ι H a vs → RDs K ι H xs vs → RD K ι H (.tup xs) (.ref a)
  | lst {a : Addr} {vs : List V} {xs : List D} : LstAt ι H a vs → RDs K ι H xs vs → RD K ι H (.lst xs) (.ref a)
  | obj {n : Nat} {a : Addr} : ι.os[n]? = some a → RD K ι H (.obj n) (.ref a)
  | scr {a : Addr} {ns : List Int} : ScrAt K ι H a (ns.map V.int) → RD K ι H (.scr ns) (.ref a)
inductive RDs (K : PySem.W.Frag) (ι : Ix) (H : Hp) : List D → List V → Prop
  | nil : RDs K ι H [] []
  | cons {x : D} {xs : List D} {v : V} {vs : List V} : RD K ι H x v → RDs K ι H xs vs → RDs K ι H (x :: xs) (v :: vs)
end
/-- fields, pairs of a dict -/
def RF {κ : Type} (K : PySem.W.Frag) (ι : Ix) (H : Hp) : List (κ × D) → List (κ × V) → Prop := Paired fun (p : κ × D) (q : κ × V) => p.1 = q.1 ∧ RD K ι H p.2 q.2
def CellOk (K : PySem.W.Frag) (ι : Ix) (H : Hp) (a : Addr) : DO → Prop
  | .lst xs => ∃ vs, H a = some (.lst vs) ∧ RDs K ι H xs vs
  | .ins C fs => ∃ dx us, H a = some (.ins (He.ga K C) dx us) ∧ RF K ι H fs us
  | .dI kvs => ∃ us, H a = some (.dK us) ∧ RF K ι H kvs us
structure Rel (K : PySem.W.Frag) (ι : Ix) (h : Hs) (H : Hp) : Prop where
  len : ι.os.length = h.length
  nd : ι.os.Nodup
  cell : ∀ (n : Nat) (a : Addr) (o : DO), ι.os[n]? = some a → h[n]? = some o → CellOk K ι H a o
  res : ∀ a, a ∈ ι.rs → H a ≠ none
/-- what stood stands: all but the changing things -/
structure Ext (ι : Ix) (H : Hp) (ι' : Ix) (H' : Hp) : Prop where
  pre : ∃ t, ι'.os = ι.os ++ t
  rs : ι'.rs = ι.rs
  keep : ∀ a o, H a = some o → a ∉ ι.os → H' a = some o
  new : ∀ a, a ∈ ι'.os → a ∈ ι.os ∨ H a = none
theorem Ext.refl {ι : Ix} {H : Hp} : Ext ι H ι H := ⟨⟨[], by simp⟩, rfl, fun _ _ h _ => h, fun _ h => .inl h⟩
theorem Ext.trans {ι ι1 ι2 : Ix} {H H1 H2 : Hp} (a : Ext ι H ι1 H1) (b : Ext ι1 H1 ι2 H2) : Ext ι H ι2 H2 := by
  have back : ∀ x, x ∈ ι1.os → x ∉ ι.os → H x = none := fun x h n => (a.new x h).elim (fun z => absurd z n) id
  refine ⟨?_, b.rs.trans a.rs, fun x o h n => ?_, fun x h => ?_⟩
  · obtain ⟨t, e⟩ := a.pre
    obtain ⟨u, e2⟩ := b.pre
    exact ⟨t ++ u, by rw [e2, e, List.append_assoc]⟩
  · refine b.keep x o (a.keep x o h n) fun z => ?_
    rw [back x z n] at h
    cases h
  · rcases b.new x h with z | z
    · exact a.new x z
    · by_cases hx : x ∈ ι.os
      · exact .inl hx
      · refine .inr ?_
        cases q : H x with
        | none => rfl
        | some o =>
          rw [a.keep x o q hx] at z
          cases z
theorem Ext.get {ι ι' : Ix} {H H' : Hp} (e : Ext ι H ι' H') {n : Nat} {a : Addr} (h : ι.os[n]? = some a) : ι'.os[n]? = some a := by
  obtain ⟨t, e1⟩ := e.pre
  rw [e1]
  have := (List.getElem?_eq_some_iff.mp h).1
  rw [List.getElem?_append_left this]
  exact h
/-- what a value stands on is kept -/
structure Up (ι : Ix) (H : Hp) (ι' : Ix) (H' : Hp) : Prop where
  get : ∀ (n : Nat) a, ι.os[n]? = some a → ι'.os[n]? = some a
  keep : ∀ a o, H a = some o → ι.fz a → H' a = some o ∧ ι'.fz a
theorem Ext.up {ι ι' : Ix} {H H' : Hp} (e : Ext ι H ι' H') : Up ι H ι' H' := by
  refine ⟨fun n a h => e.get h, fun a o h f => ⟨e.keep a o h f.1, ⟨fun z => ?_, by rw [e.rs]; exact f.2⟩⟩⟩
  rcases e.new a z with y | y
  · exact f.1 y
  · rw [h] at y
    cases y
section
variable {K : PySem.W.Frag} {ι ι' : Ix} {H H' : Hp}
theorem rd_some {a : Addr} {u : HO} (h : Rd H a u) : H a ≠ none := by
  rcases h with h | ⟨o, h⟩ <;> rw [h] <;> exact fun z => nomatch z
theorem Up.rd {a : Addr} {u : HO} (e : Up ι H ι' H') (n : ι.fz a) (h : Rd H a u) : ι'.fz a ∧ Rd H' a u := by
  rcases h with h | ⟨o, h⟩
  · exact ⟨(e.keep _ _ h n).2, .inl (e.keep _ _ h n).1⟩
  · exact ⟨(e.keep _ _ h n).2, .inr ⟨o, (e.keep _ _ h n).1⟩⟩
theorem TupAt.up {a : Addr} {vs : List V} (e : Up ι H ι' H') (h : TupAt K ι H a vs) : TupAt K ι' H' a vs := by
  rcases h with ⟨n, h⟩ | h
  · exact .inl (e.rd n h)
  · exact .inr h
theorem LstAt.up {a : Addr} {vs : List V} (e : Up ι H ι' H') (h : LstAt ι H a vs) : LstAt ι' H' a vs := ⟨(e.keep _ _ h.2 h.1).2, (e.keep _ _ h.2 h.1).1⟩
theorem ScrAt.up {a : Addr} {vs : List V} (e : Up ι H ι' H') (h : ScrAt K ι H a vs) : ScrAt K ι' H' a vs := by
  rcases h with ⟨n, h⟩ | h
  · exact .inl (e.rd n h)
  · exact .inr h
theorem TupAt.sq {a : Addr} {vs : List V} (h : TupAt K ι H a vs) : SqT K H a vs := by
  rcases h with ⟨_, h⟩ | h
  · exact .inl h
  · exact .inr h
theorem LstAt.sq {a : Addr} {vs : List V} (h : LstAt ι H a vs) : SqL K H a vs := .inl (.inl h.2)
theorem ScrAt.sq {a : Addr} {vs : List V} (h : ScrAt K ι H a vs) : SqL K H a vs := by
  rcases h with ⟨_, h⟩ | h
  · exact .inl h
  · exact .inr h
mutual
theorem RD.up (e : Up ι H ι' H') : ∀ {d : D} {v : V}, RD K ι H d v → RD K ι' H' d v
  | _, _, .non => .non
  | _, _, .bl b => .bl b
  | _, _, .int i => .int i
  | _, _, .str x => .str x
  | _, _, .ty n => .ty n
  | _, _, .glo x => .glo x
  | _, _, .tup h r => .tup (h.up e) (RDs.up e r)
  | _, _, .lst h r => .lst (h.up e) (RDs.up e r)
  | _, _, .obj h => .obj (e.get _ _ h)
  | _, _, .scr h => .scr (h.up e)
theorem RDs.up (e : Up ι H ι' H') : ∀ {ds : List D} {vs : List V}, RDs K ι H ds vs → RDs K ι' H' ds vs
  | _, _, .nil => .nil
  | _, _, .cons h r => .cons (RD.up e h) (RDs.up e r)
end
theorem RD.mono (e : Ext ι H ι' H') {d : D} {v : V} (h : RD K ι H d v) : RD K ι' H' d v := h.up e.up
theorem RDs.mono (e : Ext ι H ι' H') {d : List D} {v : List V} (h : RDs K ι H d v) : RDs K ι' H' d v := h.up e.up
theorem RF.up {κ : Type} (e : Up ι H ι' H') {fs : List (κ × D)} {us : List (κ × V)} (h : RF K ι H fs us) : RF K ι' H' fs us := Paired.mapP h fun _ _ z => ⟨z.1, z.2.up e⟩
theorem RF.mono {κ : Type} (e : Ext ι H ι' H') {fs : List (κ × D)} {us : List (κ × V)} (h : RF K ι H fs us) : RF K ι' H' fs us := h.up e.up
theorem RDs.length : ∀ {ds : List D} {vs : List V}, RDs K ι H ds vs → ds.length = vs.length
  | _, _, .nil => rfl
  | _, _, .cons _ r => by rw [List.length_cons, List.length_cons, r.length]
theorem RDs.get : ∀ {ds : List D} {vs : List V} {i : Nat} {d : D}, RDs K ι H ds vs → ds[i]? = some d → ∃ v, vs[i]? = some v ∧ RD K ι H d v
  | _, _, _, _, .nil, e => by simp at e
  | _, _, 0, _, .cons h _, e => by simp at e; subst e; exact ⟨_, rfl, h⟩
  | _, _, i + 1, d, .cons _ r, e => by
    obtain ⟨v, h1, h2⟩ := RDs.get (i := i) (d := d) r (by simpa using e)
    exact ⟨v, by simpa using h1, h2⟩
theorem RDs.getV : ∀ {ds : List D} {vs : List V} {i : Nat} {v : V}, RDs K ι H ds vs → vs[i]? = some v → ∃ d, ds[i]? = some d ∧ RD K ι H d v
  | _, _, _, _, .nil, e => by simp at e
  | _, _, 0, _, .cons h _, e => by simp at e; subst e; exact ⟨_, rfl, h⟩
  | _, _, i + 1, d, .cons _ r, e => by
    obtain ⟨v, h1, h2⟩ := RDs.getV (i := i) (v := d) r (by simpa using e)
    exact ⟨v, by simpa using h1, h2⟩
theorem RDs.append : ∀ {xs ys : List D} {us ws : List V}, RDs K ι H xs us → RDs K ι H ys ws → RDs K ι H (xs ++ ys) (us ++ ws)
  | _, _, _, _, .nil, s => s
  | _, _, _, _, .cons h r, s => .cons h (RDs.append r s)
theorem RDs.take : ∀ {xs : List D} {us : List V} (n : Nat), RDs K ι H xs us → RDs K ι H (xs.take n) (us.take n)
  | _, _, 0, _ => .nil
  | _, _, _ + 1, .nil => .nil
  | _, _, n + 1, .cons h r => .cons h (RDs.take n r)
theorem RDs.drop : ∀ {xs : List D} {us : List V} (n : Nat), RDs K ι H xs us → RDs K ι H (xs.drop n) (us.drop n)
  | _, _, 0, r => r
  | _, _, _ + 1, .nil => .nil
  | _, _, n + 1, .cons _ r => RDs.drop n r
theorem RDs.set {x : D} {u : V} (h : RD K ι H x u) : ∀ {xs : List D} {us : List V} (i : Nat), RDs K ι H xs us → RDs K ι H (xs.set i x) (us.set i u)
  | _, _, _, .nil => .nil
  | _, _, 0, .cons _ r => .cons h r
  | _, _, i + 1, .cons g r => .cons g (RDs.set h i r)
theorem RDs.reverse {xs : List D} {us : List V} (h : RDs K ι H xs us) : RDs K ι H xs.reverse us.reverse := by
  induction xs generalizing us with
  | nil => cases h; exact .nil
  | cons x xs ih =>
    cases h with
    | cons h r =>
      rw [List.reverse_cons, List.reverse_cons]
      exact (ih r).append (.cons h .nil)
theorem RDs.rep {xs : List D} {us : List V} (h : RDs K ι H xs us) : ∀ k : Nat, RDs K ι H (List.replicate k xs).flatten (List.replicate k us).flatten
  | 0 => .nil
  | k + 1 => by
    rw [List.replicate_succ, List.replicate_succ, List.flatten_cons, List.flatten_cons]
    exact h.append (RDs.rep h k)
theorem RDs.nil_iff {xs : List D} {us : List V} (r : RDs K ι H xs us) : us = [] ↔ xs = [] := by
  cases r with
  | nil => simp
  | cons _ _ => simp
theorem RDs.ints : ∀ {ns : List Int} {us : List V}, RDs K ι H (ns.map D.int) us → us = ns.map V.int
  | [], _, .nil => rfl
  | n :: ns, _, .cons h r => by
    cases h
    rw [List.map_cons, RDs.ints r]
theorem RDs.ofInts : ∀ {ns : List Int}, RDs K ι H (ns.map D.int) (ns.map V.int)
  | [] => .nil
  | n :: ns => .cons (.int n) RDs.ofInts
theorem RDs.bls : ∀ {ns : List Bool} {us : List V}, RDs K ι H (ns.map D.bl) us → us = ns.map V.bl
  | [], _, .nil => rfl
  | n :: ns, _, .cons h r => by
    cases h
    rw [List.map_cons, RDs.bls r]
end

/-! ### the slots -/
def RO (K : PySem.W.Frag) (ι : Ix) (H : Hp) : Option D → Option V → Prop
  | none, _ => True
  | some d, some v => RD K ι H d v
  | some _, none => False
def RS (K : PySem.W.Frag) (ι : Ix) (H : Hp) (ρ : Env) (σ : L2.St) : Prop := ρ.length = σ.length ∧ ∀ (i : Nat) (d : D), ρ[i]? = some (some d) → ∃ v, σ[i]? = some (some v) ∧ RD K ι H d v
section
variable {K : PySem.W.Frag} {ι ι' : Ix} {H H' : Hp} {ρ : Env} {σ : L2.St}
theorem RS.mono (e : Ext ι H ι' H') (h : RS K ι H ρ σ) : RS K ι' H' ρ σ := ⟨h.1, fun i d g => let ⟨v, h1, h2⟩ := h.2 i d g; ⟨v, h1, h2.mono e⟩⟩
theorem RS.set {d : D} {v : V} (h : RS K ι H ρ σ) (i : Nat) (r : RD K ι H d v) : RS K ι H (ρ.set i (some d)) (σ.set i (some v)) := by
  refine ⟨by rw [List.length_set, List.length_set]; exact h.1, fun j d' g => ?_⟩
  by_cases e : i = j
  · subst e
    by_cases hi : i < ρ.length
    · rw [List.getElem?_set_self hi] at g
      cases g
      exact ⟨v, List.getElem?_set_self (by rw [← h.1]; exact hi), r⟩
    · rw [List.getElem?_eq_none (by rw [List.length_set]; omega)] at g
      cases g
  · rw [List.getElem?_set_ne e] at g
    rw [List.getElem?_set_ne e]
    exact h.2 j d' g
end

/-! ### what is wanted behind a computation -/
abbrev XD (K : PySem.W.Frag) (ι : Ix) (H : Hp) (fs : List (Str × D)) (od : Option Addr) : Prop :=
  (fs = [] ∧ od = none) ∨ ∃ d us, od = some d ∧ H d = some (.xd us) ∧ ι.fz d ∧ RF K ι H fs us
def Post {α β : Type} (K : PySem.W.Frag) (W : XK) (RA : Ix → Hp → α → β → Prop) (r : R α) (ι : Ix) (H : Hp) (Q : β → Hp → Prop) : Prop :=
  match r with
  | .ok a h' => ∀ ι' H' b, Ext ι H ι' H' → Rel K ι' h' H' → RA ι' H' a b → Q b H'
  | .exc C fs h' => ∀ ι' H' od, Ext ι H ι' H' → Rel K ι' h' H' → XD K ι' H' fs od → W (.ref (He.ga K C)) od H'
  | .bad => False
section
variable {K : PySem.W.Frag} {W : XK} {ι ι1 : Ix} {H H1 : Hp} {α β γ δ : Type} {RA : Ix → Hp → α → β → Prop} {RB : Ix → Hp → γ → δ → Prop}
theorem Post.ext {r : R α} {Q : β → Hp → Prop} (p : Post K W RA r ι H Q) (e : Ext ι H ι1 H1) : Post K W RA r ι1 H1 Q := by
  cases r with
  | ok a h => exact fun ι' H' b e' => p ι' H' b (e.trans e')
  | exc C fs h => exact fun ι' H' od e' => p ι' H' od (e.trans e')
  | bad => exact p
theorem Post.bind {r : R α} {f : α → M γ} {Q : δ → Hp → Prop} (p : Post K W RB (r.bind f) ι H Q) :
    Post K W RA r ι H (fun b H1 => ∃ ι1 h1 a, Ext ι H ι1 H1 ∧ Rel K ι1 h1 H1 ∧ RA ι1 H1 a b ∧ Post K W RB (f a h1) ι1 H1 Q) := by
  cases r with
  | ok a h => exact fun ι' H' b e R ra => ⟨ι', h, a, e, R, ra, Post.ext p e⟩
  | exc C fs h => exact p
  | bad => exact p
theorem Post.imp {r : R α} {Q Q' : β → Hp → Prop} (p : Post K W RA r ι H Q) (q : ∀ b H, Q b H → Q' b H) : Post K W RA r ι H Q' := by
  cases r with
  | ok a h => exact fun ι' H' b e R ra => q _ _ (p ι' H' b e R ra)
  | exc C fs h => exact p
  | bad => exact p
theorem Post.ok {a : α} {h : Hs} {b : β} {Q : β → Hp → Prop} (p : Post K W RA (.ok a h) ι H Q) (R : Rel K ι h H) (ra : RA ι H a b) : Q b H := p ι H b .refl R ra
end

/-- an expression, a test, arguments as computations -/
def wE (K : PySem.W.Frag) (W : WX) (c : Env → M D) : TE := fun σ H Q => ∃ ι h ρ, Rel K ι h H ∧ RS K ι H ρ σ ∧ Post K (fun x d H' => W x d σ H') (RD K) (c ρ h) ι H Q
def wT (K : PySem.W.Frag) (W : WX) (c : Env → M Bool) : TT := fun σ H Q => ∃ ι h ρ, Rel K ι h H ∧ RS K ι H ρ σ ∧ Post K (fun x d H' => W x d σ H') (fun _ _ a b => a = b) (c ρ h) ι H Q
def wA (K : PySem.W.Frag) (W : WX) (c : Env → M (List D)) : TA := fun σ H Q => ∃ ι h ρ, Rel K ι h H ∧ RS K ι H ρ σ ∧ Post K (fun x d H' => W x d σ H') (RDs K) (c ρ h) ι H Q
/-- a list being made at p -/
def Ix.with (ι : Ix) (p : Addr) : Ix := ⟨ι.os, p :: ι.rs⟩
/-- a new list, of which nothing knows yet -/
def PostN (K : PySem.W.Frag) (W : XK) (r : R (List D)) (ι : Ix) (H : Hp) (Q : V → Hp → Prop) : Prop :=
  match r with
  | .ok xs h' => ∀ ι' H' p vs, Ext ι H ι' H' → Rel K (ι'.with p) h' H' → RDs K (ι'.with p) H' xs vs → H' p = some (.lst vs) → p ∉ ι'.os → p ∉ ι'.rs → H p = none → Q (.ref p) H'
  | .exc C fs h' => ∀ ι' H' od, Ext ι H ι' H' → Rel K ι' h' H' → XD K ι' H' fs od → W (.ref (He.ga K C)) od H'
  | .bad => False
def wN (K : PySem.W.Frag) (W : WX) (c : Env → M (List D)) : TE := fun σ H Q => ∃ ι h ρ, Rel K ι h H ∧ RS K ι H ρ σ ∧ PostN K (fun x d H' => W x d σ H') (c ρ h) ι H Q
abbrev DE (X : Cx) (W : WX) (e : Expr) (c : Env → M D) : Prop := PE X e (wE X.K W c)
abbrev DT (X : Cx) (W : WX) (e : Expr) (c : Env → M Bool) : Prop := PT X e (wT X.K W c)
abbrev DA (X : Cx) (W : WX) (es : List Expr) (c : Env → M (List D)) : Prop := PA X es (wA X.K W c)
abbrev DN (X : Cx) (W : WX) (e : Expr) (c : Env → M (List D)) : Prop := PE X e (wN X.K W c)
theorem pe_imp {X : Cx} {e : Expr} {t t' : TE} (h : PE X e t) (w : ∀ σ H Q, t' σ H Q → t σ H Q) : PE X e t' := ⟨fun pins s σ H Q I z => h.run pins s σ H Q I (w σ H Q z)⟩
theorem pt_imp {X : Cx} {e : Expr} {t t' : TT} (h : PT X e t) (w : ∀ σ H Q, t' σ H Q → t σ H Q) : PT X e t' := ⟨fun pins s σ H Q I z => h.run pins s σ H Q I (w σ H Q z)⟩
theorem pa_imp {X : Cx} {e : List Expr} {t t' : TA} (h : PA X e t) (w : ∀ σ H Q, t' σ H Q → t σ H Q) : PA X e t' := ⟨fun pos pins s σ H Q I z => h.run pos pins s σ H Q I (w σ H Q z)⟩

/-! ### names, constants -/
def eV (i : Nat) : Env → M D := fun ρ h => match ρ[i]? with
  | some (some d) => .ok d h
  | _ => .bad
def eC (d : D) : Env → M D := fun _ h => .ok d h
section
variable {X : Cx} {W : WX} {pos : Pos}
theorem de_v (i : Nat) {x : Str} (hN : X.N[i]? = some x := by rfl) (hv : Vis X.env.scope x := by first | exact Or.inl rfl | exact Or.inr (Or.inl rfl) | exact Or.inr (Or.inr rfl)) (hd : (x == ("__debug__" : Str)) = false := by decide)
    (hcd : (x == ("__classdict__" : Str)) = false := by decide) : DE X W (.Name x pos) (eV i) := pe_imp (pv i hN hv hd hcd) fun σ H Q ⟨ι, h, ρ, R, S, p⟩ => by
  unfold eV at p
  cases e : ρ[i]? with
  | none => rw [e] at p; exact p.elim
  | some o =>
    rw [e] at p
    cases o with
    | none => exact p.elim
    | some d =>
      obtain ⟨v, h1, h2⟩ := S.2 i d e
      exact ⟨v, h1, p.ok R h2⟩
theorem de_c {e : Expr} {d : D} {v : V} (hp : PE X e (tC v)) (r : ∀ ι H, RD X.K ι H d v) : DE X W e (eC d) := pe_imp hp fun σ H Q ⟨ι, h, ρ, R, S, p⟩ => Post.ok p R (r ι H)
theorem de_int {i j} : DE X W (.Constant (.int i) j pos) (eC (.int i)) := de_c pe_int fun _ _ => .int i
theorem de_bl {b j} : DE X W (.Constant (.bool b) j pos) (eC (.bl b)) := de_c pe_bl fun _ _ => .bl b
theorem de_non {j} : DE X W (.Constant .none j pos) (eC .non) := de_c pe_non fun _ _ => .non
theorem de_str {x j} : DE X W (.Constant (.str x) j pos) (eC (.str x)) := de_c pe_str fun _ _ => .str x
/-- a def, a class of the module as a value -/
theorem de_glo {x : Str} (hg : Gl X x) (hm : X.mg x = some (.ref (He.ga X.K x))) (hd : (x == ("__debug__" : Str)) = false := by decide) : DE X W (.Name x pos) (eC (.glo x)) := de_c (pe_glob hg hm (v := .ref (He.ga X.K x)) rfl hd) fun _ _ => .glo x
/-- a number of the module -/
theorem de_gint {x : Str} {i : Int} (hg : Gl X x) (hm : ∃ t, X.mg x = some (.int i t)) (hd : (x == ("__debug__" : Str)) = false := by decide) : DE X W (.Name x pos) (eC (.int i)) := by
  obtain ⟨t, hm⟩ := hm
  exact de_c (pe_glob hg hm (v := .int i) ⟨t, rfl⟩ hd) fun _ _ => .int i
/-- a tuple of ints of the module -/
theorem de_gtup {x : Str} {is : List Int} (hg : Gl X x) (hm : X.mg x = some (.ref (He.ga X.K x))) (hk : KT X.K (He.ga X.K x) (is.map V.int)) (hd : (x == ("__debug__" : Str)) = false := by decide) : DE X W (.Name x pos) (eC (.tup (is.map D.int))) :=
  de_c (pe_glob hg hm (v := .ref (He.ga X.K x)) rfl hd) fun _ _ => .tup (.inr hk) RDs.ofInts
/-- a built-in class as a value -/
theorem de_ty {x : Str} {n : String} (hg : Gl X x) (hm : X.mg x = none) (hv : bootBuiltins x = some (.type n)) (hn : x ≠ "__name__" := by decide) (hd : (x == ("__debug__" : Str)) = false := by decide) : DE X W (.Name x pos) (eC (.ty n)) := de_c (pe_bltn hg hm hv (v := .ty n) rfl hn hd) fun _ _ => .ty n
end

/-! ### operators -/
def e2 (f : D → D → M D) (ca cb : Env → M D) : Env → M D := fun ρ h => (ca ρ h).bind fun x h1 => (cb ρ h1).bind fun y h2 => f x y h2
def e1 (f : D → M D) (ca : Env → M D) : Env → M D := fun ρ h => (ca ρ h).bind fun x h1 => f x h1
/-- the operation on values keeps what the function says -/
def Op2 (X : Cx) (g : R2) (f : D → D → M D) : Prop := ∀ (ι : Ix) (h : Hs) (H : Hp) (x y : D) (v u : V) (W : XK) (Q : VK), Rel X.K ι h H → RD X.K ι H x v → RD X.K ι H y u → Post X.K W (RD X.K) (f x y h) ι H Q → g v u H Q
def Op1 (X : Cx) (g : V → Hp → VK → Prop) (f : D → M D) : Prop := ∀ (ι : Ix) (h : Hs) (H : Hp) (x : D) (v : V) (W : XK) (Q : VK), Rel X.K ι h H → RD X.K ι H x v → Post X.K W (RD X.K) (f x h) ι H Q → g v H Q
section
variable {X : Cx} {W : WX} {pos : Pos} {a b : Expr} {ca cb : Env → M D} {f : D → D → M D} {g : R2}
theorem w2 {σ : L2.St} {H : Hp} {Q : VK} (op : Op2 X g f) (h : wE X.K W (e2 f ca cb) σ H Q) : tOp g (wE X.K W ca) (wE X.K W cb) σ H Q := by
  obtain ⟨ι, h, ρ, R, S, p⟩ := h
  refine ⟨ι, h, ρ, R, S, Post.imp (Post.bind p) fun x H1 ⟨ι1, h1, dx, x1, R1, r1, p1⟩ => ?_⟩
  refine ⟨ι1, h1, ρ, R1, S.mono x1, Post.imp (Post.bind p1) fun y H2 ⟨ι2, h2, dy, x2, R2, r2, p2⟩ => ?_⟩
  exact op ι2 h2 H2 dx dy x y _ Q R2 (r1.mono x2) r2 p2
theorem de_bin {o : Operator} (ho : OpR X (binaryOp o) g) (op : Op2 X g f) (ha : DE X W a ca) (hb : DE X W b cb) : DE X W (.BinOp a o b pos) (e2 f ca cb) := pe_imp (pe_op ho ha hb) fun _ _ _ h => w2 op h
theorem de_cmp {o : CmpOp} (ho : OpR X (compareOp o) g) (op : Op2 X g f) (ha : DE X W a ca) (hb : DE X W b cb) (hm : behindInMarks o b = false) : DE X W (.Compare a [o] [b] pos) (e2 f ca cb) := pe_imp (pe_cmpR ho ha hb hm) fun _ _ _ h => w2 op h
theorem de_ix (ho : IxR X g) (op : Op2 X g f) (ha : DE X W a ca) (hb : DE X W b cb) (hs : PlainIx b) : DE X W (.Subscript a b pos) (e2 f ca cb) := pe_imp (pe_ix ho ha hb hs) fun _ _ _ h => w2 op h
theorem de_un {o : UnaryOp} {g : V → Hp → VK → Prop} {f : D → M D} (ho : UnR X (unaryOp o) g) (op : Op1 X g f) (ha : DE X W a ca) : DE X W (.UnaryOp o a pos) (e1 f ca) := pe_imp (pe_un ho ha) fun σ H Q ⟨ι, h, ρ, R, S, p⟩ => by
  refine ⟨ι, h, ρ, R, S, Post.imp (Post.bind p) fun x H1 ⟨ι1, h1, dx, x1, R1, r1, p1⟩ => ?_⟩
  exact op ι1 h1 H1 dx x _ Q R1 r1 p1
end
end Dl

/-! The D layer, 2: operators. -/
namespace Dl
open PySem PySem.Spec PyProof.Rows L2

/-! ### lists behind values -/
def items (h : Hs) : D → Option (List D)
  | .lst xs => some xs
  | .obj n => (match h[n]? with
    | some (.lst xs) => some xs
    | _ => none)
  | _ => none
section
variable {K : PySem.W.Frag} {ι ι' : Ix} {H H' : Hp} {h : Hs} {W : XK}
theorem Rel.at (R : Rel K ι h H) {n : Nat} {a : Addr} {o : DO} (e : ι.os[n]? = some a) (g : h[n]? = some o) : CellOk K ι H a o := R.cell n a o e g
theorem items_ok (R : Rel K ι h H) {x : D} {v : V} {xs : List D} (r : RD K ι H x v) (e : items h x = some xs) : ∃ a vs, v = .ref a ∧ H a = some (.lst vs) ∧ RDs K ι H xs vs := by
  cases r with
  | lst l q =>
    cases e
    exact ⟨_, _, rfl, l.2, q⟩
  | @obj n a g =>
    have e : (match h[n]? with
    | some (.lst xs) => some xs
    | _ => none) = some xs := e
    cases hn : h[n]? with
    | none => rw [hn] at e; cases e
    | some o =>
      rw [hn] at e
      cases o with
      | lst ys =>
        cases e
        obtain ⟨vs, h1, h2⟩ := R.at g hn
        exact ⟨a, vs, rfl, h1, h2⟩
      | _ => cases e
  | _ => cases e
/-- an address of a changing thing is tracked -/
theorem Rel.ne (R : Rel K ι h H) {a : Addr} (m : a ∈ ι.os) : H a ≠ none := by
  obtain ⟨n, hn, e⟩ := List.getElem_of_mem m
  have e1 : ι.os[n]? = some a := by rw [List.getElem?_eq_getElem hn, e]
  have hl : n < h.length := by rw [← R.len]; exact hn
  have c := R.cell n a h[n] e1 (by rw [List.getElem?_eq_getElem hl])
  cases q : h[n] with
  | lst xs => rw [q] at c; obtain ⟨vs, h1, _⟩ := c; rw [h1]; exact fun z => nomatch z
  | ins C fs => rw [q] at c; obtain ⟨dx, us, h1, _⟩ := c; rw [h1]; exact fun z => nomatch z
  | dI kvs => rw [q] at c; obtain ⟨us, h1, _⟩ := c; rw [h1]; exact fun z => nomatch z
theorem Rel.out (R : Rel K ι h H) {a : Addr} (n : H a = none) : ι.fz a := ⟨fun m => R.ne m n, fun m => R.res a m n⟩
theorem CellOk.up {a : Addr} {o : DO} (e : Up ι H ι' H') (q : H' a = H a) (c : CellOk K ι H a o) : CellOk K ι' H' a o := by
  cases o with
  | lst xs => obtain ⟨vs, h1, h2⟩ := c; exact ⟨vs, q.trans h1, h2.up e⟩
  | ins C fs => obtain ⟨dx, us, h1, h2⟩ := c; exact ⟨dx, us, q.trans h1, h2.up e⟩
  | dI kvs => obtain ⟨us, h1, h2⟩ := c; exact ⟨us, q.trans h1, h2.up e⟩
/-- a new thing that never changes -/
theorem Ext.put {p : Addr} {o : HO} (n : H p = none) : Ext ι H ι (upd H p o) :=
  ⟨⟨[], by simp⟩, rfl, fun a u e _ => by rw [upd_ne (ne_of_none e n)]; exact e, fun _ m => .inl m⟩
theorem Rel.put {p : Addr} {o : HO} (R : Rel K ι h H) (n : H p = none) : Rel K ι h (upd H p o) :=
  ⟨R.len, R.nd, fun k a u e g => CellOk.up (Ext.put n).up (upd_ne fun z => R.ne (List.mem_of_getElem? e) (by rw [z]; exact n)) (R.cell k a u e g), fun a m => by
    rw [upd_ne fun z => R.res a m (by rw [z]; exact n)]
    exact R.res a m⟩
/-- a new list that is being made -/
theorem Up.with {p : Addr} {H2 : Hp} (n : H p = none) (k : ∀ a u, H a = some u → H2 a = some u) : Up ι H (ι.with p) H2 :=
  ⟨fun _ _ e => e, fun a o e f => ⟨k a o e, f.1, fun z => (List.mem_cons.mp z).elim (fun y => by rw [y, n] at e; cases e) f.2⟩⟩
theorem Rel.with {p : Addr} {H2 : Hp} (R : Rel K ι h H) (n : H p = none) (k : ∀ a u, H a = some u → H2 a = some u) (n2 : H2 p ≠ none) : Rel K (ι.with p) h H2 := by
  refine ⟨R.len, R.nd, fun j a u e g => ?_, fun a m => ?_⟩
  · refine CellOk.up (Up.with n k) ?_ (R.cell j a u e g)
    have ne := R.ne (List.mem_of_getElem? e)
    cases q : H a with
    | none => exact absurd q ne
    | some w => exact k a w q
  · rcases List.mem_cons.mp m with m | m
    · rw [m]; exact n2
    · have ne := R.res a m
      cases q : H a with
      | none => exact absurd q ne
      | some w => rw [k a w q]; exact fun z => nomatch z
/-- it is made: it stays, or it may change -/
theorem Up.done {p : Addr} : Up (ι.with p) H ι H := ⟨fun _ _ e => e, fun a o e f => ⟨e, f.1, fun z => f.2 (List.mem_cons_of_mem _ z)⟩⟩
theorem Rel.done {p : Addr} (R : Rel K (ι.with p) h H) : Rel K ι h H := ⟨R.len, R.nd, fun j a u e g => CellOk.up Up.done rfl (R.cell j a u e g), fun a m => R.res a (List.mem_cons_of_mem _ m)⟩
def Ix.push (ι : Ix) (p : Addr) : Ix := ⟨ι.os ++ [p], ι.rs⟩
theorem getl {α : Type} {l t : List α} {n : Nat} {a : α} (e : l[n]? = some a) : (l ++ t)[n]? = some a := by
  rw [List.getElem?_append_left (List.getElem?_eq_some_iff.mp e).1]
  exact e
theorem Up.push {p : Addr} : Up (ι.with p) H (ι.push p) H :=
  ⟨fun _ _ e => getl e, fun a o e f => ⟨e, fun z => (List.mem_append.mp z).elim f.1 fun y => f.2 (by rw [List.mem_singleton.mp y]; exact List.mem_cons_self), fun z => f.2 (List.mem_cons_of_mem _ z)⟩⟩
theorem Rel.push {p : Addr} {o : DO} (R : Rel K (ι.with p) h H) (n : p ∉ ι.os) (c : CellOk K (ι.push p) H p o) : Rel K (ι.push p) (h ++ [o]) H := by
  have hl : ι.os.length = h.length := R.len
  refine ⟨by show (ι.os ++ [p]).length = _; rw [List.length_append, List.length_append, hl]; rfl, ?_, fun j a u e g => ?_, fun a m => R.res a (List.mem_cons_of_mem _ m)⟩
  · show (ι.os ++ [p]).Nodup
    rw [List.nodup_append]
    refine ⟨R.nd, by simp, fun a ha b hb z => ?_⟩
    rw [List.mem_singleton.mp hb] at z
    exact n (z ▸ ha)
  · have e : (ι.os ++ [p])[j]? = some a := e
    by_cases hj : j < ι.os.length
    · rw [List.getElem?_append_left hj] at e
      rw [List.getElem?_append_left (by rw [← hl]; exact hj)] at g
      exact CellOk.up Up.push rfl (R.cell j a u e g)
    · have hl2 := (List.getElem?_eq_some_iff.mp e).1
      rw [List.length_append, List.length_singleton] at hl2
      have hj2 : j = ι.os.length := by omega
      subst hj2
      rw [List.getElem?_append_right (Nat.le_refl _)] at e
      simp at e
      rw [hl, List.getElem?_append_right (Nat.le_refl _)] at g
      simp at g
      subst e g
      exact c
/-- a new changing thing -/
theorem Ext.alloc {p : Addr} {H2 : Hp} (n : H p = none) (k : ∀ a u, H a = some u → H2 a = some u) : Ext ι H (ι.push p) H2 :=
  ⟨⟨[p], rfl⟩, rfl, fun a u e _ => k a u e, fun a m => by
    rcases List.mem_append.mp m with m | m
    · exact .inl m
    · exact .inr (by rw [List.mem_singleton.mp m]; exact n)⟩
theorem Rel.alloc {p : Addr} {H2 : Hp} {o : DO} (R : Rel K ι h H) (n : H p = none) (k : ∀ a u, H a = some u → H2 a = some u) (n2 : H2 p ≠ none) (c : CellOk K (ι.push p) H2 p o) : Rel K (ι.push p) (h ++ [o]) H2 :=
  Rel.push (R.with n k n2) (R.out n).1 c
theorem push_at {p : Addr} (R : Rel K ι h H) : (ι.push p).os[h.length]? = some p := by
  show (ι.os ++ [p])[h.length]? = some p
  rw [← R.len, List.getElem?_append_right (Nat.le_refl _)]
  simp
/-- a changing thing changed -/
theorem Ext.chg {a : Addr} {o : HO} (m : a ∈ ι.os) : Ext ι H ι (upd H a o) := ⟨⟨[], by simp⟩, rfl, fun b u e n => by rw [upd_ne (fun z => n (by rw [z]; exact m))]; exact e, fun _ m => .inl m⟩
theorem Rel.chg {n : Nat} {a : Addr} {o : HO} {d : DO} (R : Rel K ι h H) (e : ι.os[n]? = some a) (c : CellOk K ι (upd H a o) a d) : Rel K ι (h.set n d) (upd H a o) := by
  refine ⟨by rw [List.length_set]; exact R.len, R.nd, fun j b u eb g => ?_, fun b m => ?_⟩
  · by_cases hj : n = j
    · subst hj
      rw [e] at eb
      cases eb
      have hl : n < h.length := by rw [← R.len]; exact (List.getElem?_eq_some_iff.mp e).1
      rw [List.getElem?_set_self hl] at g
      cases g
      exact c
    · rw [List.getElem?_set_ne hj] at g
      have nb : b ≠ a := fun z => hj (nd_ix R.nd e (z ▸ eb))
      exact CellOk.up (Ext.chg (List.mem_of_getElem? e)).up (upd_ne nb) (R.cell j b u eb g)
  · by_cases z : b = a
    · rw [z, upd_same]
      exact fun z => nomatch z
    · rw [upd_ne z]
      exact R.res b m
/-- Post of a new tuple, a new list that stays -/
theorem Post.tup {xs : List D} {vs : List V} {Q : VK} {p : Addr} (q : Post K W (RD K) (.ok (.tup xs) h) ι H Q) (R : Rel K ι h H) (r : RDs K ι H xs vs) (n : H p = none) : Q (.ref p) (upd H p (.tup vs)) :=
  q ι _ _ (.put n) (R.put n) (.tup (.inl ⟨R.out n, .inl upd_same⟩) (r.mono (.put n)))
theorem Post.lst {xs : List D} {vs : List V} {Q : VK} {p : Addr} (q : Post K W (RD K) (.ok (.lst xs) h) ι H Q) (R : Rel K ι h H) (r : RDs K ι H xs vs) (n : H p = none) : Q (.ref p) (upd H p (.lst vs)) :=
  q ι _ _ (.put n) (R.put n) (.lst ⟨R.out n, upd_same⟩ (r.mono (.put n)))
theorem upd_keep {p : Addr} {o : HO} (n : H p = none) : ∀ a u, H a = some u → upd H p o a = some u := fun a u e => by rw [upd_ne (ne_of_none e n)]; exact e
theorem Ext.back {ι1 : Ix} {H1 : Hp} (e : Ext ι H ι1 H1) {a : Addr} (n : H1 a = none) (m : a ∉ ι.os) : H a = none := by
  cases q : H a with
  | none => rfl
  | some o =>
    rw [e.keep a o q m] at n
    cases n
/-- a new list, nothing knows of it -/
theorem PostN.new {xs : List D} {vs : List V} {Q : VK} {p : Addr} {ιb : Ix} {Hb : Hp} (q : PostN K W (.ok xs h) ιb Hb Q) (e : Ext ιb Hb ι H) (R : Rel K ι h H) (r : RDs K ι H xs vs) (n : H p = none) : Q (.ref p) (upd H p (.lst vs)) := by
  have o := R.out n
  refine q ι _ p vs (e.trans (.put n)) (R.with n (upd_keep n) (by rw [upd_same]; exact fun z => nomatch z)) (r.up (Up.with n (upd_keep n))) upd_same o.1 o.2 (e.back n fun z => o.1 ?_)
  obtain ⟨t, e1⟩ := e.pre
  rw [e1]
  exact List.mem_append_left _ z
end

/-! ### + - * // % ** -/
def okLen (n : Nat) : Bool := decide (n ≤ 16777216)
theorem okLen_ok {n : Nat} (h : okLen n = true) : n ≤ sizeLine := by
  rw [sizeLine_eq]
  exact of_decide_eq_true h
def addD (x y : D) : M D := fun h => match x, y with
  | .int i, .int j => .ok (.int (i + j)) h
  | .str a, .str b => if okLen (a.length + b.length) then .ok (.str (a ++ b)) h else .bad
  | .tup xs, .tup ys => if okLen (xs.length + ys.length) then .ok (.tup (xs ++ ys)) h else .bad
  | x, y => (match items h x, items h y with
    | some xs, some ys => if okLen (xs.length + ys.length) then .ok (.lst (xs ++ ys)) h else .bad
    | _, _ => .bad)
def subD (x y : D) : M D := fun h => match x, y with
  | .int i, .int j => .ok (.int (i - j)) h
  | _, _ => .bad
def okMul (i j : Int) : Bool := decide (Builtin.Int.intBits i + Builtin.Int.intBits j ≤ 134217728)
def okRep (n : Nat) (k : Int) : Bool := decide (-1000000 ≤ k ∧ k ≤ 1000000 ∧ n * k.toNat ≤ 16777216)
def mulD (x y : D) : M D := fun h => match x, y with
  | .int i, .int j => if okMul i j then .ok (.int (i * j)) h else .bad
  | .tup xs, .int k => if decide (xs ≠ [] ∧ 2 ≤ k ∧ k ≤ 1000 ∧ xs.length ≤ 1000) then .ok (.tup (List.replicate k.toNat xs).flatten) h else .bad
  | x, .int k => (match items h x with
    | some xs => if okRep xs.length k then .ok (.lst (List.replicate k.toNat xs).flatten) h else .bad
    | none => .bad)
  | _, _ => .bad
def okDiv (i j : Int) : Bool := decide (0 < j ∧ (j.natAbs.log2 < 9000 ∨ Builtin.Int.intBits i ≤ Builtin.Int.intBits j + 4000))
def divD (x y : D) : M D := fun h => match x, y with
  | .int i, .int j => if okDiv i j then .ok (.int (i / j)) h else .bad
  | _, _ => .bad
def modD (x y : D) : M D := fun h => match x, y with
  | .int i, .int j => if decide (0 < j) then .ok (.int (i % j)) h else .bad
  | _, _ => .bad
def powD (x y : D) : M D := fun h => match x, y with
  | .int i, .int j => if decide (0 ≤ j ∧ j ≤ 1000000 ∧ i.natAbs < 2 ^ 64) then .ok (.int (i ^ j.toNat)) h else .bad
  | _, _ => .bad
def negD (x : D) : M D := fun h => match x with
  | .int i => .ok (.int (-i)) h
  | _ => .bad
section
variable {X : Cx}
abbrev rAddI : R2 := rI0 fun i j => .int (i + j)
abbrev rAddS : R2 := fun x y H Q => ∃ i j, x = .str i ∧ y = .str j ∧ i.length + j.length ≤ sizeLine ∧ Q (.str (i ++ j)) H
def gAdd (K : PySem.W.Frag) : R2 := fun x y H Q => (rAddI x y H Q ∨ rAddS x y H Q) ∨ (rCatA K x y H Q ∨ rCat x y H Q)
theorem or_add : OpR X (binaryOp .Add) (gAdd X.K) := OpR.or (OpR.or op_add op_add_str) (OpR.or op_catA op_cat)
theorem ite_tt' {α : Type} {c : Bool} {a b : α} (h : c = true) : (if c = true then a else b) = a := if_pos h
theorem bad_ne {α β : Type} {K : PySem.W.Frag} {W : XK} {RA : Ix → Hp → α → β → Prop} {ι : Ix} {H : Hp} {Q : β → Hp → Prop} : ¬ Post K W RA (.bad) ι H Q := fun p => p
/-- a guarded end -/
theorem Post.guard {α β : Type} {K : PySem.W.Frag} {W : XK} {RA : Ix → Hp → α → β → Prop} {ι : Ix} {H : Hp} {Q : β → Hp → Prop} {c : Bool} {r : R α} (p : Post K W RA (if c = true then r else .bad) ι H Q) : c = true ∧ Post K W RA r ι H Q := by
  cases c with
  | true => exact ⟨rfl, p⟩
  | false => exact (show False from p).elim
theorem o_add : Op2 X (gAdd X.K) addD := by
  intro ι h H x y v u W Q R rx ry p
  have lists : ∀ {xs ys : List D}, items h x = some xs → items h y = some ys → Post X.K W (RD X.K) (if okLen (xs.length + ys.length) then .ok (.lst (xs ++ ys)) h else .bad) ι H Q → gAdd X.K v u H Q := fun {xs ys} e1 e2 p => by
    obtain ⟨c, p⟩ := p.guard
    obtain ⟨a, vs, rfl, ha, rv⟩ := items_ok R rx e1
    obtain ⟨b, us, rfl, hb, ru⟩ := items_ok R ry e2
    exact .inr (.inr ⟨a, b, vs, us, rfl, rfl, ha, hb, by rw [← rv.length, ← ru.length]; exact okLen_ok c, fun q hq => p.lst R (rv.append ru) hq⟩)
  unfold addD at p
  split at p
  · cases rx
    cases ry
    exact .inl (.inl ⟨_, _, rfl, rfl, p.ok R (.int _)⟩)
  · obtain ⟨c, p⟩ := p.guard
    cases rx
    cases ry
    exact .inl (.inr ⟨_, _, rfl, rfl, okLen_ok c, p.ok R (.str _)⟩)
  · obtain ⟨c, p⟩ := p.guard
    cases rx with
    | tup ta ra =>
      cases ry with
      | tup tb rb =>
        refine .inr (.inl ⟨_, _, _, _, rfl, rfl, ta.sq, tb.sq, by rw [← ra.length, ← rb.length]; exact okLen_ok c, fun z => ?_, fun z1 z => ?_, fun _ _ q hq => p.tup R (ra.append rb) hq⟩)
        · have z1 := ra.nil_iff.mp z
          subst z1
          exact p.ok R (.tup tb rb)
        · have z1 := rb.nil_iff.mp z
          subst z1
          rw [List.append_nil] at p
          exact p.ok R (.tup ta ra)
  · split at p
    · rename_i e1 e2
      exact lists e1 e2 p
    · exact p.elim
theorem o_sub : Op2 X (rI0 fun i j => .int (i - j)) subD := by
  intro ι h H x y v u W Q R rx ry p
  unfold subD at p
  split at p
  · cases rx
    cases ry
    exact ⟨_, _, rfl, rfl, p.ok R (.int _)⟩
  · exact p.elim
abbrev rMulI : R2 := rI CMulX fun i j => .int (i * j)
def gMul (K : PySem.W.Frag) : R2 := fun x y H Q => rMulI x y H Q ∨ (rRepT K x y H Q ∨ rRep x y H Q)
theorem or_mul : OpR X (binaryOp .Mult) (gMul X.K) := OpR.or op_mulX (OpR.or op_repT op_rep)
theorem o_mul : Op2 X (gMul X.K) mulD := by
  intro ι h H x y v u W Q R rx ry p
  unfold mulD at p
  split at p
  · obtain ⟨c, p⟩ := p.guard
    cases rx
    cases ry
    refine .inl ⟨_, _, rfl, rfl, ?_, p.ok R (.int _)⟩
    have c1 := of_decide_eq_true c
    unfold CMulX
    omega
  · obtain ⟨c, p⟩ := p.guard
    obtain ⟨c1, c2, c3, c4⟩ := of_decide_eq_true c
    cases ry
    cases rx with
    | tup ta ra => exact .inr (.inl ⟨_, _, _, rfl, rfl, ta.sq, fun z => c1 (ra.nil_iff.mp z), c2, c3, by rw [← ra.length]; exact c4, fun q hq => p.tup R (ra.rep _) hq⟩)
  · split at p
    · rename_i xs e1
      obtain ⟨c, p⟩ := p.guard
      obtain ⟨c1, c2, c3⟩ := of_decide_eq_true c
      obtain ⟨a, vs, rfl, ha, rv⟩ := items_ok R rx e1
      cases ry
      exact .inr (.inr ⟨_, _, _, rfl, rfl, ha, by omega, by omega, by rw [← rv.length, sizeLine_eq]; exact c3, fun q hq => p.lst R (rv.rep _) hq⟩)
    · exact p.elim
  · exact p.elim
theorem op_fdivX : OpR X (binaryOp .FloorDiv) (rI (fun i j => okDiv i j = true) fun i j => .int (i / j)) := opI fun i j _ _ _ _ _ hc q => by
  obtain ⟨h1, h2⟩ := of_decide_eq_true hc
  refine floordiv_int (by omega) (by rw [Int.fdiv_eq_ediv_of_nonneg i (by omega)]; exact q) ?_
  rcases h2 with h2 | h2
  · exact .inl (PyProof.noPylong_of_log2 h2)
  · exact .inl (divp_ok h1 h2).2
theorem o_div : Op2 X (rI (fun i j => okDiv i j = true) fun i j => .int (i / j)) divD := by
  intro ι h H x y v u W Q R rx ry p
  unfold divD at p
  split at p
  · obtain ⟨c, p⟩ := p.guard
    cases rx
    cases ry
    exact ⟨_, _, rfl, rfl, c, p.ok R (.int _)⟩
  · exact p.elim
theorem o_mod : Op2 X (rI (fun _ j => 0 < j) fun i j => .int (i % j)) modD := by
  intro ι h H x y v u W Q R rx ry p
  unfold modD at p
  split at p
  · obtain ⟨c, p⟩ := p.guard
    cases rx
    cases ry
    exact ⟨_, _, rfl, rfl, of_decide_eq_true c, p.ok R (.int _)⟩
  · exact p.elim
theorem o_pow : Op2 X (rI CPow fun i j => .int (i ^ j.toNat)) powD := by
  intro ι h H x y v u W Q R rx ry p
  unfold powD at p
  split at p
  · obtain ⟨c, p⟩ := p.guard
    cases rx
    cases ry
    exact ⟨_, _, rfl, rfl, (of_decide_eq_true c : _ ∧ _ ∧ _), p.ok R (.int _)⟩
  · exact p.elim
theorem o_neg : Op1 X (rU fun i => .int (-i)) negD := by
  intro ι h H x v W Q R rx p
  unfold negD at p
  split at p
  · cases rx
    exact ⟨_, rfl, p.ok R (.int _)⟩
  · exact p.elim
variable {W : WX} {pos : Pos} {a b : Expr} {ca cb : Env → M D}
theorem de_add (ha : DE X W a ca) (hb : DE X W b cb) : DE X W (.BinOp a .Add b pos) (e2 addD ca cb) := de_bin or_add o_add ha hb
theorem de_sub (ha : DE X W a ca) (hb : DE X W b cb) : DE X W (.BinOp a .Sub b pos) (e2 subD ca cb) := de_bin op_sub o_sub ha hb
theorem de_mul (ha : DE X W a ca) (hb : DE X W b cb) : DE X W (.BinOp a .Mult b pos) (e2 mulD ca cb) := de_bin or_mul o_mul ha hb
theorem de_div (ha : DE X W a ca) (hb : DE X W b cb) : DE X W (.BinOp a .FloorDiv b pos) (e2 divD ca cb) := de_bin op_fdivX o_div ha hb
theorem de_mod (ha : DE X W a ca) (hb : DE X W b cb) : DE X W (.BinOp a .Mod b pos) (e2 modD ca cb) := de_bin op_mod o_mod ha hb
theorem de_pow (ha : DE X W a ca) (hb : DE X W b cb) : DE X W (.BinOp a .Pow b pos) (e2 powD ca cb) := de_bin op_pow o_pow ha hb
theorem de_neg (ha : DE X W a ca) : DE X W (.UnaryOp .USub a pos) (e1 negD ca) := de_un un_neg o_neg ha
end
end Dl

/-! The D layer, 3: comparisons, tests. -/
namespace Dl
open PySem PySem.Spec PyProof.Rows L2

def optAll {α β : Type} (f : α → Option β) : List α → Option (List β)
  | [] => some []
  | x :: xs => (match f x, optAll f xs with
    | some y, some ys => some (y :: ys)
    | _, _ => none)
/-- as the library's own data, to a depth -/
def toPy (h : Hs) : Nat → D → Option PyData
  | 0, d => (match d with
    | .non => some .none
    | .bl b => some (.bool b)
    | .int i => some (.int i)
    | .str x => some (.str x)
    | _ => none)
  | n + 1, d => (match d with
    | .non => some .none
    | .bl b => some (.bool b)
    | .int i => some (.int i)
    | .str x => some (.str x)
    | .tup xs => (optAll (toPy h n) xs).map .tuple
    | .lst xs => (optAll (toPy h n) xs).map .list
    | .obj k => (match h[k]? with
      | some (.lst xs) => (optAll (toPy h n) xs).map .list
      | _ => none)
    | _ => none)
section
variable {K : PySem.W.Frag} {ι : Ix} {H : Hp} {h : Hs}
theorem optAll_ok {f : D → Option PyData} (hf : ∀ d v p, RD K ι H d v → f d = some p → Dp K H v p) : ∀ {xs : List D} {vs : List V} {ps : List PyData}, RDs K ι H xs vs → optAll f xs = some ps → DpAll K H vs ps
  | [], _, _, .nil, e => by cases e; exact .nil
  | x :: xs, _, ps, .cons r rs, e => by
    unfold optAll at e
    split at e
    · rename_i y ys h1 h2
      cases e
      exact .cons (hf _ _ _ r h1) (optAll_ok hf rs h2)
    · cases e
theorem toPy_ok (R : Rel K ι h H) : ∀ (n : Nat) (d : D) (v : V) (p : PyData), RD K ι H d v → toPy h n d = some p → Dp K H v p
  | 0, d, v, p, r, e => by
    cases r <;> first
      | (cases e; first | exact .non | exact .bl _ | exact .int _ | exact .str _)
      | (cases e; done)
  | n + 1, d, v, p, r, e => by
    have ih := toPy_ok R n
    cases r with
    | non => cases e; exact .non
    | bl b => cases e; exact .bl _
    | int i => cases e; exact .int _
    | str x => cases e; exact .str _
    | tup t q =>
      obtain ⟨ps, e1, e2⟩ := Option.map_eq_some_iff.mp (show (optAll (toPy h n) _).map PyData.tuple = some p from e)
      subst e2
      exact .tup t.sq (optAll_ok ih q e1)
    | lst l q =>
      obtain ⟨ps, e1, e2⟩ := Option.map_eq_some_iff.mp (show (optAll (toPy h n) _).map PyData.list = some p from e)
      subst e2
      exact .lst l.sq (optAll_ok ih q e1)
    | @obj k a g =>
      have e : (match h[k]? with
      | some (.lst xs) => (optAll (toPy h n) xs).map PyData.list
      | _ => none) = some p := e
      cases hk : h[k]? with
      | none => rw [hk] at e; cases e
      | some o =>
        rw [hk] at e
        cases o with
        | lst xs =>
          obtain ⟨ps, e1, e2⟩ := Option.map_eq_some_iff.mp e
          subst e2
          obtain ⟨vs, h1, h2⟩ := R.at g hk
          exact .lst (SqL.of h1) (optAll_ok ih h2 e1)
        | _ => cases e
    | _ => cases e
end
def pyDepth : Nat := 63
def eqPy (x y : D) (neg : Bool) : M D := fun h => match toPy h pyDepth x, toPy h pyDepth y with
  | some p, some q => if SeqAt.shaped p && SeqAt.shaped q then .ok (.bl (if neg then !PyData.eqv p q else PyData.eqv p q)) h else .bad
  | _, _ => .bad
def eqD (x y : D) : M D := eqPy x y false
def neD (x y : D) : M D := eqPy x y true
def cmpD (f : Int → Int → Bool) (x y : D) : M D := fun h => match x, y with
  | .int i, .int j => .ok (.bl (f i j)) h
  | _, _ => .bad
def ltD := cmpD fun i j => decide (i < j)
def leD := cmpD fun i j => decide (i ≤ j)
def gtD := cmpD fun i j => decide (j < i)
def geD := cmpD fun i j => decide (j ≤ i)
def isNone : D → Bool
  | .non => true
  | _ => false
def isD (x y : D) : M D := fun h => match y with
  | .non => .ok (.bl (isNone x)) h
  | _ => .bad
def isnD (x y : D) : M D := fun h => match y with
  | .non => .ok (.bl (!isNone x)) h
  | _ => .bad
def keyOf : D → Option Key
  | .int i => some (.inl i)
  | .str x => some (.inr x)
  | _ => none
def seqOf (h : Hs) : D → Option (List D)
  | .tup xs => some xs
  | d => items h d
def look {κ : Type} [DecidableEq κ] (kvs : List (κ × D)) (k : κ) : Option D := (kvs.find? fun p => decide (p.1 = k)).map (·.2)
/-- x in y -/
def inGen (neg : Bool) (x y : D) : M D := fun h => match y with
  | .str b => (match x with
    | .str a => .ok (.bl (if neg then !(!(Builtin.Str.occurrences b a 0 b.length 1).isEmpty) else !(Builtin.Str.occurrences b a 0 b.length 1).isEmpty)) h
    | _ => .bad)
  | y => (match seqOf h y with
    | some ys => (match toPy h pyDepth x, optAll (toPy h pyDepth) ys with
      | some p, some ps => if SeqAt.shaped p && SeqAt.shaped (.tuple ps) then .ok (.bl (if neg then !(ps.any fun z => PyData.eqv z p) else ps.any fun z => PyData.eqv z p)) h else .bad
      | _, _ => .bad)
    | none => (match y with
      | .obj n => (match h[n]?, keyOf x with
        | some (.dI kvs), some k => .ok (.bl (if neg then !(look kvs k).isSome else (look kvs k).isSome)) h
        | _, _ => .bad)
      | _ => .bad))
def inD := inGen false
def ninD := inGen true
section
variable {X : Cx}
theorem o_eq : Op2 X (rEqD X.K) eqD := by
  intro ι h H x y v u W Q R rx ry p
  unfold eqD eqPy at p
  split at p
  · rename_i a b h1 h2
    obtain ⟨c, p⟩ := p.guard
    obtain ⟨c1, c2⟩ := Bool.and_eq_true_iff.mp c
    exact ⟨a, b, toPy_ok R _ _ _ _ rx h1, toPy_ok R _ _ _ _ ry h2, c1, c2, p.ok R (.bl _)⟩
  · exact p.elim
theorem o_ne : Op2 X (rNeD X.K) neD := by
  intro ι h H x y v u W Q R rx ry p
  unfold neD eqPy at p
  split at p
  · rename_i a b h1 h2
    obtain ⟨c, p⟩ := p.guard
    obtain ⟨c1, c2⟩ := Bool.and_eq_true_iff.mp c
    exact ⟨a, b, toPy_ok R _ _ _ _ rx h1, toPy_ok R _ _ _ _ ry h2, c1, c2, p.ok R (.bl _)⟩
  · exact p.elim
theorem o_cmp {f : Int → Int → Bool} : Op2 X (rI0 fun i j => .bl (f i j)) (cmpD f) := by
  intro ι h H x y v u W Q R rx ry p
  unfold cmpD at p
  split at p
  · cases rx
    cases ry
    exact ⟨_, _, rfl, rfl, p.ok R (.bl _)⟩
  · exact p.elim
theorem isNone_rel {K : PySem.W.Frag} {ι : Ix} {H : Hp} {x : D} {v : V} (r : RD K ι H x v) : decide (v = .non) = isNone x := by
  cases r <;> rfl
theorem o_is : Op2 X (fun x y H Q => y = .non ∧ Q (.bl (decide (x = .non))) H) isD := by
  intro ι h H x y v u W Q R rx ry p
  unfold isD at p
  split at p
  · cases ry
    refine ⟨rfl, ?_⟩
    rw [isNone_rel rx]
    exact p.ok R (.bl _)
  · exact p.elim
theorem o_isn : Op2 X (fun x y H Q => y = .non ∧ Q (.bl (!decide (x = .non))) H) isnD := by
  intro ι h H x y v u W Q R rx ry p
  unfold isnD at p
  split at p
  · cases ry
    refine ⟨rfl, ?_⟩
    rw [isNone_rel rx]
    exact p.ok R (.bl _)
  · exact p.elim
/-- in a tuple -/
def rInTD (K : PySem.W.Frag) (neg : Bool) : R2 := fun x y H Q => ∃ d ds, Dp K H x d ∧ Dp K H y (.tuple ds) ∧ SeqAt.shaped d = true ∧ SeqAt.shaped (.tuple ds) = true ∧ Q (.bl (if neg then !(ds.any fun z => PyData.eqv z d) else ds.any fun z => PyData.eqv z d)) H
theorem op_inTD (hu : X.A.units + 65 < cLine) : OpR X (compareOp .In) (rInTD X.K false) := by
  intro pins s σ H x y v u Q I rx ry h
  obtain ⟨d, ds, hd, he, sd, se, q⟩ := h
  obtain ⟨as, r1⟩ := Dp.reads I d x v hd rx
  obtain ⟨bs, r2⟩ := Dp.reads I (.tuple ds) y u he ry
  exact SeqAt.in_tuple_reads r2 r1 (SeqAt.canLay_of_shaped se) (SeqAt.canLay_of_shaped sd) (room_in_shaped sd hu) ⟨.bl _, H, I, rfl, q⟩
theorem op_ninTD (hu : X.A.units + 65 < cLine) : OpR X (compareOp .NotIn) (rInTD X.K true) := by
  intro pins s σ H x y v u Q I rx ry h
  obtain ⟨d, ds, hd, he, sd, se, q⟩ := h
  obtain ⟨as, r1⟩ := Dp.reads I d x v hd rx
  obtain ⟨bs, r2⟩ := Dp.reads I (.tuple ds) y u he ry
  exact SeqAt.notIn_tuple_reads r2 r1 (SeqAt.canLay_of_shaped se) (SeqAt.canLay_of_shaped sd) (room_in_shaped sd hu) ⟨.bl _, H, I, rfl, q⟩
end
end Dl

/-! The D layer, 4: in, and or not, displays, calls, fields, subscripts, slices. -/
namespace Dl
open PySem PySem.Spec PyProof.Rows L2

section
variable {K : PySem.W.Frag} {ι : Ix} {H : Hp} {h : Hs}
theorem keyOf_kV {x : D} {v : V} {k : Key} (r : RD K ι H x v) (e : keyOf x = some k) : v = kV k := by
  cases r <;> first
    | (cases e; rfl)
    | (cases e; done)
theorem look_rf {κ : Type} [DecidableEq κ] {k : κ} : ∀ {kvs : List (κ × D)} {us : List (κ × V)}, RF K ι H kvs us →
    (∀ d, look kvs k = some d → ∃ v, valV us k = some v ∧ RD K ι H d v) ∧ (look kvs k = none → valV us k = none)
  | _, _, .nil => ⟨fun d e => (nomatch e), fun _ => rfl⟩
  | p :: kvs, q :: us, .cons g r => by
    obtain ⟨i1, i2⟩ := look_rf (k := k) r
    by_cases e : p.1 = k
    · have e2 : q.1 = k := by rw [← g.1]; exact e
      refine ⟨fun d z => ?_, fun z => ?_⟩
      · have z1 : look (p :: kvs) k = some p.2 := by simp [look, List.find?_cons, e]
        rw [z1] at z
        cases z
        exact ⟨q.2, valV_pos e2, g.2⟩
      · have z1 : look (p :: kvs) k = some p.2 := by simp [look, List.find?_cons, e]
        rw [z1] at z
        cases z
    · have e2 : ¬ q.1 = k := by rw [← g.1]; exact e
      have z1 : look (p :: kvs) k = look kvs k := by simp [look, List.find?_cons, e]
      rw [z1, valV_neg e2]
      exact ⟨i1, i2⟩
theorem look_isSome {κ : Type} [DecidableEq κ] {k : κ} {kvs : List (κ × D)} {us : List (κ × V)} (r : RF K ι H kvs us) : (valV us k).isSome = (look kvs k).isSome := by
  obtain ⟨i1, i2⟩ := look_rf (k := k) r
  cases e : look kvs k with
  | none => rw [i2 e] <;> rfl
  | some d =>
    obtain ⟨v, z, _⟩ := i1 d e
    rw [z]
    rfl
theorem seqOf_ok (R : Rel K ι h H) {x : D} {v : V} {xs : List D} (r : RD K ι H x v) (e : seqOf h x = some xs) : ∃ a vs, v = .ref a ∧ (SqL K H a vs ∨ SqT K H a vs) ∧ RDs K ι H xs vs := by
  cases r with
  | tup t q => cases e; exact ⟨_, _, rfl, .inr t.sq, q⟩
  | lst l q => cases e; exact ⟨_, _, rfl, .inl l.sq, q⟩
  | @obj n a g =>
    obtain ⟨a, vs, e1, e2, e3⟩ := items_ok R (.obj g) (show items h (.obj n) = some xs from e)
    exact ⟨a, vs, e1, .inl (SqL.of e2), e3⟩
  | _ => cases e
theorem seqOf_dp (R : Rel K ι h H) {x : D} {v : V} {xs : List D} {ps : List PyData} (r : RD K ι H x v) (e : seqOf h x = some xs) (f : optAll (toPy h pyDepth) xs = some ps) : Dp K H v (.list ps) ∨ Dp K H v (.tuple ps) := by
  obtain ⟨a, vs, rfl, q, rs⟩ := seqOf_ok R r e
  have z := optAll_ok (toPy_ok R pyDepth) rs f
  rcases q with q | q
  · exact .inl (.lst q z)
  · exact .inr (.tup q z)
end
theorem shaped_lt (ps : List PyData) : SeqAt.shaped (.tuple ps) = SeqAt.shaped (.list ps) := by
  unfold SeqAt.shaped
  have e1 : PyData.canLay0 (.tuple ps) = PyData.canLay0 (.list ps) := by simp only [PyData.canLay0]
  have e2 : PyData.depth (.tuple ps) = PyData.depth (.list ps) := by simp only [PyData.depth]
  rw [e1, e2]
section
variable {X : Cx}
def rInDct (neg : Bool) : R2 := fun x y H Q => ∃ a o, y = .ref a ∧ DGet H a x o ∧ Q (.bl (if neg then !o.isSome else o.isSome)) H
theorem op_inDct (hu : X.A.units + 1 < cLine) : OpR X (compareOp .In) (rInDct false) := by
  intro pins s σ H x y v u Q I rx ry h
  obtain ⟨a, o, rfl, g, q⟩ := h
  cases ry
  exact d_in hu I g rx fun s3 I3 => ⟨.bl o.isSome, H, I3, rfl, q⟩
theorem op_ninDct (hu : X.A.units + 1 < cLine) : OpR X (compareOp .NotIn) (rInDct true) := by
  intro pins s σ H x y v u Q I rx ry h
  obtain ⟨a, o, rfl, g, q⟩ := h
  cases ry
  exact d_notIn hu I g rx fun s3 I3 => ⟨.bl (!o.isSome), H, I3, rfl, q⟩
def rInStr (neg : Bool) : R2 := fun x y H Q => ∃ i j, x = .str i ∧ y = .str j ∧ Q (.bl (if neg then !(!(Builtin.Str.occurrences j i 0 j.length 1).isEmpty) else !(Builtin.Str.occurrences j i 0 j.length 1).isEmpty)) H
def rInLD (K : PySem.W.Frag) (neg : Bool) : R2 := fun x y H Q => ∃ d ds, Dp K H x d ∧ Dp K H y (.list ds) ∧ SeqAt.shaped d = true ∧ SeqAt.shaped (.list ds) = true ∧ Q (.bl (if neg then !(ds.any fun z => PyData.eqv z d) else ds.any fun z => PyData.eqv z d)) H
def gIn (K : PySem.W.Frag) (neg : Bool) : R2 := fun x y H Q => (rInLD K neg x y H Q ∨ rInTD K neg x y H Q) ∨ (rInDct neg x y H Q ∨ rInStr neg x y H Q)
theorem or_in (hu : X.A.units + 65 < cLine) : OpR X (compareOp .In) (gIn X.K false) := OpR.or (OpR.or (op_inD hu) (op_inTD hu)) (OpR.or (op_inDct (by omega)) op_in_str)
theorem or_nin (hu : X.A.units + 65 < cLine) : OpR X (compareOp .NotIn) (gIn X.K true) := OpR.or (OpR.or (op_notInD hu) (op_ninTD hu)) (OpR.or (op_ninDct (by omega)) op_notIn_str)
theorem o_in {neg : Bool} : Op2 X (gIn X.K neg) (inGen neg) := by
  intro ι h H x y v u W Q R rx ry p
  unfold inGen at p
  split at p
  · split at p
    · cases rx
      cases ry
      exact .inr (.inr ⟨_, _, rfl, rfl, p.ok R (.bl _)⟩)
    · exact p.elim
  · split at p
    · rename_i ys e1
      split at p
      · rename_i d ps e2 e3
        obtain ⟨c, p⟩ := p.guard
        obtain ⟨c1, c2⟩ := Bool.and_eq_true_iff.mp c
        rcases seqOf_dp R ry e1 e3 with z | z
        · exact .inl (.inl ⟨d, ps, toPy_ok R _ _ _ _ rx e2, z, c1, by rw [← shaped_lt]; exact c2, p.ok R (.bl _)⟩)
        · exact .inl (.inr ⟨d, ps, toPy_ok R _ _ _ _ rx e2, z, c1, c2, p.ok R (.bl _)⟩)
      · exact p.elim
    · split at p
      · split at p
        · rename_i n kvs k e1 e2
          cases ry with
          | obj g =>
            obtain ⟨us, h1, h2⟩ := R.at g e1
            refine .inr (.inl ⟨_, valV us k, rfl, ?_, ?_⟩)
            · rw [keyOf_kV rx e2]
              exact DGet.k h1
            · rw [look_isSome h2]
              exact p.ok R (.bl _)
        · exact p.elim
      · exact p.elim
variable {W : WX} {pos : Pos} {a b c : Expr} {ca cb cc : Env → M D}
theorem de_eq (hu : X.A.units + 64 < cLine) (ha : DE X W a ca) (hb : DE X W b cb) : DE X W (.Compare a [.Eq] [b] pos) (e2 eqD ca cb) := de_cmp (op_eqD hu) o_eq ha hb (nomark _)
theorem de_ne (hu : X.A.units + 64 < cLine) (ha : DE X W a ca) (hb : DE X W b cb) : DE X W (.Compare a [.NotEq] [b] pos) (e2 neD ca cb) := de_cmp (op_neD hu) o_ne ha hb (nomark _)
theorem de_lt (ha : DE X W a ca) (hb : DE X W b cb) : DE X W (.Compare a [.Lt] [b] pos) (e2 ltD ca cb) := de_cmp op_lt o_cmp ha hb (nomark _)
theorem de_le (ha : DE X W a ca) (hb : DE X W b cb) : DE X W (.Compare a [.LtE] [b] pos) (e2 leD ca cb) := de_cmp op_le o_cmp ha hb (nomark _)
theorem de_gt (ha : DE X W a ca) (hb : DE X W b cb) : DE X W (.Compare a [.Gt] [b] pos) (e2 gtD ca cb) := de_cmp op_gt o_cmp ha hb (nomark _)
theorem de_ge (ha : DE X W a ca) (hb : DE X W b cb) : DE X W (.Compare a [.GtE] [b] pos) (e2 geD ca cb) := de_cmp op_ge o_cmp ha hb (nomark _)
theorem de_is (ha : DE X W a ca) (hb : DE X W b cb) : DE X W (.Compare a [.Is] [b] pos) (e2 isD ca cb) := de_cmp op_isN o_is ha hb (nomark _)
theorem de_isn (ha : DE X W a ca) (hb : DE X W b cb) : DE X W (.Compare a [.IsNot] [b] pos) (e2 isnD ca cb) := de_cmp op_notN o_isn ha hb (nomark _)
theorem de_in (hu : X.A.units + 65 < cLine) (ha : DE X W a ca) (hb : DE X W b cb) (hm : behindInMarks .In b = false := by with_unfolding_all rfl) : DE X W (.Compare a [.In] [b] pos) (e2 inD ca cb) := de_cmp (or_in hu) o_in ha hb hm
theorem de_nin (hu : X.A.units + 65 < cLine) (ha : DE X W a ca) (hb : DE X W b cb) (hm : behindInMarks .NotIn b = false := by with_unfolding_all rfl) : DE X W (.Compare a [.NotIn] [b] pos) (e2 ninD ca cb) := de_cmp (or_nin hu) o_in ha hb hm
/-- a <= b <= c -/
def eCh (f g : D → D → M D) (ca cb cc : Env → M D) : Env → M D := fun ρ h => (ca ρ h).bind fun x h1 => (cb ρ h1).bind fun y h2 => (f x y h2).bind fun z h3 => match z with
  | .bl true => (cc ρ h3).bind fun w h4 => g y w h4
  | .bl false => .ok (.bl false) h3
  | _ => .bad
theorem de_chain {o o' : CmpOp} {f g : D → D → M D} {r r' : R2} (ho : OpR X (compareOp o) r) (ho' : OpR X (compareOp o') r') (op : Op2 X r f) (op' : Op2 X r' g) (ha : DE X W a ca) (hb : DE X W b cb) (hc : DE X W c cc)
    (hm : lastMarks [o, o'] [b, c] = false) : DE X W (.Compare a [o, o'] [b, c] pos) (eCh f g ca cb cc) := pe_imp (pe_chain ho ho' ha hb hc hm) fun σ H Q ⟨ι, h, ρ, R, S, p⟩ => by
  refine ⟨ι, h, ρ, R, S, Post.imp (Post.bind p) fun x H1 ⟨ι1, h1, dx, x1, R1, r1, p1⟩ => ?_⟩
  refine ⟨ι1, h1, ρ, R1, S.mono x1, Post.imp (Post.bind p1) fun y H2 ⟨ι2, h2, dy, x2, R2, r2, p2⟩ => ?_⟩
  refine op ι2 h2 H2 dx dy x y _ _ R2 (r1.mono x2) r2 (Post.imp (Post.bind p2) fun z H3 ⟨ι3, h3, dz, x3, R3, r3, p3⟩ => ?_)
  split at p3
  · cases r3
    refine ⟨true, rfl, ?_⟩
    rw [if_pos rfl]
    refine ⟨ι3, h3, ρ, R3, S.mono ((x1.trans x2).trans x3), Post.imp (Post.bind p3) fun w H4 ⟨ι4, h4, dw, x4, R4, r4, p4⟩ => ?_⟩
    exact op' ι4 h4 H4 dy dw y w _ _ R4 (r2.mono (x3.trans x4)) r4 p4
  · cases r3
    refine ⟨false, rfl, ?_⟩
    rw [if_neg Bool.false_ne_true]
    exact p3.ok R3 (.bl _)
  · exact p3.elim
theorem de_lele (ha : DE X W a ca) (hb : DE X W b cb) (hc : DE X W c cc) (hm : lastMarks [.LtE, .LtE] [b, c] = false := by with_unfolding_all rfl) : DE X W (.Compare a [.LtE, .LtE] [b, c] pos) (eCh leD leD ca cb cc) := de_chain op_le op_le o_cmp o_cmp ha hb hc hm
theorem de_ltle (ha : DE X W a ca) (hb : DE X W b cb) (hc : DE X W c cc) (hm : lastMarks [.Lt, .LtE] [b, c] = false := by with_unfolding_all rfl) : DE X W (.Compare a [.Lt, .LtE] [b, c] pos) (eCh ltD leD ca cb cc) := de_chain op_lt op_le o_cmp o_cmp ha hb hc hm

/-! ### and, or, not, if as values and as tests -/
def andV (ca cb : Env → M D) : Env → M D := fun ρ h => (ca ρ h).bind fun x h1 => match x with
  | .bl true => cb ρ h1
  | .bl false => .ok (.bl false) h1
  | _ => .bad
def orV (ca cb : Env → M D) : Env → M D := fun ρ h => (ca ρ h).bind fun x h1 => match x with
  | .bl true => .ok (.bl true) h1
  | .bl false => cb ρ h1
  | _ => .bad
def notV (x : D) : M D := fun h => match x with
  | .bl b => .ok (.bl (!b)) h
  | _ => .bad
def tst (ca : Env → M D) : Env → M Bool := fun ρ h => (ca ρ h).bind fun x h1 => match x with
  | .bl b => .ok b h1
  | _ => .bad
def andT (ca cb : Env → M Bool) : Env → M Bool := fun ρ h => (ca ρ h).bind fun x h1 => if x = true then cb ρ h1 else .ok false h1
def orT (ca cb : Env → M Bool) : Env → M Bool := fun ρ h => (ca ρ h).bind fun x h1 => if x = true then .ok true h1 else cb ρ h1
def notT (ca : Env → M Bool) : Env → M Bool := fun ρ h => (ca ρ h).bind fun x h1 => .ok (!x) h1
def ifV (ct : Env → M Bool) (ca cb : Env → M D) : Env → M D := fun ρ h => (ct ρ h).bind fun x h1 => if x = true then ca ρ h1 else cb ρ h1
variable {ta tb : Env → M Bool} {rest : List Expr}
theorem de_one {op} (ha : DE X W a ca) : DE X W (.BoolOp op [a] pos) ca := pe_one ha
theorem de_and (ha : DE X W a ca) (hb : DE X W (.BoolOp .And (b :: rest) pos) cb) : DE X W (.BoolOp .And (a :: b :: rest) pos) (andV ca cb) := pe_imp (pe_and ha hb) fun σ H Q ⟨ι, h, ρ, R, S, p⟩ => by
  refine ⟨ι, h, ρ, R, S, Post.imp (Post.bind p) fun x H1 ⟨ι1, h1, dx, x1, R1, r1, p1⟩ => ?_⟩
  split at p1
  · cases r1
    refine ⟨true, rfl, ?_⟩
    rw [if_pos rfl]
    exact ⟨ι1, h1, ρ, R1, S.mono x1, p1⟩
  · cases r1
    refine ⟨false, rfl, ?_⟩
    rw [if_neg Bool.false_ne_true]
    exact p1.ok R1 (.bl _)
  · exact p1.elim
theorem de_or (ha : DE X W a ca) (hb : DE X W (.BoolOp .Or (b :: rest) pos) cb) : DE X W (.BoolOp .Or (a :: b :: rest) pos) (orV ca cb) := pe_imp (pe_or ha hb) fun σ H Q ⟨ι, h, ρ, R, S, p⟩ => by
  refine ⟨ι, h, ρ, R, S, Post.imp (Post.bind p) fun x H1 ⟨ι1, h1, dx, x1, R1, r1, p1⟩ => ?_⟩
  split at p1
  · cases r1
    refine ⟨true, rfl, ?_⟩
    rw [if_pos rfl]
    exact p1.ok R1 (.bl _)
  · cases r1
    refine ⟨false, rfl, ?_⟩
    rw [if_neg Bool.false_ne_true]
    exact ⟨ι1, h1, ρ, R1, S.mono x1, p1⟩
  · exact p1.elim
theorem de_not (ha : DE X W a ca) : DE X W (.UnaryOp .Not a pos) (e1 notV ca) := pe_imp (pe_not ha) fun σ H Q ⟨ι, h, ρ, R, S, p⟩ => by
  refine ⟨ι, h, ρ, R, S, Post.imp (Post.bind p) fun x H1 ⟨ι1, h1, dx, x1, R1, r1, p1⟩ => ?_⟩
  unfold notV at p1
  split at p1
  · cases r1
    exact ⟨_, rfl, p1.ok R1 (.bl _)⟩
  · exact p1.elim
theorem dt_val (ha : DE X W a ca) (he : ∀ whole, isTrue a X.env whole = (do let v ← whole; standAt a.pos; holding [v] (truthy v)) := by intro _; rfl) : DT X W a (tst ca) := pt_imp (pt_val ha he) fun σ H Q ⟨ι, h, ρ, R, S, p⟩ => by
  refine ⟨ι, h, ρ, R, S, Post.imp (Post.bind p) fun x H1 ⟨ι1, h1, dx, x1, R1, r1, p1⟩ => ?_⟩
  split at p1
  · cases r1
    exact ⟨_, rfl, p1.ok R1 rfl⟩
  · exact p1.elim
theorem w_cmp {o : CmpOp} {f : D → D → M D} {g : R2} (ho : OpR X (compareOp o) g) (op : Op2 X g f) (ha : DE X W a ca) (hb : DE X W b cb) (hm : behindInMarks o b = false) : DT X W (.Compare a [o] [b] pos) (tst (e2 f ca cb)) := pt_imp (pt_cmpR ho ha hb hm) fun σ H Q ⟨ι, h, ρ, R, S, p⟩ => by
  have q : wE X.K W (e2 f ca cb) σ H fun x H' => ∃ k, x = V.bl k ∧ Q k H' := by
    refine ⟨ι, h, ρ, R, S, Post.imp (Post.bind p) fun x H1 ⟨ι1, h1, dx, x1, R1, r1, p1⟩ => ?_⟩
    split at p1
    · cases r1
      exact ⟨_, rfl, p1.ok R1 rfl⟩
    · exact p1.elim
  exact w2 op q
theorem dt_eq (hu : X.A.units + 64 < cLine) (ha : DE X W a ca) (hb : DE X W b cb) : DT X W (.Compare a [.Eq] [b] pos) (tst (e2 eqD ca cb)) := w_cmp (op_eqD hu) o_eq ha hb (nomark _)
theorem dt_ne (hu : X.A.units + 64 < cLine) (ha : DE X W a ca) (hb : DE X W b cb) : DT X W (.Compare a [.NotEq] [b] pos) (tst (e2 neD ca cb)) := w_cmp (op_neD hu) o_ne ha hb (nomark _)
theorem dt_lt (ha : DE X W a ca) (hb : DE X W b cb) : DT X W (.Compare a [.Lt] [b] pos) (tst (e2 ltD ca cb)) := w_cmp op_lt o_cmp ha hb (nomark _)
theorem dt_le (ha : DE X W a ca) (hb : DE X W b cb) : DT X W (.Compare a [.LtE] [b] pos) (tst (e2 leD ca cb)) := w_cmp op_le o_cmp ha hb (nomark _)
theorem dt_gt (ha : DE X W a ca) (hb : DE X W b cb) : DT X W (.Compare a [.Gt] [b] pos) (tst (e2 gtD ca cb)) := w_cmp op_gt o_cmp ha hb (nomark _)
theorem dt_ge (ha : DE X W a ca) (hb : DE X W b cb) : DT X W (.Compare a [.GtE] [b] pos) (tst (e2 geD ca cb)) := w_cmp op_ge o_cmp ha hb (nomark _)
theorem dt_is (ha : DE X W a ca) (hb : DE X W b cb) : DT X W (.Compare a [.Is] [b] pos) (tst (e2 isD ca cb)) := w_cmp op_isN o_is ha hb (nomark _)
theorem dt_isn (ha : DE X W a ca) (hb : DE X W b cb) : DT X W (.Compare a [.IsNot] [b] pos) (tst (e2 isnD ca cb)) := w_cmp op_notN o_isn ha hb (nomark _)
theorem dt_in (hu : X.A.units + 65 < cLine) (ha : DE X W a ca) (hb : DE X W b cb) (hm : behindInMarks .In b = false := by with_unfolding_all rfl) : DT X W (.Compare a [.In] [b] pos) (tst (e2 inD ca cb)) := w_cmp (or_in hu) o_in ha hb hm
theorem dt_nin (hu : X.A.units + 65 < cLine) (ha : DE X W a ca) (hb : DE X W b cb) (hm : behindInMarks .NotIn b = false := by with_unfolding_all rfl) : DT X W (.Compare a [.NotIn] [b] pos) (tst (e2 ninD ca cb)) := w_cmp (or_nin hu) o_in ha hb hm
/-- a test whatever its whole is -/
abbrev DW (X : Cx) (W : WX) (e : Expr) (c : Env → M Bool) : Prop := PW X e (wT X.K W c)
theorem pw_imp {X : Cx} {e : Expr} {t t' : TT} (h : PW X e t) (w : ∀ σ H Q, t' σ H Q → t σ H Q) : PW X e t' := ⟨fun wh pins s σ H Q I z => h.run wh pins s σ H Q I (w σ H Q z)⟩
theorem dw_and1 (ha : DT X W a ta) : DW X W (.BoolOp .And [a] pos) ta := pw_and1 ha
theorem dw_or1 (ha : DT X W a ta) : DW X W (.BoolOp .Or [a] pos) ta := pw_or1 ha
theorem dw_and (ha : DT X W a ta) (hb : DW X W (.BoolOp .And (b :: rest) pos) tb) : DW X W (.BoolOp .And (a :: b :: rest) pos) (andT ta tb) := pw_imp (pw_and ha hb) fun σ H Q ⟨ι, h, ρ, R, S, p⟩ => by
  refine ⟨ι, h, ρ, R, S, Post.imp (Post.bind p) fun x H1 ⟨ι1, h1, dx, x1, R1, r1, p1⟩ => ?_⟩
  subst r1
  cases dx with
  | true =>
    rw [if_pos rfl] at p1 ⊢
    exact ⟨ι1, h1, ρ, R1, S.mono x1, p1⟩
  | false =>
    rw [if_neg Bool.false_ne_true] at p1 ⊢
    exact p1.ok R1 rfl
theorem dw_or (ha : DT X W a ta) (hb : DW X W (.BoolOp .Or (b :: rest) pos) tb) : DW X W (.BoolOp .Or (a :: b :: rest) pos) (orT ta tb) := pw_imp (pw_or ha hb) fun σ H Q ⟨ι, h, ρ, R, S, p⟩ => by
  refine ⟨ι, h, ρ, R, S, Post.imp (Post.bind p) fun x H1 ⟨ι1, h1, dx, x1, R1, r1, p1⟩ => ?_⟩
  subst r1
  cases dx with
  | true =>
    rw [if_pos rfl] at p1 ⊢
    exact p1.ok R1 rfl
  | false =>
    rw [if_neg Bool.false_ne_true] at p1 ⊢
    exact ⟨ι1, h1, ρ, R1, S.mono x1, p1⟩
theorem dt_bool (h : DW X W a ta) : DT X W a ta := h.pt
theorem dt_not (ha : DT X W a ta) : DT X W (.UnaryOp .Not a pos) (notT ta) := pt_imp (pt_not ha) fun σ H Q ⟨ι, h, ρ, R, S, p⟩ => by
  refine ⟨ι, h, ρ, R, S, Post.imp (Post.bind p) fun x H1 ⟨ι1, h1, dx, x1, R1, r1, p1⟩ => ?_⟩
  subst r1
  exact p1.ok R1 rfl
theorem de_if (ht : DT X W c ta) (ha : DE X W a ca) (hb : DE X W b cb) : DE X W (.IfExp c a b pos) (ifV ta ca cb) := pe_imp (pe_ifExp ht ha hb) fun σ H Q ⟨ι, h, ρ, R, S, p⟩ => by
  refine ⟨ι, h, ρ, R, S, Post.imp (Post.bind p) fun x H1 ⟨ι1, h1, dx, x1, R1, r1, p1⟩ => ?_⟩
  subst r1
  cases dx with
  | true =>
    rw [if_pos rfl] at p1 ⊢
    exact ⟨ι1, h1, ρ, R1, S.mono x1, p1⟩
  | false =>
    rw [if_neg Bool.false_ne_true] at p1 ⊢
    exact ⟨ι1, h1, ρ, R1, S.mono x1, p1⟩

/-! ### arguments, displays -/
def aN : Env → M (List D) := fun _ h => .ok [] h
def aC (ca : Env → M D) (cs : Env → M (List D)) : Env → M (List D) := fun ρ h => (ca ρ h).bind fun x h1 => (cs ρ h1).bind fun xs h2 => .ok (x :: xs) h2
variable {es : List Expr} {cs : Env → M (List D)}
theorem da_nil : DA X W [] aN := pa_imp pa_nil fun σ H Q ⟨ι, h, ρ, R, S, p⟩ => p.ok R .nil
theorem da_cons (ha : DE X W a ca) (hs : DA X W es cs) (hst : starEach (a :: es) X.env = (false, eval a X.env) :: starEach es X.env := by rfl) : DA X W (a :: es) (aC ca cs) := pa_imp (pa_cons ha hs hst) fun σ H Q ⟨ι, h, ρ, R, S, p⟩ => by
  refine ⟨ι, h, ρ, R, S, Post.imp (Post.bind p) fun x H1 ⟨ι1, h1, dx, x1, R1, r1, p1⟩ => ?_⟩
  refine ⟨ι1, h1, ρ, R1, S.mono x1, Post.imp (Post.bind p1) fun xs H2 ⟨ι2, h2, dxs, x2, R2, r2, p2⟩ => ?_⟩
  exact p2.ok R2 (.cons (r1.mono x2) r2)
def eTup (cs : Env → M (List D)) : Env → M D := fun ρ h => (cs ρ h).bind fun xs h1 => if okLen xs.length then .ok (.tup xs) h1 else .bad
theorem de_tup {k : Nat} (hs : DA X W es cs) : DE X W (.Tuple es k pos) (eTup cs) := pe_imp (pe_tup hs) fun σ H Q ⟨ι, h, ρ, R, S, p⟩ => by
  refine ⟨ι, h, ρ, R, S, Post.imp (Post.bind p) fun xs H1 ⟨ι1, h1, dxs, x1, R1, r1, p1⟩ => ?_⟩
  obtain ⟨c, p1⟩ := p1.guard
  exact ⟨by rw [← r1.length]; exact okLen_ok c, fun q hq => p1.tup R1 r1 hq⟩
/-- a new list: its items -/
def nLst (cs : Env → M (List D)) : Env → M (List D) := fun ρ h => (cs ρ h).bind fun xs h1 => if okLen xs.length then .ok xs h1 else .bad
/-- it stays as it is; it may change -/
def frz (cs : Env → M (List D)) : Env → M D := fun ρ h => (cs ρ h).bind fun xs h1 => .ok (.lst xs) h1
def thaw (cs : Env → M (List D)) : Env → M D := fun ρ h => (cs ρ h).bind fun xs h1 => .ok (.obj h1.length) (h1 ++ [.lst xs])
theorem PostN.bind {K : PySem.W.Frag} {W : XK} {α β : Type} {RA : Ix → Hp → α → β → Prop} {r : R α} {f : α → M (List D)} {ι : Ix} {H : Hp} {Q : VK} (p : PostN K W (r.bind f) ι H Q) :
    Post K W RA r ι H (fun b H1 => ∃ ι1 h1 a, Ext ι H ι1 H1 ∧ Rel K ι1 h1 H1 ∧ RA ι1 H1 a b ∧ PostN K W (f a h1) ι H Q) := by
  cases r with
  | ok a h => exact fun ι' H' b e R ra => ⟨ι', h, a, e, R, ra, p⟩
  | exc C fs h => exact p
  | bad => exact p
theorem PostN.bindAt {K : PySem.W.Frag} {W : XK} {α β : Type} {RA : Ix → Hp → α → β → Prop} {r : R α} {f : α → M (List D)} {ι ιb : Ix} {H Hb : Hp} {Q : VK} (e : Ext ιb Hb ι H) (p : PostN K W (r.bind f) ιb Hb Q) :
    Post K W RA r ι H (fun b H1 => ∃ ι1 h1 a, Ext ι H ι1 H1 ∧ Rel K ι1 h1 H1 ∧ RA ι1 H1 a b ∧ PostN K W (f a h1) ιb Hb Q) := by
  cases r with
  | ok a h => exact fun ι' H' b e R ra => ⟨ι', h, a, e, R, ra, p⟩
  | exc C fs h => exact fun ι' H' od e' => p ι' H' od (e.trans e')
  | bad => exact p
theorem PostN.guard {K : PySem.W.Frag} {W : XK} {ι : Ix} {H : Hp} {Q : VK} {c : Bool} {r : R (List D)} (p : PostN K W (if c = true then r else .bad) ι H Q) : c = true ∧ PostN K W r ι H Q := by
  cases c with
  | true => exact ⟨rfl, p⟩
  | false => exact (show False from p).elim
theorem dn_lst (hs : DA X W es cs) : DN X W (.List es pos) (nLst cs) := pe_imp (pe_lst hs) fun σ H Q ⟨ι, h, ρ, R, S, p⟩ => by
  refine ⟨ι, h, ρ, R, S, Post.imp (PostN.bind p) fun xs H1 ⟨ι1, h1, dxs, x1, R1, r1, p1⟩ => ?_⟩
  obtain ⟨c, p1⟩ := p1.guard
  exact ⟨by rw [← r1.length]; exact okLen_ok c, fun q hq => p1.new x1 R1 r1 hq⟩
theorem Ext.more {ι ι1 : Ix} {H H1 : Hp} {l : Addr} (e : Ext ι H ι1 H1) (n : H l = none) : Ext ι H (ι1.push l) H1 := ⟨by
    obtain ⟨t, e1⟩ := e.pre
    exact ⟨t ++ [l], by show ι1.os ++ [l] = _; rw [e1, List.append_assoc]⟩, e.rs, e.keep, fun b m => by
    rcases List.mem_append.mp m with m | m
    · exact e.new b m
    · exact .inr (by rw [List.mem_singleton.mp m]; exact n)⟩
theorem w_frz {K : PySem.W.Frag} {σ : L2.St} {H : Hp} {Q : VK} (q : wE K W (frz cs) σ H Q) : wN K W cs σ H Q := by
  obtain ⟨ι, h, ρ, R, S, p⟩ := q
  refine ⟨ι, h, ρ, R, S, ?_⟩
  unfold frz at p
  cases q : cs ρ h with
  | bad => rw [q] at p; exact p
  | exc C fs h' => rw [q] at p; exact p
  | ok xs h1 =>
    rw [q] at p
    intro ι1 H1 l vs x1 R1 r1 e n1 n2 n0
    exact p ι1 H1 _ x1 R1.done (.lst ⟨⟨n1, n2⟩, e⟩ (r1.up Up.done))
theorem w_thaw {K : PySem.W.Frag} {σ : L2.St} {H : Hp} {Q : VK} (q : wE K W (thaw cs) σ H Q) : wN K W cs σ H Q := by
  obtain ⟨ι, h, ρ, R, S, p⟩ := q
  refine ⟨ι, h, ρ, R, S, ?_⟩
  unfold thaw at p
  cases q : cs ρ h with
  | bad => rw [q] at p; exact p
  | exc C fs h' => rw [q] at p; exact p
  | ok xs h1 =>
    rw [q] at p
    intro ι1 H1 l vs x1 R1 r1 e n1 n2 n0
    refine p (ι1.push l) H1 _ (x1.more n0) (R1.push n1 ⟨vs, e, r1.up Up.push⟩) (.obj ?_)
    have hl : ι1.os.length = h1.length := R1.len
    show (ι1.os ++ [l])[h1.length]? = some l
    rw [← hl, List.getElem?_append_right (Nat.le_refl _)]
    simp
theorem de_frz (hs : DN X W a cs) : DE X W a (frz cs) := pe_imp hs fun _ _ _ q => w_frz q
theorem de_thaw (hs : DN X W a cs) : DE X W a (thaw cs) := pe_imp hs fun _ _ _ q => w_thaw q
end
end Dl

/-! The D layer, 5: calls of defs, methods, classes; fields; subscripts. -/
namespace Dl
open PySem PySem.Spec PyProof.Rows L2

/-! ### a def's promise -/
def spD (K : PySem.W.Frag) (n : Nat) (m : List D → M D) : Sp := fun vs H Q E => vs.length = n ∧ ∃ ι h ds, Rel K ι h H ∧ RDs K ι H ds vs ∧ Post K E (RD K) (m ds h) ι H Q
/-- as the hand layer's FnOk, where no repr is under way -/
structure FnG (P : Program) (w : World) (K : PySem.W.Frag) (mg : Str → Option Value) (base : Heap) (CX : CXT) (k : Nat) (f : Addr) (fd : FuncData) (ps : List Str) (sp : Sp) : Prop where
  len : ∀ vs H Q E, sp vs H Q E → vs.length = ps.length
  run : ∀ (A : Around) (outer : List PySem.Env) (s : Shared) (H : Hp) (args : Args) (us : List Value) (vs : List V) (Q : VK) (E : XK), Room k A → A.guards = some [] → Env0 P w K mg base A outer s H → BindsTo s fd args (ps.zip us) → Vals vs us → sp vs H Q E →
    codeAny (model P w) A (.call (.ref f) args) (CR CX outer P w H s Q E) s
theorem FnG.mono {P : Program} {w : World} {K : PySem.W.Frag} {mg : Str → Option Value} {base : Heap} {CX : CXT} {j k : Nat} {f : Addr} {fd : FuncData} {ps : List Str} {sp : Sp} (F : FnG P w K mg base CX j f fd ps sp) (h : j ≤ k) :
    FnG P w K mg base CX k f fd ps sp := ⟨F.len, fun A outer s H args us vs Q E hr => F.run A outer s H args us vs Q E (hr.mono h)⟩
def FnD (P : Program) (w : World) (K : PySem.W.Frag) (mg : Str → Option Value) (base : Heap) (k : Nat) (f : Addr) (n : Nat) (m : List D → M D) : Prop :=
  ∃ fd ps, FnG P w K mg base (L2.CX P w) k f fd ps (spD K n m) ∧ Binds K fd ps [] ∧ PySem.W.keepIn K (.ref f) = true
theorem FnD.mono {P : Program} {w : World} {K : PySem.W.Frag} {mg : Str → Option Value} {base : Heap} {j k : Nat} {f : Addr} {n : Nat} {m : List D → M D} (F : FnD P w K mg base j f n m) (h : j ≤ k) : FnD P w K mg base k f n m := by
  obtain ⟨fd, ps, F, b, kp⟩ := F
  exact ⟨fd, ps, F.mono h, b, kp⟩
section
variable {X : Cx} {CX : CXT} {k : Nat} {f C : Addr} {fd : FuncData} {ps : List Str} {sp : Sp} {E : L2.St → XK} {x m : Str} {p pos apos : Pos} {e o : Expr} {es : List Expr} {ta : TE} {t : TA}
theorem run_fnG {pins : List (Addr × Obj)} {σ : L2.St} {H : Hp} {s : Shared} {Q : VK} {us : List Value} {vs : List V} (F : FnG X.prog X.w X.K X.mg X.base CX k f fd ps sp) (hr : Room k X.A) (gd : X.A.guards = some []) (hb : Binds X.K fd ps []) (hx : PassesAt CX X σ (E σ))
    (I : Inv X pins σ H s) (r : Vals vs us) (h : sp vs H Q (E σ)) : wpAny (model X.prog X.w) X.A (call (.ref f) us) (EP X pins σ Q) X.xe s := by
  have hl : us.length = ps.length := by rw [← r.length]; exact F.len _ _ _ _ h
  have b := hb s us I.kIn (by rw [List.append_nil]; exact hl)
  rw [List.append_nil] at b
  refine wpAny_call (codeAny_mono (F.run X.A X.stack s H ⟨us, []⟩ us vs Q (E σ) hr gd I.env0 b r h) fun r s' hq => ?_)
  cases r with
  | error e => exact hx pins H s e s' I hq
  | ok fl =>
    cases fl with
    | ret u => exact I.after hq
    | next => exact False.elim hq
    | brk => exact False.elim hq
    | cont => exact False.elim hq
theorem pe_callG (F : FnG X.prog X.w X.K X.mg X.base CX k f fd ps sp) (hr : Room k X.A) (gd : X.A.guards = some []) (hg : Gl X x) (hm : X.mg x = some (.ref f)) (hk : PySem.W.keepIn X.K (.ref f) = true) (hb : Binds X.K fd ps []) (hx : ∀ σ, PassesAt CX X σ (E σ))
    (ha : PA X (e :: es) t) (hdb : (x == ("__debug__" : Str)) = false := by decide) (he : starEach (e :: es) X.env = (false, eval e X.env) :: starEach es X.env := by rfl) (hpl : (backTo pos (starEach es X.env)).any (·.1) = false := by rfl) :
    PE X (.Call (.Name x p) (e :: es) [] pos) (tCallS sp E t) := by
  refine ⟨fun pins s σ H Q I h => ?_⟩
  refine wpAny_Call_Name_kw (ld_glob I hg hm ?_ hdb)
  refine PySem.W.callWith_K (h₀ := X.base) I.ok.mod.kin hk (thn (ha.run pos pins s σ H _ I h) fun us s1 ⟨vs, H1, I1, r, q⟩ => ⟨I1.kIn, ?_⟩) he hpl
  exact run_fnG F hr gd hb (hx σ) I1 r q
end
def eCall (n : Nat) (m : List D → M D) (cs : Env → M (List D)) : Env → M D := fun ρ h => (cs ρ h).bind fun xs h1 => if decide (xs.length = n) then m xs h1 else .bad
def fieldsAt (C : Str) (h : Hs) (x : D) : Option (List (Str × D)) := match x with
  | .obj n => (match h[n]? with
    | some (.ins C' fs) => if decide (C' = C) then some fs else none
    | _ => none)
  | _ => none
section
variable {K : PySem.W.Frag} {ι : Ix} {H : Hp} {h : Hs}
theorem fieldsAt_ok (R : Rel K ι h H) {C : Str} {x : D} {v : V} {fs : List (Str × D)} (r : RD K ι H x v) (e : fieldsAt C h x = some fs) :
    ∃ n a dx us, x = .obj n ∧ v = .ref a ∧ ι.os[n]? = some a ∧ h[n]? = some (.ins C fs) ∧ H a = some (.ins (He.ga K C) dx us) ∧ RF K ι H fs us := by
  cases r with
  | @obj n a g =>
    have e : (match h[n]? with
    | some (.ins C' fs) => if decide (C' = C) then some fs else none
    | _ => none) = some fs := e
    cases hn : h[n]? with
    | none => rw [hn] at e; cases e
    | some o =>
      rw [hn] at e
      cases o with
      | ins C' gs =>
        have e : (if decide (C' = C) = true then some gs else none) = some fs := e
        by_cases hc : C' = C
        · rw [if_pos (decide_eq_true hc)] at e
          cases e
          subst hc
          obtain ⟨dx, us, h1, h2⟩ := R.at g hn
          exact ⟨n, a, dx, us, rfl, rfl, g, hn, h1, h2⟩
        · rw [if_neg (by simpa using hc)] at e
          cases e
      | _ => cases e
  | _ => cases e
theorem rf_lookup {f : Str} : ∀ {fs : List (Str × D)} {us : List (Str × V)}, RF K ι H fs us → (∀ d, fs.lookup f = some d → ∃ v, us.lookup f = some v ∧ RD K ι H d v) ∧ (fs.lookup f = none → us.lookup f = none)
  | _, _, .nil => ⟨fun d e => (nomatch e), fun _ => rfl⟩
  | p :: fs, q :: us, .cons g r => by
    obtain ⟨i1, i2⟩ := rf_lookup (f := f) r
    obtain ⟨p1, p2⟩ := p
    obtain ⟨q1, q2⟩ := q
    have e1 : p1 = q1 := g.1
    subst e1
    rw [List.lookup_cons, List.lookup_cons]
    cases z : f == p1 with
    | true => exact ⟨fun d e => by cases e; exact ⟨_, rfl, g.2⟩, fun e => (nomatch e)⟩
    | false => exact ⟨i1, i2⟩
def putFD (f : Str) (d : D) : List (Str × D) → List (Str × D)
  | [] => [(f, d)]
  | (g, e) :: r => if g = f then (g, d) :: r else (g, e) :: putFD f d r
theorem rf_put {f : Str} {d : D} {v : V} (rd : RD K ι H d v) : ∀ {fs : List (Str × D)} {us : List (Str × V)}, RF K ι H fs us → RF K ι H (putFD f d fs) (putF f v us)
  | _, _, .nil => .cons ⟨rfl, rd⟩ .nil
  | (p1, p2) :: fs, (q1, q2) :: us, .cons g r => by
    have e1 : p1 = q1 := g.1
    subst e1
    unfold putFD putF
    by_cases z : p1 = f
    · rw [if_pos z, if_pos z]
      exact .cons ⟨rfl, rd⟩ r
    · rw [if_neg z, if_neg z]
      exact .cons g (rf_put rd r)
theorem rf_len {κ : Type} {fs : List (κ × D)} {us : List (κ × V)} (r : RF K ι H fs us) : fs.length = us.length := Paired.length r
end
def eFld (C f : Str) (ca : Env → M D) : Env → M D := fun ρ h => (ca ρ h).bind fun x h1 => match (fieldsAt C h1 x).bind (·.lookup f) with
  | some d => .ok d h1
  | none => .bad
def eMeth (C m : Str) (n : Nat) (mf : List D → M D) (ca : Env → M D) (cs : Env → M (List D)) : Env → M D := fun ρ h => (ca ρ h).bind fun x h1 => match (fieldsAt C h1 x).map (·.lookup m) with
  | some none => (cs ρ h1).bind fun xs h2 => if decide (xs.length + 1 = n) then mf (x :: xs) h2 else .bad
  | _ => .bad
def eMake (C : Str) (n : Nat) (mf : List D → M D) (cs : Env → M (List D)) : Env → M D := fun ρ h => (cs ρ h).bind fun xs h1 => if decide (xs.length + 1 = n) then
  (mf (.obj h1.length :: xs) (h1 ++ [.ins C []])).bind fun r h2 => match r with
  | .non => .ok (.obj h1.length) h2
  | _ => .bad
  else .bad
section
variable {X : Cx} {W : WX} {pos p apos : Pos} {a : Expr} {es : List Expr} {ca : Env → M D} {cs : Env → M (List D)} {k n : Nat} {mf : List D → M D} {x C m f : Str}
/-- f(a, ..) -/
theorem de_call (F : FnD X.prog X.w X.K X.mg X.base k (He.ga X.K x) n mf) (hr : Room k X.A) (gd : X.A.guards = some []) (tk : Takes X W) (hm : X.mg x = some (.ref (He.ga X.K x))) (hg : Gl X x) (ha : DA X W (a :: es) cs) (hdb : (x == ("__debug__" : Str)) = false := by decide)
    (he : starEach (a :: es) X.env = (false, eval a X.env) :: starEach es X.env := by rfl) (hpl : (backTo pos (starEach es X.env)).any (·.1) = false := by rfl) : DE X W (.Call (.Name x p) (a :: es) [] pos) (eCall n mf cs) := by
  obtain ⟨fd, ps, F, b, kp⟩ := F
  refine pe_imp (pe_callG F hr gd hg hm kp b (fun σ => passAt tk σ) ha hdb he hpl) fun σ H Q ⟨ι, h, ρ, R, S, p⟩ => ?_
  refine ⟨ι, h, ρ, R, S, Post.imp (Post.bind p) fun vs H1 ⟨ι1, h1, ds, x1, R1, r1, p1⟩ => ?_⟩
  obtain ⟨c, p1⟩ := p1.guard
  exact ⟨by rw [← r1.length]; exact of_decide_eq_true c, ι1, h1, ds, R1, r1, p1⟩
theorem pe_callS0 {CX : CXT} {f : Addr} {fd : FuncData} {ps : List Str} {sp : Sp} {E : L2.St → XK} (F : FnG X.prog X.w X.K X.mg X.base CX k f fd ps sp) (hr : Room k X.A) (gd : X.A.guards = some []) (hg : Gl X x) (hm : X.mg x = some (.ref f)) (hk : PySem.W.keepIn X.K (.ref f) = true) (hb : Binds X.K fd ps [])
    (hx : ∀ σ, PassesAt CX X σ (E σ)) (hdb : (x == ("__debug__" : Str)) = false := by decide) : PE X (.Call (.Name x p) [] [] pos) (tCallS sp E tNil) := by
  refine ⟨fun pins s σ H Q I h => ?_⟩
  refine wpAny_Call_Name_kw (ld_glob I hg hm ?_ hdb)
  exact PySem.W.callWith_K0 I.kIn hk (run_fnG (us := []) F hr gd hb (hx σ) I .nil h)
/-- f() -/
theorem de_call0 (F : FnD X.prog X.w X.K X.mg X.base k (He.ga X.K x) n mf) (hr : Room k X.A) (gd : X.A.guards = some []) (tk : Takes X W) (hm : X.mg x = some (.ref (He.ga X.K x))) (hg : Gl X x) (hdb : (x == ("__debug__" : Str)) = false := by decide) : DE X W (.Call (.Name x p) [] [] pos) (eCall n mf aN) := by
  obtain ⟨fd, ps, F, b, kp⟩ := F
  refine pe_imp (pe_callS0 F hr gd hg hm kp b (fun σ => passAt tk σ) hdb) fun σ H Q ⟨ι, h, ρ, R, S, p⟩ => ?_
  have p : Post X.K (fun x d H' => W x d σ H') (RD X.K) (if decide (([] : List D).length = n) = true then mf [] h else .bad) ι H Q := p
  obtain ⟨c, p1⟩ := p.guard
  exact ⟨of_decide_eq_true c, ι, h, [], R, .nil, p1⟩
/-- o.f -/
theorem de_fld (c : Cls X.K (He.ga X.K C)) (nf : NoAttr X.K (He.ga X.K C) f) (ha : DE X W a ca) (hb : attributeBase a f X.env (eval a X.env) = eval a X.env := by rfl) : DE X W (.Attribute a f pos) (eFld C f ca) := pe_imp (pe_fld ha hb) fun σ H Q ⟨ι, h, ρ, R, S, p⟩ => by
  refine ⟨ι, h, ρ, R, S, Post.imp (Post.bind p) fun v H1 ⟨ι1, h1, dx, x1, R1, r1, p1⟩ => ?_⟩
  split at p1
  · rename_i d e
    obtain ⟨fs, e1, e2⟩ := Option.bind_eq_some_iff.mp e
    obtain ⟨n, q, dx, us, rfl, rfl, g, hn, hq, rf⟩ := fieldsAt_ok R1 r1 e1
    obtain ⟨w, h2, r2⟩ := (rf_lookup (f := f) rf).1 d e2
    exact ⟨q, _, dx, us, w, rfl, hq, c, nf, h2, p1.ok R1 r2⟩
  · exact p1.elim
def tMethS (C : Addr) (m : Str) (sp : Sp) (E : L2.St → XK) (ta : TE) (t : TA) : TE := fun σ H Q => ta σ H fun x H1 => ∃ a dx fs, x = .ref a ∧ H1 a = some (.ins C dx fs) ∧ fs.lookup m = none ∧
  t σ H1 fun vs H2 => sp (x :: vs) H2 Q (E σ)
theorem pe_methSX {CX : CXT} {C g : Addr} {fd : FuncData} {ps : List Str} {sp : Sp} {E : L2.St → XK} {o e : Expr} {es : List Expr} {ta : TE} {t : TA} {pl : Sem Bool} (he : PE X o ta) (c : Cls X.K C) (hm : Meth X.K C m g) (F : FnG X.prog X.w X.K X.mg X.base CX k g fd ps sp)
    (hr : Room k X.A) (gd : X.A.guards = some []) (hb : Binds X.K fd ps []) (hx : ∀ σ, PassesAt CX X σ (E σ)) (ha : PA X (e :: es) t)
    (hst : starEach (e :: es) X.env = (false, eval e X.env) :: starEach es X.env := by rfl) (hpl : (backTo pos (starEach es X.env)).any (·.1) = false := by rfl)
    (ht : eval (.Call (.Attribute o m apos) (e :: es) [] pos) X.env = (do
      let ov ← eval o X.env
      standAt apos.atName
      let (f, first) ← holding [ov] (getMethod ov m pl)
      callWith pos f first (backTo pos (starEach (e :: es) X.env)) (backToKw pos (keywordEach [] X.env))) := by rfl) :
    PE X (.Call (.Attribute o m apos) (e :: es) [] pos) (tMethS C m sp E ta t) := by
  refine ⟨fun pins s σ H Q I h => ?_⟩
  refine PySem.W.methodCall_KW (pl := pl) (thn (he.run pins s σ H _ I h) fun u s1 ⟨x, H1, I1, rx, a, dx, fs, ex, ea, l, q⟩ => ?_) ht
  subst ex
  obtain rfl : u = Value.ref a := rx
  refine getmeth_ok I1 ea c hm l ?_
  refine PySem.W.callWith_K (first := [.ref a]) (h₀ := X.base) I.ok.mod.kin hm.kp (thn (ha.run pos pins s1 σ H1 _ I1 q) fun us s2 ⟨vs, H2, I2, r, q2⟩ => ⟨I2.kIn, ?_⟩) hst hpl
  exact run_fnG (us := .ref a :: us) (vs := .ref a :: vs) F hr gd hb (hx σ) I2 (.cons rfl r) q2
theorem pe_methSX0 {CX : CXT} {C g : Addr} {fd : FuncData} {ps : List Str} {sp : Sp} {E : L2.St → XK} {o : Expr} {ta : TE} {pl : Sem Bool} (he : PE X o ta) (c : Cls X.K C) (hm : Meth X.K C m g) (F : FnG X.prog X.w X.K X.mg X.base CX k g fd ps sp)
    (hr : Room k X.A) (gd : X.A.guards = some []) (hb : Binds X.K fd ps []) (hx : ∀ σ, PassesAt CX X σ (E σ))
    (ht : eval (.Call (.Attribute o m apos) [] [] pos) X.env = (do
      let ov ← eval o X.env
      standAt apos.atName
      let (f, first) ← holding [ov] (getMethod ov m pl)
      callWith pos f first (backTo pos (starEach [] X.env)) (backToKw pos (keywordEach [] X.env))) := by rfl) :
    PE X (.Call (.Attribute o m apos) [] [] pos) (tMethS C m sp E ta tNil) := by
  refine ⟨fun pins s σ H Q I h => ?_⟩
  refine PySem.W.methodCall_KW (pl := pl) (thn (he.run pins s σ H _ I h) fun u s1 ⟨x, H1, I1, rx, a, dx, fs, ex, ea, l, q⟩ => ?_) ht
  subst ex
  obtain rfl : u = Value.ref a := rx
  refine getmeth_ok I1 ea c hm l ?_
  exact PySem.W.callWith_K0 (first := [.ref a]) I1.kIn hm.kp (run_fnG (us := [.ref a]) (vs := [.ref a]) F hr gd hb (hx σ) I1 (.cons rfl .nil) q)
/-- what stands between a method's def and its call -/
theorem w_meth {ta' : Env → M D} {t : TA} {cs' : Env → M (List D)} (ht : ∀ σ H Q, wA X.K W cs' σ H Q → t σ H Q) {σ : L2.St} {H : Hp} {Q : VK} (q : wE X.K W (eMeth C m n mf ta' cs') σ H Q) : tMethS (He.ga X.K C) m (spD X.K n mf) (WE W) (wE X.K W ta') t σ H Q := by
  obtain ⟨ι, h, ρ, R, S, p⟩ := q
  refine ⟨ι, h, ρ, R, S, Post.imp (Post.bind p) fun v H1 ⟨ι1, h1, dx, x1, R1, r1, p1⟩ => ?_⟩
  split at p1
  · rename_i e
    obtain ⟨fs, e1, e2⟩ := Option.map_eq_some_iff.mp e
    obtain ⟨j, q, dd, us, rfl, rfl, g, hn, hq, rf⟩ := fieldsAt_ok R1 r1 e1
    refine ⟨q, dd, us, rfl, hq, (rf_lookup (f := m) rf).2 e2, ht _ _ _ ?_⟩
    refine ⟨ι1, h1, ρ, R1, S.mono x1, Post.imp (Post.bind p1) fun vs H2 ⟨ι2, h2, ds, x2, R2, r2, p2⟩ => ?_⟩
    obtain ⟨c, p2⟩ := p2.guard
    exact ⟨by rw [List.length_cons, ← r2.length]; exact of_decide_eq_true c, ι2, h2, _, R2, .cons (r1.mono x2) r2, p2⟩
  · exact p1.elim
theorem de_meth {pl : Sem Bool} (F : FnD X.prog X.w X.K X.mg X.base k (He.ma X.K (He.ga X.K C) m) n mf) (hr : Room k X.A) (gd : X.A.guards = some []) (tk : Takes X W) (c : Cls X.K (He.ga X.K C)) (hm : Meth X.K (He.ga X.K C) m (He.ma X.K (He.ga X.K C) m)) {o : Expr} (ho : DE X W o ca) (ha : DA X W (a :: es) cs)
    (hst : starEach (a :: es) X.env = (false, eval a X.env) :: starEach es X.env := by rfl) (hpl : (backTo pos (starEach es X.env)).any (·.1) = false := by rfl)
    (ht : eval (.Call (.Attribute o m apos) (a :: es) [] pos) X.env = (do
      let ov ← eval o X.env
      standAt apos.atName
      let (f, first) ← holding [ov] (getMethod ov m pl)
      callWith pos f first (backTo pos (starEach (a :: es) X.env)) (backToKw pos (keywordEach [] X.env))) := by rfl) : DE X W (.Call (.Attribute o m apos) (a :: es) [] pos) (eMeth C m n mf ca cs) := by
  obtain ⟨fd, ps, F, b, kp⟩ := F
  exact pe_imp (pe_methSX (pl := pl) ho c hm F hr gd b (fun σ => passAt tk σ) ha hst hpl ht) fun σ H Q q => w_meth (fun _ _ _ z => z) q
theorem de_meth0 {pl : Sem Bool} (F : FnD X.prog X.w X.K X.mg X.base k (He.ma X.K (He.ga X.K C) m) n mf) (hr : Room k X.A) (gd : X.A.guards = some []) (tk : Takes X W) (c : Cls X.K (He.ga X.K C)) (hm : Meth X.K (He.ga X.K C) m (He.ma X.K (He.ga X.K C) m)) {o : Expr} (ho : DE X W o ca)
    (ht : eval (.Call (.Attribute o m apos) [] [] pos) X.env = (do
      let ov ← eval o X.env
      standAt apos.atName
      let (f, first) ← holding [ov] (getMethod ov m pl)
      callWith pos f first (backTo pos (starEach [] X.env)) (backToKw pos (keywordEach [] X.env))) := by rfl) : DE X W (.Call (.Attribute o m apos) [] [] pos) (eMeth C m n mf ca aN) := by
  obtain ⟨fd, ps, F, b, kp⟩ := F
  exact pe_imp (pe_methSX0 (pl := pl) ho c hm F hr gd b (fun σ => passAt tk σ) ht) fun σ H Q q => w_meth (fun σ H Q ⟨ι, h, ρ, R, S, p⟩ => p.ok R .nil) q
/-! ### C(..) -/
def tMakeS (C : Addr) (sp : Sp) (E : L2.St → XK) (t : TA) : TE := fun σ H Q => t σ H fun vs H1 => ∀ x dx, H1 x = none → H1 dx = none → dx ≠ x →
  sp (.ref x :: vs) (upd (upd H1 dx (.own x)) x (.ins C dx [])) (fun v H2 => v = .non ∧ Q (.ref x) H2) (E σ)
theorem make_guards {A : Around} {C : Addr} {us : List Value} {kw : List (Str × Value)} (gd : A.guards = some []) : (A.under (.builtin "type.__call__" ⟨.ref C :: us, kw⟩)).guards = some [] := by
  have e : (Code.builtin "type.__call__" ⟨.ref C :: us, kw⟩).guards = [] := by
    first
      | rfl
      | simp [Code.guards, Code.isGuard, guardIds]
  show pushGuards (Code.builtin "type.__call__" ⟨.ref C :: us, kw⟩).guards A.guards = some []
  rw [e, gd]
  rfl
theorem run_makeS {CX : CXT} {C f : Addr} {fd : FuncData} {ps : List Str} {sp : Sp} {E : XK} {pins : List (Addr × Obj)} {σ : L2.St} {H : Hp} {s : Shared} {Q : VK} {us : List Value} {vs : List V} (M : Mk X.K C f) (F : FnG X.prog X.w X.K X.mg X.base CX k f fd ps sp) (hr : Room (k + 1) X.A) (gd : X.A.guards = some [])
    (hb : Binds X.K fd ps []) (hx : PassesAt CX X σ E) (I : Inv X pins σ H s) (r : Vals vs us)
    (h : ∀ x dx, H x = none → H dx = none → dx ≠ x → sp (.ref x :: vs) (upd (upd H dx (.own x)) x (.ins C dx [])) (fun v H2 => v = .non ∧ Q (.ref x) H2) E) :
    wpAny (model X.prog X.w) X.A (call (.ref C) us) (EP X pins σ Q) X.xe s := by
  have hq := h (s.heap.objs.size + 1) s.heap.objs.size (I.hok.fresh (Nat.le_succ _)) (I.hok.fresh (Nat.le_refl _)) (Nat.ne_of_lt (Nat.lt_succ_self _))
  have I2 := Inv.made (C := C) I
  have r2 : Vals (V.ref (s.heap.objs.size + 1) :: vs) (Value.ref (s.heap.objs.size + 1) :: us) := .cons rfl r
  have hl : (Value.ref (s.heap.objs.size + 1) :: us).length = ps.length := by
    have e := r2.length
    rw [F.len _ _ _ _ hq] at e
    exact e.symm
  have b := hb _ (Value.ref (s.heap.objs.size + 1) :: us) I2.kIn (by rw [List.append_nil]; exact hl)
  rw [List.append_nil] at b
  refine wpAny_call (make_map (f := f) I.kIn M.makes M.init (beq_iff_eq.mp M.fn) (codeAny_mono (F.run _ X.stack _ _ ⟨Value.ref (s.heap.objs.size + 1) :: us, []⟩ (Value.ref (s.heap.objs.size + 1) :: us) _ _ E (hr.make C us []) (make_guards gd)
    (I2.env0.make C us []) b r2 hq) fun r s' hq' => ?_))
  cases r with
  | error e => exact hx pins _ _ e s' I2 hq'
  | ok fl =>
    cases fl with
    | ret u =>
      obtain ⟨v, H', I3, rv, ev, q3⟩ := I2.after hq'
      subst ev
      exact ⟨rv, ⟨V.ref (s.heap.objs.size + 1), H', I3, rfl, q3⟩⟩
    | next => exact False.elim hq'
    | brk => exact False.elim hq'
    | cont => exact False.elim hq'
theorem pe_makeS {CX : CXT} {C f : Addr} {fd : FuncData} {ps : List Str} {sp : Sp} {E : L2.St → XK} {t : TA} (M : Mk X.K C f) (F : FnG X.prog X.w X.K X.mg X.base CX k f fd ps sp) (hr : Room (k + 1) X.A) (gd : X.A.guards = some []) (hg : Gl X x) (hm : X.mg x = some (.ref C)) (hb : Binds X.K fd ps [])
    (hx : ∀ σ, PassesAt CX X σ (E σ)) (ha : PA X (a :: es) t) (hdb : (x == ("__debug__" : Str)) = false := by decide) (he : starEach (a :: es) X.env = (false, eval a X.env) :: starEach es X.env := by rfl) (hpl : (backTo pos (starEach es X.env)).any (·.1) = false := by rfl) :
    PE X (.Call (.Name x p) (a :: es) [] pos) (tMakeS C sp E t) := by
  refine ⟨fun pins s σ H Q I h => ?_⟩
  refine wpAny_Call_Name_kw (ld_glob I hg hm ?_ hdb)
  refine PySem.W.callWith_K (h₀ := X.base) I.ok.mod.kin M.kp (thn (ha.run pos pins s σ H _ I h) fun us s1 ⟨vs, H1, I1, r, q⟩ => ⟨I1.kIn, ?_⟩) he hpl
  exact run_makeS M F hr gd hb (hx σ) I1 r q
theorem pe_makeS0 {CX : CXT} {C f : Addr} {fd : FuncData} {ps : List Str} {sp : Sp} {E : L2.St → XK} (M : Mk X.K C f) (F : FnG X.prog X.w X.K X.mg X.base CX k f fd ps sp) (hr : Room (k + 1) X.A) (gd : X.A.guards = some []) (hg : Gl X x) (hm : X.mg x = some (.ref C)) (hb : Binds X.K fd ps [])
    (hx : ∀ σ, PassesAt CX X σ (E σ)) (hdb : (x == ("__debug__" : Str)) = false := by decide) : PE X (.Call (.Name x p) [] [] pos) (tMakeS C sp E tNil) := by
  refine ⟨fun pins s σ H Q I h => ?_⟩
  refine wpAny_Call_Name_kw (ld_glob I hg hm ?_ hdb)
  exact PySem.W.callWith_K0 I.kIn M.kp (run_makeS (us := []) M F hr gd hb (hx σ) I .nil h)
theorem w_make {σ : L2.St} {H : Hp} {Q : VK} {t : TA} {cs' : Env → M (List D)} (ht : ∀ σ H Q, wA X.K W cs' σ H Q → t σ H Q) (q : wE X.K W (eMake C n mf cs') σ H Q) : tMakeS (He.ga X.K C) (spD X.K n mf) (WE W) t σ H Q := by
  obtain ⟨ι, h, ρ, R, S, p⟩ := q
  refine ht _ _ _ ⟨ι, h, ρ, R, S, Post.imp (Post.bind p) fun vs H1 ⟨ι1, h1, ds, x1, R1, r1, p1⟩ => ?_⟩
  obtain ⟨c, p1⟩ := p1.guard
  intro y dy hy hdy ne
  have k : ∀ b u, H1 b = some u → upd (upd H1 dy (.own y)) y (.ins (He.ga X.K C) dy []) b = some u := fun b u e => by
    rw [upd_ne (ne_of_none e hy), upd_ne (ne_of_none e hdy)]
    exact e
  have n2 : upd (upd H1 dy (.own y)) y (.ins (He.ga X.K C) dy []) y ≠ none := by rw [upd_same]; exact fun z => nomatch z
  have x2 : Ext ι1 H1 (ι1.push y) (upd (upd H1 dy (.own y)) y (.ins (He.ga X.K C) dy [])) := .alloc hy k
  have R2 := R1.alloc (o := .ins C []) hy k n2 ⟨dy, [], upd_same, .nil⟩
  refine ⟨by rw [List.length_cons, ← r1.length]; exact of_decide_eq_true c, ι1.push y, _, _, R2, .cons (.obj (push_at R1)) (r1.mono x2), ?_⟩
  have p1 := p1.ext x2
  refine Post.imp (Post.bind p1) fun v H3 ⟨ι3, h3, r, x3, R3, r3, p3⟩ => ?_
  split at p3
  · cases r3
    exact ⟨rfl, p3.ok R3 (.obj (x3.get (push_at R1)))⟩
  · exact p3.elim
theorem de_make (F : FnD X.prog X.w X.K X.mg X.base k (He.ma X.K (He.ga X.K C) "__init__") n mf) (M : Mk X.K (He.ga X.K C) (He.ma X.K (He.ga X.K C) "__init__")) (hr : Room (k + 1) X.A) (gd : X.A.guards = some []) (tk : Takes X W) (hm : X.mg C = some (.ref (He.ga X.K C))) (hg : Gl X C) (ha : DA X W (a :: es) cs)
    (hdb : (C == ("__debug__" : Str)) = false := by decide) (he : starEach (a :: es) X.env = (false, eval a X.env) :: starEach es X.env := by rfl) (hpl : (backTo pos (starEach es X.env)).any (·.1) = false := by rfl) : DE X W (.Call (.Name C p) (a :: es) [] pos) (eMake C n mf cs) := by
  obtain ⟨fd, ps, F, b, kp⟩ := F
  exact pe_imp (pe_makeS M F hr gd hg hm b (fun σ => passAt tk σ) ha hdb he hpl) fun σ H Q q => w_make (fun _ _ _ z => z) q
theorem de_make0 (F : FnD X.prog X.w X.K X.mg X.base k (He.ma X.K (He.ga X.K C) "__init__") n mf) (M : Mk X.K (He.ga X.K C) (He.ma X.K (He.ga X.K C) "__init__")) (hr : Room (k + 1) X.A) (gd : X.A.guards = some []) (tk : Takes X W) (hm : X.mg C = some (.ref (He.ga X.K C))) (hg : Gl X C)
    (hdb : (C == ("__debug__" : Str)) = false := by decide) : DE X W (.Call (.Name C p) [] [] pos) (eMake C n mf aN) := by
  obtain ⟨fd, ps, F, b, kp⟩ := F
  exact pe_imp (pe_makeS0 M F hr gd hg hm b (fun σ => passAt tk σ) hdb) fun σ H Q q => w_make (fun σ H Q ⟨ι, h, ρ, R, S, p⟩ => p.ok R .nil) q
end
end Dl

/-! The D layer, 6: subscripts, slices, built-in functions. -/
namespace Dl
open PySem PySem.Spec PyProof.Rows L2

/-! ### a[i] -/
def itemD (x y : D) : M D := fun h => match x, y with
  | .str z, .int i => if okLen z.length then (match atI z.cps.toList i with
    | some c => .ok (.str ⟨#[c]⟩) h
    | none => .bad) else .bad
  | x, y => (match seqOf h x with
    | some xs => (match y with
      | .int i => (match atI xs i with
        | some d => .ok d h
        | none => .bad)
      | _ => .bad)
    | none => (match x with
      | .obj n => (match h[n]?, keyOf y with
        | some (.dI kvs), some k => (match look kvs k with
          | some d => .ok d h
          | none => .bad)
        | _, _ => .bad)
      | _ => .bad))
section
variable {X : Cx}
def rIxDct : R2 := fun x y H Q => ∃ a v, x = .ref a ∧ DGet H a y (some v) ∧ Q v H
theorem ix_dct (hu : X.A.units + 1 < cLine) : IxR X rIxDct := by
  intro value slice pins s σ H x y v u Q I rx ry h hs
  obtain ⟨a, w, rfl, g, q⟩ := h
  cases rx
  exact tail_any (dict_typeIs I g) PySem.F.slot_dict_getitem.lookup (d_getItem hu I g ry fun w' s3 I3 rw' => ⟨w, H, I3, rw', q⟩) hs
def gIx (K : PySem.W.Frag) : R2 := fun x y H Q => rIx K x y H Q ∨ rIxDct x y H Q
theorem ix_all (hu : X.A.units + 1 < cLine) : IxR X (gIx X.K) := IxR.or ix_seq (ix_dct hu)
theorem atI_rd {K : PySem.W.Frag} {ι : Ix} {H : Hp} {xs : List D} {vs : List V} {i : Int} {d : D} (r : RDs K ι H xs vs) (e : atI xs i = some d) : ∃ v, atI vs i = some v ∧ RD K ι H d v := by
  unfold atI at e ⊢
  rw [← r.length]
  obtain ⟨j, e1, e2⟩ := Option.bind_eq_some_iff.mp e
  obtain ⟨v, h1, h2⟩ := r.get e2
  exact ⟨v, by rw [e1]; exact h1, h2⟩
theorem o_item : Op2 X (gIx X.K) itemD := by
  intro ι h H x y v u W Q R rx ry p
  unfold itemD at p
  split at p
  · obtain ⟨c, p⟩ := p.guard
    split at p
    · rename_i e
      cases rx
      cases ry
      exact .inl (.inr (.inr ⟨_, _, _, rfl, rfl, okLen_ok c, e, p.ok R (.str _)⟩))
    · exact p.elim
  · split at p
    · rename_i e1
      split at p
      · split at p
        · rename_i d e2
          obtain ⟨a, vs, rfl, q, rs⟩ := seqOf_ok R rx e1
          obtain ⟨w, h1, h2⟩ := atI_rd rs e2
          cases ry
          rcases q with q | q
          · exact .inl (.inl ⟨a, vs, _, w, rfl, rfl, q, h1, p.ok R h2⟩)
          · exact .inl (.inr (.inl ⟨a, vs, _, w, rfl, rfl, q, h1, p.ok R h2⟩))
        · exact p.elim
      · exact p.elim
    · split at p
      · split at p
        · rename_i n kvs k e1 e2
          split at p
          · rename_i d e3
            cases rx with
            | obj g =>
              obtain ⟨us, h1, h2⟩ := R.at g e1
              obtain ⟨w, z1, z2⟩ := (look_rf (k := k) h2).1 d e3
              refine .inr ⟨_, w, rfl, ?_, p.ok R z2⟩
              rw [keyOf_kV ry e2, ← z1]
              exact DGet.k h1
          · exact p.elim
        · exact p.elim
      · exact p.elim
variable {W : WX} {pos : Pos} {a b c : Expr} {ca cb cc : Env → M D}
theorem de_item (hu : X.A.units + 1 < cLine) (ha : DE X W a ca) (hb : DE X W b cb) (hs : PlainIx b := by intro _ _; rfl) : DE X W (.Subscript a b pos) (e2 itemD ca cb) := de_ix (ix_all hu) o_item ha hb hs

/-! ### a[lo:hi] -/
def cutL {α : Type} (xs : List α) (lo hi : Option Int) : List α := (xs.drop (HT.sIx xs.length 0 lo)).take (HT.sIx xs.length xs.length hi - HT.sIx xs.length 0 lo)
def sliceN (x : D) (lo hi : Option Int) : M (List D) := fun h => match x with
  | .scr ns => .ok ((cutL ns lo hi).map .int) h
  | x => (match items h x with
    | some xs => .ok (cutL xs lo hi) h
    | none => .bad)
def sliceD (x : D) (lo hi : Option Int) : M D := fun h => match x with
  | .tup xs => .ok (.tup (cutL xs lo hi)) h
  | .str z => if okLen z.length then .ok (.str (cutS z lo hi)) h else .bad
  | x => (sliceN x lo hi h).bind fun xs h1 => .ok (.lst xs) h1
def pN : Env → M (Option Int) := fun _ h => .ok none h
def pS (ca : Env → M D) : Env → M (Option Int) := fun ρ h => (ca ρ h).bind fun x h1 => match x with
  | .int i => .ok (some i) h1
  | _ => .bad
def eSl (ca : Env → M D) (cl cu : Env → M (Option Int)) : Env → M D := fun ρ h => (ca ρ h).bind fun x h1 => (cl ρ h1).bind fun lo h2 => (cu ρ h2).bind fun hi h3 => sliceD x lo hi h3
def nSl (ca : Env → M D) (cl cu : Env → M (Option Int)) : Env → M (List D) := fun ρ h => (ca ρ h).bind fun x h1 => (cl ρ h1).bind fun lo h2 => (cu ρ h2).bind fun hi h3 => sliceN x lo hi h3
def wO (K : PySem.W.Frag) (W : WX) (c : Env → M (Option Int)) : TO := fun σ H Q => ∃ ι h ρ, Rel K ι h H ∧ RS K ι H ρ σ ∧ Post K (fun x d H' => W x d σ H') (fun _ _ a b => a = b) (c ρ h) ι H Q
abbrev DO' (X : Cx) (W : WX) (e : Option Expr) (c : Env → M (Option Int)) : Prop := PO X e (wO X.K W c)
theorem po_imp {e : Option Expr} {t t' : TO} (h : PO X e t) (w : ∀ σ H Q, t' σ H Q → t σ H Q) : PO X e t' := ⟨fun pins s σ H Q I z => h.run pins s σ H Q I (w σ H Q z)⟩
theorem do_none : DO' X W none pN := po_imp po_none fun σ H Q ⟨ι, h, ρ, R, S, p⟩ => p.ok R rfl
theorem do_some (ha : DE X W a ca) : DO' X W (some a) (pS ca) := po_imp (po_some ha) fun σ H Q ⟨ι, h, ρ, R, S, p⟩ => by
  refine ⟨ι, h, ρ, R, S, Post.imp (Post.bind p) fun x H1 ⟨ι1, h1, dx, x1, R1, r1, p1⟩ => ?_⟩
  split at p1
  · cases r1
    exact ⟨_, rfl, p1.ok R1 rfl⟩
  · exact p1.elim
def gSl (K : PySem.W.Frag) : V → Option Int → Option Int → Hp → VK → Prop := fun x lo hi H Q => rSlA K x lo hi H Q ∨ (rSlL K x lo hi H Q ∨ rSlS x lo hi H Q)
theorem sl_all : SlR X (gSl X.K) := SlR.or sl_tupA (SlR.or sl_list sl_str)
theorem cutL_rds {K : PySem.W.Frag} {ι : Ix} {H : Hp} {xs : List D} {vs : List V} {lo hi : Option Int} (r : RDs K ι H xs vs) : RDs K ι H (cutL xs lo hi) (cutV vs lo hi) := by
  unfold cutL cutV
  rw [← r.length]
  exact (r.drop _).take _
theorem cutL_whole {α : Type} {xs : List α} {lo hi : Option Int} (h1 : HT.sIx xs.length 0 lo = 0) (h2 : HT.sIx xs.length xs.length hi = xs.length) : cutL xs lo hi = xs := by
  unfold cutL
  rw [h1, h2]
  simp
theorem cutL_map {α β : Type} (f : α → β) (xs : List α) (lo hi : Option Int) : (cutL xs lo hi).map f = cutL (xs.map f) lo hi := by
  unfold cutL
  rw [List.map_take, List.map_drop, List.length_map]
theorem cutV_eq (xs : List V) (lo hi : Option Int) : cutV xs lo hi = cutL xs lo hi := rfl
theorem sliceN_ok {K : PySem.W.Frag} {ι ιb : Ix} {H Hb : Hp} {h : Hs} {x : D} {v : V} {lo hi : Option Int} {W : XK} {Q : VK} (e : Ext ιb Hb ι H) (R : Rel K ι h H) (r : RD K ι H x v) (p : PostN K W (sliceN x lo hi h) ιb Hb Q) : gSl K v lo hi H Q := by
  unfold sliceN at p
  split at p
  · rename_i ns
    cases r with
    | scr sc =>
      refine .inr (.inl ⟨_, _, rfl, sc.sq, fun q hq => ?_⟩)
      rw [cutV_eq, ← cutL_map]
      exact p.new e R RDs.ofInts hq
  · split at p
    · rename_i xs e1
      obtain ⟨b, vs, rfl, hb, rs⟩ := items_ok R r e1
      exact .inr (.inl ⟨b, vs, rfl, SqL.of hb, fun q hq => p.new e R (cutL_rds rs) hq⟩)
    · exact p.elim
theorem dn_sl {lo hi : Option Expr} {p2 : Pos} {cl cu : Env → M (Option Int)} (ha : DE X W a ca) (hl : DO' X W lo cl) (hh : DO' X W hi cu) : DN X W (.Subscript a (.Slice lo hi none p2) pos) (nSl ca cl cu) := pe_imp (pe_slice sl_all ha hl hh) fun σ H Q ⟨ι, h, ρ, R, S, p⟩ => by
  refine ⟨ι, h, ρ, R, S, Post.imp (PostN.bind p) fun x H1 ⟨ι1, h1, dx, x1, R1, r1, p1⟩ => ?_⟩
  refine ⟨ι1, h1, ρ, R1, S.mono x1, Post.imp (PostN.bindAt x1 p1) fun l H2 ⟨ι2, h2, dl, x2, R2, r2, p2⟩ => ?_⟩
  refine ⟨ι2, h2, ρ, R2, S.mono (x1.trans x2), Post.imp (PostN.bindAt (x1.trans x2) p2) fun u H3 ⟨ι3, h3, du, x3, R3, r3, p3⟩ => ?_⟩
  subst r2 r3
  exact sliceN_ok ((x1.trans x2).trans x3) R3 (r1.mono (x2.trans x3)) p3
theorem sliceD_ok {K : PySem.W.Frag} {ι : Ix} {H : Hp} {h : Hs} {x : D} {v : V} {lo hi : Option Int} {W : XK} {Q : VK} (R : Rel K ι h H) (r : RD K ι H x v) (p : Post K W (RD K) (sliceD x lo hi h) ι H Q) : gSl K v lo hi H Q := by
  unfold sliceD at p
  split at p
  · rename_i xs
    cases r with
    | tup t q =>
      refine .inl ⟨_, _, rfl, t.sq, fun z => ?_, fun _ y hy => ?_⟩
      · rw [← q.length] at z
        rw [cutL_whole z.1 z.2] at p
        exact p.ok R (.tup t q)
      · exact p.tup R (cutL_rds q) hy
  · obtain ⟨c, p⟩ := p.guard
    cases r
    exact .inr (.inr ⟨_, rfl, okLen_ok c, p.ok R (.str _)⟩)
  · refine sliceN_ok (ιb := ι) (Hb := H) (W := W) .refl R r ?_
    cases q : sliceN x lo hi h with
    | bad => rw [q] at p; exact p
    | exc C fs h' => rw [q] at p; exact p
    | ok xs h1 =>
      rw [q] at p
      intro ι1 H1 l vs x1 R1 r1 e n1 n2 n0
      exact p ι1 H1 _ x1 R1.done (.lst ⟨⟨n1, n2⟩, e⟩ (r1.up Up.done))
theorem de_sl {lo hi : Option Expr} {p2 : Pos} {cl cu : Env → M (Option Int)} (ha : DE X W a ca) (hl : DO' X W lo cl) (hh : DO' X W hi cu) : DE X W (.Subscript a (.Slice lo hi none p2) pos) (eSl ca cl cu) := pe_imp (pe_slice sl_all ha hl hh) fun σ H Q ⟨ι, h, ρ, R, S, p⟩ => by
  refine ⟨ι, h, ρ, R, S, Post.imp (Post.bind p) fun x H1 ⟨ι1, h1, dx, x1, R1, r1, p1⟩ => ?_⟩
  refine ⟨ι1, h1, ρ, R1, S.mono x1, Post.imp (Post.bind p1) fun l H2 ⟨ι2, h2, dl, x2, R2, r2, p2⟩ => ?_⟩
  refine ⟨ι2, h2, ρ, R2, S.mono (x1.trans x2), Post.imp (Post.bind p2) fun u H3 ⟨ι3, h3, du, x3, R3, r3, p3⟩ => ?_⟩
  subst r2 r3
  exact sliceD_ok R3 (r1.mono (x2.trans x3)) p3

/-! ### a[::-1] -/
def revD (x : D) : M D := fun h => match x with
  | .tup xs => .ok (.tup xs.reverse) h
  | x => (match items h x with
    | some xs => .ok (.lst xs.reverse) h
    | none => .bad)
section
variable {prog : Program} {w : World} {A : Around} {E : Value → Shared → Prop} {s : Shared}
theorem sliceApplied_rev {sl : Addr} {vl vu vs : Value} {n : Nat} {Q : Int × Int × Nat → Shared → Prop} (hs : s.heap.IsSliceOf sl vl vu vs) (pl : IsPart vl none) (pu : IsPart vu none) (ps : IsPart vs (some (-1)))
    (h : Q ((n : Int) - 1, -1, n) s) : wpAny (model prog w) A (Builtin.Slice.sliceApplied (.ref sl) (pure (n : Int))) Q E s := by
  obtain ⟨os, hos, hcs, hds⟩ := id hs
  unfold Builtin.Slice.sliceApplied Builtin.Slice.sliceFields
  refine wpAny_bind (wpAny_bind (wpAny_field hos hds (x := vl) rfl (wpAny_bind (wpAny_field hos hds (x := vu) rfl (wpAny_bind (wpAny_field hos hds (x := vs) rfl (wpAny_pure ?_)))))))
  refine wpAny_bind (HT.slicePart_ ps ?_)
  show wpAny _ _ (if ((-1 : Int) == 0) = true then _ else _) _ _ s
  rw [if_neg (by decide)]
  refine wpAny_bind (HT.slicePart_ pl (wpAny_bind (HT.slicePart_ pu (wpAny_bind (wpAny_pure ?_)))))
  show wpAny _ _ (pure ((n : Int) - 1, (-1 : Int), Builtin.Slice.slicePlaces ((n : Int) - 1) (-1) (-1))) _ _ s
  have e : Builtin.Slice.slicePlaces ((n : Int) - 1) (-1) (-1) = n := by
    unfold Builtin.Slice.slicePlaces
    have h1 : ¬ ((-1 : Int) > 0) := by decide
    simp only [h1, if_false]
    split
    · have e1 : (- -1 : Int) = 1 := by decide
      rw [e1, Int.ediv_one]
      omega
    · omega
  rw [e]
  exact wpAny_pure h
theorem fm_congr {α β : Type} {f g : α → Option β} : ∀ {l : List α}, (∀ a, a ∈ l → f a = g a) → l.filterMap f = l.filterMap g
  | [], _ => rfl
  | a :: l, h => by rw [List.filterMap_cons, List.filterMap_cons, h a List.mem_cons_self, fm_congr fun b hb => h b (List.mem_cons_of_mem _ hb)]
theorem pick_rev (xs : Array Value) : ((List.range xs.size).filterMap fun (m : Nat) => xs[((xs.size : Int) - 1 + (m : Int) * (-1)).toNat]?).toArray = xs.toList.reverse.toArray := by
  congr 1
  obtain ⟨l⟩ := xs
  show (List.range l.length).filterMap (fun (m : Nat) => l.toArray[((l.length : Int) - 1 + (m : Int) * (-1)).toNat]?) = l.reverse
  have e : (List.range l.length).filterMap (fun (m : Nat) => l.toArray[((l.length : Int) - 1 + (m : Int) * (-1)).toNat]?) = (List.range l.length).filterMap fun m => l.reverse[m]? := by
    refine fm_congr fun m hm => ?_
    have hm := List.mem_range.mp hm
    have e1 : ((l.length : Int) - 1 + (m : Int) * (-1)).toNat = l.length - 1 - m := by omega
    rw [e1, List.getElem?_reverse hm]
    simp
  rw [e]
  have z : ∀ r : List Value, (List.range r.length).filterMap (fun m => r[m]?) = r := by
    intro r
    induction r with
    | nil => rfl
    | cons a r ih =>
      rw [List.length_cons, List.range_succ_eq_map, List.filterMap_cons]
      simp only [List.getElem?_cons_zero]
      rw [List.filterMap_map]
      exact congrArg (a :: ·) ih
  have z1 := z l.reverse
  rw [List.length_reverse] at z1
  exact z1
theorem getItem_tuple_rev {t sl : Addr} {items : Array Value} {vl vu vs : Value} {Q : Value → Shared → Prop} (ht : IsTup s.heap t items) (hs : s.heap.IsSliceOf sl vl vu vs) (pl : IsPart vl none) (pu : IsPart vu none) (ps : IsPart vs (some (-1)))
    (h : Q (.ref s.heap.objs.size) { s with heap := s.heap.push { cls := .type "tuple", data := .seq items.toList.reverse.toArray } }) (hsz : items.size ≤ sizeLine) : wpAny (model prog w) A (getItem (.ref t) (.ref sl)) Q E s := by
  have htake : sizeOk (.seq items.toList.reverse.toArray) := by
    show items.toList.reverse.toArray.size ≤ sizeLine
    rw [List.size_toArray, List.length_reverse, Array.length_toList]
    omega
  obtain ⟨os, hos, hcs, hds⟩ := id hs
  have hTs : s.TypeIs (.ref sl) "slice" := ⟨os, hos, hcs⟩
  unfold getItem
  try with_reducible refine wpAny_holding ?_
  first | refine wpAny_bind (wpAny_pure ?_) | skip
  refine wpAny_bind (wpAny_sequenceKey ht.typeIs (by decide) ?_)
  refine wpAny_bind (wpAny_callSpecial?_slot (name := Str.ofString "__getitem__") ht.typeIs PyProof.Rows.slot_tuple_getitem
    (wpAny_call_entry PyProof.Rows.slot_tuple_getitem ht.typeIs entry_tuple_getitem ?_ (args_tuple_getitem _ _)))
  show wpAny _ _ (Builtin.Tuple.tupleItemsOf (.ref t) >>= _) _ _ s
  refine wpAny_bind (tupleItemsOf_ ht ?_)
  refine wpAny_bind (wpAny_typeOf hTs ?_)
  rw [if_pos (by decide)]
  refine wpAny_bind (sliceApplied_rev hs pl pu ps ?_)
  have hno : ¬ ((((items.size : Int) - 1 == 0) && (-1 : Int) == 1 && (items.size == items.size)) = true) := by
    intro q
    rw [Bool.and_eq_true, Bool.and_eq_true] at q
    exact absurd (eq_of_beq q.1.2) (by decide)
  show wpAny _ _ (if (((items.size : Int) - 1 == 0) && (-1 : Int) == 1 && (items.size == items.size)) = true then _ else _) _ _ s
  rw [if_neg hno, pick_rev]
  first
    | exact wpAny_bind (m := Builtin.Tuple.tupleExact _) (wpAny_newObj_type (wpAny_pure ⟨_, rfl, wpAny_pure h⟩) htake)
    | exact wpAny_bind (m := Builtin.Tuple.tupleExact _) (wpAny_newObj_type (wpAny_bind (wpAny_pure (wpAny_pure ⟨_, rfl, wpAny_pure h⟩))) htake)
    | exact wpAny_bind (wpAny_bind (m := Builtin.Tuple.tupleExact _) (wpAny_newObj_type (wpAny_pure (wpAny_pure ⟨_, rfl, wpAny_pure h⟩)) htake))
    | exact wpAny_bind (wpAny_bind (m := Builtin.Tuple.tupleExact _) (wpAny_newObj_type (wpAny_pure ⟨_, rfl, wpAny_pure h⟩) htake))
end
def tRevA (K : PySem.W.Frag) (te : TE) : TE := fun σ H Q => te σ H fun x H1 => ∃ a xs, x = .ref a ∧ ((SqL K H1 a xs ∧ ∀ p, H1 p = none → Q (.ref p) (upd H1 p (.lst xs.reverse))) ∨ (SqT K H1 a xs ∧ ∀ p, H1 p = none → Q (.ref p) (upd H1 p (.tup xs.reverse))))
theorem pe_revA {e : Expr} {te : TE} {k : Nat} {p1 p2 p3 : Pos} (he : PE X e te) : PE X (.Subscript e (.Slice none none (some (.UnaryOp .USub (.Constant (.int 1) k p1) p2)) p3) pos) (tRevA X.K te) := by
  refine ⟨fun pins s σ H Q I h => ?_⟩
  refine Subscript_ (thn (he.run pins s σ H _ I h) fun v s1 ⟨x, H1, I1, r1, q1⟩ => ?_)
  obtain ⟨a, xs, ex, hx⟩ := q1
  subst ex
  cases r1
  have hst : PO X (some (.UnaryOp .USub (.Constant (.int 1) k p1) p2)) (tPart (tUn (rU fun i => .int (-i)) (tC (.int 1)))) := po_some (pe_un un_neg pe_int)
  refine wpAny_Slice (thn (po_none.run pins s1 σ H1 (fun o H2 => o = none ∧ H2 = H1) I1 ⟨rfl, rfl⟩) fun vl s2 ⟨l, H2, I2, pl, el, e2⟩ => ?_)
  subst el e2
  refine thn (po_none.run pins s2 σ H2 (fun o H3 => o = none ∧ H3 = H2) I2 ⟨rfl, rfl⟩) fun vu s3 ⟨u, H3, I3, pu, eu, e3⟩ => ?_
  subst eu e3
  refine thn (hst.run pins s3 σ H3 (fun o H4 => o = some (-1) ∧ H4 = H3) I3 ⟨1, rfl, -1, rfl, rfl, rfl⟩) fun vs s4 ⟨o, H4, I4, ps, eo, e4⟩ => ?_
  subst eo e4
  have I5 : Inv X pins σ H4 { s4 with heap := s4.heap.push { cls := .type "slice", data := .fields #[vl, vu, vs] } } := I4.kept (t' := s4.toks) fun b ob q => Heap.get?_push_of_some _ q
  show wpAny (model X.prog X.w) X.A (subscriptTail e (.Slice none none (some (.UnaryOp .USub (.Constant (.int 1) k p1) p2)) p3) (.ref a) (.ref s4.heap.objs.size)) (EP X pins σ Q) X.xe { s4 with heap := s4.heap.push { cls := .type "slice", data := .fields #[vl, vu, vs] } }
  rcases hx with ⟨hx, q⟩ | ⟨hx, q⟩
  · obtain ⟨its, r, ht, hz⟩ := I5.list hx
    have hlen := r.length
    refine tail_any (ops := [.ref a, .ref s4.heap.objs.size]) ht.isList.typeIs (PySem.slot_list_getitem.lookup) ?_ (by with_unfolding_all rfl)
    refine wpAny_getItem_list_slice ht.isList (Heap.IsSliceOf.new _ vl vu vs) pl pu ps (by decide) ?_ (by rw [List.size_toArray]; omega)
    rw [PySem.W.krv_pick]
    exact ⟨.ref _, _, I5.lnew (t' := s4.toks) r.reverse (by rw [List.length_reverse]; exact hz), rfl, q _ I5.fresh⟩
  · obtain ⟨its, r, ht, hz⟩ := I5.tuple hx
    have hlen := r.length
    refine tail_any (ops := [.ref a, .ref s4.heap.objs.size]) ht.typeIs (PyProof.Rows.slot_tuple_getitem.lookup) ?_ (by with_unfolding_all rfl)
    refine getItem_tuple_rev ht (Heap.IsSliceOf.new _ vl vu vs) pl pu ps ?_ (by rw [List.size_toArray]; omega)
    refine ⟨.ref _, _, I5.laid (t' := s4.toks) (o := .tup xs.reverse) (fun b ob q => Heap.get?_push_of_some _ q) (Nat.le_refl _) ?_, rfl, q _ I5.fresh⟩
    exact ⟨by rw [List.length_reverse]; exact hz, _, r.reverse, IsTup.new _ _⟩
theorem de_rev {k : Nat} {p1 p2 p3 : Pos} (ha : DE X W a ca) : DE X W (.Subscript a (.Slice none none (some (.UnaryOp .USub (.Constant (.int 1) k p1) p2)) p3) pos) (e1 revD ca) := pe_imp (pe_revA ha) fun σ H Q ⟨ι, h, ρ, R, S, p⟩ => by
  refine ⟨ι, h, ρ, R, S, Post.imp (Post.bind p) fun x H1 ⟨ι1, h1, dx, x1, R1, r1, p1⟩ => ?_⟩
  unfold revD at p1
  split at p1
  · cases r1 with
    | tup t q => exact ⟨_, _, rfl, .inr ⟨t.sq, fun y hy => p1.tup R1 q.reverse hy⟩⟩
  · split at p1
    · rename_i xs e
      obtain ⟨b, vs, rfl, hb, rs⟩ := items_ok R1 r1 e
      exact ⟨b, vs, rfl, .inl ⟨SqL.of hb, fun y hy => p1.lst R1 rs.reverse hy⟩⟩
    · exact p1.elim
end
end Dl

/-! The D layer, 7: statements, loops. -/
namespace Dl
open PySem PySem.Spec PyProof.Rows L2

inductive SR where
  | nx (ρ : Env) (h : Hs) | ret (d : D) (h : Hs) | bk (ρ : Env) (h : Hs) | ct (ρ : Env) (h : Hs) | exc (ρ : Env) (C : Str) (fs : List (Str × D)) (h : Hs) | bad
abbrev SM := Env → Hs → SR
def R.then {α : Type} (r : R α) (ρ : Env) (f : α → Hs → SR) : SR := match r with
  | .ok a h => f a h
  | .exc C fs h => .exc ρ C fs h
  | .bad => .bad
def PostS (K : PySem.W.Frag) (W : WX) (r : SR) (ι : Ix) (H : Hp) (D : Ends) : Prop := match r with
  | .nx ρ h => ∀ ι' H' σ', Ext ι H ι' H' → Rel K ι' h H' → RS K ι' H' ρ σ' → D.nx σ' H'
  | .ret d h => ∀ ι' H' v, Ext ι H ι' H' → Rel K ι' h H' → RD K ι' H' d v → D.rt v H'
  | .bk ρ h => ∀ ι' H' σ', Ext ι H ι' H' → Rel K ι' h H' → RS K ι' H' ρ σ' → D.bk σ' H'
  | .ct ρ h => ∀ ι' H' σ', Ext ι H ι' H' → Rel K ι' h H' → RS K ι' H' ρ σ' → D.ct σ' H'
  | .exc ρ C fs h => ∀ ι' H' od σ', Ext ι H ι' H' → Rel K ι' h H' → RS K ι' H' ρ σ' → XD K ι' H' fs od → W (.ref (He.ga K C)) od σ' H'
  | .bad => False
def wS (K : PySem.W.Frag) (W : WX) (c : SM) : TS := fun D σ H => ∃ ι h ρ, Rel K ι h H ∧ RS K ι H ρ σ ∧ PostS K W (c ρ h) ι H D
abbrev DS (X : Cx) (W : WX) (st : Stmt) (c : SM) : Prop := PS X st (wS X.K W c)
abbrev DSs (X : Cx) (W : WX) (st : List Stmt) (c : SM) : Prop := PSs X st (wS X.K W c)
theorem ps_imp {X : Cx} {e : Stmt} {t t' : TS} (h : PS X e t) (w : ∀ D σ H, t' D σ H → t D σ H) : PS X e t' := ⟨fun pins s σ H D I z => h.run pins s σ H D I (w D σ H z)⟩
theorem pss_imp {X : Cx} {e : List Stmt} {t t' : TS} (h : PSs X e t) (w : ∀ D σ H, t' D σ H → t D σ H) : PSs X e t' := ⟨fun pins s σ H D I z => h.run pins s σ H D I (w D σ H z)⟩
section
variable {K : PySem.W.Frag} {W : WX} {ι ι1 : Ix} {H H1 : Hp} {D : Ends}
theorem PostS.ext {r : SR} (p : PostS K W r ι H D) (e : Ext ι H ι1 H1) : PostS K W r ι1 H1 D := by
  cases r with
  | nx ρ h => exact fun ι' H' σ' e' => p ι' H' σ' (e.trans e')
  | ret d h => exact fun ι' H' σ' e' => p ι' H' σ' (e.trans e')
  | bk ρ h => exact fun ι' H' σ' e' => p ι' H' σ' (e.trans e')
  | ct ρ h => exact fun ι' H' σ' e' => p ι' H' σ' (e.trans e')
  | exc ρ C fs h => exact fun ι' H' od σ' e' => p ι' H' od σ' (e.trans e')
  | bad => exact p
theorem PostS.then {α β : Type} {RA : Ix → Hp → α → β → Prop} {r : R α} {ρ : Env} {σ : L2.St} {f : α → Hs → SR} (p : PostS K W (r.then ρ f) ι H D) (S : RS K ι H ρ σ) :
    Post K (fun x d H' => W x d σ H') RA r ι H (fun b H1 => ∃ ι1 h1 a, Ext ι H ι1 H1 ∧ Rel K ι1 h1 H1 ∧ RA ι1 H1 a b ∧ PostS K W (f a h1) ι1 H1 D) := by
  cases r with
  | ok a h => exact fun ι' H' b e R ra => ⟨ι', h, a, e, R, ra, p.ext e⟩
  | exc C fs h => exact fun ι' H' od e R x => p ι' H' od σ e R (S.mono e) x
  | bad => exact p
end

/-! ### small statements -/
def sPass : SM := fun ρ h => .nx ρ h
def sSeq (c1 c2 : SM) : SM := fun ρ h => match c1 ρ h with
  | .nx ρ1 h1 => c2 ρ1 h1
  | r => r
def sRet (ce : Env → M D) : SM := fun ρ h => (ce ρ h).then ρ fun d h1 => .ret d h1
def sRetN : SM := fun _ h => .ret .non h
def sExp (ce : Env → M D) : SM := fun ρ h => (ce ρ h).then ρ fun _ h1 => .nx ρ h1
def sIf (ct : Env → M Bool) (c1 c2 : SM) : SM := fun ρ h => (ct ρ h).then ρ fun b h1 => if b = true then c1 ρ h1 else c2 ρ h1
def sSet (i : Nat) (ce : Env → M D) : SM := fun ρ h => (ce ρ h).then ρ fun d h1 => .nx (ρ.set i (some d)) h1
def sBad : SM := fun _ _ => .bad
section
variable {X : Cx} {W : WX} {pos : Pos} {e : Expr} {ce : Env → M D} {c1 c2 : SM} {st : Stmt} {rest : List Stmt} {ct : Env → M Bool}
theorem dss_nil : DSs X W [] sPass := pss_imp pss_nil fun D σ H ⟨ι, h, ρ, R, S, p⟩ => p ι H σ .refl R S
theorem dss_one (h1 : DS X W st c1) : DSs X W [st] c1 := pss_one h1
theorem dss_cons (h1 : DS X W st c1) (h2 : DSs X W rest c2) : DSs X W (st :: rest) (sSeq c1 c2) := pss_imp (pss_cons h1 h2) fun D σ H ⟨ι, h, ρ, R, S, p⟩ => by
  refine ⟨ι, h, ρ, R, S, ?_⟩
  unfold sSeq at p
  cases q : c1 ρ h with
  | nx ρ1 h1 =>
    rw [q] at p
    exact fun ι' H' σ' e R' S' => ⟨ι', h1, ρ1, R', S', PostS.ext p e⟩
  | ret d h1 => rw [q] at p; exact p
  | bk ρ1 h1 => rw [q] at p; exact p
  | ct ρ1 h1 => rw [q] at p; exact p
  | exc ρ1 C fs h1 => rw [q] at p; exact p
  | bad => rw [q] at p; exact p
theorem dss_never {sts : List Stmt} : DSs X W sts sBad := pss_imp pss_never fun D σ H ⟨ι, h, ρ, R, S, p⟩ => p
theorem ds_never : DS X W st sBad := ps_imp ps_never fun D σ H ⟨ι, h, ρ, R, S, p⟩ => p
theorem ds_pass : DS X W (.Pass pos) sPass := ps_imp ps_pass fun D σ H ⟨ι, h, ρ, R, S, p⟩ => p ι H σ .refl R S
theorem ds_doc {x j pos'} : DS X W (.Expr (.Constant (.str x) j pos) pos') sPass := ps_imp ps_doc fun D σ H ⟨ι, h, ρ, R, S, p⟩ => p ι H σ .refl R S
theorem ds_ret (he : DE X W e ce) : DS X W (.Return (some e) pos) (sRet ce) := ps_imp (ps_ret he) fun D σ H ⟨ι, h, ρ, R, S, p⟩ => by
  refine ⟨ι, h, ρ, R, S, Post.imp (PostS.then p S) fun v H1 ⟨ι1, h1, d, x1, R1, r1, p1⟩ => ?_⟩
  exact p1 ι1 H1 v .refl R1 r1
theorem ds_retN : DS X W (.Return none pos) sRetN := ps_imp ps_retN fun D σ H ⟨ι, h, ρ, R, S, p⟩ => p ι H .non .refl R .non
theorem ds_exp (he : DE X W e ce) (hs : swapsWith e none pos.line X.env = pure false := by rfl) : DS X W (.Expr e pos) (sExp ce) := ps_imp (ps_expr he hs) fun D σ H ⟨ι, h, ρ, R, S, p⟩ => by
  refine ⟨ι, h, ρ, R, S, Post.imp (PostS.then p S) fun v H1 ⟨ι1, h1, d, x1, R1, r1, p1⟩ => ?_⟩
  exact p1 ι1 H1 σ .refl R1 (S.mono x1)
theorem ds_if {c : Expr} {a b : List Stmt} (hc : DT X W c ct) (ha : DSs X W a c1) (hb : DSs X W b c2) : DS X W (.If c a b pos) (sIf ct c1 c2) := ps_imp (ps_if hc ha hb) fun D σ H ⟨ι, h, ρ, R, S, p⟩ => by
  refine ⟨ι, h, ρ, R, S, Post.imp (PostS.then p S) fun v H1 ⟨ι1, h1, d, x1, R1, r1, p1⟩ => ?_⟩
  subst r1
  cases d with
  | true =>
    rw [if_pos rfl] at p1 ⊢
    exact ⟨ι1, h1, ρ, R1, S.mono x1, p1⟩
  | false =>
    rw [if_neg Bool.false_ne_true] at p1 ⊢
    exact ⟨ι1, h1, ρ, R1, S.mono x1, p1⟩
theorem w_set {K : PySem.W.Frag} {i : Nat} {D : Ends} {σ : L2.St} {H : Hp} (q : wS K W (sSet i ce) D σ H) : wE K W ce σ H fun x H1 => gName i x σ H1 D.nx := by
  obtain ⟨ι, h, ρ, R, S, p⟩ := q
  refine ⟨ι, h, ρ, R, S, Post.imp (PostS.then p S) fun v H1 ⟨ι1, h1, d, x1, R1, r1, p1⟩ => ?_⟩
  exact p1 ι1 H1 _ .refl R1 ((S.mono x1).set i r1)
theorem ds_set {i : Nat} {x : Str} {pos' : Pos} (hN : X.N.Nodup) (he : DE X W e ce) (hi : X.N[i]? = some x := by rfl) (hx : Loc X.env.scope x := by first | exact Or.inl rfl | exact Or.inr rfl) (hs : swapsWith e (some (.Name x pos')) pos.line X.env = pure false := by rfl)
    (hf : X.fn x = true ∨ X.env.scope.names.lookup x = some .local := by first | exact .inl rfl | exact .inr rfl | assumption) : DS X W (.Assign [.Name x pos'] e pos) (sSet i ce) := ps_imp (ps_set hN hi hx he hs hf) fun D σ H ⟨ι, h, ρ, R, S, p⟩ => by
  refine ⟨ι, h, ρ, R, S, Post.imp (PostS.then p S) fun v H1 ⟨ι1, h1, d, x1, R1, r1, p1⟩ => ?_⟩
  exact p1 ι1 H1 _ .refl R1 ((S.mono x1).set i r1)

/-! ### targets: names, tuples of names -/
inductive Pat where
  | nm (i : Nat) | tp (ps : List Pat)
mutual
def patD : Pat → D → Env → Option Env
  | .nm i, d, ρ => some (ρ.set i (some d))
  | .tp ps, d, ρ => (match d with
    | .tup xs => patsD ps xs ρ
    | _ => none)
def patsD : List Pat → List D → Env → Option Env
  | [], [], ρ => some ρ
  | p :: ps, x :: xs, ρ => (patD p x ρ).bind fun ρ1 => patsD ps xs ρ1
  | _, _, _ => none
end
mutual
def gPat (K : PySem.W.Frag) : Pat → TG
  | .nm i => gName i
  | .tp ps => gTup K ps.length (gPats K ps)
def gPats (K : PySem.W.Frag) : List Pat → TGs
  | [] => gNil
  | p :: ps => gCons (gPat K p) (gPats K ps)
end
theorem patsD_len : ∀ {ps : List Pat} {xs : List D} {ρ ρ' : Env}, patsD ps xs ρ = some ρ' → xs.length = ps.length
  | [], [], _, _, _ => rfl
  | [], _ :: _, _, _, e => by unfold patsD at e; cases e
  | _ :: _, [], _, _, e => by unfold patsD at e; cases e
  | p :: ps, x :: xs, ρ, ρ', e => by
    unfold patsD at e
    obtain ⟨ρ1, _, e2⟩ := Option.bind_eq_some_iff.mp e
    rw [List.length_cons, List.length_cons, patsD_len e2]
mutual
def patIs : Pat → List Nat
  | .nm i => [i]
  | .tp ps => patsIs ps
def patsIs : List Pat → List Nat
  | [] => []
  | p :: ps => patIs p ++ patsIs ps
end
theorem wipe_in {σ : L2.St} {j : Nat} : ∀ {vs : List Nat}, j ∈ vs → (wipe σ vs)[j]? = if j < σ.length then some none else none
  | [], h => by cases h
  | v :: vs, h => by
    show ((wipe σ vs).set v none)[j]? = _
    by_cases e : v = j
    · subst e
      by_cases hl : v < σ.length
      · rw [List.getElem?_set_self (by rw [wipe_length]; exact hl), if_pos hl]
      · rw [List.getElem?_eq_none (by rw [List.length_set, wipe_length]; omega), if_neg hl]
    · rw [List.getElem?_set_ne e]
      exact wipe_in ((List.mem_cons.mp h).resolve_left fun z => e z.symm)
theorem wipe_set {σ : L2.St} {i : Nat} {x : Option V} {vs : List Nat} (hi : i ∈ vs) : wipe (σ.set i x) vs = wipe σ vs := by
  apply List.ext_getElem?
  intro j
  by_cases hj : j ∈ vs
  · rw [wipe_in hj, wipe_in hj, List.length_set]
  · rw [wipe_out hj, wipe_out hj, List.getElem?_set_ne fun z => hj (by rw [← z]; exact hi)]
mutual
theorem gPat_ok {K : PySem.W.Frag} {ι : Ix} {H : Hp} {vs : List Nat} : ∀ (p : Pat) {d : D} {v : V} {ρ ρ' : Env} {σ : L2.St} {Q : L2.St → Hp → Prop}, RD K ι H d v → RS K ι H ρ σ → patD p d ρ = some ρ' → (∀ i, i ∈ patIs p → i ∈ vs) →
    (∀ σ', RS K ι H ρ' σ' → wipe σ' vs = wipe σ vs → Q σ' H) → gPat K p v σ H Q
  | .nm i, d, v, ρ, ρ', σ, Q, r, S, e, hv, q => by
    unfold patD at e
    cases e
    unfold gPat
    refine q _ (S.set i r) ?_
    exact wipe_set (hv i (by unfold patIs; simp))
  | .tp ps, d, v, ρ, ρ', σ, Q, r, S, e, hv, q => by
    unfold patD at e
    split at e
    · cases r with
      | tup t rs =>
        unfold gPat
        exact ⟨_, _, rfl, t.sq, by rw [← rs.length]; exact patsD_len e, gPats_ok ps rs S e (fun i hi => hv i (by unfold patIs; exact hi)) q⟩
    · cases e
theorem gPats_ok {K : PySem.W.Frag} {ι : Ix} {H : Hp} {vs : List Nat} : ∀ (ps : List Pat) {ds : List D} {us : List V} {ρ ρ' : Env} {σ : L2.St} {Q : L2.St → Hp → Prop}, RDs K ι H ds us → RS K ι H ρ σ → patsD ps ds ρ = some ρ' → (∀ i, i ∈ patsIs ps → i ∈ vs) →
    (∀ σ', RS K ι H ρ' σ' → wipe σ' vs = wipe σ vs → Q σ' H) → gPats K ps us σ H Q
  | [], ds, us, ρ, ρ', σ, Q, r, S, e, hv, q => by
    cases r with
    | nil =>
      unfold patsD at e
      cases e
      unfold gPats
      exact ⟨rfl, q σ S rfl⟩
    | cons _ _ => unfold patsD at e; cases e
  | p :: ps, ds, us, ρ, ρ', σ, Q, r, S, e, hv, q => by
    cases r with
    | nil => unfold patsD at e; cases e
    | cons r1 r2 =>
      unfold patsD at e
      obtain ⟨ρ1, e1, e2⟩ := Option.bind_eq_some_iff.mp e
      unfold gPats
      refine ⟨_, _, rfl, gPat_ok p r1 S e1 (fun i hi => hv i (by unfold patsIs; exact List.mem_append_left _ hi)) fun σ1 S1 w1 => ?_⟩
      exact gPats_ok ps r2 S1 e2 (fun i hi => hv i (by unfold patsIs; exact List.mem_append_right _ hi)) fun σ2 S2 w2 => q σ2 S2 (w2.trans w1)
end
end
end Dl

/-! The D layer, 8: what is walked; for, while, comprehensions. -/
namespace Dl
open PySem PySem.Spec PyProof.Rows L2

/-! ### equality of data, as a Bool -/
mutual
def D.beq : D → D → Bool
  | .non, .non => true
  | .bl a, .bl b => decide (a = b)
  | .int a, .int b => decide (a = b)
  | .str a, .str b => decide (a = b)
  | .ty a, .ty b => decide (a = b)
  | .glo a, .glo b => decide (a = b)
  | .obj a, .obj b => decide (a = b)
  | .scr a, .scr b => decide (a = b)
  | .tup xs, .tup ys => D.beqs xs ys
  | .lst xs, .lst ys => D.beqs xs ys
  | _, _ => false
def D.beqs : List D → List D → Bool
  | [], [] => true
  | x :: xs, y :: ys => D.beq x y && D.beqs xs ys
  | _, _ => false
end
mutual
theorem D.beq_eq : ∀ (a b : D), D.beq a b = true → a = b
  | .non, b, h => by cases b <;> first | rfl | (unfold D.beq at h; cases h)
  | .bl a, b, h => by cases b <;> first | (unfold D.beq at h; rw [of_decide_eq_true h]) | (unfold D.beq at h; cases h)
  | .int a, b, h => by cases b <;> first | (unfold D.beq at h; rw [of_decide_eq_true h]) | (unfold D.beq at h; cases h)
  | .str a, b, h => by cases b <;> first | (unfold D.beq at h; rw [of_decide_eq_true h]) | (unfold D.beq at h; cases h)
  | .ty a, b, h => by cases b <;> first | (unfold D.beq at h; rw [of_decide_eq_true h]) | (unfold D.beq at h; cases h)
  | .glo a, b, h => by cases b <;> first | (unfold D.beq at h; rw [of_decide_eq_true h]) | (unfold D.beq at h; cases h)
  | .obj a, b, h => by cases b <;> first | (unfold D.beq at h; rw [of_decide_eq_true h]) | (unfold D.beq at h; cases h)
  | .scr a, b, h => by cases b <;> first | (unfold D.beq at h; rw [of_decide_eq_true h]) | (unfold D.beq at h; cases h)
  | .tup xs, b, h => by cases b <;> first | (unfold D.beq at h; rw [D.beqs_eq _ _ h]) | (unfold D.beq at h; cases h)
  | .lst xs, b, h => by cases b <;> first | (unfold D.beq at h; rw [D.beqs_eq _ _ h]) | (unfold D.beq at h; cases h)
theorem D.beqs_eq : ∀ (a b : List D), D.beqs a b = true → a = b
  | [], [], _ => rfl
  | [], _ :: _, h => by unfold D.beqs at h; cases h
  | _ :: _, [], h => by unfold D.beqs at h; cases h
  | x :: xs, y :: ys, h => by
    unfold D.beqs at h
    obtain ⟨h1, h2⟩ := Bool.and_eq_true_iff.mp h
    rw [D.beq_eq x y h1, D.beqs_eq xs ys h2]
end
mutual
theorem D.beq_refl : ∀ a : D, D.beq a a = true
  | .non => by unfold D.beq; rfl
  | .bl a => by unfold D.beq; exact decide_eq_true rfl
  | .int a => by unfold D.beq; exact decide_eq_true rfl
  | .str a => by unfold D.beq; exact decide_eq_true rfl
  | .ty a => by unfold D.beq; exact decide_eq_true rfl
  | .glo a => by unfold D.beq; exact decide_eq_true rfl
  | .obj a => by unfold D.beq; exact decide_eq_true rfl
  | .scr a => by unfold D.beq; exact decide_eq_true rfl
  | .tup xs => by unfold D.beq; exact D.beqs_refl xs
  | .lst xs => by unfold D.beq; exact D.beqs_refl xs
theorem D.beqs_refl : ∀ a : List D, D.beqs a a = true
  | [] => by unfold D.beqs; rfl
  | x :: xs => by unfold D.beqs; rw [D.beq_refl x, D.beqs_refl xs]; rfl
end

/-! ### what is walked: its items; the changing lists that must stay meanwhile -/
structure ItD where
  items : List D
  gs : List (Nat × List D) := []
def okG (gs : List (Nat × List D)) (h : Hs) : Bool := gs.all fun p => match h[p.1]? with
  | some (.lst ys) => D.beqs ys p.2
  | _ => false
theorem okG_at {gs : List (Nat × List D)} {h : Hs} (o : okG gs h = true) {n : Nat} {xs : List D} (m : (n, xs) ∈ gs) : h[n]? = some (.lst xs) := by
  have z := List.all_eq_true.mp o _ m
  simp only at z
  split at z
  · rename_i ys e
    rw [e, D.beqs_eq _ _ z]
  · cases z
def RI (K : PySem.W.Frag) (ι : Ix) (H : Hp) (it : ItD) (J : It) : Prop := ∃ (G : Hp → Prop) (Y : Nat → Hp → V → Hp → Prop), Walk J it.items.length G Y ∧
  (∀ ι' H' h', Up ι H ι' H' → Rel K ι' h' H' → okG it.gs h' = true → G H') ∧
  ∀ i Hc x H' ι' h', i < it.items.length → Y i Hc x H' → Up ι H ι' Hc → Rel K ι' h' Hc → okG it.gs h' = true → ∃ d, it.items[i]? = some d ∧ RD K ι' H' d x ∧ Ext ι' Hc ι' H' ∧ Rel K ι' h' H' ∧ ∀ b o, Hc b = some o → H' b = some o
def wI (K : PySem.W.Frag) (W : WX) (ci : Env → M ItD) : TI := fun σ H Q => ∃ ι h ρ, Rel K ι h H ∧ RS K ι H ρ σ ∧ Post K (fun x d H' => W x d σ H') (RI K) (ci ρ h) ι H Q
abbrev DI (X : Cx) (W : WX) (tg it : Expr) (ci : Env → M ItD) : Prop := PI X tg it (wI X.K W ci)
theorem pi_imp {X : Cx} {tg e : Expr} {t t' : TI} (h : PI X tg e t) (w : ∀ σ H Q, t' σ H Q → t σ H Q) : PI X tg e t' := ⟨fun pins s σ H Q I z => h.run pins s σ H Q I (w σ H Q z)⟩

/-! ### for -/
def loopF (p : Pat) (body : SM) (gs : List (Nat × List D)) : List D → SM
  | [], ρ, h => if okG gs h then .nx ρ h else .bad
  | x :: xs, ρ, h => if okG gs h then (match patD p x ρ with
    | none => .bad
    | some ρ1 => (match body ρ1 h with
      | .nx ρ2 h2 => loopF p body gs xs ρ2 h2
      | .ct ρ2 h2 => loopF p body gs xs ρ2 h2
      | .bk ρ2 h2 => .nx ρ2 h2
      | r => r)) else .bad
def sFor (ci : Env → M ItD) (p : Pat) (body : SM) : SM := fun ρ h => (ci ρ h).then ρ fun it h1 => loopF p body it.gs it.items ρ h1
section
variable {K : PySem.W.Frag} {W : WX} {ι : Ix} {H : Hp} {h : Hs} {ρ : Env} {D : Ends}
theorem loopF_ok {p : Pat} {body : SM} {gs : List (Nat × List Dl.D)} {xs : List Dl.D} (q : PostS K W (loopF p body gs xs ρ h) ι H D) : okG gs h = true := by
  cases xs with
  | nil =>
    unfold loopF at q
    cases e : okG gs h with
    | true => rfl
    | false => rw [e] at q; exact q.elim
  | cons x xs =>
    unfold loopF at q
    cases e : okG gs h with
    | true => rfl
    | false => rw [e] at q; exact q.elim
end
section
variable {X : Cx} {W : WX} {pos : Pos} {tg iter : Expr} {body : List Stmt} {ci : Env → M ItD} {cb : SM} {p : Pat}
theorem ds_for (hp : PassesOwn (model X.prog X.w) X.A X.env X.xe) (hc : X.calm = true) (hi : DI X W tg iter ci) (hg : PG X tg (gPat X.K p)) (hb : DSs X W body cb)
    (hs : ∀ x, foldedSetIterable iter X.env x = pure x := by intro _; rfl) : DS X W (.For tg iter body [] pos) (sFor ci p cb) := ps_imp (ps_for hp hc hi hg hb hs) fun D σ H ⟨ι, h, ρ, R, S, q⟩ => by
  refine ⟨ι, h, ρ, R, S, Post.imp (PostS.then q S) fun J H1 ⟨ι1, h1, it, x1, R1, ⟨G, Y, w, st, yd⟩, q1⟩ => ?_⟩
  refine for_it w (fun i σ H => ∃ ι h ρ, Ext ι1 H1 ι H ∧ Rel X.K ι h H ∧ RS X.K ι H ρ σ ∧ PostS X.K W (loopF p cb it.gs (it.items.drop i) ρ h) ι H D) ⟨ι1, h1, ρ, .refl, R1, S.mono x1, q1⟩ ?_ ?_ ?_
  · rintro i σ2 H2 _ ⟨ι2, h2, ρ2, x2, R2, S2, q2⟩
    exact st ι2 H2 h2 x2.up R2 (loopF_ok q2)
  · rintro i x σ2 H2 H3 hi ⟨ι2, h2, ρ2, x2, R2, S2, q2⟩ y
    have og := loopF_ok q2
    obtain ⟨d, e, rd, x3, R3, _⟩ := yd i H2 x H3 ι2 h2 hi y x2.up R2 og
    have ed : it.items.drop i = d :: it.items.drop (i + 1) := by
      obtain ⟨hl, e1⟩ := List.getElem?_eq_some_iff.mp e
      rw [← e1]
      exact List.drop_eq_getElem_cons hl
    rw [ed] at q2
    unfold loopF at q2
    rw [if_pos og] at q2
    cases ep : patD p d ρ2 with
    | none => rw [ep] at q2; exact q2.elim
    | some ρ3 =>
      rw [ep] at q2
      refine gPat_ok (vs := patIs p) p rd (S2.mono x3) ep (fun _ z => z) fun σ3 S3 _ => ?_
      refine ⟨ι2, h2, ρ3, R3, S3, ?_⟩
      have q2 := PostS.ext q2 x3
      cases eb : cb ρ3 h2 with
      | nx ρ4 h4 =>
        simp only [eb] at q2
        exact fun ι4 H4 σ4 x4 R4 S4 => ⟨ι4, h4, ρ4, (x2.trans x3).trans x4, R4, S4, PostS.ext q2 x4⟩
      | ct ρ4 h4 =>
        simp only [eb] at q2
        exact fun ι4 H4 σ4 x4 R4 S4 => ⟨ι4, h4, ρ4, (x2.trans x3).trans x4, R4, S4, PostS.ext q2 x4⟩
      | bk ρ4 h4 => simp only [eb] at q2; exact q2
      | ret d4 h4 => simp only [eb] at q2; exact q2
      | exc ρ4 C fs h4 => simp only [eb] at q2; exact q2
      | bad => simp only [eb] at q2; exact q2
  · rintro σ2 H2 ⟨ι2, h2, ρ2, x2, R2, S2, q2⟩
    have og := loopF_ok q2
    rw [List.drop_length] at q2
    unfold loopF at q2
    rw [if_pos og] at q2
    exact q2 ι2 H2 σ2 .refl R2 S2

/-! ### while: at most n turns -/
def whileF (ct : Env → M Bool) (body : SM) : Nat → SM
  | 0, _, _ => .bad
  | n + 1, ρ, h => (ct ρ h).then ρ fun b h1 => if b = true then (match body ρ h1 with
    | .nx ρ2 h2 => whileF ct body n ρ2 h2
    | .ct ρ2 h2 => whileF ct body n ρ2 h2
    | .bk ρ2 h2 => .nx ρ2 h2
    | r => r) else .nx ρ h1
/-- a limit that a function of the state gives -/
def sWhile (lim : Env → Hs → Nat) (ct : Env → M Bool) (body : SM) : SM := fun ρ h => whileF ct body (lim ρ h) ρ h
theorem ds_while {c : Expr} {ct : Env → M Bool} {lim : Env → Hs → Nat} (hp : PassesOwn (model X.prog X.w) X.A X.env X.xe) (hc : DT X W c ct) (hb : DSs X W body cb) : DS X W (.While c body [] pos) (sWhile lim ct cb) := ps_imp (ps_while hp hc hb) fun D σ H ⟨ι, h, ρ, R, S, q⟩ => by
  refine ⟨fun n σ H => ∃ ι h ρ, Rel X.K ι h H ∧ RS X.K ι H ρ σ ∧ PostS X.K W (whileF ct cb n ρ h) ι H D, ⟨lim ρ h, ι, h, ρ, R, S, q⟩, ?_⟩
  rintro n σ2 H2 ⟨ι2, h2, ρ2, R2, S2, q2⟩
  cases n with
  | zero => exact q2.elim
  | succ n =>
    unfold whileF at q2
    refine ⟨ι2, h2, ρ2, R2, S2, Post.imp (PostS.then q2 S2) fun b H3 ⟨ι3, h3, d, x3, R3, r3, q3⟩ => ?_⟩
    subst r3
    cases d with
    | false =>
      rw [if_neg Bool.false_ne_true] at q3 ⊢
      exact q3 ι3 H3 σ2 .refl R3 (S2.mono x3)
    | true =>
      rw [if_pos rfl] at q3 ⊢
      refine ⟨fun σ H => ∃ ι h ρ, Rel X.K ι h H ∧ RS X.K ι H ρ σ ∧ PostS X.K W (whileF ct cb n ρ h) ι H D, fun σ' H' z => ⟨n, Nat.lt_succ_self _, z⟩, ι3, h3, ρ2, R3, S2.mono x3, ?_⟩
      cases eb : cb ρ2 h3 with
      | nx ρ4 h4 =>
        simp only [eb] at q3
        exact fun ι4 H4 σ4 x4 R4 S4 => ⟨ι4, h4, ρ4, R4, S4, PostS.ext q3 x4⟩
      | ct ρ4 h4 =>
        simp only [eb] at q3
        exact fun ι4 H4 σ4 x4 R4 S4 => ⟨ι4, h4, ρ4, R4, S4, PostS.ext q3 x4⟩
      | bk ρ4 h4 => simp only [eb] at q3; exact q3
      | ret d4 h4 => simp only [eb] at q3; exact q3
      | exc ρ4 C fs h4 => simp only [eb] at q3; exact q3
      | bad => simp only [eb] at q3; exact q3
end
end Dl

/-! The D layer, 9: patterns, what is walked. -/
namespace Dl
open PySem PySem.Spec PyProof.Rows L2

section
variable {X : Cx} {W : WX} {pos : Pos}
/-! ### patterns -/
theorem pg_nm {i : Nat} {x : Str} (hN : X.N.Nodup) (hi : X.N[i]? = some x := by rfl) (hx : Loc X.env.scope x := by first | exact Or.inl rfl | exact Or.inr rfl) (hf : X.fn x = true ∨ X.env.scope.names.lookup x = some .local := by first | exact .inl rfl | exact .inr rfl | assumption) : PG X (.Name x pos) (gPat X.K (.nm i)) := by
  unfold gPat
  exact pg_name hN hi hx hf
theorem pgs_no : PGs X [] (gPats X.K []) := by
  unfold gPats
  exact pgs_nil
theorem pgs_co {e : Expr} {es : List Expr} {p : Pat} {ps : List Pat} (h1 : PG X e (gPat X.K p)) (h2 : PGs X es (gPats X.K ps))
    (hs : (assignEach (e :: es) X.env).map (·.2) = assign e X.env :: (assignEach es X.env).map (·.2) := by rfl) : PGs X (e :: es) (gPats X.K (p :: ps)) := by
  unfold gPats
  exact pgs_cons h1 h2 hs
theorem pg_tp {es : List Expr} {k : Nat} {ps : List Pat} (hc : X.calm = true) (h : PGs X es (gPats X.K ps))
    (hn : (assignEach es X.env).length = ps.length := by rfl) (hst : (assignEach es X.env).findIdx? (·.1) = none := by rfl) : PG X (.Tuple es k pos) (gPat X.K (.tp ps)) := by
  unfold gPat
  exact pg_tup hc h hn hst

/-! ### a list or a tuple -/
def iSeqT (K : PySem.W.Frag) (tl : TE) : TI := fun σ H R => tl σ H fun x H1 => ∃ a, x = .ref a ∧ (((∃ xs, SqL K H1 a xs) ∧ R (Itl K a) H1) ∨ ((∃ xs, SqT K H1 a xs) ∧ R (Itt K a) H1))
theorem pi_seq {tg l : Expr} {tl : TE} (hl : PE X l tl) : PI X tg l (iSeqT X.K tl) := by
  refine ⟨fun pins s σ H R I h => ?_⟩
  refine thn (hl.run pins s σ H _ I h) fun v s1 ⟨x, H1, I1, r1, q1⟩ => ?_
  obtain ⟨a, e, q⟩ := q1
  subst e
  cases r1
  have new : ∀ b ∈ [s1.heap.objs.size], FpOk X pins H1 b := fun b hb => by
    have e : b = s1.heap.objs.size := by simpa using hb
    subst e
    exact I1.fpOk (Nat.le_refl _) (I1.hok.fresh (Nat.le_refl _))
  rcases q with ⟨⟨xs, hq⟩, q⟩ | ⟨⟨xs, hq⟩, q⟩
  · obtain ⟨its, rv, p, hz⟩ := I1.list hq
    refine wpAny_pyIter_list p.isList ?_
    exact ⟨s1.heap.objs.size, [s1.heap.objs.size], _, _, H1, rfl, I1.kept (t' := s1.toks) fun b o e => Heap.get?_push_of_some _ e, turn_list a _, ⟨_, Heap.get?_push_size _ rfl, rfl, rfl⟩, new, q⟩
  · obtain ⟨its, rv, p, hz⟩ := I1.tuple hq
    refine wpAny_pyIter_tuple (show s1.heap.IsTuple a its.toArray from p) ?_
    exact ⟨s1.heap.objs.size, [s1.heap.objs.size], _, _, H1, rfl, I1.kept (t' := s1.toks) fun b o e => Heap.get?_push_of_some _ e, turn_tuple a _, ⟨_, Heap.get?_push_size _ rfl, rfl, rfl⟩, new, q⟩
end
/-- what is walked, of a value -/
def itOf (h : Hs) : D → Option ItD
  | .tup xs => some ⟨xs, []⟩
  | .lst xs => some ⟨xs, []⟩
  | .scr ns => some ⟨ns.map .int, []⟩
  | .obj n => (match h[n]? with
    | some (.lst xs) => some ⟨xs, [(n, xs)]⟩
    | _ => none)
  | _ => none
section
variable {K : PySem.W.Frag} {ι : Ix} {H : Hp} {h : Hs}
theorem walk_listN {a : Addr} {n : Nat} : Walk (Itl K a) n (fun H => ∃ vs, SqL K H a vs ∧ vs.length = n) (fun i Hc x H' => H' = Hc ∧ ∀ ys, SqL K Hc a ys → ys[i]? = some x) :=
  ⟨fun i _ hi ⟨vs, q, e⟩ => ⟨vs, vs[i], q, by simp [e, hi]⟩, fun _ ⟨vs, q, e⟩ => ⟨vs, q, by omega⟩, fun _ _ _ _ _ _ y => y⟩
theorem walk_tupN {a : Addr} {n : Nat} : Walk (Itt K a) n (fun H => ∃ vs, SqT K H a vs ∧ vs.length = n) (fun i Hc x H' => H' = Hc ∧ ∀ ys, SqT K Hc a ys → ys[i]? = some x) :=
  ⟨fun i _ hi ⟨vs, q, e⟩ => ⟨vs, vs[i], q, by simp [e, hi]⟩, fun _ ⟨vs, q, e⟩ => ⟨vs, q, by omega⟩, fun _ _ _ _ _ _ y => y⟩
/-- a list whose state gives its items at any time -/
theorem ri_list {a : Addr} {it : ItD} (f : ∀ ι' H' h', Up ι H ι' H' → Rel K ι' h' H' → okG it.gs h' = true → ∃ vs, SqL K H' a vs ∧ RDs K ι' H' it.items vs) : RI K ι H it (Itl K a) := by
  refine ⟨_, _, walk_listN, fun ι' H' h' u R g => ?_, fun i Hc x H' ι' h' hi y u R g => ?_⟩
  · obtain ⟨vs, q, r⟩ := f ι' H' h' u R g
    exact ⟨vs, q, r.length.symm⟩
  · obtain ⟨rfl, y⟩ := y
    obtain ⟨vs, q, r⟩ := f ι' _ h' u R g
    obtain ⟨d, e, rd⟩ := r.getV (y vs q)
    exact ⟨d, e, rd, .refl, R, fun _ _ z => z⟩
theorem ri_tup {a : Addr} {it : ItD} (f : ∀ ι' H' h', Up ι H ι' H' → Rel K ι' h' H' → okG it.gs h' = true → ∃ vs, SqT K H' a vs ∧ RDs K ι' H' it.items vs) : RI K ι H it (Itt K a) := by
  refine ⟨_, _, walk_tupN, fun ι' H' h' u R g => ?_, fun i Hc x H' ι' h' hi y u R g => ?_⟩
  · obtain ⟨vs, q, r⟩ := f ι' H' h' u R g
    exact ⟨vs, q, r.length.symm⟩
  · obtain ⟨rfl, y⟩ := y
    obtain ⟨vs, q, r⟩ := f ι' _ h' u R g
    obtain ⟨d, e, rd⟩ := r.getV (y vs q)
    exact ⟨d, e, rd, .refl, R, fun _ _ z => z⟩
theorem rds_ints {ns : List Int} : RDs K ι H (ns.map D.int) (ns.map V.int) := RDs.ofInts
/-- a value that is walked: a list all the time, or a tuple all the time -/
theorem itOf_ok {x : D} {v : V} {it : ItD} (r : RD K ι H x v) (e : itOf h x = some it) : ∃ a, v = .ref a ∧
    ((∀ ι' H' h', Up ι H ι' H' → Rel K ι' h' H' → okG it.gs h' = true → ∃ vs, SqL K H' a vs ∧ RDs K ι' H' it.items vs) ∨ (∀ ι' H' h', Up ι H ι' H' → Rel K ι' h' H' → okG it.gs h' = true → ∃ vs, SqT K H' a vs ∧ RDs K ι' H' it.items vs)) := by
  cases r with
  | tup t rs => cases e; exact ⟨_, rfl, .inr fun ι' H' h' u R _ => ⟨_, (t.up u).sq, rs.up u⟩⟩
  | lst t rs => cases e; exact ⟨_, rfl, .inl fun ι' H' h' u R _ => ⟨_, (t.up u).sq, rs.up u⟩⟩
  | scr t => cases e; exact ⟨_, rfl, .inl fun ι' H' h' u R _ => ⟨_, (t.up u).sq, RDs.ofInts⟩⟩
  | @obj n a g =>
    have e : (match h[n]? with
    | some (.lst xs) => some (ItD.mk xs [(n, xs)])
    | _ => none) = some it := e
    split at e
    · cases e
      refine ⟨_, rfl, .inl fun ι' H' h' u R og => ?_⟩
      obtain ⟨vs, h1, h2⟩ := R.at (u.get _ _ g) (okG_at og List.mem_cons_self)
      exact ⟨vs, SqL.of h1, h2⟩
    · cases e
  | _ => cases e
def iSeq (ce : Env → M D) : Env → M ItD := fun ρ h => (ce ρ h).bind fun x h1 => match itOf h1 x with
  | some it => if okG it.gs h1 then .ok it h1 else .bad
  | none => .bad
variable {X : Cx} {W : WX} {pos : Pos} {ce : Env → M D} {cs : Env → M (List D)}
theorem di_seq {tg l : Expr} (hl : DE X W l ce) : DI X W tg l (iSeq ce) := pi_imp (pi_seq hl) fun σ H Q ⟨ι, h, ρ, R, S, p⟩ => by
  refine ⟨ι, h, ρ, R, S, Post.imp (Post.bind p) fun x H1 ⟨ι1, h1, dx, x1, R1, r1, p1⟩ => ?_⟩
  split at p1
  · rename_i it e
    obtain ⟨g, p1⟩ := p1.guard
    obtain ⟨a, rfl, f⟩ := itOf_ok r1 e
    rcases f with f | f
    · obtain ⟨vs, q, _⟩ := f ι1 H1 h1 (Ext.refl.up) R1 g
      exact ⟨a, rfl, .inl ⟨⟨vs, q⟩, p1.ok R1 (ri_list f)⟩⟩
    · obtain ⟨vs, q, _⟩ := f ι1 H1 h1 (Ext.refl.up) R1 g
      exact ⟨a, rfl, .inr ⟨⟨vs, q⟩, p1.ok R1 (ri_tup f)⟩⟩
  · exact p1.elim

/-! ### range -/
def rng : Int → Int → Nat → List D
  | _, _, 0 => []
  | a, c, n + 1 => .int a :: rng (a + c) c n
theorem rng_len : ∀ (n : Nat) (a c : Int), (rng a c n).length = n
  | 0, _, _ => rfl
  | n + 1, a, c => by unfold rng; rw [List.length_cons, rng_len n]
theorem rng_at : ∀ (n : Nat) (a c : Int) (i : Nat), i < n → (rng a c n)[i]? = some (.int (a + (i : Nat) * c))
  | 0, _, _, _, h => absurd h (Nat.not_lt_zero _)
  | n + 1, a, c, 0, _ => by unfold rng; simp
  | n + 1, a, c, i + 1, h => by
    unfold rng
    rw [List.getElem?_cons_succ, rng_at n (a + c) c i (Nat.lt_of_succ_lt_succ h)]
    congr 2
    rw [Int.natCast_succ, Int.add_mul, Int.one_mul]
    omega
theorem ri_fn {J : It} {a c : Int} {n : Nat} (w : Walk J n (fun _ => True) (YFn fun i => .int (a + (i : Nat) * c))) : RI K ι H ⟨rng a c n, []⟩ J := by
  have w' : Walk J (rng a c n).length (fun _ => True) (YFn fun i => .int (a + (i : Nat) * c)) := by rw [rng_len]; exact w
  refine ⟨_, _, w', fun _ _ _ _ _ _ => trivial, fun i Hc x H' ι' h' hi y u R g => ?_⟩
  obtain ⟨rfl, rfl⟩ := y
  rw [show (ItD.mk (rng a c n) []).items = rng a c n from rfl, rng_len] at hi
  exact ⟨_, rng_at n a c i hi, .int _, .refl, R, fun _ _ z => z⟩
def okI (i : Int) : Bool := decide (-4611686018427387904 ≤ i ∧ i < 4611686018427387904)
theorem okI_ok {i : Int} (h : okI i = true) : -(2 ^ 62) ≤ i ∧ i < 2 ^ 62 := by
  have := of_decide_eq_true h
  omega
def iR1 (cs : Env → M (List D)) : Env → M ItD := fun ρ h => (cs ρ h).bind fun ds h1 => match ds with
  | [.int j] => if okI j then .ok ⟨rng 0 1 j.toNat, []⟩ h1 else .bad
  | _ => .bad
def iR2 (cs : Env → M (List D)) : Env → M ItD := fun ρ h => (cs ρ h).bind fun ds h1 => match ds with
  | [.int i, .int j] => if okI i && okI j then .ok ⟨rng i 1 (j - i).toNat, []⟩ h1 else .bad
  | _ => .bad
def iR3 (cs : Env → M (List D)) : Env → M ItD := fun ρ h => (cs ρ h).bind fun ds h1 => match ds with
  | [.int i, .int j, .int k] => if okI i && okI j && decide (k = -1) then .ok ⟨rng i (-1) (i - j).toNat, []⟩ h1 else .bad
  | _ => .bad
theorem walk_r1 {lo : Int} {n : Nat} : Walk (Itr lo n) n (fun _ => True) (YFn fun i => .int (lo + (i : Nat) * 1)) := walk_range.mono (fun _ z => z) fun i H x H' _ _ y => ⟨y.1, by rw [y.2]; simp only [Int.mul_one]⟩
theorem di_range1 {tg a : Expr} {p : Pos} (hg : Gl X "range") (hm : X.mg "range" = none) (ha : DA X W [a] cs) (hs : starEach [a] X.env = [(false, eval a X.env)] := by rfl) : DI X W tg (.Call (.Name "range" p) [a] [] pos) (iR1 cs) := pi_imp (pi_range1 hg hm ha hs) fun σ H Q ⟨ι, h, ρ, R, S, p⟩ => by
  refine ⟨ι, h, ρ, R, S, Post.imp (Post.bind p) fun vs H1 ⟨ι1, h1, ds, x1, R1, r1, p1⟩ => ?_⟩
  split at p1
  · rename_i j
    obtain ⟨c, p1⟩ := p1.guard
    cases r1 with
    | cons r rr =>
      cases r
      cases rr
      exact ⟨j, rfl, (okI_ok c).1, (okI_ok c).2, p1.ok R1 (ri_fn walk_r1)⟩
  · exact p1.elim
theorem di_range2 {tg a b : Expr} {p : Pos} (hg : Gl X "range") (hm : X.mg "range" = none) (ha : DA X W [a, b] cs) (hs : starEach [a, b] X.env = [(false, eval a X.env), (false, eval b X.env)] := by rfl) (hs2 : starEach [b] X.env = [(false, eval b X.env)] := by rfl) : DI X W tg (.Call (.Name "range" p) [a, b] [] pos) (iR2 cs) := pi_imp (pi_range2 hg hm ha hs hs2) fun σ H Q ⟨ι, h, ρ, R, S, p⟩ => by
  refine ⟨ι, h, ρ, R, S, Post.imp (Post.bind p) fun vs H1 ⟨ι1, h1, ds, x1, R1, r1, p1⟩ => ?_⟩
  split at p1
  · rename_i i j
    obtain ⟨c, p1⟩ := p1.guard
    obtain ⟨c1, c2⟩ := Bool.and_eq_true_iff.mp c
    cases r1 with
    | cons r rr =>
      cases r
      cases rr with
      | cons r rr =>
        cases r
        cases rr
        exact ⟨i, j, rfl, ⟨(okI_ok c1).1, (okI_ok c1).2, (okI_ok c2).1, (okI_ok c2).2⟩, p1.ok R1 (ri_fn walk_r1)⟩
  · exact p1.elim
theorem di_range3 {tg a b c : Expr} {p : Pos} (hg : Gl X "range") (hm : X.mg "range" = none) (ha : DA X W [a, b, c] cs)
    (hs : starEach [a, b, c] X.env = (false, eval a X.env) :: starEach [b, c] X.env := by rfl) (hpl : (backTo pos (starEach [b, c] X.env)).any (·.1) = false := by rfl) : DI X W tg (.Call (.Name "range" p) [a, b, c] [] pos) (iR3 cs) := pi_imp (pi_range3 hg hm ha hs hpl) fun σ H Q ⟨ι, h, ρ, R, S, p⟩ => by
  refine ⟨ι, h, ρ, R, S, Post.imp (Post.bind p) fun vs H1 ⟨ι1, h1, ds, x1, R1, r1, p1⟩ => ?_⟩
  split at p1
  · rename_i i j k
    obtain ⟨c, p2⟩ := p1.guard
    obtain ⟨c, c3⟩ := Bool.and_eq_true_iff.mp c
    obtain ⟨c1, c2⟩ := Bool.and_eq_true_iff.mp c
    have c3 : k = -1 := of_decide_eq_true c3
    subst c3
    cases r1 with
    | cons r rr =>
      cases r
      cases rr with
      | cons r rr =>
        cases r
        cases rr with
        | cons r rr =>
          cases r
          cases rr
          exact ⟨i, j, -1, _, rfl, RgC.neg (okI_ok c1).1 (okI_ok c1).2 (okI_ok c2).1 (okI_ok c2).2, p2.ok R1 (ri_fn walk_rangeC)⟩
  · exact p1.elim

/-! ### enumerate, zip: new pairs -/
theorem ri_pair {J : It} {it : ItD} {G : Hp → Prop} {A B : Nat → Hp → V → Prop} (w : Walk J it.items.length G (fun i H v H' => ∃ T x y, v = .ref T ∧ H T = none ∧ H' = upd H T (.tup [x, y]) ∧ A i H x ∧ B i H y))
    (f : ∀ ι' H' h', Up ι H ι' H' → Rel K ι' h' H' → okG it.gs h' = true → G H')
    (k : ∀ i ι' H' h' x y, i < it.items.length → Up ι H ι' H' → Rel K ι' h' H' → okG it.gs h' = true → A i H' x → B i H' y → ∃ d e, it.items[i]? = some (.tup [d, e]) ∧ RD K ι' H' d x ∧ RD K ι' H' e y) : RI K ι H it J := by
  refine ⟨_, _, w, f, fun i Hc v H' ι' h' hi y u R g => ?_⟩
  obtain ⟨T, x, y, rfl, hT, rfl, ha, hb⟩ := y
  obtain ⟨d, e, h1, h2, h3⟩ := k i ι' Hc h' x y hi u R g ha hb
  exact ⟨_, h1, .tup (.inl ⟨R.out hT, .inl upd_same⟩) (.cons (h2.mono (.put hT)) (.cons (h3.mono (.put hT)) .nil)), .put hT, R.put hT, upd_keep hT⟩
theorem walk_enumN {a : Addr} {n : Nat} : Walk (Ite K a) n (fun H => ∃ vs, SqL K H a vs ∧ vs.length = n) (fun i H v H' => ∃ T x y, v = .ref T ∧ H T = none ∧ H' = upd H T (.tup [x, y]) ∧ x = .int (i : Nat) ∧ ∀ ys, SqL K H a ys → ys[i]? = some y) := by
  refine ⟨fun i _ hi ⟨vs, q, e⟩ => ⟨vs, vs[i], q, by simp [e, hi]⟩, fun _ ⟨vs, q, e⟩ => ⟨vs, q, by omega⟩, fun i H v H' _ _ y => ?_⟩
  obtain ⟨T, x, h1, h2, h3, h4⟩ := y
  exact ⟨T, .int (i : Nat), x, h1, h2, h3, rfl, h4⟩
theorem walk_zipN {a b : Addr} {n : Nat} : Walk (Itz K a b) n (fun H => ∃ vs us, SqL K H a vs ∧ SqL K H b us ∧ n = min vs.length us.length) (fun i H v H' => ∃ T x y, v = .ref T ∧ H T = none ∧ H' = upd H T (.tup [x, y]) ∧ (∀ ys, SqL K H a ys → ys[i]? = some x) ∧ ∀ ys, SqL K H b ys → ys[i]? = some y) := by
  refine ⟨fun i _ hi ⟨vs, us, q, q', e⟩ => ?_, fun _ ⟨vs, us, q, q', e⟩ => ⟨vs, us, q, q', by omega⟩, fun i H v H' _ _ y => y⟩
  have h1 : i < vs.length := by omega
  have h2 : i < us.length := by omega
  exact ⟨vs, us, vs[i], us[i], q, q', by simp [h1], by simp [h2]⟩
theorem walk_zipTN {a b : Addr} {n : Nat} : Walk (RZ.ItzT K a b) n (fun H => ∃ vs us, SqT K H a vs ∧ SqT K H b us ∧ n = min vs.length us.length) (fun i H v H' => ∃ T x y, v = .ref T ∧ H T = none ∧ H' = upd H T (.tup [x, y]) ∧ (∀ ys, SqT K H a ys → ys[i]? = some x) ∧ ∀ ys, SqT K H b ys → ys[i]? = some y) := by
  refine ⟨fun i _ hi ⟨vs, us, q, q', e⟩ => ?_, fun _ ⟨vs, us, q, q', e⟩ => ⟨vs, us, q, q', by omega⟩, fun i H v H' _ _ y => y⟩
  have h1 : i < vs.length := by omega
  have h2 : i < us.length := by omega
  exact ⟨vs, us, vs[i], us[i], q, q', by simp [h1], by simp [h2]⟩
def enumD : Nat → List D → List D
  | _, [] => []
  | n, x :: xs => .tup [.int n, x] :: enumD (n + 1) xs
theorem enumD_len : ∀ (xs : List D) (n : Nat), (enumD n xs).length = xs.length
  | [], _ => rfl
  | x :: xs, n => by unfold enumD; rw [List.length_cons, List.length_cons, enumD_len xs]
theorem enumD_at : ∀ (xs : List D) (n i : Nat) (d : D), xs[i]? = some d → (enumD n xs)[i]? = some (.tup [.int ((n + i : Nat) : Int), d])
  | [], _, _, _, e => by simp at e
  | x :: xs, n, 0, d, e => by unfold enumD; simp at e ⊢; exact e
  | x :: xs, n, i + 1, d, e => by
    unfold enumD
    rw [List.getElem?_cons_succ, enumD_at xs (n + 1) i d (by simpa using e)]
    congr 5
    omega
def zipD : List D → List D → List D
  | x :: xs, y :: ys => .tup [x, y] :: zipD xs ys
  | _, _ => []
theorem zipD_len : ∀ (xs ys : List D), (zipD xs ys).length = min xs.length ys.length
  | [], ys => by cases ys <;> simp [zipD]
  | _ :: _, [] => by simp [zipD]
  | x :: xs, y :: ys => by unfold zipD; rw [List.length_cons, List.length_cons, List.length_cons, zipD_len xs]; omega
theorem zipD_at : ∀ (xs ys : List D) (i : Nat) (d e : D), xs[i]? = some d → ys[i]? = some e → (zipD xs ys)[i]? = some (.tup [d, e])
  | [], _, _, _, _, h, _ => by simp at h
  | _ :: _, [], _, _, _, _, h => by simp at h
  | x :: xs, y :: ys, 0, d, e, h1, h2 => by simp at h1 h2; subst h1 h2; rfl
  | x :: xs, y :: ys, i + 1, d, e, h1, h2 => by
    unfold zipD
    rw [List.getElem?_cons_succ]
    exact zipD_at xs ys i d e (by simpa using h1) (by simpa using h2)
def isT : D → Bool
  | .tup _ => true
  | _ => false
def iEnum (cs : Env → M (List D)) : Env → M ItD := fun ρ h => (cs ρ h).bind fun ds h1 => match ds with
  | [x] => if isT x then .bad else (match itOf h1 x with
    | some it => if okG it.gs h1 then .ok ⟨enumD 0 it.items, it.gs⟩ h1 else .bad
    | none => .bad)
  | _ => .bad
def iZip (cs : Env → M (List D)) : Env → M ItD := fun ρ h => (cs ρ h).bind fun ds h1 => match ds with
  | [x, y] => if isT x == isT y then (match itOf h1 x, itOf h1 y with
    | some it, some jt => if okG it.gs h1 && okG jt.gs h1 then .ok ⟨zipD it.items jt.items, it.gs ++ jt.gs⟩ h1 else .bad
    | _, _ => .bad) else .bad
  | _ => .bad
theorem okG_app {a b : List (Nat × List D)} {h : Hs} (e : okG (a ++ b) h = true) : okG a h = true ∧ okG b h = true := by
  unfold okG at e ⊢
  rw [List.all_append] at e
  exact Bool.and_eq_true_iff.mp e
theorem okG_and {a b : List (Nat × List D)} {h : Hs} (e : okG a h = true) (f : okG b h = true) : okG (a ++ b) h = true := by
  unfold okG at e f ⊢
  rw [List.all_append, e, f]
  rfl
/-- a value that is walked, by its kind -/
theorem itOf_L {x : D} {v : V} {it : ItD} (r : RD K ι H x v) (e : itOf h x = some it) (nt : isT x = false) : ∃ a, v = .ref a ∧ ∀ ι' H' h', Up ι H ι' H' → Rel K ι' h' H' → okG it.gs h' = true → ∃ vs, SqL K H' a vs ∧ RDs K ι' H' it.items vs := by
  cases r with
  | tup t rs => cases nt
  | lst t rs => cases e; exact ⟨_, rfl, fun ι' H' h' u R _ => ⟨_, (t.up u).sq, rs.up u⟩⟩
  | scr t => cases e; exact ⟨_, rfl, fun ι' H' h' u R _ => ⟨_, (t.up u).sq, RDs.ofInts⟩⟩
  | @obj n a g =>
    have e : (match h[n]? with
    | some (.lst xs) => some (ItD.mk xs [(n, xs)])
    | _ => none) = some it := e
    split at e
    · cases e
      refine ⟨_, rfl, fun ι' H' h' u R og => ?_⟩
      obtain ⟨vs, h1, h2⟩ := R.at (u.get _ _ g) (okG_at og List.mem_cons_self)
      exact ⟨vs, SqL.of h1, h2⟩
    · cases e
  | _ => cases e
theorem itOf_T {x : D} {v : V} {it : ItD} (r : RD K ι H x v) (e : itOf h x = some it) (nt : isT x = true) : ∃ a, v = .ref a ∧ ∀ ι' H' h', Up ι H ι' H' → Rel K ι' h' H' → okG it.gs h' = true → ∃ vs, SqT K H' a vs ∧ RDs K ι' H' it.items vs := by
  cases r with
  | tup t rs => cases e; exact ⟨_, rfl, fun ι' H' h' u R _ => ⟨_, (t.up u).sq, rs.up u⟩⟩
  | _ => cases nt
theorem di_enum {a : Expr} {p tpos : Pos} {elts : List Expr} {kk : Nat} (hg : Gl X "enumerate") (hm : X.mg "enumerate" = none) (ha : DA X W [a] cs) (hs : starEach [a] X.env = [(false, eval a X.env)] := by rfl) : DI X W (.Tuple elts kk tpos) (.Call (.Name "enumerate" p) [a] [] pos) (iEnum cs) := pi_imp (pi_enum hg hm ha hs) fun σ H Q ⟨ι, h, ρ, R, S, p⟩ => by
  refine ⟨ι, h, ρ, R, S, Post.imp (Post.bind p) fun vs H1 ⟨ι1, h1, ds, x1, R1, r1, p1⟩ => ?_⟩
  split at p1
  · rename_i x
    split at p1
    · exact p1.elim
    · rename_i nt
      split at p1
      · rename_i it e
        obtain ⟨g, p1⟩ := p1.guard
        cases r1 with
        | cons r rr =>
          cases rr
          obtain ⟨a, rfl, f⟩ := itOf_L r e (by simpa using nt)
          obtain ⟨vs, q, _⟩ := f ι1 H1 h1 (Ext.refl.up) R1 g
          refine ⟨a, vs, rfl, q, p1.ok R1 (ri_pair (walk_enumN (n := (enumD 0 it.items).length)) (fun ι' H' h' u R g => ?_) fun i ι' H' h' y z hi u R g hy hz => ?_)⟩
          · obtain ⟨vs, q, r⟩ := f ι' H' h' u R g
            exact ⟨vs, q, by rw [enumD_len]; exact r.length.symm⟩
          · obtain ⟨vs, q, r⟩ := f ι' H' h' u R g
            obtain ⟨d, e1, e2⟩ := r.getV (hz vs q)
            refine ⟨_, d, enumD_at _ _ _ _ e1, ?_, e2⟩
            rw [hy, Nat.zero_add]
            exact .int _
      · exact p1.elim
  · exact p1.elim
theorem di_zip {a b : Expr} {p tpos : Pos} {elts : List Expr} {kk : Nat} (hg : Gl X "zip") (hm : X.mg "zip" = none) (ha : DA X W [a, b] cs)
    (hs : starEach [a, b] X.env = (false, eval a X.env) :: starEach [b] X.env := by rfl) (hpl : (backTo pos (starEach [b] X.env)).any (·.1) = false := by rfl) : DI X W (.Tuple elts kk tpos) (.Call (.Name "zip" p) [a, b] [] pos) (iZip cs) := pi_imp (RZ.pi_zipA hg hm ha hs hpl) fun σ H Q ⟨ι, h, ρ, R, S, p⟩ => by
  refine ⟨ι, h, ρ, R, S, Post.imp (Post.bind p) fun vs H1 ⟨ι1, h1, ds, x1, R1, r1, p1⟩ => ?_⟩
  split at p1
  · rename_i x y
    obtain ⟨et, p1⟩ := p1.guard
    have et : isT x = isT y := by simpa using et
    split at p1
    · rename_i it jt e1 e2
      obtain ⟨g, p1⟩ := p1.guard
      obtain ⟨g1, g2⟩ := Bool.and_eq_true_iff.mp g
      cases r1 with
      | cons r rr =>
        cases rr with
        | cons r' rr =>
          cases rr
          cases ex : isT x with
          | false =>
            obtain ⟨a, rfl, f⟩ := itOf_L r e1 ex
            obtain ⟨b, rfl, f'⟩ := itOf_L r' e2 (et ▸ ex)
            obtain ⟨vs, q, _⟩ := f ι1 H1 h1 (Ext.refl.up) R1 g1
            obtain ⟨us, q', _⟩ := f' ι1 H1 h1 (Ext.refl.up) R1 g2
            refine ⟨a, b, vs, us, rfl, .inl ⟨q, q', p1.ok R1 (ri_pair (walk_zipN (n := (zipD it.items jt.items).length)) (fun ι' H' h' u R g => ?_) fun i ι' H' h' y z hi u R g hy hz => ?_)⟩⟩
            · obtain ⟨vs, q, r⟩ := f ι' H' h' u R (okG_app g).1
              obtain ⟨us, q', r'⟩ := f' ι' H' h' u R (okG_app g).2
              exact ⟨vs, us, q, q', by rw [zipD_len, r.length, r'.length]⟩
            · obtain ⟨vs, q, r⟩ := f ι' H' h' u R (okG_app g).1
              obtain ⟨us, q', r'⟩ := f' ι' H' h' u R (okG_app g).2
              obtain ⟨d, e1, e2⟩ := r.getV (hy vs q)
              obtain ⟨d', e1', e2'⟩ := r'.getV (hz us q')
              exact ⟨d, d', zipD_at _ _ _ _ _ e1 e1', e2, e2'⟩
          | true =>
            obtain ⟨a, rfl, f⟩ := itOf_T r e1 ex
            obtain ⟨b, rfl, f'⟩ := itOf_T r' e2 (et ▸ ex)
            obtain ⟨vs, q, _⟩ := f ι1 H1 h1 (Ext.refl.up) R1 g1
            obtain ⟨us, q', _⟩ := f' ι1 H1 h1 (Ext.refl.up) R1 g2
            refine ⟨a, b, vs, us, rfl, .inr ⟨q, q', p1.ok R1 (ri_pair (walk_zipTN (n := (zipD it.items jt.items).length)) (fun ι' H' h' u R g => ?_) fun i ι' H' h' y z hi u R g hy hz => ?_)⟩⟩
            · obtain ⟨vs, q, r⟩ := f ι' H' h' u R (okG_app g).1
              obtain ⟨us, q', r'⟩ := f' ι' H' h' u R (okG_app g).2
              exact ⟨vs, us, q, q', by rw [zipD_len, r.length, r'.length]⟩
            · obtain ⟨vs, q, r⟩ := f ι' H' h' u R (okG_app g).1
              obtain ⟨us, q', r'⟩ := f' ι' H' h' u R (okG_app g).2
              obtain ⟨d, e1, e2⟩ := r.getV (hy vs q)
              obtain ⟨d', e1', e2'⟩ := r'.getV (hz us q')
              exact ⟨d, d', zipD_at _ _ _ _ _ e1 e1', e2, e2'⟩
    · exact p1.elim
  · exact p1.elim
/-- a text, sign by sign -/
def iStrD (ce : Env → M D) : Env → M ItD := fun ρ h => (ce ρ h).bind fun x h1 => match x with
  | .str z => .ok ⟨z.cps.toList.map fun c => .str ⟨#[c]⟩, []⟩ h1
  | _ => .bad
theorem di_str {tg l : Expr} (hl : DE X W l ce) : DI X W tg l (iStrD ce) := pi_imp (pi_str hl) fun σ H Q ⟨ι, h, ρ, R, S, p⟩ => by
  refine ⟨ι, h, ρ, R, S, Post.imp (Post.bind p) fun x H1 ⟨ι1, h1, dx, x1, R1, r1, p1⟩ => ?_⟩
  split at p1
  · rename_i z
    cases r1
    have w : Walk (Its z) (z.cps.toList.map fun c => D.str ⟨#[c]⟩).length (fun _ => True) (fun i H v H' => H' = H ∧ ∃ c, z.cps[i]? = some c ∧ v = .str ⟨#[c]⟩) := by
      have e : (z.cps.toList.map fun c => D.str ⟨#[c]⟩).length = z.cps.size := by rw [List.length_map, Array.length_toList]
      rw [e]
      exact walk_str
    refine ⟨z, rfl, p1.ok R1 ⟨_, _, w, fun _ _ _ _ _ _ => trivial, fun i Hc x H' ι' h' hi y u R g => ?_⟩⟩
    obtain ⟨rfl, c, hc, rfl⟩ := y
    refine ⟨.str ⟨#[c]⟩, ?_, .str _, .refl, R, fun _ _ z => z⟩
    show (z.cps.toList.map fun c => D.str ⟨#[c]⟩)[i]? = _
    rw [List.getElem?_map, Array.getElem?_toList, hc]
    rfl
  · exact p1.elim
end
end Dl

/-! The D layer, 10: comprehensions. -/
namespace Dl
open PySem PySem.Spec PyProof.Rows L2

def wipeD (ρ : Env) : List Nat → Env
  | [] => ρ
  | v :: vs => (wipeD ρ vs).set v none
def R.nox {α : Type} (r : R α) : R α := match r with
  | .ok a h => .ok a h
  | _ => .bad
def lcF (p : Pat) (ct : Env → M Bool) (ce : Env → M D) (gs : List (Nat × List D)) (ρ : Env) : List D → M (List D)
  | [], h => if okG gs h then .ok [] h else .bad
  | x :: xs, h => if okG gs h then (match patD p x ρ with
    | none => .bad
    | some ρ1 => (ct ρ1 h).nox.bind fun b h1 => if b = true then (ce ρ1 h1).nox.bind fun d h2 => (lcF p ct ce gs ρ xs h2).bind fun ds h3 => .ok (d :: ds) h3 else lcF p ct ce gs ρ xs h1) else .bad
def nLc (ci : Env → M ItD) (p : Pat) (own : List Nat) (ct : Env → M Bool) (ce : Env → M D) : Env → M (List D) := fun ρ h =>
  (ci ρ h).bind fun it h1 => if okLen it.items.length then lcF p ct ce it.gs (wipeD ρ own) it.items h1 else .bad
def tYes' : Env → M Bool := fun _ h => .ok true h
def NoW : WX := fun _ _ _ _ => False
section
variable {K : PySem.W.Frag} {ι ι1 : Ix} {H H1 : Hp} {h : Hs} {ρ : Env} {σ : L2.St}
theorem RS.wipe (S : RS K ι H ρ σ) : ∀ vs : List Nat, RS K ι H (wipeD ρ vs) (L2.wipe σ vs)
  | [] => S
  | v :: vs => by
    have ih := RS.wipe S vs
    refine ⟨?_, fun j d g => ?_⟩
    · show ((wipeD ρ vs).set v none).length = ((L2.wipe σ vs).set v none).length
      rw [List.length_set, List.length_set]
      exact ih.1
    · have g : ((wipeD ρ vs).set v none)[j]? = some (some d) := g
      show ∃ w, ((L2.wipe σ vs).set v none)[j]? = some (some w) ∧ _
      by_cases e : v = j
      · subst e
        by_cases hl : v < (wipeD ρ vs).length
        · rw [List.getElem?_set_self hl] at g; cases g
        · rw [List.getElem?_eq_none (by rw [List.length_set]; omega)] at g; cases g
      · rw [List.getElem?_set_ne e] at g ⊢
        exact ih.2 j d g
theorem wipe_wipe {vs : List Nat} : L2.wipe (L2.wipe σ vs) vs = L2.wipe σ vs := by
  apply List.ext_getElem?
  intro j
  by_cases hj : j ∈ vs
  · rw [wipe_in hj, wipe_in hj, wipe_length]
  · rw [wipe_out hj]
theorem PostN.nox {W : XK} {W' : XK} {α β : Type} {RA : Ix → Hp → α → β → Prop} {r : R α} {f : α → M (List D)} {ιb : Ix} {Hb : Hp} {Q : VK} (p : PostN K W (r.nox.bind f) ιb Hb Q) :
    Post K W' RA r ι H (fun b H1 => ∃ ι1 h1 a, Ext ι H ι1 H1 ∧ Rel K ι1 h1 H1 ∧ RA ι1 H1 a b ∧ PostN K W (f a h1) ιb Hb Q) := by
  cases r with
  | ok a h => exact fun ι' H' b e R ra => ⟨ι', h, a, e, R, ra, p⟩
  | exc C fs h => exact (show False from p).elim
  | bad => exact (show False from p).elim
/-- a list that is being made, changed -/
theorem Ext.inner {p : Addr} {o : HO} (e : Ext (ι.with p) H ι1 H1) : ∃ ι2 : Ix, ι1 = ι2.with p ∧ ι2.rs = ι.rs ∧ ι2.os = ι1.os := by
  refine ⟨⟨ι1.os, ι.rs⟩, ?_, rfl, rfl⟩
  have e1 : ι1.rs = p :: ι.rs := e.rs
  show ι1 = ⟨ι1.os, p :: ι.rs⟩
  rw [← e1]
theorem Up.chgr {p : Addr} {o : HO} : Up (ι.with p) H (ι.with p) (upd H p o) := ⟨fun _ _ e => e, fun a u e f => ⟨by rw [upd_ne fun z => f.2 (by rw [z]; exact List.mem_cons_self)]; exact e, f⟩⟩
theorem Rel.chgr {p : Addr} {o : HO} (R : Rel K (ι.with p) h H) (n : p ∉ ι.os) : Rel K (ι.with p) h (upd H p o) := by
  refine ⟨R.len, R.nd, fun j a u e g => CellOk.up Up.chgr (upd_ne fun z => n (by rw [← z]; exact List.mem_of_getElem? e)) (R.cell j a u e g), fun a m => ?_⟩
  by_cases z : a = p
  · rw [z, upd_same]; exact fun z => nomatch z
  · rw [upd_ne z]; exact R.res a m
theorem lcF_ok {p : Pat} {ct : Env → M Bool} {ce : Env → M D} {gs : List (Nat × List D)} {xs : List D} {W : XK} {f : List D → M (List D)} {Q : VK} (q : PostN K W ((lcF p ct ce gs ρ xs h).bind f) ι H Q) : okG gs h = true := by
  cases xs with
  | nil =>
    unfold lcF at q
    cases e : okG gs h with
    | true => rfl
    | false => rw [e] at q; exact (show False from q).elim
  | cons x xs =>
    unfold lcF at q
    cases e : okG gs h with
    | true => rfl
    | false => rw [e] at q; exact (show False from q).elim
theorem bind_assoc {α β γ : Type} (r : R α) (f : α → M β) (g : β → M γ) : (r.bind f).bind g = r.bind fun a h => (f a h).bind g := by
  cases r <;> rfl
theorem bind_ok {α β : Type} (a : α) (f : α → M β) (h : Hs) : (R.ok a h).bind f = f a h := rfl
theorem up2 {ι2 : Ix} {Hc : Hp} {p : Addr} (x2 : Ext ι1 H1 ι2 Hc) (hD : H1 p = none) : Up ι1 H1 (ι2.with p) Hc := by
  refine ⟨x2.up.get, fun a o e f => ?_⟩
  obtain ⟨z1, z2⟩ := x2.up.keep a o e f
  exact ⟨z1, z2.1, fun m => (List.mem_cons.mp m).elim (fun y => by rw [y, hD] at e; cases e) z2.2⟩
theorem RS.up' {ι' : Ix} {H' : Hp} (S : RS K ι H ρ σ) (u : Up ι H ι' H') : RS K ι' H' ρ σ := ⟨S.1, fun i d g => let ⟨v, h1, h2⟩ := S.2 i d g; ⟨v, h1, h2.up u⟩⟩
theorem ext_in {ι2 ι5 : Ix} {Hc H4 : Hp} {p : Addr} (x2 : Ext ι1 H1 ι2 Hc) (hD : H1 p = none) (x : Ext (ι2.with p) Hc (ι5.with p) H4) : Ext ι1 H1 ι5 H4 := by
  have z : Ext ι2 Hc ι5 H4 := ⟨x.pre, by have e : p :: ι5.rs = p :: ι2.rs := x.rs; exact List.tail_eq_of_cons_eq e, x.keep, x.new⟩
  exact x2.trans z
/-- the turns of a comprehension -/
theorem w_lc {W : WX} {ci : Env → M ItD} {p : Pat} {own : List Nat} {ct : Env → M Bool} {ce : Env → M D} {Q : VK} (hp : ∀ i, i ∈ patIs p → i ∈ own) (q : wN K W (nLc ci p own ct ce) σ H Q) : tLc (wI K W ci) (gPat K p) (wT K NoW ct) (wE K NoW ce) own σ H Q := by
  obtain ⟨ι, h, ρ, R, S, q⟩ := q
  refine ⟨ι, h, ρ, R, S, Post.imp (PostN.bind q) fun J H1 ⟨ι1, h1, it, x1, R1, ⟨G, Y, w, st, yd⟩, q1⟩ => ?_⟩
  obtain ⟨gl, q1⟩ := q1.guard
  intro Dd hD
  have S1 := S.mono x1
  have oD := R1.out hD
  have hDH : H Dd = none := x1.back hD fun z => oD.1 (by
    obtain ⟨t, e1⟩ := x1.pre
    rw [e1]
    exact List.mem_append_left _ z)
  refine lc_it w (fun i Hc => ∃ ι2 h2 acc vs, Ext ι1 H1 ι2 Hc ∧ Rel K (ι2.with Dd) h2 Hc ∧ Hc Dd = some (.lst vs) ∧ RDs K (ι2.with Dd) Hc acc vs ∧ Dd ∉ ι2.os ∧ acc.length ≤ i ∧
    PostN K (fun x d H' => W x d σ H') ((lcF p ct ce it.gs (wipeD ρ own) (it.items.drop i) h2).bind fun ds h3 => .ok (acc ++ ds) h3) ι H Q) ?_ ?_ ?_ ?_
  · refine ⟨ι1, h1, [], [], .put hD, R1.with hD (upd_keep hD) (by rw [upd_same]; exact fun z => nomatch z), upd_same, .nil, oD.1, Nat.zero_le _, ?_⟩
    rw [List.drop_zero]
    have e : ((lcF p ct ce it.gs (wipeD ρ own) it.items h1).bind fun ds h3 => .ok ([] ++ ds) h3) = lcF p ct ce it.gs (wipeD ρ own) it.items h1 := by
      cases lcF p ct ce it.gs (wipeD ρ own) it.items h1 <;> rfl
    rw [e]
    exact q1
  · rintro i Hc hi ⟨ι2, h2, acc, vs, x2, R2, hv, rv, nD, la, q2⟩
    exact st _ Hc h2 (up2 x2 hD) R2 (lcF_ok q2)
  · rintro i x Hc H' hi ⟨ι2, h2, acc, vs, x2, R2, hv, rv, nD, la, q2⟩ y
    have og := lcF_ok q2
    obtain ⟨d, e, rd, x3, R3, k3⟩ := yd i Hc x H' _ h2 hi y (up2 x2 hD) R2 og
    have ed : it.items.drop i = d :: it.items.drop (i + 1) := by
      obtain ⟨hl, e1⟩ := List.getElem?_eq_some_iff.mp e
      rw [← e1]
      exact List.drop_eq_getElem_cons hl
    rw [ed] at q2
    unfold lcF at q2
    rw [if_pos og] at q2
    cases ep : patD p d (wipeD ρ own) with
    | none => rw [ep] at q2; exact (show False from q2).elim
    | some ρ3 =>
      rw [ep] at q2
      have Sw : RS K (ι2.with Dd) H' (wipeD ρ own) (L2.wipe σ own) := ((S1.wipe own).up' (up2 x2 hD)).mono x3
      refine gPat_ok (vs := own) p rd Sw ep hp fun σ3 S3 w3 => ⟨w3.trans wipe_wipe, ?_⟩
      simp only [bind_assoc] at q2
      refine ⟨ι2.with Dd, h2, ρ3, R3, S3, Post.imp (PostN.nox q2) fun b H3 ⟨ι3, h3, b', x4, R4, rb, q3⟩ => ?_⟩
      subst rb
      have x34 := x3.trans x4
      have hi' : i < 16777216 := Nat.lt_of_lt_of_le hi (of_decide_eq_true gl)
      cases b' with
      | false =>
        rw [if_neg Bool.false_ne_true] at q3 ⊢
        obtain ⟨ι5, e5, er, eo⟩ := Ext.inner (o := .lst []) x34
        subst e5
        refine ⟨ι5, h3, acc, vs, ?_, R4, x34.keep _ _ hv nD, rv.mono x34, ?_, by omega, q3⟩
        · exact ext_in x2 hD x34
        · intro m
          rcases x34.new Dd m with z | z
          · exact nD z
          · rw [hv] at z; cases z
      | true =>
        rw [if_pos rfl] at q3 ⊢
        simp only [bind_assoc] at q3
        refine ⟨ι3, h3, ρ3, R4, S3.mono x4, Post.imp (PostN.nox q3) fun v H4 ⟨ι4, h4, dv, x5, R5, rb, q4⟩ => ?_⟩
        have x35 := x34.trans x5
        obtain ⟨ι5, e5, er, eo⟩ := Ext.inner (o := .lst []) x35
        subst e5
        have nD5 : Dd ∉ ι5.os := fun m => by
          rcases x35.new Dd m with z | z
          · exact nD z
          · rw [hv] at z; cases z
        have hv4 := x35.keep _ _ hv nD
        have rv4 := rv.mono x35
        refine ⟨vs, hv4, by rw [sizeLine_eq, ← rv.length]; omega, ι5, h4, acc ++ [dv], vs ++ [v], ?_, R5.chgr nD5, upd_same, (rv4.append (.cons rb .nil)).up Up.chgr, nD5, by rw [List.length_append, List.length_singleton]; omega, ?_⟩
        · have z := ext_in x2 hD x35
          exact ⟨z.pre, z.rs, fun a o ha hn => by rw [upd_ne fun e => by rw [e, hD] at ha; cases ha]; exact z.keep a o ha hn, z.new⟩
        · have e : ((lcF p ct ce it.gs (wipeD ρ own) (it.items.drop (i + 1)) h4).bind fun ds h5 => .ok (acc ++ [dv] ++ ds) h5) = (lcF p ct ce it.gs (wipeD ρ own) (it.items.drop (i + 1)) h4).bind fun ds h5 => .ok (acc ++ (dv :: ds)) h5 := by
            congr 1
            funext ds h5
            rw [List.append_assoc]
            rfl
          rw [e]
          simp only [bind_ok] at q4
          exact q4
  · rintro Hc ⟨ι2, h2, acc, vs, x2, R2, hv, rv, nD, la, q2⟩
    have og := lcF_ok q2
    rw [List.drop_length] at q2
    unfold lcF at q2
    rw [if_pos og, bind_ok, List.append_nil] at q2
    have n2 : Dd ∉ ι2.rs := by rw [x2.rs]; exact oD.2
    exact q2 ι2 Hc Dd vs (x1.trans x2) R2 rv hv nD n2 hDH
section
variable {X : Cx} {W : WX} {pos : Pos}
abbrev DTs (X : Cx) (W : WX) (ifs : List Expr) (c : Env → M Bool) : Prop := PTs X ifs (wT X.K W c)
theorem dts_nil : DTs X W [] tYes' := by
  refine ⟨fun pins s σ H Q I ⟨ι, h, ρ, R, S, p⟩ => pts_nil.run pins s σ H Q I ?_⟩
  exact p.ok R rfl
theorem dts_one {c : Expr} {ct : Env → M Bool} (h : DT X W c ct) : DTs X W [c] ct := pts_one h
theorem dn_lc {elt tg iter : Expr} {ifs : List Expr} {scope : Scope} {own : List (Str × Nat)} {ci : Env → M ItD} {p : Pat} {ct : Env → M Bool} {ce : Env → M D} (hc : X.calm = true) (hN : X.N.Nodup) (hi : DI X W tg iter ci) (ok : BlkOk X.N X.env.scope scope own)
    (hg : ∀ (s : Shared) (H : Hp) (C : Addr) (cl : List (Str × Addr)) (fp : List Addr), PG (X.blk s H scope (compEnvC scope cl C X.env) fp) tg (gPat X.K p)) (ht : ∀ (s : Shared) (H : Hp) (C : Addr) (cl : List (Str × Addr)) (fp : List Addr), DTs (X.blk s H scope (compEnvC scope cl C X.env) fp) NoW ifs ct)
    (he : ∀ (s : Shared) (H : Hp) (C : Addr) (cl : List (Str × Addr)) (fp : List Addr), DE (X.blk s H scope (compEnvC scope cl C X.env) fp) NoW elt ce) (hp : ∀ i, i ∈ patIs p → i ∈ own.map (·.2) := by decide) (hs : ∀ x, foldedSetIterable iter X.env x = pure x := by intro _; rfl) :
    DN X W (.ListComp elt [⟨tg, iter, ifs, 0⟩] scope pos) (nLc ci p (own.map (·.2)) ct ce) := pe_imp (pe_lc hc hN hi ok hg ht he hs) fun σ H Q q => w_lc hp q
theorem ds_setLc {f : (Env → M (List D)) → Env → M D} (hf : ∀ (cs : Env → M (List D)) σ H Q, wE X.K W (f cs) σ H Q → wN X.K W cs σ H Q) {i : Nat} {y : Str} {py spos : Pos} {elt tg iter : Expr} {ifs : List Expr} {scope : Scope} {own : List (Str × Nat)} {ci : Env → M ItD} {p : Pat} {ct : Env → M Bool} {ce : Env → M D} (hc : X.calm = true) (hN : X.N.Nodup) (hi : DI X W tg iter ci) (ok : BlkOk X.N X.env.scope scope own)
    (hg : ∀ (s : Shared) (H : Hp) (C : Addr) (cl : List (Str × Addr)) (fp : List Addr), PG (X.blk s H scope (compEnvC scope cl C X.env) fp) tg (gPat X.K p)) (ht : ∀ (s : Shared) (H : Hp) (C : Addr) (cl : List (Str × Addr)) (fp : List Addr), DTs (X.blk s H scope (compEnvC scope cl C X.env) fp) NoW ifs ct)
    (he : ∀ (s : Shared) (H : Hp) (C : Addr) (cl : List (Str × Addr)) (fp : List Addr), DE (X.blk s H scope (compEnvC scope cl C X.env) fp) NoW elt ce) (hy : X.N[i]? = some y := by rfl) (hyl : X.env.scope.names.lookup y = some .local := by rfl)
    (hk : X.env.scope.kind = .function := by rfl) (hl : (py.line == pos.line) = true := by rfl) (hl2 : (scope.names.any fun (n, k) => n == y && (k == .local || k == .cell)) = false := by rfl) (hp : ∀ i, i ∈ patIs p → i ∈ own.map (·.2) := by decide) (hs : ∀ x, foldedSetIterable iter X.env x = pure x := by intro _; rfl) :
    DS X W (.Assign [.Name y py] (.ListComp elt [⟨tg, iter, ifs, 0⟩] scope pos) spos) (sSet i (f (nLc ci p (own.map (·.2)) ct ce))) := ps_imp (ps_setLc hc hN hy hyl (sw_true hk hyl hl hl2) hi ok hg ht he hs) fun D σ H q => w_lc hp (hf _ _ _ _ (w_set q))
end
end
end Dl

/-! The D layer, 11: stores, methods of lists, {}. -/
namespace Dl
open PySem PySem.Spec PyProof.Rows L2

section
variable {X : Cx} {W : WX} {pos : Pos} {e o ix : Expr} {ce co cx : Env → M D} {cs : Env → M (List D)}
/-! ### a, b = x, y -/
def sPar2 (i j : Nat) (cs : Env → M (List D)) : SM := fun ρ h => (cs ρ h).then ρ fun xs h1 => match xs with
  | [x, y] => .nx ((ρ.set i (some x)).set j (some y)) h1
  | _ => .bad
def sPar3 (i j l : Nat) (cs : Env → M (List D)) : SM := fun ρ h => (cs ρ h).then ρ fun xs h1 => match xs with
  | [x, y, z] => .nx (((ρ.set i (some x)).set j (some y)).set l (some z)) h1
  | _ => .bad
theorem ds_par2 {i j : Nat} {x y : Str} {a b : Expr} {px py pt : Pos} {kt k2 pt2} (hc : X.calm = true) (hN : X.N.Nodup) (ha : DA X W [a, b] cs) (hi : X.N[i]? = some x := by rfl) (hj : X.N[j]? = some y := by rfl) (hij : i ≠ j := by decide)
    (hx : X.env.scope.names.lookup x = some .local := by rfl) (hy : X.env.scope.names.lookup y = some .local := by rfl)
    (hw : swappedStores [.Tuple [.Name x px, .Name y py] kt pt] (.Tuple [a, b] k2 pt2) X.env = pure (some [x, y]) := by rfl)
    (hs : swapsWithSole [.Tuple [.Name x px, .Name y py] kt pt] (.Tuple [a, b] k2 pt2) pos.line X.env = pure false := by rfl) :
    DS X W (.Assign [.Tuple [.Name x px, .Name y py] kt pt] (.Tuple [a, b] k2 pt2) pos) (sPar2 i j cs) := ps_imp (ps_par hc hN hi hj hij hx hy ha hw hs) fun D σ H ⟨ι, h, ρ, R, S, p⟩ => by
  refine ⟨ι, h, ρ, R, S, Post.imp (PostS.then p S) fun vs H1 ⟨ι1, h1, ds, x1, R1, r1, p1⟩ => ?_⟩
  split at p1
  · cases r1 with
    | cons r rr =>
      cases rr with
      | cons r' rr =>
        cases rr
        exact ⟨_, _, rfl, p1 ι1 H1 _ .refl R1 (((S.mono x1).set i r).set j r')⟩
  · exact p1.elim
theorem ds_par3 {i j l : Nat} {x y z : Str} {a b c : Expr} {px py pz pt : Pos} {kt k2 pt2} (hc : X.calm = true) (hN : X.N.Nodup) (ha : DA X W [a, b, c] cs) (hi : X.N[i]? = some x := by rfl) (hj : X.N[j]? = some y := by rfl) (hl : X.N[l]? = some z := by rfl) (hij : i ≠ j := by decide) (hil : i ≠ l := by decide) (hjl : j ≠ l := by decide)
    (hx : X.env.scope.names.lookup x = some .local := by rfl) (hy : X.env.scope.names.lookup y = some .local := by rfl) (hz : X.env.scope.names.lookup z = some .local := by rfl)
    (hw : swappedStores [.Tuple [.Name x px, .Name y py, .Name z pz] kt pt] (.Tuple [a, b, c] k2 pt2) X.env = pure (some [x, y, z]) := by rfl)
    (hs : swapsWithSole [.Tuple [.Name x px, .Name y py, .Name z pz] kt pt] (.Tuple [a, b, c] k2 pt2) pos.line X.env = pure false := by rfl) :
    DS X W (.Assign [.Tuple [.Name x px, .Name y py, .Name z pz] kt pt] (.Tuple [a, b, c] k2 pt2) pos) (sPar3 i j l cs) := ps_imp (ps_par3 hc hN hi hj hl hij hil hjl hx hy hz ha hw hs) fun D σ H ⟨ι, h, ρ, R, S, p⟩ => by
  refine ⟨ι, h, ρ, R, S, Post.imp (PostS.then p S) fun vs H1 ⟨ι1, h1, ds, x1, R1, r1, p1⟩ => ?_⟩
  split at p1
  · cases r1 with
    | cons r rr =>
      cases rr with
      | cons r' rr =>
        cases rr with
        | cons r'' rr =>
          cases rr
          exact ⟨_, _, _, rfl, p1 ι1 H1 _ .refl R1 ((((S.mono x1).set i r).set j r').set l r'')⟩
  · exact p1.elim
/-! ### a, b = e -/
def sPat (p : Pat) (ce : Env → M D) : SM := fun ρ h => (ce ρ h).then ρ fun x h1 => match patD p x ρ with
  | some ρ1 => .nx ρ1 h1
  | none => .bad
theorem ds_pat {tg : Expr} {p : Pat} (he : DE X W e ce) (hg : PG X tg (gPat X.K p)) (hs : swapsWithSole [tg] e pos.line X.env = pure false := by rfl) (hw : swappedStores [tg] e X.env = pure none := by rfl)
    (h1 : (assignEach [tg] X.env).map (·.2) = [assign tg X.env] := by rfl) : DS X W (.Assign [tg] e pos) (sPat p ce) := ps_imp (ps_asg he hg hs hw h1) fun D σ H ⟨ι, h, ρ, R, S, p1⟩ => by
  refine ⟨ι, h, ρ, R, S, Post.imp (PostS.then p1 S) fun v H1 ⟨ι1, h1, d, x1, R1, r1, p1⟩ => ?_⟩
  split at p1
  · rename_i ρ1 ep
    exact gPat_ok (vs := patIs p) p r1 (S.mono x1) ep (fun _ z => z) fun σ' S' _ => p1 ι1 H1 σ' .refl R1 S'
  · exact p1.elim
/-! ### o[i] = e -/
def putKD (kvs : List (Key × D)) (k : Key) (d : D) : List (Key × D) := if (kvs.any fun kv => decide (kv.1 = k)) = true then kvs.map (fun kv => if kv.1 = k then (kv.1, d) else kv) else kvs ++ [(k, d)]
def setItemD (o i v : D) : Hs → Option Hs := fun h => match o with
  | .obj n => (match h[n]? with
    | some (.lst xs) => (match i with
      | .int k => (ixN xs.length k).map fun j => h.set n (.lst (xs.set j v))
      | _ => none)
    | some (.dI kvs) => (match keyOf i with
      | some k => if decide (kvs.length < 16777216) then some (h.set n (.dI (putKD kvs k v))) else none
      | none => none)
    | _ => none)
  | _ => none
def gSet : TSet := fun o i v H Q => rSetL o i v H Q ∨ rSetD o i v H Q
theorem set_all (hu : X.A.units + 1 < cLine) : PSet X gSet := by
  intro pins s σ H o i v ov iv u Q I ro ri rv h
  rcases h with h | h
  · exact set_list pins s σ H o i v ov iv u Q I ro ri rv h
  · exact set_dict hu pins s σ H o i v ov iv u Q I ro ri rv h
theorem rf_any {κ : Type} [DecidableEq κ] {K : PySem.W.Frag} {ι : Ix} {H : Hp} {k : κ} : ∀ {kvs : List (κ × D)} {us : List (κ × V)}, RF K ι H kvs us → (kvs.any fun kv => decide (kv.1 = k)) = us.any fun kv => decide (kv.1 = k)
  | _, _, .nil => rfl
  | _, _, .cons g r => by rw [List.any_cons, List.any_cons, rf_any r, g.1]
theorem rf_map {κ : Type} [DecidableEq κ] {K : PySem.W.Frag} {ι : Ix} {H : Hp} {k : κ} {d : D} {v : V} (rd : RD K ι H d v) : ∀ {kvs : List (κ × D)} {us : List (κ × V)}, RF K ι H kvs us → RF K ι H (kvs.map fun kv => if kv.1 = k then (kv.1, d) else kv) (us.map fun kv => if kv.1 = k then (kv.1, v) else kv)
  | _, _, .nil => .nil
  | p :: _, q :: _, .cons g r => by
    rw [List.map_cons, List.map_cons]
    refine .cons ?_ (rf_map rd r)
    by_cases e : p.1 = k
    · rw [if_pos e, if_pos (by rw [← g.1]; exact e)]
      exact ⟨g.1, rd⟩
    · rw [if_neg e, if_neg (by rw [← g.1]; exact e)]
      exact g
theorem rf_app {κ : Type} {K : PySem.W.Frag} {ι : Ix} {H : Hp} : ∀ {kvs kvs' : List (κ × D)} {us us' : List (κ × V)}, RF K ι H kvs us → RF K ι H kvs' us' → RF K ι H (kvs ++ kvs') (us ++ us')
  | _, _, _, _, .nil, s => s
  | _, _, _, _, .cons g r, s => .cons g (rf_app r s)
theorem rf_putK {K : PySem.W.Frag} {ι : Ix} {H : Hp} {k : Key} {d : D} {v : V} {kvs : List (Key × D)} {us : List (Key × V)} (r : RF K ι H kvs us) (rd : RD K ι H d v) : RF K ι H (putKD kvs k d) (putK us k v) := by
  unfold putKD putK
  rw [rf_any r]
  split
  · exact rf_map rd r
  · exact rf_app r (.cons ⟨rfl, rd⟩ .nil)
theorem setItem_ok {K : PySem.W.Frag} {ι : Ix} {H : Hp} {h h' : Hs} {x i d : D} {o j v : V} {Q : Hp → Prop} (R : Rel K ι h H) (rx : RD K ι H x o) (ri : RD K ι H i j) (rd : RD K ι H d v) (e : setItemD x i d h = some h')
    (q : ∀ H', Ext ι H ι H' → Rel K ι h' H' → Q H') : gSet o j v H Q := by
  unfold setItemD at e
  split at e
  · split at e
    · rename_i n xs en
      split at e
      · rename_i k
        obtain ⟨jj, e1, e2⟩ := Option.map_eq_some_iff.mp e
        subst e2
        cases rx with
        | @obj n a g =>
          obtain ⟨vs, h1, h2⟩ := R.at g en
          cases ri
          have m := List.mem_of_getElem? g
          refine .inl ⟨a, vs, k, jj, rfl, rfl, h1, by rw [← h2.length]; exact e1, q _ (.chg m) (R.chg g ⟨_, upd_same, (RDs.set rd jj h2).mono (.chg m)⟩)⟩
      · cases e
    · rename_i n kvs en
      split at e
      · rename_i k ek
        split at e
        · rename_i hl
          cases e
          cases rx with
          | @obj n a g =>
            obtain ⟨us, h1, h2⟩ := R.at g en
            have m := List.mem_of_getElem? g
            refine .inr ⟨a, _, rfl, ?_, q _ (.chg m) (R.chg g ⟨putK us k v, upd_same, (rf_putK h2 rd).mono (.chg m)⟩)⟩
            rw [keyOf_kV ri ek]
            exact DPut.k h1 (by rw [sizeLine_eq, ← rf_len h2]; exact of_decide_eq_true hl)
        · cases e
      · cases e
    · cases e
  · cases e
def sStore (ce co cx : Env → M D) : SM := fun ρ h => (ce ρ h).then ρ fun v h1 => (co ρ h1).then ρ fun o h2 => (cx ρ h2).then ρ fun i h3 => match setItemD o i v h3 with
  | some h4 => .nx ρ h4
  | none => .bad
theorem ds_store {p' : Pos} (hu : X.A.units + 1 < cLine) (he : DE X W e ce) (ho : DE X W o co) (hi : DE X W ix cx)
    (ha : ∀ v, assign (.Subscript o ix p') X.env v = (do
      let ov ← holding [v] (eval o X.env)
      let iv ← holding [v, ov] (eval ix X.env)
      standAt p'
      holding [v, ov, iv] (setItem ov iv v)
      release [v, ov, iv] []) := by intro _; rfl) (hs : swapsWithSole [.Subscript o ix p'] e pos.line X.env = pure false := by rfl) (hw : swappedStores [.Subscript o ix p'] e X.env = pure none := by rfl)
    (h1 : (assignEach [.Subscript o ix p'] X.env).map (·.2) = [assign (.Subscript o ix p') X.env] := by rfl) : DS X W (.Assign [.Subscript o ix p'] e pos) (sStore ce co cx) := ps_imp (ps_asg he (pg_sub ho hi (set_all hu) ha) hs hw h1) fun D σ H ⟨ι, h, ρ, R, S, p⟩ => by
  refine ⟨ι, h, ρ, R, S, Post.imp (PostS.then p S) fun v H1 ⟨ι1, h1, d, x1, R1, r1, p1⟩ => ?_⟩
  refine ⟨ι1, h1, ρ, R1, S.mono x1, Post.imp (PostS.then p1 (S.mono x1)) fun o H2 ⟨ι2, h2, od, x2, R2, r2, p2⟩ => ?_⟩
  have S2 := S.mono (x1.trans x2)
  refine ⟨ι2, h2, ρ, R2, S2, Post.imp (PostS.then p2 S2) fun j H3 ⟨ι3, h3, jd, x3, R3, r3, p3⟩ => ?_⟩
  split at p3
  · rename_i h4 e
    exact setItem_ok R3 (r2.mono x3) r3 (r1.mono (x2.trans x3)) e fun H' x4 R4 => p3 ι3 H' σ x4 R4 ((S2.mono x3).mono x4)
  · exact p3.elim
/-! ### o.f = e -/
def sFldD (C f : Str) (ce co : Env → M D) : SM := fun ρ h => (ce ρ h).then ρ fun v h1 => (co ρ h1).then ρ fun o h2 => match o, fieldsAt C h2 o with
  | .obj n, some fs => if decide (fs.length < 1000) then .nx ρ (h2.set n (.ins C (putFD f v fs))) else .bad
  | _, _ => .bad
theorem ds_fld {C f : Str} {p' : Pos} (c : Cls X.K (He.ga X.K C)) (nf : NoAttr X.K (He.ga X.K C) f) (he : DE X W e ce) (ho : DE X W o co) (hs : swapsWith e (some (.Attribute o f p')) pos.line X.env = pure false := by rfl) : DS X W (.Assign [.Attribute o f p'] e pos) (sFldD C f ce co) := ps_imp (ps_fld ho he hs) fun D σ H ⟨ι, h, ρ, R, S, p⟩ => by
  refine ⟨ι, h, ρ, R, S, Post.imp (PostS.then p S) fun v H1 ⟨ι1, h1, d, x1, R1, r1, p1⟩ => ?_⟩
  refine ⟨ι1, h1, ρ, R1, S.mono x1, Post.imp (PostS.then p1 (S.mono x1)) fun o H2 ⟨ι2, h2, od, x2, R2, r2, p2⟩ => ?_⟩
  split at p2
  · rename_i fs e1
    split at p2
    · rename_i hl
      obtain ⟨n, a, dx, us, e0, rfl, g, hn, hq, rf⟩ := fieldsAt_ok R2 r2 e1
      cases e0
      have m := List.mem_of_getElem? g
      refine ⟨a, _, dx, us, rfl, hq, c, nf, by rw [← rf_len rf]; exact of_decide_eq_true hl, p2 ι2 _ σ (.chg m) (R2.chg g ⟨dx, _, upd_same, (rf_put (r1.mono x2) rf).mono (.chg m)⟩) ((S.mono (x1.trans x2)).mono (.chg m))⟩
    · exact p2.elim
  · exact p2.elim
/-! ### {} -/
def eDct0 : Env → M D := fun _ h => .ok (.obj h.length) (h ++ [.dI []])
theorem de_dct0 : DE X W (.Dict [] [] pos) eDct0 := pe_imp pe_dnewK fun σ H Q ⟨ι, h, ρ, R, S, p⟩ a ha => by
  have x2 : Ext ι H (ι.push a) (upd H a (.dK [])) := .alloc ha (upd_keep ha)
  exact p (ι.push a) _ _ x2 (R.alloc (o := .dI []) ha (upd_keep ha) (by rw [upd_same]; exact fun z => nomatch z) ⟨[], upd_same, .nil⟩) (.obj (push_at R))
end
end Dl

/-! The D layer, 12: methods of lists; built-in functions. -/
namespace Dl
open PySem PySem.Spec PyProof.Rows L2

/-! ### methods of lists -/
def lstAt (h : Hs) : D → Option (Nat × List D)
  | .obj n => (match h[n]? with
    | some (.lst xs) => some (n, xs)
    | _ => none)
  | _ => none
def eLm (f : D → List D → M D) (ca : Env → M D) (cs : Env → M (List D)) : Env → M D := fun ρ h => (ca ρ h).bind fun x h1 => match lstAt h1 x with
  | some _ => (cs ρ h1).bind fun xs h2 => f x xs h2
  | none => .bad
def appD (x : D) (ys : List D) : M D := fun h => match lstAt h x, ys with
  | some (n, xs), [y] => if decide (xs.length < 16777216) then .ok .non (h.set n (.lst (xs ++ [y]))) else .bad
  | _, _ => .bad
def extD (x : D) (ys : List D) : M D := fun h => match lstAt h x, ys with
  | some (n, xs), [y] => (match items h y with
    | some zs => if okLen (xs.length + zs.length) then .ok .non (h.set n (.lst (xs ++ zs))) else .bad
    | none => .bad)
  | _, _ => .bad
def popD (x : D) (ys : List D) : M D := fun h => match lstAt h x, ys with
  | some (n, xs), [] => (match xs[xs.length - 1]? with
    | some d => .ok d (h.set n (.lst xs.dropLast))
    | none => .bad)
  | some (n, xs), [.int i] => if okI i then (match seqIndex? i xs.length with
    | some k => (match xs[k]? with
      | some d => .ok d (h.set n (.lst (xs.eraseIdx k)))
      | none => .bad)
    | none => .bad) else .bad
  | _, _ => .bad
def insD (x : D) (ys : List D) : M D := fun h => match lstAt h x, ys with
  | some (n, xs), [.int i, y] => if decide (xs.length < 16777216 ∧ 0 ≤ i ∧ i < 4611686018427387904) then .ok .non (h.set n (.lst (xs.take i.toNat ++ [y] ++ xs.drop i.toNat))) else .bad
  | _, _ => .bad
abbrev OpM (X : Cx) (r : V → List V → Hp → VK → Prop) (f : D → List D → M D) : Prop := ∀ (ι : Ix) (h : Hs) (H : Hp) (x : D) (xs : List D) (v : V) (vs : List V) (W : XK) (Q : VK), Rel X.K ι h H → RD X.K ι H x v → RDs X.K ι H xs vs → Post X.K W (RD X.K) (f x xs h) ι H Q → r v vs H Q
section
variable {K : PySem.W.Frag} {ι : Ix} {H : Hp} {h : Hs}
theorem lstAt_ok (R : Rel K ι h H) {x : D} {v : V} {n : Nat} {xs : List D} (r : RD K ι H x v) (e : lstAt h x = some (n, xs)) : ∃ a vs, v = .ref a ∧ ι.os[n]? = some a ∧ H a = some (.lst vs) ∧ RDs K ι H xs vs := by
  cases r with
  | @obj m a g =>
    have e : (match h[m]? with
    | some (.lst xs) => some (m, xs)
    | _ => none) = some (n, xs) := e
    split at e
    · rename_i ys en
      cases e
      obtain ⟨vs, h1, h2⟩ := R.at g en
      exact ⟨a, vs, rfl, g, h1, h2⟩
    · cases e
  | _ => cases e
theorem RDs.dropLast : ∀ {xs : List D} {us : List V}, RDs K ι H xs us → RDs K ι H xs.dropLast us.dropLast
  | _, _, .nil => .nil
  | _, _, .cons _ .nil => .nil
  | _, _, .cons h (.cons g r) => .cons h (RDs.dropLast (.cons g r))
theorem RDs.erase : ∀ {xs : List D} {us : List V} (i : Nat), RDs K ι H xs us → RDs K ι H (xs.eraseIdx i) (us.eraseIdx i)
  | _, _, _, .nil => .nil
  | _, _, 0, .cons _ r => r
  | _, _, i + 1, .cons h r => .cons h (RDs.erase i r)
end
section
variable {X : Cx}
theorem m_app : OpM X rAppend appD := by
  intro ι h H x xs v vs W Q R rx rs p
  unfold appD at p
  split at p
  · rename_i n ys y e
    obtain ⟨c, p⟩ := p.guard
    obtain ⟨a, us, rfl, g, ha, ru⟩ := lstAt_ok R rx e
    cases rs with
    | cons r rr =>
      cases rr
      have m := List.mem_of_getElem? g
      exact ⟨a, us, _, rfl, rfl, ha, by rw [sizeLine_eq, ← ru.length]; exact of_decide_eq_true c, p ι _ _ (.chg m) (R.chg g ⟨_, upd_same, (ru.append (.cons r .nil)).mono (.chg m)⟩) .non⟩
  · exact p.elim
theorem m_ext : OpM X rExtend extD := by
  intro ι h H x xs v vs W Q R rx rs p
  unfold extD at p
  split at p
  · rename_i n ys y e
    split at p
    · rename_i zs e2
      obtain ⟨c, p⟩ := p.guard
      obtain ⟨a, us, rfl, g, ha, ru⟩ := lstAt_ok R rx e
      cases rs with
      | cons r rr =>
        cases rr
        obtain ⟨b, ws, rfl, hb, rw'⟩ := items_ok R r e2
        have m := List.mem_of_getElem? g
        exact ⟨a, b, us, ws, rfl, rfl, ha, hb, by rw [← ru.length, ← rw'.length]; exact okLen_ok c, p ι _ _ (.chg m) (R.chg g ⟨_, upd_same, (ru.append rw').mono (.chg m)⟩) .non⟩
    · exact p.elim
  · exact p.elim
def rPops : V → List V → Hp → VK → Prop := fun x vs H Q => rPop x vs H Q ∨ rPopAt x vs H Q
theorem mt_pops : MtR X "list.pop" rPops := by
  intro pins s σ H x xs v us Q I rx rv h
  rcases h with h | h
  · exact mt_pop pins s σ H x xs v us Q I rx rv h
  · exact mt_popAt pins s σ H x xs v us Q I rx rv h
theorem m_pop : OpM X rPops popD := by
  intro ι h H x xs v vs W Q R rx rs p
  unfold popD at p
  split at p
  · rename_i n ys e
    split at p
    · rename_i d e2
      obtain ⟨a, us, rfl, g, ha, ru⟩ := lstAt_ok R rx e
      cases rs
      obtain ⟨w, h1, h2⟩ := ru.get e2
      have m := List.mem_of_getElem? g
      exact .inl ⟨a, us, w, rfl, rfl, ha, by rw [← ru.length]; exact h1, p ι _ _ (.chg m) (R.chg g ⟨_, upd_same, ru.dropLast.mono (.chg m)⟩) (h2.mono (.chg m))⟩
    · exact p.elim
  · rename_i n ys i e
    obtain ⟨c, p⟩ := p.guard
    split at p
    · rename_i k ek
      split at p
      · rename_i d e2
        obtain ⟨a, us, rfl, g, ha, ru⟩ := lstAt_ok R rx e
        cases rs with
        | cons r rr =>
          cases rr
          cases r
          obtain ⟨w, h1, h2⟩ := ru.get e2
          have m := List.mem_of_getElem? g
          have c := okI_ok c
          exact .inr ⟨a, us, _, k, w, rfl, rfl, ha, by omega, by omega, by rw [← ru.length]; exact ek, h1, p ι _ _ (.chg m) (R.chg g ⟨_, upd_same, (ru.erase k).mono (.chg m)⟩) (h2.mono (.chg m))⟩
      · exact p.elim
    · exact p.elim
  · exact p.elim
abbrev rInsert : V → List V → Hp → VK → Prop := fun x vs H Q => ∃ (l : Addr) (xs : List V) (i : Int) (y : V), x = .ref l ∧ vs = [.int i, y] ∧ H l = some (.lst xs) ∧ xs.length < sizeLine ∧ 0 ≤ i ∧ i < 2 ^ 63 ∧
    Q .non (upd H l (.lst (xs.take i.toNat ++ [y] ++ xs.drop i.toNat)))
theorem m_ins : OpM X rInsert insD := by
  intro ι h H x xs v vs W Q R rx rs p
  unfold insD at p
  split at p
  · rename_i n ys i y e
    obtain ⟨c, p⟩ := p.guard
    have c := of_decide_eq_true c
    obtain ⟨a, us, rfl, g, ha, ru⟩ := lstAt_ok R rx e
    cases rs with
    | cons r rr =>
      cases r
      cases rr with
      | cons r rr =>
        cases rr
        have m := List.mem_of_getElem? g
        exact ⟨a, us, _, _, rfl, rfl, ha, by rw [sizeLine_eq, ← ru.length]; exact c.1, by omega, by omega, p ι _ _ (.chg m) (R.chg g ⟨_, upd_same, (((ru.take _).append (.cons r .nil)).append (ru.drop _)).mono (.chg m)⟩) .non⟩
  · exact p.elim
variable {W : WX} {apos cpos : Pos} {o e : Expr} {es : List Expr} {ca : Env → M D} {cs : Env → M (List D)} {name : Str} {id : String} {r : V → List V → Hp → VK → Prop} {f : D → List D → M D}
theorem de_lm (slot : Slot "list" name id) (hty : typeOf (.builtin id) = pure (.type "method_descriptor")) (hm : MtR X id r) (om : OpM X r f) (ho : DE X W o ca) (ha : DA X W (e :: es) cs)
    (hbase : attributeBase o name X.env (eval o X.env) = eval o X.env := by rfl)
    (hfew : ((backTo cpos (starEach (e :: es) X.env)).all (fun x => !x.1) && (backToKw cpos (keywordEach [] X.env)).all (fun x => x.1.isSome)
      && decide ((e :: es).length + ([] : List Keyword).length + (if ([] : List Keyword).isEmpty then 0 else 1) < 30)) = true := by rfl)
    (hline : (apos.endLine == cpos.line) = true := by rfl) (hs : starEach (e :: es) X.env = (false, eval e X.env) :: starEach es X.env := by rfl) (hplain : (backTo cpos (starEach es X.env)).any (·.1) = false := by rfl) :
    DE X W (.Call (.Attribute o name apos) (e :: es) [] cpos) (eLm f ca cs) := pe_imp (pe_bm PySem.F.plainAttrs_list slot hty hm ho ha hbase hfew hline hs hplain) fun σ H Q ⟨ι, h, ρ, R, S, p⟩ => by
  refine ⟨ι, h, ρ, R, S, Post.imp (Post.bind p) fun v H1 ⟨ι1, h1, dx, x1, R1, r1, p1⟩ => ?_⟩
  split at p1
  · rename_i q e
    obtain ⟨a, us, rfl, g, ha, ru⟩ := lstAt_ok (n := q.1) (xs := q.2) R1 r1 e
    refine ⟨.inl ⟨rfl, us, SqL.of ha⟩, ι1, h1, ρ, R1, S.mono x1, Post.imp (Post.bind p1) fun vs H2 ⟨ι2, h2, ds, x2, R2, r2, p2⟩ => ?_⟩
    exact om ι2 h2 H2 dx ds _ vs _ Q R2 (r1.mono x2) r2 p2
  · exact p1.elim
theorem de_lm0 (slot : Slot "list" name id) (hty : typeOf (.builtin id) = pure (.type "method_descriptor")) (hm : MtR X id r) (om : OpM X r f) (ho : DE X W o ca)
    (hbase : attributeBase o name X.env (eval o X.env) = eval o X.env := by rfl) (hline : (apos.endLine == cpos.line) = true := by rfl) :
    DE X W (.Call (.Attribute o name apos) [] [] cpos) (eLm f ca aN) := pe_imp (pe_bm0 PySem.F.plainAttrs_list slot hty hm ho hbase hline) fun σ H Q ⟨ι, h, ρ, R, S, p⟩ => by
  refine ⟨ι, h, ρ, R, S, Post.imp (Post.bind p) fun v H1 ⟨ι1, h1, dx, x1, R1, r1, p1⟩ => ?_⟩
  split at p1
  · rename_i q e
    obtain ⟨a, us, rfl, g, ha, ru⟩ := lstAt_ok (n := q.1) (xs := q.2) R1 r1 e
    exact ⟨.inl ⟨rfl, us, SqL.of ha⟩, om ι1 h1 H1 dx [] _ [] _ Q R1 r1 .nil p1⟩
  · exact p1.elim
section
variable (ho : DE X W o ca) (ha : DA X W (e :: es) cs)
    (hbase : attributeBase o name X.env (eval o X.env) = eval o X.env)
theorem de_app {es : List Expr} (ho : DE X W o ca) (ha : DA X W (e :: es) cs) (hbase : attributeBase o "append" X.env (eval o X.env) = eval o X.env := by rfl)
    (hfew : ((backTo cpos (starEach (e :: es) X.env)).all (fun x => !x.1) && (backToKw cpos (keywordEach [] X.env)).all (fun x => x.1.isSome)
      && decide ((e :: es).length + ([] : List Keyword).length + (if ([] : List Keyword).isEmpty then 0 else 1) < 30)) = true := by rfl)
    (hline : (apos.endLine == cpos.line) = true := by rfl) (hs : starEach (e :: es) X.env = (false, eval e X.env) :: starEach es X.env := by rfl) (hplain : (backTo cpos (starEach es X.env)).any (·.1) = false := by rfl) :
    DE X W (.Call (.Attribute o "append" apos) (e :: es) [] cpos) (eLm appD ca cs) := de_lm PySem.F.slot_list_append PySem.F.type_list_append mt_append m_app ho ha hbase hfew hline hs hplain
theorem de_ext {es : List Expr} (ho : DE X W o ca) (ha : DA X W (e :: es) cs) (hbase : attributeBase o "extend" X.env (eval o X.env) = eval o X.env := by rfl)
    (hfew : ((backTo cpos (starEach (e :: es) X.env)).all (fun x => !x.1) && (backToKw cpos (keywordEach [] X.env)).all (fun x => x.1.isSome)
      && decide ((e :: es).length + ([] : List Keyword).length + (if ([] : List Keyword).isEmpty then 0 else 1) < 30)) = true := by rfl)
    (hline : (apos.endLine == cpos.line) = true := by rfl) (hs : starEach (e :: es) X.env = (false, eval e X.env) :: starEach es X.env := by rfl) (hplain : (backTo cpos (starEach es X.env)).any (·.1) = false := by rfl) :
    DE X W (.Call (.Attribute o "extend" apos) (e :: es) [] cpos) (eLm extD ca cs) := de_lm PySem.F.slot_list_extend PySem.F.type_list_extend mt_extend m_ext ho ha hbase hfew hline hs hplain
theorem de_pop1 {es : List Expr} (ho : DE X W o ca) (ha : DA X W (e :: es) cs) (hbase : attributeBase o "pop" X.env (eval o X.env) = eval o X.env := by rfl)
    (hfew : ((backTo cpos (starEach (e :: es) X.env)).all (fun x => !x.1) && (backToKw cpos (keywordEach [] X.env)).all (fun x => x.1.isSome)
      && decide ((e :: es).length + ([] : List Keyword).length + (if ([] : List Keyword).isEmpty then 0 else 1) < 30)) = true := by rfl)
    (hline : (apos.endLine == cpos.line) = true := by rfl) (hs : starEach (e :: es) X.env = (false, eval e X.env) :: starEach es X.env := by rfl) (hplain : (backTo cpos (starEach es X.env)).any (·.1) = false := by rfl) :
    DE X W (.Call (.Attribute o "pop" apos) (e :: es) [] cpos) (eLm popD ca cs) := de_lm PySem.F.slot_list_pop PySem.F.type_list_pop mt_pops m_pop ho ha hbase hfew hline hs hplain
theorem de_ins {es : List Expr} (ho : DE X W o ca) (ha : DA X W (e :: es) cs) (hbase : attributeBase o "insert" X.env (eval o X.env) = eval o X.env := by rfl)
    (hfew : ((backTo cpos (starEach (e :: es) X.env)).all (fun x => !x.1) && (backToKw cpos (keywordEach [] X.env)).all (fun x => x.1.isSome)
      && decide ((e :: es).length + ([] : List Keyword).length + (if ([] : List Keyword).isEmpty then 0 else 1) < 30)) = true := by rfl)
    (hline : (apos.endLine == cpos.line) = true := by rfl) (hs : starEach (e :: es) X.env = (false, eval e X.env) :: starEach es X.env := by rfl) (hplain : (backTo cpos (starEach es X.env)).any (·.1) = false := by rfl) :
    DE X W (.Call (.Attribute o "insert" apos) (e :: es) [] cpos) (eLm insD ca cs) := de_lm PySem.F.slot_list_insert PySem.F.type_list_insert mt_insert m_ins ho ha hbase hfew hline hs hplain
theorem de_pop0 (ho : DE X W o ca) (hbase : attributeBase o "pop" X.env (eval o X.env) = eval o X.env := by rfl) (hline : (apos.endLine == cpos.line) = true := by rfl) :
    DE X W (.Call (.Attribute o "pop" apos) [] [] cpos) (eLm popD ca aN) := de_lm0 PySem.F.slot_list_pop PySem.F.type_list_pop mt_pops m_pop ho hbase hline
end
end
end Dl

/-! The D layer, 13: built-in functions. -/
namespace Dl
open PySem PySem.Spec PyProof.Rows L2

def eBf (f : List D → M D) (cs : Env → M (List D)) : Env → M D := fun ρ h => (cs ρ h).bind f
def nBf (f : List D → M (List D)) (cs : Env → M (List D)) : Env → M (List D) := fun ρ h => (cs ρ h).bind f
abbrev OpA (X : Cx) (r : List V → Hp → VK → Prop) (f : List D → M D) : Prop := ∀ (ι : Ix) (h : Hs) (H : Hp) (xs : List D) (vs : List V) (W : XK) (Q : VK), Rel X.K ι h H → RDs X.K ι H xs vs → Post X.K W (RD X.K) (f xs h) ι H Q → r vs H Q
abbrev OpF (X : Cx) (r : List V → Hp → VK → Prop) (f : List D → M (List D)) : Prop := ∀ (ι : Ix) (h : Hs) (H : Hp) (xs : List D) (vs : List V) (ιb : Ix) (Hb : Hp) (W : XK) (Q : VK), Ext ιb Hb ι H → Rel X.K ι h H → RDs X.K ι H xs vs → PostN X.K W (f xs h) ιb Hb Q → r vs H Q
section
variable {X : Cx} {W : WX} {x : Str} {p pos : Pos} {e : Expr} {es : List Expr} {cs : Env → M (List D)} {id T : String} {r : List V → Hp → VK → Prop} {f : List D → M D} {g : List D → M (List D)}
theorem w_bf (o : OpA X r f) {σ : L2.St} {H : Hp} {Q : VK} (q : wE X.K W (eBf f cs) σ H Q) : tCB r (wA X.K W cs) σ H Q := by
  obtain ⟨ι, h, ρ, R, S, p⟩ := q
  exact ⟨ι, h, ρ, R, S, Post.imp (Post.bind p) fun vs H1 ⟨ι1, h1, ds, x1, R1, r1, p1⟩ => o ι1 h1 H1 ds vs _ Q R1 r1 p1⟩
theorem w_nf (o : OpF X r g) {σ : L2.St} {H : Hp} {Q : VK} (q : wN X.K W (nBf g cs) σ H Q) : tCB r (wA X.K W cs) σ H Q := by
  obtain ⟨ι, h, ρ, R, S, p⟩ := q
  exact ⟨ι, h, ρ, R, S, Post.imp (PostN.bind p) fun vs H1 ⟨ι1, h1, ds, x1, R1, r1, p1⟩ => o ι1 h1 H1 ds vs ι H _ Q x1 R1 r1 p1⟩
theorem de_bf (o : OpA X r f) (hc : CallR X (.builtin id) r) (hg : Gl X x) (hm : X.mg x = none) (hv : bootBuiltins x = some (.builtin id)) (ha : DA X W (e :: es) cs) (hn : x ≠ "__name__" := by decide) (hdb : (x == ("__debug__" : Str)) = false := by decide)
    (he : starEach (e :: es) X.env = (false, eval e X.env) :: starEach es X.env := by rfl) (hpl : (backTo pos (starEach es X.env)).any (·.1) = false := by rfl) : DE X W (.Call (.Name x p) (e :: es) [] pos) (eBf f cs) := pe_imp (pe_callB hc hg hm hv ha hn hdb he hpl) fun _ _ _ q => w_bf o q
theorem de_tf (o : OpA X r f) (hc : CallR X (.type T) r) (hg : Gl X x) (hm : X.mg x = none) (hv : bootBuiltins x = some (.type T)) (ha : DA X W (e :: es) cs) (hn : x ≠ "__name__" := by decide) (hdb : (x == ("__debug__" : Str)) = false := by decide)
    (he : starEach (e :: es) X.env = (false, eval e X.env) :: starEach es X.env := by rfl) (hpl : (backTo pos (starEach es X.env)).any (·.1) = false := by rfl) : DE X W (.Call (.Name x p) (e :: es) [] pos) (eBf f cs) := pe_imp (pe_callTy hc hg hm hv ha hn hdb he hpl) fun _ _ _ q => w_bf o q
theorem dn_bf (o : OpF X r g) (hc : CallR X (.builtin id) r) (hg : Gl X x) (hm : X.mg x = none) (hv : bootBuiltins x = some (.builtin id)) (ha : DA X W (e :: es) cs) (hn : x ≠ "__name__" := by decide) (hdb : (x == ("__debug__" : Str)) = false := by decide)
    (he : starEach (e :: es) X.env = (false, eval e X.env) :: starEach es X.env := by rfl) (hpl : (backTo pos (starEach es X.env)).any (·.1) = false := by rfl) : DN X W (.Call (.Name x p) (e :: es) [] pos) (nBf g cs) := pe_imp (pe_callB hc hg hm hv ha hn hdb he hpl) fun _ _ _ q => w_nf o q
theorem dn_tf (o : OpF X r g) (hc : CallR X (.type T) r) (hg : Gl X x) (hm : X.mg x = none) (hv : bootBuiltins x = some (.type T)) (ha : DA X W (e :: es) cs) (hn : x ≠ "__name__" := by decide) (hdb : (x == ("__debug__" : Str)) = false := by decide)
    (he : starEach (e :: es) X.env = (false, eval e X.env) :: starEach es X.env := by rfl) (hpl : (backTo pos (starEach es X.env)).any (·.1) = false := by rfl) : DN X W (.Call (.Name x p) (e :: es) [] pos) (nBf g cs) := pe_imp (pe_callTy hc hg hm hv ha hn hdb he hpl) fun _ _ _ q => w_nf o q
end

/-! ### what they compute -/
def seqS (h : Hs) : D → Option (List D)
  | .scr ns => some (ns.map .int)
  | x => seqOf h x
def lenD (xs : List D) : M D := fun h => match xs with
  | [.str z] => if okLen z.length then .ok (.int z.length) h else .bad
  | [.scr ns] => .ok (.int ns.length) h
  | [x] => (match seqOf h x with
    | some ys => .ok (.int ys.length) h
    | none => (match x with
      | .obj n => (match h[n]? with
        | some (.dI kvs) => .ok (.int kvs.length) h
        | _ => .bad)
      | _ => .bad))
  | _ => .bad
def absD (xs : List D) : M D := fun h => match xs with
  | [.int i] => .ok (.int (if i < 0 then -i else i)) h
  | _ => .bad
def intD (xs : List D) : M D := fun h => match xs with
  | [.int i] => .ok (.int i) h
  | [.bl k] => .ok (.int (if k then 1 else 0)) h
  | _ => .bad
def allInt : List D → Option (List Int)
  | [] => some []
  | .int i :: xs => (allInt xs).map (i :: ·)
  | _ :: _ => none
def allBl : List D → Option (List Bool)
  | [] => some []
  | .bl i :: xs => (allBl xs).map (i :: ·)
  | _ :: _ => none
def sumD (xs : List D) : M D := fun h => match xs with
  | [x] => (match (items h x).bind allInt with
    | some ns => .ok (.int ns.sum) h
    | none => .bad)
  | _ => .bad
def maxI : Int → List Int → Int
  | m, [] => m
  | m, x :: xs => maxI (if x > m then x else m) xs
def minI : Int → List Int → Int
  | m, [] => m
  | m, x :: xs => minI (if x < m then x else m) xs
def maxD (xs : List D) : M D := fun h => match xs with
  | [.int i, .int j] => .ok (.int (if j > i then j else i)) h
  | [x] => (match (items h x).bind allInt with
    | some (n :: ns) => .ok (.int (maxI n ns)) h
    | _ => .bad)
  | _ => .bad
def minD (xs : List D) : M D := fun h => match xs with
  | [.int i, .int j] => .ok (.int (if j < i then j else i)) h
  | [x] => (match (items h x).bind allInt with
    | some (n :: ns) => .ok (.int (minI n ns)) h
    | _ => .bad)
  | _ => .bad
def allD (xs : List D) : M D := fun h => match xs with
  | [x] => (match (items h x).bind allBl with
    | some bs => .ok (.bl (bs.all id)) h
    | none => .bad)
  | _ => .bad
def anyD (xs : List D) : M D := fun h => match xs with
  | [x] => (match (items h x).bind allBl with
    | some bs => .ok (.bl (bs.any id)) h
    | none => .bad)
  | _ => .bad
def tupD (xs : List D) : M D := fun h => match xs with
  | [.tup ys] => .ok (.tup ys) h
  | [x] => (match items h x with
    | some ys => .ok (.tup ys) h
    | none => .bad)
  | _ => .bad
def listN (xs : List D) : M (List D) := fun h => match xs with
  | [x] => (match seqOf h x with
    | some ys => .ok ys h
    | none => .bad)
  | _ => .bad
def okShow (d : PyData) : Bool := d.showable && (!d.hasDict && (decide (d.depth ≤ 62) && decide (d.shown.length ≤ 16777216)))
def reprD (xs : List D) : M D := fun h => match xs with
  | [x] => (match toPy h 62 x with
    | some d => if okShow d then .ok (.str d.shown) h else .bad
    | none => .bad)
  | _ => .bad
def okDig (i : Int) : Bool := decide (i.natAbs.log2 < 1920)
def strD (xs : List D) : M D := fun h => match xs with
  | [.int i] => if okDig i then .ok (.str (toString i)) h else .bad
  | _ => .bad
section
variable {K : PySem.W.Frag} {ι : Ix} {H : Hp} {h : Hs}
theorem RDs.one {x : D} {vs : List V} (r : RDs K ι H [x] vs) : ∃ v, vs = [v] ∧ RD K ι H x v := by
  cases r with
  | cons r rr => cases rr; exact ⟨_, rfl, r⟩
theorem RDs.two {x y : D} {vs : List V} (r : RDs K ι H [x, y] vs) : ∃ v u, vs = [v, u] ∧ RD K ι H x v ∧ RD K ι H y u := by
  cases r with
  | cons r rr => obtain ⟨u, rfl, r'⟩ := rr.one; exact ⟨_, _, rfl, r, r'⟩
theorem allInt_rd : ∀ {xs : List D} {vs : List V} {ns : List Int}, RDs K ι H xs vs → allInt xs = some ns → vs = ns.map V.int
  | [], _, _, .nil, e => by cases e; rfl
  | .int i :: xs, _, ns, .cons r rr, e => by
    obtain ⟨ms, e1, e2⟩ := Option.map_eq_some_iff.mp (show (allInt xs).map (i :: ·) = some ns from e)
    subst e2
    cases r
    rw [allInt_rd rr e1]
    rfl
  | .non :: _, _, _, _, e => by cases e
  | .bl _ :: _, _, _, _, e => by cases e
  | .str _ :: _, _, _, _, e => by cases e
  | .ty _ :: _, _, _, _, e => by cases e
  | .glo _ :: _, _, _, _, e => by cases e
  | .tup _ :: _, _, _, _, e => by cases e
  | .lst _ :: _, _, _, _, e => by cases e
  | .obj _ :: _, _, _, _, e => by cases e
  | .scr _ :: _, _, _, _, e => by cases e
theorem allBl_rd : ∀ {xs : List D} {vs : List V} {ns : List Bool}, RDs K ι H xs vs → allBl xs = some ns → vs = ns.map V.bl
  | [], _, _, .nil, e => by cases e; rfl
  | .bl i :: xs, _, ns, .cons r rr, e => by
    obtain ⟨ms, e1, e2⟩ := Option.map_eq_some_iff.mp (show (allBl xs).map (i :: ·) = some ns from e)
    subst e2
    cases r
    rw [allBl_rd rr e1]
    rfl
  | .non :: _, _, _, _, e => by cases e
  | .int _ :: _, _, _, _, e => by cases e
  | .str _ :: _, _, _, _, e => by cases e
  | .ty _ :: _, _, _, _, e => by cases e
  | .glo _ :: _, _, _, _, e => by cases e
  | .tup _ :: _, _, _, _, e => by cases e
  | .lst _ :: _, _, _, _, e => by cases e
  | .obj _ :: _, _, _, _, e => by cases e
  | .scr _ :: _, _, _, _, e => by cases e
theorem ints_of (R : Rel K ι h H) {x : D} {v : V} {ns : List Int} (r : RD K ι H x v) (e : (items h x).bind allInt = some ns) : ∃ a, v = .ref a ∧ SqL K H a (ns.map V.int) := by
  obtain ⟨xs, e1, e2⟩ := Option.bind_eq_some_iff.mp e
  obtain ⟨a, vs, rfl, ha, rv⟩ := items_ok R r e1
  rw [allInt_rd rv e2] at ha
  exact ⟨a, rfl, SqL.of ha⟩
theorem bls_of (R : Rel K ι h H) {x : D} {v : V} {ns : List Bool} (r : RD K ι H x v) (e : (items h x).bind allBl = some ns) : ∃ a, v = .ref a ∧ SqL K H a (ns.map V.bl) := by
  obtain ⟨xs, e1, e2⟩ := Option.bind_eq_some_iff.mp e
  obtain ⟨a, vs, rfl, ha, rv⟩ := items_ok R r e1
  rw [allBl_rd rv e2] at ha
  exact ⟨a, rfl, SqL.of ha⟩
theorem maxI_ge : ∀ (xs : List Int) (m : Int), m ≤ maxI m xs ∧ (∀ y ∈ xs, y ≤ maxI m xs) ∧ (maxI m xs = m ∨ maxI m xs ∈ xs)
  | [], m => ⟨Int.le_refl _, by simp, .inl rfl⟩
  | x :: xs, m => by
    obtain ⟨h1, h2, h3⟩ := maxI_ge xs (if x > m then x else m)
    show m ≤ maxI (if x > m then x else m) xs ∧ (∀ y ∈ x :: xs, y ≤ maxI (if x > m then x else m) xs) ∧ (maxI (if x > m then x else m) xs = m ∨ maxI (if x > m then x else m) xs ∈ x :: xs)
    generalize maxI (if x > m then x else m) xs = k at *
    refine ⟨?_, ?_, ?_⟩
    · split at h1 <;> omega
    · intro y hy
      rcases List.mem_cons.mp hy with e | e
      · subst e; split at h1 <;> omega
      · exact h2 y e
    · rcases h3 with e | e
      · rw [e]
        split
        · exact .inr List.mem_cons_self
        · exact .inl rfl
      · exact .inr (List.mem_cons_of_mem _ e)
theorem minI_le : ∀ (xs : List Int) (m : Int), minI m xs ≤ m ∧ (∀ y ∈ xs, minI m xs ≤ y) ∧ (minI m xs = m ∨ minI m xs ∈ xs)
  | [], m => ⟨Int.le_refl _, by simp, .inl rfl⟩
  | x :: xs, m => by
    obtain ⟨h1, h2, h3⟩ := minI_le xs (if x < m then x else m)
    show minI (if x < m then x else m) xs ≤ m ∧ (∀ y ∈ x :: xs, minI (if x < m then x else m) xs ≤ y) ∧ (minI (if x < m then x else m) xs = m ∨ minI (if x < m then x else m) xs ∈ x :: xs)
    generalize minI (if x < m then x else m) xs = k at *
    refine ⟨?_, ?_, ?_⟩
    · split at h1 <;> omega
    · intro y hy
      rcases List.mem_cons.mp hy with e | e
      · subst e; split at h1 <;> omega
      · exact h2 y e
    · rcases h3 with e | e
      · rw [e]
        split
        · exact .inr List.mem_cons_self
        · exact .inl rfl
      · exact .inr (List.mem_cons_of_mem _ e)
end
section
variable {X : Cx}
abbrev rLen (K : PySem.W.Frag) : List V → Hp → VK → Prop := fun xs H Q => (∃ x n, xs = [x] ∧ LenV K x H n ∧ Q (.int n) H) ∨ (∃ a kvs, xs = [V.ref a] ∧ H a = some (.dK kvs) ∧ Q (.int kvs.length) H)
theorem c_len : CallR X (.builtin "len") (rLen X.K) := CallR.or call_len call_lenD
theorem o_len : OpA X (rLen X.K) lenD := by
  intro ι h H xs vs W Q R rs p
  unfold lenD at p
  split at p
  · obtain ⟨c, p⟩ := p.guard
    obtain ⟨v, rfl, r⟩ := rs.one
    cases r
    exact .inl ⟨_, _, rfl, ⟨okLen_ok c, rfl⟩, p.ok R (.int _)⟩
  · obtain ⟨v, rfl, r⟩ := rs.one
    cases r with
    | scr t => exact .inl ⟨_, _, rfl, .inl ⟨_, t.sq, rfl⟩, by rw [List.length_map]; exact p.ok R (.int _)⟩
  · obtain ⟨v, rfl, r⟩ := rs.one
    split at p
    · rename_i e
      obtain ⟨a, us, rfl, q, ru⟩ := seqOf_ok R r e
      rcases q with q | q
      · exact .inl ⟨_, _, rfl, .inl ⟨_, q, rfl⟩, by rw [← ru.length]; exact p.ok R (.int _)⟩
      · exact .inl ⟨_, _, rfl, .inr ⟨_, q, rfl⟩, by rw [← ru.length]; exact p.ok R (.int _)⟩
    · split at p
      · split at p
        · rename_i e
          cases r with
          | obj g =>
            obtain ⟨us, h1, h2⟩ := R.at g e
            exact .inr ⟨_, us, rfl, h1, by rw [← rf_len h2]; exact p.ok R (.int _)⟩
        · exact p.elim
      · exact p.elim
  · exact p.elim
abbrev rAbs : List V → Hp → VK → Prop := fun xs H Q => ∃ i, xs = [.int i] ∧ Q (.int (if i < 0 then -i else i)) H
theorem o_abs : OpA X rAbs absD := by
  intro ι h H xs vs W Q R rs p
  unfold absD at p
  split at p
  · obtain ⟨v, rfl, r⟩ := rs.one
    cases r
    exact ⟨_, rfl, p.ok R (.int _)⟩
  · exact p.elim
abbrev rInt : List V → Hp → VK → Prop := fun xs H Q => (∃ i, xs = [.int i] ∧ Q (.int i) H) ∨ ∃ k, xs = [.bl k] ∧ Q (.int (if k then 1 else 0)) H
theorem o_int : OpA X rInt intD := by
  intro ι h H xs vs W Q R rs p
  unfold intD at p
  split at p
  · obtain ⟨v, rfl, r⟩ := rs.one
    cases r
    exact .inl ⟨_, rfl, p.ok R (.int _)⟩
  · obtain ⟨v, rfl, r⟩ := rs.one
    cases r
    exact .inr ⟨_, rfl, p.ok R (.int _)⟩
  · exact p.elim
theorem o_sum : OpA X (rSum X.K) sumD := by
  intro ι h H xs vs W Q R rs p
  unfold sumD at p
  split at p
  · obtain ⟨v, rfl, r⟩ := rs.one
    split at p
    · rename_i e
      obtain ⟨a, rfl, q⟩ := ints_of R r e
      exact ⟨a, _, rfl, q, p.ok R (.int _)⟩
    · exact p.elim
  · exact p.elim
abbrev rMaxs (K : PySem.W.Frag) : List V → Hp → VK → Prop := fun xs H Q => (∃ i j, xs = [.int i, .int j] ∧ Q (.int (if j > i then j else i)) H) ∨ rMax K xs H Q
theorem c_max (hc : X.calm = true) : CallR X (.builtin "max") (rMaxs X.K) := CallR.or (call_max2 hc) (cr_max hc)
theorem o_max : OpA X (rMaxs X.K) maxD := by
  intro ι h H xs vs W Q R rs p
  unfold maxD at p
  split at p
  · obtain ⟨v, u, rfl, r, r'⟩ := rs.two
    cases r
    cases r'
    exact .inl ⟨_, _, rfl, p.ok R (.int _)⟩
  · obtain ⟨v, rfl, r⟩ := rs.one
    split at p
    · rename_i n ns e
      obtain ⟨a, rfl, q⟩ := ints_of R r e
      obtain ⟨g1, g2, g3⟩ := maxI_ge ns n
      refine .inr ⟨a, n :: ns, rfl, q, Nat.succ_pos _, fun m hm hy => ?_⟩
      have e1 : m = maxI n ns := by
        have z1 : maxI n ns ≤ m := by
          rcases g3 with z | z
          · rw [z]; exact hy n List.mem_cons_self
          · exact hy _ (List.mem_cons_of_mem _ z)
        have z2 : m ≤ maxI n ns := by
          rcases List.mem_cons.mp hm with z | z
          · rw [z]; exact g1
          · exact g2 m z
        omega
      rw [e1]
      exact p.ok R (.int _)
    · exact p.elim
  · exact p.elim
abbrev rMins (K : PySem.W.Frag) : List V → Hp → VK → Prop := fun xs H Q => (∃ i j, xs = [.int i, .int j] ∧ Q (.int (if j < i then j else i)) H) ∨ rMin K xs H Q
theorem c_min (hc : X.calm = true) : CallR X (.builtin "min") (rMins X.K) := CallR.or (call_min2 hc) (cr_min hc)
theorem o_min : OpA X (rMins X.K) minD := by
  intro ι h H xs vs W Q R rs p
  unfold minD at p
  split at p
  · obtain ⟨v, u, rfl, r, r'⟩ := rs.two
    cases r
    cases r'
    exact .inl ⟨_, _, rfl, p.ok R (.int _)⟩
  · obtain ⟨v, rfl, r⟩ := rs.one
    split at p
    · rename_i n ns e
      obtain ⟨a, rfl, q⟩ := ints_of R r e
      obtain ⟨g1, g2, g3⟩ := minI_le ns n
      refine .inr ⟨a, n :: ns, rfl, q, Nat.succ_pos _, fun m hm hy => ?_⟩
      have e1 : m = minI n ns := by
        have z1 : m ≤ minI n ns := by
          rcases g3 with z | z
          · rw [z]; exact hy n List.mem_cons_self
          · exact hy _ (List.mem_cons_of_mem _ z)
        have z2 : minI n ns ≤ m := by
          rcases List.mem_cons.mp hm with z | z
          · rw [z]; exact g1
          · exact g2 m z
        omega
      rw [e1]
      exact p.ok R (.int _)
    · exact p.elim
  · exact p.elim
theorem o_all : OpA X (rAll X.K) allD := by
  intro ι h H xs vs W Q R rs p
  unfold allD at p
  split at p
  · obtain ⟨v, rfl, r⟩ := rs.one
    split at p
    · rename_i e
      obtain ⟨a, rfl, q⟩ := bls_of R r e
      exact ⟨a, _, rfl, q, p.ok R (.bl _)⟩
    · exact p.elim
  · exact p.elim
theorem o_any : OpA X (rAny X.K) anyD := by
  intro ι h H xs vs W Q R rs p
  unfold anyD at p
  split at p
  · obtain ⟨v, rfl, r⟩ := rs.one
    split at p
    · rename_i e
      obtain ⟨a, rfl, q⟩ := bls_of R r e
      exact ⟨a, _, rfl, q, p.ok R (.bl _)⟩
    · exact p.elim
  · exact p.elim
abbrev rTup (K : PySem.W.Frag) : List V → Hp → VK → Prop := fun xs H Q => ∃ p ys, xs = [.ref p] ∧ ((SqL K H p ys ∧ ∀ l, H l = none → Q (.ref l) (upd H l (.tup ys))) ∨ (SqT K H p ys ∧ Q (.ref p) H))
theorem o_tup : OpA X (rTup X.K) tupD := by
  intro ι h H xs vs W Q R rs p
  unfold tupD at p
  split at p
  · obtain ⟨v, rfl, r⟩ := rs.one
    cases r with
    | tup t q => exact ⟨_, _, rfl, .inr ⟨t.sq, p.ok R (.tup t q)⟩⟩
  · obtain ⟨v, rfl, r⟩ := rs.one
    split at p
    · rename_i e
      obtain ⟨a, us, rfl, ha, ru⟩ := items_ok R r e
      exact ⟨a, us, rfl, .inl ⟨SqL.of ha, fun l hl => p.tup R ru hl⟩⟩
    · exact p.elim
  · exact p.elim
abbrev rList (K : PySem.W.Frag) : List V → Hp → VK → Prop := fun xs H Q => ∃ p ys, xs = [.ref p] ∧ (SqL K H p ys ∨ SqT K H p ys) ∧ ∀ l, H l = none → Q (.ref l) (upd H l (.lst ys))
theorem o_list : OpF X (rList X.K) listN := by
  intro ι h H xs vs ιb Hb W Q e R rs p
  unfold listN at p
  split at p
  · obtain ⟨v, rfl, r⟩ := rs.one
    split at p
    · rename_i e1
      obtain ⟨a, us, rfl, q, ru⟩ := seqOf_ok R r e1
      exact ⟨a, us, rfl, q, fun l hl => p.new e R ru hl⟩
    · exact p.elim
  · exact p.elim
abbrev rRepr (K : PySem.W.Frag) : List V → Hp → VK → Prop := fun xs H Q => ∃ x d, xs = [x] ∧ Dp K H x d ∧ okShow d = true ∧ Q (.str d.shown) H
theorem c_repr (gd : X.A.guards = some []) (hu : X.A.units + 64 < cLine) : CallR X (.builtin "repr") (rRepr X.K) := by
  intro pins s σ H xs us Q I rv h
  obtain ⟨x, d, rfl, dp, ok, q⟩ := h
  obtain ⟨u, rfl, ru⟩ := vals1 rv
  unfold okShow at ok
  simp only [Bool.and_eq_true, decide_eq_true_eq, Bool.not_eq_true'] at ok
  obtain ⟨c1, c2, c3, c4⟩ := ok
  obtain ⟨as, rd⟩ := Dp.reads I d x u dp ru
  have fin : ∀ t tk, EP X pins σ Q (.str d.shown t) { s with toks := tk } := fun t tk => ⟨.str d.shown, H, I.tok tk, ⟨t, rfl⟩, q⟩
  have rd0 := rd
  cases rd with
  | none => exact PySem.P.repr_of_none (by simpa only [PyData.shown] using fin _ _)
  | bool b => exact PySem.P.repr_of_bool (by simpa only [PyData.shown] using fin _ _)
  | int i t => exact PySem.P.repr_of_int (by simpa [PyData.showable] using c1) (by simpa only [PyData.shown] using fin _ _)
  | str z t => exact PySem.P.repr_of_str (by simpa only [PyData.shown] using fin _ _) (by rw [sizeLine_eq]; simpa only [PyData.shown] using c4)
  | _ => exact PySem.repr_of_reads' rd0 c1 (fun z => by rw [c2] at z; cases z) gd (by omega) (fun _ _ z => z) (fun h' t tk k => ⟨.str _, H, I.kept k, ⟨t, rfl⟩, q⟩) (by rw [sizeLine_eq]; exact c4)
theorem o_repr : OpA X (rRepr X.K) reprD := by
  intro ι h H xs vs W Q R rs p
  unfold reprD at p
  split at p
  · obtain ⟨v, rfl, r⟩ := rs.one
    split at p
    · rename_i d e
      obtain ⟨c, p⟩ := p.guard
      exact ⟨v, d, rfl, toPy_ok R _ _ _ _ r e, c, p.ok R (.str _)⟩
    · exact p.elim
  · exact p.elim
abbrev rStr : List V → Hp → VK → Prop := fun xs H Q => ∃ i, xs = [.int i] ∧ i.natAbs.log2 < 1920 ∧ Q (.str (toString i)) H
theorem o_str : OpA X rStr strD := by
  intro ι h H xs vs W Q R rs p
  unfold strD at p
  split at p
  · obtain ⟨c, p⟩ := p.guard
    obtain ⟨v, rfl, r⟩ := rs.one
    cases r
    exact ⟨_, rfl, of_decide_eq_true c, p.ok R (.str _)⟩
  · exact p.elim
end
end Dl

/-! The D layer, 14: a def by its body; a law's end; the head's hook. -/
namespace Dl
open PySem PySem.Spec PyProof.Rows L2

/-- a def: the slots at its entry, what its body gives -/
def ent (n : Nat) (ds : List D) : Env := ds.map some ++ List.replicate (n - ds.length) none
def mOf (r : SR) : R D := match r with
  | .ret d h => .ok d h
  | .nx _ h => .ok .non h
  | .exc _ C fs h => .exc C fs h
  | _ => .bad
def mDef (n : Nat) (body : SM) : List D → M D := fun ds h => mOf (body (ent n ds) h)
theorem ent_rs {K : PySem.W.Frag} {ι : Ix} {H : Hp} {N : List Str} {ds : List D} {vs : List V} (r : RDs K ι H ds vs) : RS K ι H (ent N.length ds) (start N vs) := by
  have hl := r.length
  refine ⟨?_, fun i d e => ?_⟩
  · unfold ent L2.start
    rw [List.length_append, List.length_append, List.length_map, List.length_map, List.length_replicate, List.length_replicate, hl]
  · unfold ent at e
    by_cases hi : i < ds.length
    · rw [List.getElem?_append_left (by rw [List.length_map]; exact hi), List.getElem?_map] at e
      obtain ⟨d', e1, e2⟩ := Option.map_eq_some_iff.mp e
      cases e2
      obtain ⟨v, h1, h2⟩ := r.get e1
      refine ⟨v, ?_, h2⟩
      unfold L2.start
      rw [List.getElem?_append_left (by rw [List.length_map, ← hl]; exact hi), List.getElem?_map, h1]
      rfl
    · rw [List.getElem?_append_right (by rw [List.length_map]; omega), List.getElem?_replicate] at e
      split at e <;> cases e
theorem deeper_guards {A : Around} {e : PySem.Env} : (A.deeper e).guards = A.guards := rfl

section
variable {P : Program} {w : World} {K : PySem.W.Frag} {mg : Str → Option Value} {base : Heap}
/-- the rule for a def: the context is its body's, no repr is under way -/
theorem fnG_of {x qual : Str} {params : Arguments} {body : List Stmt} {scope : Scope} {f : Addr} {fd : FuncData} {N ps : List Str} {k : Nat} {sp : Sp} (F : FunD K x qual params body scope [] [] f fd) (S : FnScope N ps scope) (len : ∀ vs H Q E, sp vs H Q E → vs.length = ps.length)
    (hb : ∀ (cdv : Value) (A : Around) (outer : List PySem.Env) (s : Shared) (H : Hp) (vs : List V) (Q : VK) (E : XK), Room k (A.deeper (envOfC qual scope s.heap.objs.size f cdv)) → A.guards = some [] → sp vs H Q E →
      ∃ t, PSs (cxOf (L2.CX P w) P w K mg base N qual scope f cdv A outer s H E) body t ∧ t { nx := fun _ H' => Q .non H', rt := Q } (start N vs) H) : FnG P w K mg base (L2.CX P w) (k + 1) f fd ps sp := by
  obtain ⟨oc, od, dV, kV, doc, pm, an, cdv, ct, osl, rfl, lk, hcd, _, _⟩ := F.ex
  refine ⟨len, fun A outer s H args us vs Q E hr gd e0 bt r hsp => ?_⟩
  have hl := len _ _ _ _ hsp
  have KX : K.In s.heap := e0.mod.kin.keeps fun b o e => (e0.bs b o e).1
  have lim : s.heap.NoLimit := e0.mod.nolimit.keeps fun b o e => (e0.bs b o e).1
  have hk : ∀ y ∈ ps.zip us, scope.names.lookup y.1 = some .local ∨ (scope.names.lookup y.1 = some .cell ∧ ((cellsFrom (s.heap.objs.size + 1) scope.names []).lookup y.1).isSome = true) := by
    rintro ⟨n, v⟩ hy
    have hp := S.par n (List.of_mem_zip hy).1
    exact hp.imp id fun q => ⟨q, PySem.W.cellsFrom_some _ _ _ (.inl q)⟩
  refine codeAny_call_function hr.depth (KX _ _ lk) rfl S.co S.gen rfl (PySem.W.codeRec_of KX hcd) (bt _ _ _ _ ?_)
  refine wpAny_newFunctionEnv_cells S.kind hk fun env he s1 ic => ?_
  subst he
  refine ⟨lim.keeps ic.toInCall.keep, codeAny_func ?_⟩
  obtain ⟨t, ht, hq⟩ := hb cdv A outer s H vs Q E (hr.deeper _) gd hsp
  have I := inv_start (CX := L2.CX P w) (E := E) S hr.hd e0 hl r ic
  refine wpAny_mono (ht.run [] s1 (start N vs) H _ I hq) (fun fl s' hs => ?_) fun _ _ hs => hs
  cases fl with
  | ret u =>
    obtain ⟨v, σ', H', J, rv, q⟩ := hs
    exact ⟨v, H', J.os, J.bare, J.base, J.hok, rv, q⟩
  | next =>
    obtain ⟨σ', H', J, q⟩ := hs
    exact ⟨.non, H', J.os, J.bare, J.base, J.hok, rfl, q⟩
  | brk => exact (show False from hs.elim fun _ z => z.elim fun _ z => z.2).elim
  | cont => exact (show False from hs.elim fun _ z => z.elim fun _ z => z.2).elim
/-- a def of the D layer -/
theorem fnD_of {x qual : Str} {params : Arguments} {body : List Stmt} {scope : Scope} {f : Addr} {fd : FuncData} {N ps : List Str} {k n : Nat} {c : SM} (F : FunD K x qual params body scope [] [] f fd) (S : FnScope N ps scope) (hn : ps.length = n) (b : Binds K fd ps [])
    (hb : ∀ (cdv : Value) (A : Around) (outer : List PySem.Env) (s : Shared) (H : Hp) (E : XK), Room k (A.deeper (envOfC qual scope s.heap.objs.size f cdv)) → A.guards = some [] →
      DSs (cxOf (L2.CX P w) P w K mg base N qual scope f cdv A outer s H E) (fun cls d _ H => E cls d H) body c) : FnD P w K mg base (k + 1) f n (mDef N.length c) := by
  refine ⟨fd, ps, fnG_of F S (fun vs H Q E h => h.1.trans hn.symm) (fun cdv A outer s H vs Q E hr gd h => ⟨_, hb cdv A outer s H E hr gd, ?_⟩), b, F.kp⟩
  obtain ⟨_, ι, h0, ds, R, r, p⟩ := h
  refine ⟨ι, h0, ent N.length ds, R, ent_rs r, ?_⟩
  show PostS K _ (c (ent N.length ds) h0) ι H _
  unfold mDef at p
  cases q : c (ent N.length ds) h0 with
  | nx ρ h => rw [q] at p; exact fun ι' H' σ' e R' S' => p ι' H' .non e R' .non
  | ret d h => rw [q] at p; exact p
  | bk ρ h => rw [q] at p; exact p.elim
  | ct ρ h => rw [q] at p; exact p.elim
  | exc ρ C fs h => rw [q] at p; exact fun ι' H' od σ' e R' S' x => p ι' H' od e R' x
  | bad => rw [q] at p; exact p
end

/-! ### the law -/
theorem call_law {P : Program} {w : World} {K : PySem.W.Frag} {mg mb : Str → Option Value} {k : Nat} {fa a : Addr} {m : List D → M D} {s₁ : Shared} {vs : List Value} {ns : List Int}
    (KX : K.In s₁.heap) (hns : s₁.heap.Ns mainGlobals mg) (hb : s₁.heap.Ns builtinsNs mb) (hbb : ∀ x : Str, x ≠ "__name__" → mb x = bootBuiltins x) (hlim : s₁.heap.NoLimit) (hg : s₁.gens = #[])
    (ha : s₁.heap.get? a = some { cls := .type "list", data := .seq vs.toArray }) (hi : IntsAre vs ns) (hl : ns.length ≤ sizeLine) (hr : Room k callerA)
    (F : ∀ base : Heap, K.In base → base.Ns mainGlobals mg → FnD P w K mg base k fa 1 m) (hm : ∃ h', m [.scr ns] [] = .ok (.bl true) h') :
    codeAny (model P w) callerA (.call (.ref fa) ⟨[.ref a], []⟩) (fun r s' => r = .ok (.ret (.bool true)) ∧ OldK s₁.heap s'.heap ∧ s'.os = s₁.os ∧ AllBare s'.gens) s₁ := by
  have rv := vals_ints hi
  have lv := hi.length
  have core : ∀ H : Hp, Only H → SqL K H a (ns.map V.int) → HOk P w H s₁.heap → (∀ b, H b ≠ none → b = a) → (H a ≠ none → K.lookup a = none) →
      codeAny (model P w) callerA (.call (.ref fa) ⟨[.ref a], []⟩) (fun r s' => r = .ok (.ret (.bool true)) ∧ OldK s₁.heap s'.heap ∧ s'.os = s₁.os ∧ AllBare s'.gens) s₁ := by
    intro H hO hS hok hA hK
    have at0 : ∀ {b : Addr} {o : Obj}, s₁.heap.get? b = some o → H b = none → (hidT s₁.heap H).get? b = some o := fun e n => hidT_get e n
    have free : ∀ b, b ≠ a → H b = none := fun b n => by
      cases q : H b with
      | none => rfl
      | some u => exact absurd (hA b (by rw [q]; exact fun z => nomatch z)) n
    have noA : ∀ {b : Addr} {o : Obj} {es : Array DictEntry} {ep : Nat}, s₁.heap.get? b = some o → o.data = .dict es ep → H b = none := fun {b o es ep} e d => free b fun z => by
      rw [z, ha] at e
      cases e
      cases d
    have ns' : ∀ {b : Addr} {m : Str → Option Value}, s₁.heap.Ns b m → (hidT s₁.heap H).Ns b m := fun ⟨o, es, ep, e, d, r⟩ => ⟨o, es, ep, at0 e (noA e d), d, r⟩
    have hKb : K.In (hidT s₁.heap H) := fun b o e => at0 (KX b o e) (by
      by_cases z : b = a
      · subst z
        cases q : H b with
        | none => rfl
        | some u => rw [hK (by rw [q]; exact fun z => nomatch z)] at e; cases e
      · exact free b z)
    have hM : Mod K mg (hidT s₁.heap H) := ⟨hKb, ns' hns, ⟨mb, ns' hb, hbb⟩, hlim.imp fun mc z => ⟨ns' z.1, z.2⟩⟩
    have e0 : Env0 P w K mg (hidT s₁.heap H) callerA [] s₁ H := ⟨rfl, hM, fun b o e => of_hidT e, Nat.le_of_eq (hidT_size _ _), trivial, fun b hb => (List.not_mem_nil hb).elim, hok, .of_eq hg⟩
    obtain ⟨fd, ps, G, bd, _⟩ := F _ hKb (ns' hns)
    obtain ⟨h', em⟩ := hm
    have sp : spD K 1 m [.ref a] H (fun v _ => v = .bl true) fun _ _ _ => False := by
      refine ⟨rfl, ⟨[], []⟩, [], [.scr ns], ⟨rfl, List.nodup_nil, fun n b o e => (by cases e), fun b hb => (List.not_mem_nil hb).elim⟩, .cons (.scr ?_) .nil, ?_⟩
      · rcases hS with z | z
        · exact .inl ⟨⟨List.not_mem_nil, List.not_mem_nil⟩, z⟩
        · exact .inr z
      · rw [em]
        intro ι' H' b _ _ r
        cases r
        rfl
    have hlen : ps.length = 1 := (G.len _ _ _ _ sp).symm
    have bt : BindsTo s₁ fd ⟨[.ref a], []⟩ (ps.zip [.ref a]) := by
      have z := bd s₁ [.ref a] KX (by rw [List.append_nil]; exact hlen.symm)
      rwa [List.append_nil] at z
    refine codeAny_mono (G.run callerA [] s₁ H ⟨[.ref a], []⟩ [.ref a] [.ref a] _ _ hr rfl e0 bt (.cons rfl .nil) sp) fun r s' h => ?_
    cases r with
    | error e =>
      obtain ⟨_, _, _, _, _, _, _, _, _, _, _, _, z⟩ := h
      exact z.elim
    | ok fl =>
      cases fl with
      | next => exact False.elim h
      | brk => exact False.elim h
      | cont => exact False.elim h
      | ret u =>
        obtain ⟨v, H', os, bare, un, hok', r', q⟩ := h
        have q' : v = .bl true := q
        subst q'
        obtain rfl : u = Value.bool true := r'
        refine ⟨rfl, OldK.of_keep fun b o e => ?_, os, bare⟩
        cases q : H b with
        | none => exact un.keep b o e q List.not_mem_nil List.not_mem_nil
        | some u =>
          rcases hO b with z | ⟨ob, xs, z⟩
          · rw [q] at z; cases z
          · obtain ⟨e1, _⟩ := hok b _ z
            obtain ⟨e2, _⟩ := hok' b _ (un.frzs b ob _ z)
            rw [e] at e1; cases e1
            exact e2
  cases hk : K.lookup a with
  | some o =>
    have e := KX a o hk
    rw [ha] at e
    cases e
    exact core (fun _ => none) (fun _ => .inl rfl) (.inr ⟨_, vs.toArray, _, hk, rfl, rfl, rfl, by rw [List.size_toArray, lv]; exact hl, by simpa using rv⟩) (fun b u z => nomatch (show (none : Option HO) = some u from z)) (fun b z => absurd rfl z) fun z => absurd rfl z
  | none =>
    have at1 : ∀ b, b ≠ a → (if b = a then some (HO.frz { cls := .type "list", data := .seq vs.toArray } (.lst (ns.map V.int))) else none) = none := fun b n => if_neg n
    refine core (fun b => if b = a then some (.frz { cls := .type "list", data := .seq vs.toArray } (.lst (ns.map V.int))) else none) (fun b => ?_) (.inl (.inr ⟨{ cls := .type "list", data := .seq vs.toArray }, if_pos rfl⟩)) (fun b u z => ?_) (fun b z => ?_) fun _ => hk
    · by_cases n : b = a
      · exact .inr ⟨_, _, if_pos n⟩
      · exact .inl (at1 b n)
    · by_cases n : b = a
      · have z' := (if_pos n).symm.trans z
        cases z'
        subst n
        exact ⟨ha, by rw [List.length_map]; exact hl, vs, _, rv, ha⟩
      · have z' := (at1 b n).symm.trans z
        cases z'
    · by_cases n : b = a
      · exact n
      · exact absurd (at1 b n) z
/-- the end: the law's def keeps its promise over every base; its own computation answers true at every script -/
theorem walk_law {l : PySem.W.OpenLaw} {n k : Nat} {q : Program} {loose : List Str} {XP : (Str → Option Value) → Heap → Prop} {YP : World → Heap → Prop} {d : DefRec} {m : List D → M D}
    (hn : l.most = some n) (hn2 : n ≤ sizeLine) (hdf : d.params.defaults = []) (hr : Room k callerA)
    (F : ∀ (w : World) (mg : Str → Option Value) (fa : Addr) (h : Heap), YP w h → h.Ns mainGlobals mg → mg d.name = some (.ref fa) →
      ∃ K : PySem.W.Frag, K.In h ∧ ∀ base : Heap, K.In base → base.Ns mainGlobals mg → FnD l.prog w K mg base k fa 1 m)
    (hm : ∀ ns : List Int, ns.length ≤ n → (∀ z ∈ ns, Builtin.Int.intBits z ≤ 1048576) → ∃ h', m [.scr ns] [] = .ok (.bl true) h') :
    PySem.W.WalkO q loose XP YP l.row.toRowW d [] (fun f vs => PySem.call f vs) := by
  refine Att.attach_callB hn hdf fun w s₀ s₁ mg mb fa o pm cd doc a vs ns G Y ho hd hcd hmg hobj hints hlen hbits hg => ?_
  obtain ⟨K, KX, hF⟩ := F w mg fa _ Y G.T.g hmg
  exact call_law KX G.T.g G.T.b G.T.builtins G.T.nolimit hg hobj hints (Nat.le_trans hlen hn2) hr hF (hm ns hlen hbits)

/-! ### the head's hook: defs, facts, one more -/
abbrev AlE : Type := He.AlD × Bool
def obsE (n : Nat) (fa : List He.Fa) (fn : List He.DefD) (ex : PySem.W.Frag → Bool) (g : Addr → Option Obj) : AlE := (He.obsD fa fn (He.frG g (He.asD g n)), ex (He.frG g (He.asD g n)))
def valE (fn : List He.DefD) : AlE := (He.valD fn, true)
structure SaysE (fa : List He.Fa) (fn : List He.DefD) (ex : PySem.W.Frag → Bool) (K : PySem.W.Frag) : Prop where
  d : He.SaysD fa fn K
  e : ex K = true
def hookE (n : Nat) (fa : List He.Fa) (fn : List He.DefD) (ex : PySem.W.Frag → Bool) : PySem.W.Hook where
  α := AlE
  obs := fun s => obsE n fa fn ex s.heap.get?
  val := fun _ => valE fn
  says := fun _ h => ∃ K : PySem.W.Frag, K.In h ∧ SaysE fa fn ex K
  of := fun _ _ e => ⟨_, He.frG_in, congrArg (fun z : AlE => z.1) e, congrArg (fun z : AlE => z.2) e⟩
  keeps := fun _ _ _ ⟨K, hK, c⟩ k => ⟨K, PySem.W.Frag.In.keeps hK k, c⟩
theorem obsE_eq {n : Nat} {fa : List He.Fa} {fn : List He.DefD} {ex : PySem.W.Frag → Bool} {g : Addr → Option Obj} {s : Shared} (h : ∀ a, g a = s.heap.get? a) : obsE n fa fn ex g = (hookE n fa fn ex).obs s := by
  have e : g = s.heap.get? := funext h
  rw [e] <;> rfl
/-- a def's parameters bind -/
theorem binds_of {K : PySem.W.Frag} {x qual : Str} {params : Arguments} {body : List Stmt} {scope : Scope} {f : Addr} {fd : FuncData} {ps : List Str} (F : FunD K x qual params body scope [] [] f fd)
    (h : ∀ (kV doc pm : Value) (an : Option Addr) (cdv ct : Value) (us : List Value), us.length = ps.length → bindArgs (PySem.W.fnOf x qual params body scope .none kV doc pm an cdv ct) ⟨us, []⟩ = pure (ps.zip us)) : Binds K fd ps [] := F.bindsN h
end Dl

/-! The D layer, 15: isinstance, truth. -/
namespace Dl
open PySem PySem.Spec PyProof.Rows L2

/-! ### isinstance -/
inductive Tg where
  | b (n : String) | o (C : Str)
deriving DecidableEq
def tgV (K : PySem.W.Frag) : Tg → Value
  | .b n => .type n
  | .o C => .ref (He.ga K C)
def tagOf (h : Hs) : D → Option Tg
  | .non => some (.b "NoneType")
  | .bl _ => some (.b "bool")
  | .int _ => some (.b "int")
  | .str _ => some (.b "str")
  | .tup _ => some (.b "tuple")
  | .lst _ => some (.b "list")
  | .scr _ => some (.b "list")
  | .obj n => (match h[n]? with
    | some (.lst _) => some (.b "list")
    | some (.dI _) => some (.b "dict")
    | some (.ins C _) => some (.o C)
    | none => none)
  | _ => none
def clsOf : D → Option Tg
  | .ty n => some (.b n)
  | .glo C => some (.o C)
  | _ => none
def tyNames : List String := ["NoneType", "bool", "int", "str", "list", "tuple", "dict"]
/-- the built-in types among themselves; what involves an own class stands in a table -/
def kit (own : List (Tg × Tg × Bool)) (t u : Tg) : Option Bool := match t, u with
  | .b a, .b c => if tyNames.contains a && tyNames.contains c then some (a == c || (a == "bool" && c == "int")) else none
  | t, u => (own.find? fun p => decide (p.1 = t ∧ p.2.1 = u)).map (·.2.2)
/-- what the table needs of the module -/
structure InsF (K : PySem.W.Frag) (C : Str) : Prop where
  cl : Cls K (He.ga K C)
  ha : PySem.W.findIn K (.ref (He.ga K C)) "__class__" = some (some (.builtin "object.__class__"))
  hn : PySem.W.specialIn K (.builtin "object.__class__") "__get__" = some (some (.builtin "getset_descriptor.__get__"))
  ht : PySem.W.takesIn K (.builtin "object.__class__") = some true
  hm : PySem.W.mroIn K (He.ga K C) (.type "object") = some true
def tgIns (K : PySem.W.Frag) : Tg → Prop
  | .b _ => True
  | .o C => InsF K C
structure OwnF (K : PySem.W.Frag) (own : List (Tg × Tg × Bool)) : Prop where
  at_ : ∀ p ∈ own, PySem.W.kitOne K (tgV K p.1) (tgV K p.2.1) = some p.2.2 ∧ tgIns K p.1
theorem OwnF.nil {K : PySem.W.Frag} : OwnF K [] := ⟨fun p h => nomatch h⟩
theorem kit_tab : ∀ a ∈ tyNames, ∀ c ∈ tyNames, kitB a c = some (a == c || (a == "bool" && c == "int")) := by decide +kernel
theorem kit_ok {K : PySem.W.Frag} {own : List (Tg × Tg × Bool)} (F : OwnF K own) {t u : Tg} {b : Bool} (e : kit own t u = some b) : PySem.W.kitOne K (tgV K t) (tgV K u) = some b ∧ tgIns K t := by
  have fin : (own.find? fun p => decide (p.1 = t ∧ p.2.1 = u)).map (·.2.2) = some b → PySem.W.kitOne K (tgV K t) (tgV K u) = some b ∧ tgIns K t := fun z => by
    obtain ⟨p, h1, h2⟩ := Option.map_eq_some_iff.mp z
    have h0 : decide (p.1 = t ∧ p.2.1 = u) = true := List.find?_some (p := fun p : Tg × Tg × Bool => decide (p.1 = t ∧ p.2.1 = u)) h1
    obtain ⟨e1, e2⟩ := of_decide_eq_true h0
    have h3 := F.at_ p (List.mem_of_find?_eq_some h1)
    rw [e1, e2, h2] at h3
    exact h3
  cases t with
  | b a =>
    cases u with
    | b c =>
      have e : (if (tyNames.contains a && tyNames.contains c) = true then some (a == c || (a == "bool" && c == "int")) else none) = some b := e
      by_cases hc : (tyNames.contains a && tyNames.contains c) = true
      · rw [if_pos hc] at e
        obtain ⟨h1, h2⟩ := Bool.and_eq_true_iff.mp hc
        exact ⟨kit_ty ((kit_tab a (List.contains_iff_mem.mp h1) c (List.contains_iff_mem.mp h2)).trans e), trivial⟩
      · rw [if_neg hc] at e
        cases e
    | o C => exact fin e
  | o C =>
    cases u <;> exact fin e
def isiD (own : List (Tg × Tg × Bool)) (xs : List D) : M D := fun h => match xs with
  | [x, c] => (match tagOf h x, clsOf c with
    | some t, some u => (match kit own t u with
      | some b => .ok (.bl b) h
      | none => .bad)
    | _, _ => .bad)
  | _ => .bad
section
variable {K : PySem.W.Frag} {ι : Ix} {H : Hp} {h : Hs}
theorem tag_ok (R : Rel K ι h H) {x : D} {v : V} {t : Tg} (r : RD K ι H x v) (e : tagOf h x = some t) (ti : tgIns K t) : TyX K H v (tgV K t) := by
  have sl : ∀ {a : Addr} {vs : List V}, SqL K H a vs → TyX K H (.ref a) (.type "list") := fun {a vs} q => by
    rcases q with (q | ⟨o, q⟩) | ⟨o, its, n, q, c, _⟩
    · exact .base (.lst q)
    · exact .base (.frz q)
    · exact .kList q c
  cases r with
  | non => cases e; exact .base .non
  | bl b => cases e; exact .base (.bl b)
  | int i => cases e; exact .base (.int i)
  | str z => cases e; exact .base (.str z)
  | tup q rs =>
    cases e
    rcases q.sq with (q | ⟨o, q⟩) | ⟨o, its, n, q, c, _⟩
    · exact .base (.tup q)
    · exact .fTuple q
    · exact .kTuple q c
  | lst q rs => cases e; exact sl q.sq
  | scr q => cases e; exact sl q.sq
  | @obj n a g =>
    have e : (match h[n]? with
    | some (.lst _) => some (Tg.b "list")
    | some (.dI _) => some (.b "dict")
    | some (.ins C _) => some (.o C)
    | none => none) = some t := e
    split at e
    · rename_i xs en
      cases e
      obtain ⟨vs, h1, _⟩ := R.at g en
      exact .base (.lst h1)
    · rename_i kvs en
      cases e
      obtain ⟨us, h1, _⟩ := R.at g en
      exact .base (.dK h1)
    · rename_i C fs en
      cases e
      obtain ⟨dx, us, h1, _⟩ := R.at g en
      have f : InsF K C := ti
      exact .base (.ins h1 f.cl f.ha f.hn f.ht f.hm)
    · cases e
  | _ => cases e
theorem cls_ok {x : D} {v : V} {u : Tg} (r : RD K ι H x v) (e : clsOf x = some u) : ClsV v (tgV K u) := by
  cases r with
  | ty n => cases e; exact .ty n
  | glo x => cases e; exact .own _
  | _ => cases e
variable {X : Cx}
theorem o_isi {own : List (Tg × Tg × Bool)} (F : OwnF X.K own) : OpA X (rIsi X.K) (isiD own) := by
  intro ι h H xs vs W Q R rs p
  unfold isiD at p
  split at p
  · obtain ⟨v, u, rfl, r, r'⟩ := rs.two
    split at p
    · rename_i e1 e2
      split at p
      · rename_i b e3
        obtain ⟨h1, h2⟩ := kit_ok F e3
        exact ⟨v, u, _, _, b, rfl, cls_ok r' e2, tag_ok R r e1 h2, h1, p.ok R (.bl _)⟩
      · exact p.elim
    · exact p.elim
  · exact p.elim
/-! ### truth -/
def truD (h : Hs) : D → Option Bool
  | .non => some false
  | .bl b => some b
  | .int i => some (i != 0)
  | .str z => if okLen z.length then some ((z.length : Int) != 0) else none
  | .tup xs => some (!xs.isEmpty)
  | .lst xs => some (!xs.isEmpty)
  | .obj n => (match h[n]? with
    | some (.lst xs) => some (!xs.isEmpty)
    | some (.dI kvs) => some (!kvs.isEmpty)
    | _ => none)
  | _ => none
theorem rds_empty {xs : List D} {vs : List V} (r : RDs K ι H xs vs) : (!vs.isEmpty) = !xs.isEmpty := by cases r <;> rfl
theorem rf_empty {κ : Type} {xs : List (κ × D)} {vs : List (κ × V)} (r : RF K ι H xs vs) : (!vs.isEmpty) = !xs.isEmpty := by cases r <;> rfl
theorem tru_rd (R : Rel K ι h H) {x : D} {v : V} {b : Bool} (r : RD K ι H x v) (e : truD h x = some b) : TruV K v H b := by
  cases r with
  | non => cases e; exact rfl
  | bl b => cases e; exact rfl
  | int i => cases e; exact rfl
  | str z =>
    have e : (if okLen z.length then some ((z.length : Int) != 0) else none) = some b := e
    split at e
    · rename_i c
      cases e
      exact ⟨okLen_ok c, rfl⟩
    · cases e
  | tup q rs => cases e; exact .inr (.inl ⟨_, q.sq, (rds_empty rs).symm⟩)
  | lst q rs => cases e; exact .inl ⟨_, q.sq, (rds_empty rs).symm⟩
  | @obj n a g =>
    have e : (match h[n]? with
    | some (.lst xs) => some (!xs.isEmpty)
    | some (.dI kvs) => some (!kvs.isEmpty)
    | _ => none) = some b := e
    split at e
    · rename_i xs en
      cases e
      obtain ⟨vs, h1, h2⟩ := R.at g en
      exact .inl ⟨_, SqL.of h1, (rds_empty h2).symm⟩
    · rename_i kvs en
      cases e
      obtain ⟨us, h1, h2⟩ := R.at g en
      exact .inr (.inr ⟨_, h1, (rf_empty h2).symm⟩)
    · cases e
  | _ => cases e
/-- x or y, x and y, not x, by truth -/
def orX (ca cb : Env → M D) : Env → M D := fun ρ h => (ca ρ h).bind fun x h1 => match truD h1 x with
  | some true => .ok x h1
  | some false => cb ρ h1
  | none => .bad
def andX (ca cb : Env → M D) : Env → M D := fun ρ h => (ca ρ h).bind fun x h1 => match truD h1 x with
  | some true => cb ρ h1
  | some false => .ok x h1
  | none => .bad
def notX (x : D) : M D := fun h => match truD h x with
  | some b => .ok (.bl (!b)) h
  | none => .bad
variable {W : WX} {pos : Pos} {a b : Expr} {ca cb : Env → M D} {rest : List Expr}
theorem de_orX (ha : DE X W a ca) (hb : DE X W (.BoolOp .Or (b :: rest) pos) cb) : DE X W (.BoolOp .Or (a :: b :: rest) pos) (orX ca cb) := pe_imp (pe_orT ha hb) fun σ H Q ⟨ι, h, ρ, R, S, p⟩ => by
  refine ⟨ι, h, ρ, R, S, Post.imp (Post.bind p) fun x H1 ⟨ι1, h1, dx, x1, R1, r1, p1⟩ => ?_⟩
  split at p1
  · rename_i e
    refine ⟨true, tru_rd R1 r1 e, ?_⟩
    rw [if_pos rfl]
    exact p1.ok R1 r1
  · rename_i e
    refine ⟨false, tru_rd R1 r1 e, ?_⟩
    rw [if_neg Bool.false_ne_true]
    exact ⟨ι1, h1, ρ, R1, S.mono x1, p1⟩
  · exact p1.elim
theorem de_andX (ha : DE X W a ca) (hb : DE X W (.BoolOp .And (b :: rest) pos) cb) : DE X W (.BoolOp .And (a :: b :: rest) pos) (andX ca cb) := pe_imp (pe_andT ha hb) fun σ H Q ⟨ι, h, ρ, R, S, p⟩ => by
  refine ⟨ι, h, ρ, R, S, Post.imp (Post.bind p) fun x H1 ⟨ι1, h1, dx, x1, R1, r1, p1⟩ => ?_⟩
  split at p1
  · rename_i e
    refine ⟨true, tru_rd R1 r1 e, ?_⟩
    rw [if_pos rfl]
    exact ⟨ι1, h1, ρ, R1, S.mono x1, p1⟩
  · rename_i e
    refine ⟨false, tru_rd R1 r1 e, ?_⟩
    rw [if_neg Bool.false_ne_true]
    exact p1.ok R1 r1
  · exact p1.elim
theorem de_notX (ha : DE X W a ca) : DE X W (.UnaryOp .Not a pos) (e1 notX ca) := pe_imp (pe_notT ha) fun σ H Q ⟨ι, h, ρ, R, S, p⟩ => by
  refine ⟨ι, h, ρ, R, S, Post.imp (Post.bind p) fun x H1 ⟨ι1, h1, dx, x1, R1, r1, p1⟩ => ?_⟩
  unfold notX at p1
  split at p1
  · rename_i b e
    exact ⟨b, tru_rd R1 r1 e, p1.ok R1 (.bl _)⟩
  · exact p1.elim
def tru (ca : Env → M D) : Env → M Bool := fun ρ h => (ca ρ h).bind fun x h1 => match truD h1 x with
  | some b => .ok b h1
  | none => .bad
theorem dt_tru (ha : DE X W a ca) (he : ∀ whole, isTrue a X.env whole = (do let v ← whole; standAt a.pos; holding [v] (truthy v)) := by intro _; rfl) : DT X W a (tru ca) := pt_imp (pt_truth ha he) fun σ H Q ⟨ι, h, ρ, R, S, p⟩ => by
  refine ⟨ι, h, ρ, R, S, Post.imp (Post.bind p) fun x H1 ⟨ι1, h1, dx, x1, R1, r1, p1⟩ => ?_⟩
  split at p1
  · rename_i b e
    exact ⟨b, tru_rd R1 r1 e, p1.ok R1 rfl⟩
  · exact p1.elim
variable {c : Expr} {cc : Env → M D}
theorem w_chain {f g : D → D → M D} {r r' : R2} (op : Op2 X r f) (op' : Op2 X r' g) {σ : L2.St} {H : Hp} {Q : VK} (q : wE X.K W (eCh f g ca cb cc) σ H Q) : tChain r r' (wE X.K W ca) (wE X.K W cb) (wE X.K W cc) σ H Q := by
  obtain ⟨ι, h, ρ, R, S, p⟩ := q
  refine ⟨ι, h, ρ, R, S, Post.imp (Post.bind p) fun x H1 ⟨ι1, h1, dx, x1, R1, r1, p1⟩ => ?_⟩
  refine ⟨ι1, h1, ρ, R1, S.mono x1, Post.imp (Post.bind p1) fun y H2 ⟨ι2, h2, dy, x2, R2, r2, p2⟩ => ?_⟩
  refine op ι2 h2 H2 dx dy x y _ _ R2 (r1.mono x2) r2 (Post.imp (Post.bind p2) fun z H3 ⟨ι3, h3, dz, x3, R3, r3, p3⟩ => ?_)
  split at p3
  · cases r3
    refine ⟨true, rfl, ?_⟩
    rw [if_pos rfl]
    refine ⟨ι3, h3, ρ, R3, S.mono ((x1.trans x2).trans x3), Post.imp (Post.bind p3) fun w H4 ⟨ι4, h4, dw, x4, R4, r4, p4⟩ => ?_⟩
    exact op' ι4 h4 H4 dy dw y w _ _ R4 (r2.mono (x3.trans x4)) r4 p4
  · cases r3
    refine ⟨false, rfl, ?_⟩
    rw [if_neg Bool.false_ne_true]
    exact p3.ok R3 (.bl _)
  · exact p3.elim
theorem w_tst {σ : L2.St} {H : Hp} {Q : Bool → Hp → Prop} (q : wT X.K W (tst ca) σ H Q) : wE X.K W ca σ H fun x H' => ∃ k, x = V.bl k ∧ Q k H' := by
  obtain ⟨ι, h, ρ, R, S, p⟩ := q
  refine ⟨ι, h, ρ, R, S, Post.imp (Post.bind p) fun x H1 ⟨ι1, h1, dx, x1, R1, r1, p1⟩ => ?_⟩
  split at p1
  · cases r1
    exact ⟨_, rfl, p1.ok R1 rfl⟩
  · exact p1.elim
theorem dt_lele (ha : DE X W a ca) (hb : DE X W b cb) (hc : DE X W c cc) (hm : lastMarks [.LtE, .LtE] [b, c] = false := by with_unfolding_all rfl) : DT X W (.Compare a [.LtE, .LtE] [b, c] pos) (tst (eCh leD leD ca cb cc)) := pt_imp (pt_chain op_le op_le ha hb hc hm) fun _ _ _ q => w_chain o_cmp o_cmp (w_tst q)
theorem dt_ltle (ha : DE X W a ca) (hb : DE X W b cb) (hc : DE X W c cc) (hm : lastMarks [.Lt, .LtE] [b, c] = false := by with_unfolding_all rfl) : DT X W (.Compare a [.Lt, .LtE] [b, c] pos) (tst (eCh ltD leD ca cb cc)) := pt_imp (pt_chain op_lt op_le ha hb hc hm) fun _ _ _ q => w_chain o_cmp o_cmp (w_tst q)
theorem dt_ltlt (ha : DE X W a ca) (hb : DE X W b cb) (hc : DE X W c cc) (hm : lastMarks [.Lt, .Lt] [b, c] = false := by with_unfolding_all rfl) : DT X W (.Compare a [.Lt, .Lt] [b, c] pos) (tst (eCh ltD ltD ca cb cc)) := pt_imp (pt_chain op_lt op_lt ha hb hc hm) fun _ _ _ q => w_chain o_cmp o_cmp (w_tst q)
theorem dt_lelt (ha : DE X W a ca) (hb : DE X W b cb) (hc : DE X W c cc) (hm : lastMarks [.LtE, .Lt] [b, c] = false := by with_unfolding_all rfl) : DT X W (.Compare a [.LtE, .Lt] [b, c] pos) (tst (eCh leD ltD ca cb cc)) := pt_imp (pt_chain op_le op_lt ha hb hc hm) fun _ _ _ q => w_chain o_cmp o_cmp (w_tst q)
theorem de_ltlt (ha : DE X W a ca) (hb : DE X W b cb) (hc : DE X W c cc) (hm : lastMarks [.Lt, .Lt] [b, c] = false := by with_unfolding_all rfl) : DE X W (.Compare a [.Lt, .Lt] [b, c] pos) (eCh ltD ltD ca cb cc) := de_chain op_lt op_lt o_cmp o_cmp ha hb hc hm
theorem de_lelt (ha : DE X W a ca) (hb : DE X W b cb) (hc : DE X W c cc) (hm : lastMarks [.LtE, .Lt] [b, c] = false := by with_unfolding_all rfl) : DE X W (.Compare a [.LtE, .Lt] [b, c] pos) (eCh leD ltD ca cb cc) := de_chain op_le op_lt o_cmp o_cmp ha hb hc hm
end
end Dl

/-! The D layer, 16: what the printed texts name. -/
namespace Dl
open PySem PySem.Spec PyProof.Rows L2

theorem u1 {k : Nat} {A : Around} (hr : Room k A) : A.units + 1 < cLine := by have := hr.un; omega
theorem u64 {k : Nat} {A : Around} (hr : Room k A) : A.units + 64 < cLine := by have := hr.un; omega
theorem u65 {k : Nat} {A : Around} (hr : Room k A) : A.units + 65 < cLine := by have := hr.un; omega
/-- a while's limit: the number in a slot goes down at each turn -/
def limI (i : Nat) (ρ : Env) (_ : Hs) : Nat := match ρ[i]? with
  | some (some (.int k)) => k.natAbs + 2
  | _ => 1
/-! ### break, continue -/
def sBrk : SM := fun ρ h => .bk ρ h
def sCnt : SM := fun ρ h => .ct ρ h
theorem ds_break {X : Cx} {W : WX} {pos : Pos} : DS X W (.Break pos) sBrk := ps_imp ps_break fun D σ H ⟨ι, h, ρ, R, S, p⟩ => p ι H σ .refl R S
theorem ds_cont {X : Cx} {W : WX} {pos : Pos} : DS X W (.Continue pos) sCnt := ps_imp ps_continue fun D σ H ⟨ι, h, ρ, R, S, p⟩ => p ι H σ .refl R S
/-! ### facts of the module -/
theorem tup_kt {K : PySem.W.Frag} {x : Str} {is : List Int} (h : He.tupB K x (is.map He.Dv.int) = true) : KT K (He.ga K x) (is.map V.int) := by
  have z := He.tupB_ok h (fun _ => none)
  rw [List.map_map] at z
  have e : is.map (He.Dv.v K ∘ He.Dv.int) = is.map V.int := rfl
  rw [e] at z
  rcases z with (z | ⟨o, z⟩) | z
  · cases z
  · cases z
  · exact z
def insB (K : PySem.W.Frag) (C : Str) : Bool := (He.Fa.cls C).ok K && (He.eqO (PySem.W.findIn K (.ref (He.ga K C)) "__class__") (some (some (.builtin "object.__class__"))) && (He.eqO (PySem.W.specialIn K (.builtin "object.__class__") "__get__") (some (some (.builtin "getset_descriptor.__get__"))) &&
  (decide (PySem.W.takesIn K (.builtin "object.__class__") = some true) && decide (PySem.W.mroIn K (He.ga K C) (.type "object") = some true))))
def ownB (own : List (Tg × Tg × Bool)) (K : PySem.W.Frag) : Bool := own.all fun p => decide (PySem.W.kitOne K (tgV K p.1) (tgV K p.2.1) = some p.2.2) && (match p.1 with
  | .b _ => true
  | .o C => insB K C)
theorem ownB_ok {K : PySem.W.Frag} {own : List (Tg × Tg × Bool)} (h : ownB own K = true) : OwnF K own := by
  refine ⟨fun p hp => ?_⟩
  obtain ⟨h1, h2⟩ := He.ba (List.all_eq_true.mp h p hp)
  refine ⟨of_decide_eq_true h1, ?_⟩
  obtain ⟨t, u, b⟩ := p
  cases t with
  | b n => trivial
  | o C =>
    obtain ⟨k1, k2⟩ := He.ba (show insB K C = true from h2)
    obtain ⟨k2, k3⟩ := He.ba k2
    obtain ⟨k3, k4⟩ := He.ba k3
    obtain ⟨k4, k5⟩ := He.ba k4
    exact ⟨He.cls_ok k1, He.eqO_ok k2, He.eqO_ok k3, of_decide_eq_true k4, of_decide_eq_true k5⟩
end Dl

/-! The D layer, 17: sorted. -/
namespace Dl
open PySem PySem.Spec PyProof.Rows L2

/-! ### tuples, an empty one among them -/
def Mix (ds : List PyData) : Prop := (∀ d, d ∈ ds → ∃ xs, d = .tuple xs) ∧ .tuple [] ∈ ds
def SoK (ds : List PyData) : Prop := PySem.W.Sortable ds ∨ Mix ds
section
variable {prog : Program} {w : World} {A : Around} {E : Value → Shared → Prop} {s : Shared}
theorem oneLt_tuples {xs ys : List PyData} {a b : Value} {as bs : List Addr} {Q : Bool → Shared → Prop} (ra : Reads s.heap a (.tuple xs) as) (rb : Reads s.heap b (.tuple ys) bs) (h : PySem.W.alike (.tuple xs) (.tuple ys) = true)
    (hu : A.units + min (PyData.tuple xs).depth (PyData.tuple ys).depth < cLine) (hq : Q (PySem.W.dataLt (.tuple xs) (.tuple ys)) s) : wpAny (model prog w) A (oneLt' true a b) Q E s := by
  have hal : PySem.W.alikeAll xs ys = true := by simpa [PySem.W.alike] using h
  cases ra with
  | @tuple l o vs n _ as₁ h1 h2 h3 h4 =>
    cases rb with
    | @tuple l' o' vs' n' _ bs₁ k1 k2 k3 k4 =>
      have n1 : vs.size = xs.length := by simpa using SeqAt.ReadsAll.length _ _ _ h4
      have n2 : vs'.size = ys.length := by simpa using SeqAt.ReadsAll.length _ _ _ k4
      rw [PySem.W.dataLt_tuple, ← PySem.W.firstLt_toks xs ys hal, ← n1, ← n2] at hq
      rw [oneLt'_eq]
      simp only [if_true]
      refine wpAny_bind (wpAny_cRoomFor (SeqAt.room_here hu) ?_)
      obtain ⟨cls, dd, data, sl⟩ := o
      obtain ⟨cls2, dd2, data2, sl2⟩ := o'
      simp only at h2 h3 k2 k3
      subst h2 h3 k2 k3
      refine wpAny_bind (wpAny_callSpecialIfBound?_slot (T := "tuple") ⟨_, h1, rfl⟩ F.slot_tuple_lt (call_meets F.slot_tuple_lt ⟨_, h1, rfl⟩ F.entry_tuple_lt (F.args_tuple_lt_2 _ _) (SeqAt.tuple_ltAt l l' vs vs' n n' dd dd2 sl sl2 (PySem.SeqAt.pairEq xs ys) (fun j => PySem.W.dataLt (xs.getD j .none) (ys.getD j .none))) ⟨h1, k1, fun j j1 j2 => ?_, fun j j1 j2 hj => ?_, ?_⟩))
      · have := PySem.W.eqAt_alikeAll xs ys A.in1 s vs.toList vs'.toList _ _ h4 k4 hal (SeqAt.room_in hu) j (by simpa using j1) (by simpa using j2)
        simpa using this
      · have := PySem.W.rcLt_alikeAll xs ys A.in1 s vs.toList vs'.toList _ _ h4 k4 hal (SeqAt.room_in hu) j (by simpa using j1) (by simpa using j2) hj
        simpa using this
      · exact wpAny_truthy_bool hq
def fullT : PyData → Bool
  | .tuple (_ :: _) => true
  | _ => false
theorem firsts_run : ∀ {vs : List Value} {ds : List PyData}, PySem.W.EachIs (fun v d => ∃ as, Reads s.heap v d as) vs ds → (∀ d, d ∈ ds → ∃ xs, d = .tuple xs) →
    ∃ fs : List (Option Value), fs.map (·.isSome) = ds.map fullT ∧ ∀ {Q : List (Option Value) → Shared → Prop}, Q fs s → wpAny (model prog w) A (vs.mapM firstOfTuple') Q E s
  | _, _, .nil, _ => ⟨[], rfl, fun h => by rw [List.mapM_nil]; exact wpAny_pure h⟩
  | v :: vs, d :: ds, .cons ⟨as, r⟩ t, ht => by
    obtain ⟨fs, h1, h2⟩ := firsts_run t fun d hd => ht d (List.mem_cons_of_mem _ hd)
    obtain ⟨xs, rfl⟩ := ht d List.mem_cons_self
    cases r with
    | @tuple a o vals n _ _ ho hc hd hr =>
      refine ⟨vals[0]? :: fs, ?_, fun {Q} h => ?_⟩
      · rw [List.map_cons, List.map_cons, h1]
        congr 1
        have hl := SeqAt.ReadsAll.length _ _ _ hr
        rw [Array.length_toList] at hl
        cases xs with
        | nil =>
          have z : vals[0]? = none := Array.getElem?_eq_none (by rw [hl]; exact Nat.le_refl _)
          rw [z]
          rfl
        | cons x xs =>
          have z : vals[0]? = some (vals[0]'(by rw [hl]; exact Nat.succ_pos _)) := Array.getElem?_eq_getElem _
          rw [z]
          rfl
      · rw [List.mapM_cons]
        refine wpAny_bind ?_
        rw [PySem.W.kas_first_eq]
        refine wpAny_bind (PySem.W.Looks.here (show PySem.W.Looks (model prog w) s.heap (typeOf (.ref a)) o.cls from (PySem.W.Looks.ld ho).andThen .now) ?_)
        rw [hc, if_neg (by first | decide | simp)]
        refine wpAny_bind (listItems_at ho hd (wpAny_pure ?_))
        exact wpAny_bind (h2 (wpAny_pure h))
theorem sorts_mix {vs : List Value} {ds : List PyData} (e : PySem.W.EachIs (fun v d => ∃ as, Reads s.heap v d as) vs ds) (hal : PySem.W.AllAlike ds) (hk : Mix ds) (hu : ∀ d, d ∈ ds → A.units + d.depth < cLine) : PySem.W.SortsAt prog w A s (PySem.W.dataKind s.heap ds) vs := by
  have room : ∀ {d d' : PyData}, d ∈ ds → A.units + min d.depth d'.depth < cLine := fun {d d'} hd => Nat.lt_of_le_of_lt (Nat.add_le_add_left (Nat.min_le_left _ _) _) (hu d hd)
  obtain ⟨ht, hem⟩ := hk
  refine ⟨fun v hv => ?_, ?_⟩
  · obtain ⟨d, hd, as, r⟩ := e.left v hv
    exact ⟨_, PySem.W.dataKind_some hal hd r⟩
  · refine ⟨if (ds.map fullT).head? = some true then general' else oneType', ?_, fun h2 E Q hq => ?_⟩
    · intro E x y a b Q ha hb hq
      obtain ⟨d, as, hd, ra, rfl⟩ := PySem.W.dataKind_inv ha
      obtain ⟨d', as', hd', rb, rfl⟩ := PySem.W.dataKind_inv hb
      obtain ⟨xs, rfl⟩ := ht d hd
      obtain ⟨ys, rfl⟩ := ht d' hd'
      split
      · show wpAny _ _ (oneLt' false x y) _ _ _
        exact PySem.W.oneLt_alike (fun z => nomatch z) ra rb (hal _ hd _ hd') (fun z => nomatch z) (room hd) hq
      · rw [keyLt'_oneType]
        exact oneLt_tuples ra rb (hal _ hd _ hd') (room hd) hq
    · have hT : ∀ v ∈ vs, PySem.W.Looks (model prog w) s.heap (typeOf v) (.type "tuple") := fun v hv => by
        obtain ⟨d, hd, as, r⟩ := e.left v hv
        obtain ⟨xs, rfl⟩ := ht d hd
        exact PySem.W.looks_reads r
      obtain ⟨fs, f1, f2⟩ := firsts_run (prog := prog) (w := w) (A := A) (E := E) e ht
      rw [keyKind'_eq, List.mapM_toArray, map_eq_pure_bind]
      refine wpAny_bind (wpAny_bind (f2 (wpAny_pure ?_)))
      have nall : ¬ ((fs.toArray.all fun x => x.isSome) = true) := fun z => by
        rw [List.all_toArray] at z
        have z2 : (fs.map fun x => x.isSome).all id = true := by rw [List.all_map]; exact z
        rw [f1, List.all_map] at z2
        have := List.all_eq_true.mp z2 _ hem
        cases this
      rw [if_neg nall]
      have hd0 : ((fs.toArray[0]?.bind id).isSome = true) ↔ (ds.map fullT).head? = some true := by
        rw [← f1]
        cases fs with
        | nil => simp
        | cons f fr => simp
      by_cases g : (ds.map fullT).head? = some true
      · rw [if_pos (hd0.mpr g)]
        rw [if_pos g] at hq
        exact wpAny_pure hq
      · rw [if_neg fun z => g (hd0.mp z)]
        rw [if_neg g] at hq
        rw [oneTypeOnly'_eq, List.mapM_toArray, map_eq_pure_bind]
        refine wpAny_bind (wpAny_bind (wpAny_bind (PySem.W.kas_mapM (r := Value.type "tuple") _ (fun v hv Q' hq => (hT v hv).here hq) (wpAny_pure ?_))))
        cases vs with
        | nil => simp at h2
        | cons v vs =>
          have hall : ((List.map (fun _ => Value.type "tuple") (v :: vs)).toArray.all fun x => x == Value.type "tuple") = true := by
            simp only [List.all_toArray, List.all_map, List.all_eq_true]
            intro _ _
            exact beq_self_eq_true _
          have h0 : (List.map (fun _ => Value.type "tuple") (v :: vs)).toArray[0]? = some (Value.type "tuple") := by simp
          rw [h0]
          show wpAny _ _ (pure _) _ _ _
          refine wpAny_pure ?_
          rw [if_pos hall]
          exact wpAny_pure hq
theorem sorts_any {vs : List Value} {ds : List PyData} (e : PySem.W.EachIs (fun v d => ∃ as, Reads s.heap v d as) vs ds) (hal : PySem.W.AllAlike ds) (hk : SoK ds) (hu : ∀ d, d ∈ ds → A.units + d.depth < cLine) : PySem.W.SortsAt prog w A s (PySem.W.dataKind s.heap ds) vs :=
  hk.elim (fun k => PySem.W.SortsAt.data e hal k hu) fun k => sorts_mix e hal k hu
theorem sorted_dataA {β : Type} {vs : List Value} {bs : List β} {enc : β → PyData} {R : Value → β → Prop} {l : Addr} {Q : Value → Shared → Prop} (hl : s.heap.IsList l vs.toArray) (e : PySem.W.EachIs R vs bs) (er : PySem.W.EachIs (fun v b => ∃ as, Reads s.heap v (enc b) as) vs bs) (hal : PySem.W.AllAlike (bs.map enc)) (hk : SoK (bs.map enc)) (hL : bs.length ≤ sizeLine)
    (hu : ∀ b, b ∈ bs → A.units + 2 + (enc b).depth < cLine) (h : ∀ out, out.length = bs.length → PySem.W.EachIs R out (bs.mergeSort (PySem.W.dataLe false enc)) → Q (.ref (s.heap.objs.size + 1)) { s with heap := sortedAll s.heap vs (List.toArray out) }) :
    wpAny (model prog w) A (call (.builtin "sorted") [.ref l]) Q E s := by
  have er' : PySem.W.EachIs (fun v b => ∃ as, Reads (PySem.W.sortingHeap (PySem.W.copyHeap s.heap vs) (s.heap.objs.size + 1) vs) v (enc b) as) vs bs := er.mono fun _ _ ⟨as, r⟩ => ⟨as, PyProof.Rows.Reads.keeps (fun _ _ => PySem.W.sorting_copy_old) r⟩
  exact PySem.W.sorted_vals hl (sorts_any (s := { s with heap := PySem.W.sortingHeap (PySem.W.copyHeap s.heap vs) (s.heap.objs.size + 1) vs }) (PySem.W.each_map (R := fun v d => ∃ as, Reads (PySem.W.sortingHeap (PySem.W.copyHeap s.heap vs) (s.heap.objs.size + 1) vs) v d as) enc er') hal hk (PySem.W.bound_map hu)) (by rw [e.length]; exact hL)
    (h _ (by rw [PySem.W.sortVals_length false rfl]; exact e.length) (PySem.W.sortVals_data false e er' hal))
end
/-! ### sorted of a tuple: as of a list -/
section
variable {prog : Program} {w : World} {A : Around} {E : Value → Shared → Prop} {s : Shared}
theorem collect_tup {l : Addr} {vs : List Value} {Q : List Value → Shared → Prop} (hl : s.heap.IsTuple l vs.toArray)
    (h : Q vs { s with heap := (s.heap.push (seqObj "list" #[] 0)).update s.heap.objs.size (Obj.mapSeq (· ++ vs.toArray)) }) (hsz : vs.length ≤ sizeLine) :
    wpAny (model prog w) A (collect (.ref l)) Q E s := by
  obtain ⟨o, ho, hc, n, hd⟩ := id hl
  unfold collect
  refine wpAny_bind (wpAny_runValue (codeAny_builtin entry_proto_collect' ?_))
  show wpAny _ _ (do again (.builtin "list.__iadd__" ⟨[← newList [], .ref l], []⟩)) _ _ s
  refine wpAny_bind (wpAny_newList (wpAny_pure ⟨Code.quiet_builtin _ (by decide +kernel), codeAny_builtin entry_list_iadd' ?_⟩))
  show wpAny _ _ (Builtin.List.listExtendWith (.ref s.heap.objs.size) (.ref l) (.ref s.heap.objs.size)) _ _ { s with heap := s.heap.push (seqObj "list" #[] 0) }
  unfold Builtin.List.listExtendWith
  have ho' : (s.heap.push (seqObj "list" #[] 0)).get? l = some o := Heap.get?_push_of_some _ ho
  refine wpAny_bind (wpAny_typeOf (T := "tuple") ⟨o, ho', hc⟩ ?_)
  rw [if_pos (by rw [show (Value.type "tuple" == Value.type "tuple") = true from rfl, Bool.or_true])]
  refine wpAny_bind (listItems_at ho' hd ?_)
  refine wpAny_bind (listItems_at (xs := #[]) (n := 0) (Heap.get?_push_size _ rfl) rfl ?_)
  rw [if_neg (by simp)]
  refine wpAny_bind (listUpdate_at (xs := #[]) (n := 0) (Heap.get?_push_size _ rfl) rfl ?_ (Nat.zero_le _) (by show (#[] ++ vs.toArray).size ≤ sizeLine + 1; simp only [Array.size_append, List.size_toArray, List.length_nil]; omega))
  refine wpAny_pure ?_
  show wpAny (model prog w) A (do
      let o ← load s.heap.objs.size
      match o.data with
      | .seq xs _ => pure xs.toList
      | _ => unsupported "internal:collect") Q E { s with heap := (s.heap.push (seqObj "list" #[] 0)).update s.heap.objs.size (Obj.mapSeq (· ++ vs.toArray)) }
  refine wpAny_bind (wpAny_load (get?_update_seq (Heap.get?_push_size _ rfl) _) ?_)
  show wpAny _ _ (pure ((#[] : Array Value) ++ vs.toArray).toList) Q E _
  rw [show ((#[] : Array Value) ++ vs.toArray).toList = vs by simp]
  exact wpAny_pure h
theorem sorted_tupG {l : Addr} {vs : List Value} {Q : Value → Shared → Prop} (hl : s.heap.IsTuple l vs.toArray) (hL : vs.length ≤ sizeLine)
    (body : ∀ E' : Value → Shared → Prop, wpAny (model prog w) A.in1.in1 (Builtin.«list.sort» ⟨[.ref (s.heap.objs.size + 1)], []⟩) (fun f s' => f = .done (.ret .none) ∧ Q (.ref (s.heap.objs.size + 1)) s') E' { s with heap := PySem.W.copyHeap s.heap vs }) :
    wpAny (model prog w) A (call (.builtin "sorted") [.ref l]) Q E s := by
  refine PySem.Calls.call_function_entry kind_sorted plain_sorted entry_sorted (args_sorted1 _) ?_
  unfold Builtin.«sorted»
  refine wpAny_bind (m := checkCount "sorted" 1 1 _) (wpAny_pure ?_)
  refine wpAny_bind (collect_tup hl ?_ hL)
  refine wpAny_bind (wpAny_newList ?_ hL)
  have hz : ((s.heap.push (seqObj "list" #[] 0)).update s.heap.objs.size (Obj.mapSeq (· ++ vs.toArray))).objs.size = s.heap.objs.size + 1 := by
    rw [Heap.size_update, PyProof.Rows.size_push']
  show wpAny _ _ _ _ _ { s with heap := PySem.W.copyHeap s.heap vs }
  rw [hz]
  refine wpAny_bind (wpAny_holding (wpAny_call_entry slot_list_sort ⟨_, PySem.W.copyHeap_at s.heap vs, rfl⟩ entry_list_sort ?_ (args_list_sort _)))
  refine wpAny_mono (body _) (fun f s' hf => ?_) fun _ _ e => e
  obtain ⟨rfl, hq⟩ := hf
  exact ⟨_, rfl, wpAny_pure ⟨_, rfl, hq⟩⟩
theorem sorted_tupD {β : Type} {vs : List Value} {bs : List β} {enc : β → PyData} {R : Value → β → Prop} {l : Addr} {Q : Value → Shared → Prop} (hl : s.heap.IsTuple l vs.toArray) (e : PySem.W.EachIs R vs bs) (er : PySem.W.EachIs (fun v b => ∃ as, Reads s.heap v (enc b) as) vs bs) (hal : PySem.W.AllAlike (bs.map enc)) (hk : SoK (bs.map enc)) (hL : bs.length ≤ sizeLine)
    (hu : ∀ b, b ∈ bs → A.units + 2 + (enc b).depth < cLine) (h : ∀ out, out.length = bs.length → PySem.W.EachIs R out (bs.mergeSort (PySem.W.dataLe false enc)) → Q (.ref (s.heap.objs.size + 1)) { s with heap := sortedAll s.heap vs (List.toArray out) }) :
    wpAny (model prog w) A (call (.builtin "sorted") [.ref l]) Q E s := by
  have hv : vs.length ≤ sizeLine := by rw [e.length]; exact hL
  have er' : PySem.W.EachIs (fun v b => ∃ as, Reads (PySem.W.sortingHeap (PySem.W.copyHeap s.heap vs) (s.heap.objs.size + 1) vs) v (enc b) as) vs bs := er.mono fun _ _ ⟨as, r⟩ => ⟨as, PyProof.Rows.Reads.keeps (fun _ _ => PySem.W.sorting_copy_old) r⟩
  refine sorted_tupG hl hv fun E' => PySem.W.list_sort_vals (s := { s with heap := PySem.W.copyHeap s.heap vs }) (PySem.W.copyHeap_at s.heap vs)
    (sorts_any (s := { s with heap := PySem.W.sortingHeap (PySem.W.copyHeap s.heap vs) (s.heap.objs.size + 1) vs }) (PySem.W.each_map (R := fun v d => ∃ as, Reads (PySem.W.sortingHeap (PySem.W.copyHeap s.heap vs) (s.heap.objs.size + 1) vs) v d as) enc er') hal hk (PySem.W.bound_map hu)) hv ⟨rfl, ?_⟩
  exact h _ (by rw [PySem.W.sortVals_length false rfl]; exact e.length) (PySem.W.sortVals_data false e er' hal)
end
/-! ### the rule -/
def rSort (K : PySem.W.Frag) : List V → Hp → VK → Prop := fun xs H Q => ∃ (a : Addr) (bs : List (V × PyData)), xs = [.ref a] ∧ (SqL K H a (bs.map (·.1)) ∨ SqT K H a (bs.map (·.1))) ∧ (∀ b ∈ bs, Dp K H b.1 b.2 ∧ b.2.depth ≤ 60) ∧ PySem.W.AllAlike (bs.map (·.2)) ∧ SoK (bs.map (·.2)) ∧
  ∀ p, H p = none → Q (.ref p) (upd H p (.lst ((bs.mergeSort (PySem.W.dataLe false (·.2))).map (·.1))))
theorem each_reads {X : Cx} {pins : List (Addr × Obj)} {σ : L2.St} {H : Hp} {s : Shared} (I : Inv X pins σ H s) : ∀ {bs : List (V × PyData)} {its : List Value}, (∀ b ∈ bs, Dp X.K H b.1 b.2 ∧ b.2.depth ≤ 60) → Vals (bs.map (·.1)) its →
    PySem.W.EachIs (fun v b => RelV b.1 v) its bs ∧ PySem.W.EachIs (fun v b => ∃ as, Reads s.heap v b.2 as) its bs
  | [], _, _, .nil => ⟨.nil, .nil⟩
  | b :: bs, _, h, .cons r rr => by
    obtain ⟨h1, h2⟩ := each_reads I (bs := bs) (fun b hb => h b (List.mem_cons_of_mem _ hb)) rr
    exact ⟨.cons r h1, .cons (Dp.reads I b.2 b.1 _ (h b List.mem_cons_self).1 r) h2⟩
theorem each_vals : ∀ {bs : List (V × PyData)} {its : List Value}, PySem.W.EachIs (fun v b => RelV b.1 v) its bs → Vals (bs.map (·.1)) its
  | _, _, .nil => .nil
  | _, _, .cons r rr => .cons r (each_vals rr)
theorem c_sorted {X : Cx} (hu : X.A.units + 64 < cLine) : CallR X (.builtin "sorted") (rSort X.K) := by
  intro pins s σ H xs us Q I rv h
  obtain ⟨a, bs, rfl, hs, hd, hal, hk, q⟩ := h
  rw [Vals.ref1 rv]
  have fin : ∀ {its : List Value}, Vals (bs.map (·.1)) its → (bs.map (·.1)).length ≤ sizeLine → ∀ out : List Value, out.length = bs.length → PySem.W.EachIs (fun v (b : V × PyData) => RelV b.1 v) out (bs.mergeSort (PySem.W.dataLe false (·.2))) → EP X pins σ Q (.ref (s.heap.objs.size + 1)) { s with heap := sortedAll s.heap its (List.toArray out) } := fun {its} r hz out hl he => by
    obtain ⟨ep, he'⟩ := PyProof.Rows.sortedAll_at s.heap its out.toArray
    refine ⟨.ref _, upd H (s.heap.objs.size + 1) (.lst ((bs.mergeSort (PySem.W.dataLe false (·.2))).map (·.1))), I.laid (t' := s.toks) (fun _ _ => PyProof.Rows.sortedAll_old) (Nat.le_succ _) ⟨?_, out, ep, each_vals he, he'⟩, rfl, q _ (I.hok.fresh (Nat.le_succ _))⟩
    rw [List.length_map, List.length_mergeSort]
    rwa [List.length_map] at hz
  rcases hs with hs | hs
  · obtain ⟨its, r, pl, hz⟩ := I.list hs
    obtain ⟨e1, e2⟩ := each_reads I hd r
    exact sorted_dataA pl.isList e1 e2 hal hk (by rwa [List.length_map] at hz) (fun b hb => by have := (hd b hb).2; omega) (fin r hz)
  · obtain ⟨its, r, pl, hz⟩ := I.tuple hs
    obtain ⟨e1, e2⟩ := each_reads I hd r
    exact sorted_tupD pl e1 e2 hal hk (by rwa [List.length_map] at hz) (fun b hb => by have := (hd b hb).2; omega) (fin r hz)
/-! ### what it computes -/
def alikeB (ds : List PyData) : Bool := ds.all fun d => ds.all fun e => PySem.W.alike d e
def sortB (ds : List PyData) : Bool := (ds.all fun d => match d with
  | .tuple (_ :: _) => true
  | _ => false) || (ds.all fun d => match d with
  | .none => false
  | .tuple _ => false
  | _ => true) || ((ds.all fun d => match d with
  | .tuple _ => true
  | _ => false) && ds.any fun d => match d with
  | .tuple [] => true
  | _ => false)
def keyD (h : Hs) (xs : List D) : Option (List (D × PyData)) := optAll (fun d => (toPy h 60 d).map fun p => (d, p)) xs
def okSort (bs : List (D × PyData)) : Bool := alikeB (bs.map (·.2)) && (sortB (bs.map (·.2)) && bs.all fun b => decide (b.2.depth ≤ 60))
def sortN (xs : List D) : M (List D) := fun h => match xs with
  | [x] => (match (seqOf h x).bind (keyD h) with
    | some bs => if okSort bs then .ok ((bs.mergeSort (PySem.W.dataLe false (·.2))).map (·.1)) h else .bad
    | none => .bad)
  | _ => .bad
theorem sortB_ok {ds : List PyData} (h : sortB ds = true) : SoK ds := by
  rcases Bool.or_eq_true_iff.mp h with h | h
  · rcases Bool.or_eq_true_iff.mp h with h | h
    · refine .inl (.inl fun d hd => ?_)
      have z := List.all_eq_true.mp h d hd
      split at z
      · exact ⟨_, _, rfl⟩
      · cases z
    · refine .inl (.inr fun d hd => ?_)
      have z := List.all_eq_true.mp h d hd
      split at z
      · cases z
      · cases z
      · rename_i n1 n2
        exact ⟨n1, n2⟩
  · obtain ⟨h1, h2⟩ := Bool.and_eq_true_iff.mp h
    refine .inr ⟨fun d hd => ?_, ?_⟩
    · have z := List.all_eq_true.mp h1 d hd
      split at z
      · exact ⟨_, rfl⟩
      · cases z
    · obtain ⟨d, hd, z⟩ := List.any_eq_true.mp h2
      split at z
      · exact hd
      · cases z
section
variable {K : PySem.W.Frag} {ι : Ix} {H : Hp} {h : Hs}
/-- the three together -/
theorem keyD_ok (R : Rel K ι h H) : ∀ {xs : List D} {vs : List V} {bs : List (D × PyData)}, RDs K ι H xs vs → keyD h xs = some bs → ∃ ts : List (D × V × PyData), ts.map (fun t => (t.1, t.2.2)) = bs ∧ ts.map (·.2.1) = vs ∧ ∀ t ∈ ts, RD K ι H t.1 t.2.1 ∧ Dp K H t.2.1 t.2.2
  | [], _, _, .nil, e => by cases e; exact ⟨[], rfl, rfl, fun t h => nomatch h⟩
  | x :: xs, _, bs, .cons r rr, e => by
    unfold keyD optAll at e
    split at e
    · rename_i y ys e1 e2
      cases e
      obtain ⟨p, e3, e4⟩ := Option.map_eq_some_iff.mp e1
      subst e4
      obtain ⟨ts, h1, h2, h3⟩ := keyD_ok R rr (show keyD h xs = some ys from e2)
      refine ⟨(x, _, p) :: ts, by rw [List.map_cons, h1], by rw [List.map_cons, h2], fun t ht => ?_⟩
      rcases List.mem_cons.mp ht with z | z
      · subst z
        exact ⟨r, toPy_ok R _ _ _ _ r e3⟩
      · exact h3 t z
    · cases e
theorem rds_map : ∀ {ts : List (D × V × PyData)}, (∀ t ∈ ts, RD K ι H t.1 t.2.1) → RDs K ι H (ts.map (·.1)) (ts.map (·.2.1))
  | [], _ => .nil
  | t :: ts, h => .cons (h t List.mem_cons_self) (rds_map fun t ht => h t (List.mem_cons_of_mem _ ht))
end
theorem o_sorted {X : Cx} : OpF X (rSort X.K) sortN := by
  intro ι h H xs vs ιb Hb W Q e R rs p
  unfold sortN at p
  split at p
  · obtain ⟨v, rfl, r⟩ := rs.one
    split at p
    · rename_i bs e1
      obtain ⟨c, p⟩ := p.guard
      obtain ⟨ys, e2, e3⟩ := Option.bind_eq_some_iff.mp e1
      obtain ⟨a, us, rfl, q, ru⟩ := seqOf_ok R r e2
      obtain ⟨ts, h1, h2, h3⟩ := keyD_ok R ru e3
      obtain ⟨c1, c⟩ := He.ba c
      obtain ⟨c2, c3⟩ := He.ba c
      have k2 : bs.map (·.2) = (ts.map fun t => (t.2.1, t.2.2)).map (·.2) := by rw [← h1, List.map_map, List.map_map]; rfl
      have k1 : us = (ts.map fun t => (t.2.1, t.2.2)).map (·.1) := by rw [← h2, List.map_map]; rfl
      have s1 : bs.mergeSort (PySem.W.dataLe false (·.2)) = (ts.mergeSort (PySem.W.dataLe false fun t => t.2.2)).map fun t => (t.1, t.2.2) := by
        rw [← h1]
        exact (List.map_mergeSort (f := fun t : D × V × PyData => (t.1, t.2.2)) (r := PySem.W.dataLe false fun t => t.2.2) (s := PySem.W.dataLe false (·.2)) fun _ _ _ _ => rfl).symm
      have s2 : (ts.map fun t => (t.2.1, t.2.2)).mergeSort (PySem.W.dataLe false (·.2)) = (ts.mergeSort (PySem.W.dataLe false fun t => t.2.2)).map fun t => (t.2.1, t.2.2) :=
        (List.map_mergeSort (f := fun t : D × V × PyData => (t.2.1, t.2.2)) (r := PySem.W.dataLe false fun t => t.2.2) (s := PySem.W.dataLe false (·.2)) fun _ _ _ _ => rfl).symm
      refine ⟨a, ts.map fun t => (t.2.1, t.2.2), rfl, by rw [← k1]; exact q, fun b hb => ?_, fun d hd d' hd' => ?_, by rw [← k2]; exact sortB_ok c2, fun l hl => ?_⟩
      · obtain ⟨t, ht, rfl⟩ := List.mem_map.mp hb
        refine ⟨(h3 t ht).2, ?_⟩
        have z := List.all_eq_true.mp c3 (t.1, t.2.2) (by rw [← h1]; exact List.mem_map.mpr ⟨t, ht, rfl⟩)
        exact of_decide_eq_true z
      · rw [← k2] at hd hd'
        exact List.all_eq_true.mp (List.all_eq_true.mp c1 d hd) d' hd'
      · rw [s2, List.map_map]
        rw [s1, List.map_map] at p
        have pm := List.mergeSort_perm ts (PySem.W.dataLe false fun t => t.2.2)
        exact p.new e R (rds_map fun t ht => (h3 t (pm.mem_iff.mp ht)).1) hl
    · exact p.elim
  · exact p.elim
/-! ### by insertion -/
def insO {α : Type} (le : α → α → Bool) (a : α) : List α → List α
  | [] => [a]
  | b :: l => if le a b then a :: b :: l else b :: insO le a l
def isort {α : Type} (le : α → α → Bool) : List α → List α
  | [] => []
  | a :: l => insO le a (isort le l)
theorem insO_at {α : Type} {le : α → α → Bool} {a : α} : ∀ {l₁ l₂ : List α}, (∀ b ∈ l₁, le a b = false) → (∀ b, l₂.head? = some b → le a b = true) → insO le a (l₁ ++ l₂) = l₁ ++ a :: l₂
  | [], [], _, _ => rfl
  | [], b :: l, _, h => by
    show (if le a b then a :: b :: l else b :: insO le a l) = _
    rw [if_pos (h b rfl)]
    rfl
  | b :: l, l₂, h1, h2 => by
    show (if le a b then a :: b :: (l ++ l₂) else b :: insO le a (l ++ l₂)) = _
    rw [if_neg (by rw [h1 b List.mem_cons_self]; exact Bool.false_ne_true), insO_at (fun c hc => h1 c (List.mem_cons_of_mem _ hc)) h2]
    rfl
theorem isort_eq {α : Type} {le : α → α → Bool} (tr : ∀ a b c, le a b = true → le b c = true → le a c = true) (to : ∀ a b, (le a b || le b a) = true) : ∀ l : List α, l.mergeSort le = isort le l
  | [] => by simp [isort]
  | a :: l => by
    obtain ⟨l₁, l₂, e1, e2, e3⟩ := List.mergeSort_cons tr to a l
    have ih := isort_eq tr to l
    rw [e1]
    show _ = insO le a (isort le l)
    rw [← ih, e2]
    refine (insO_at (fun b hb => by simpa using e3 b hb) fun b hb => ?_).symm
    have pw : (l₁ ++ a :: l₂).Pairwise (fun x y => le x y = true) := by
      rw [← e1]
      exact List.pairwise_mergeSort tr to (a :: l)
    have p2 := (List.pairwise_append.mp pw).2.1
    cases l₂ with
    | nil => cases hb
    | cons c l₂ =>
      cases hb
      exact (List.pairwise_cons.mp p2).1 _ List.mem_cons_self
theorem dataLe_sort {β : Type} (k : β → PyData) (l : List β) : l.mergeSort (PySem.W.dataLe false k) = isort (PySem.W.dataLe false k) l :=
  isort_eq (PySem.W.sortLe_total _ _ _).trans (fun a b => Bool.or_eq_true_iff.mpr ((PySem.W.sortLe_total _ _ _).total a b)) l
end Dl

/-! The D layer, 18: enumerate of a tuple or a list. -/
namespace PySem
open Sem (wp)
open AutoSeq1 (wpAny_loadPart')
set_option maxHeartbeats 1000000 in
theorem meets_enumerate_newB1 {v : Value} {o : Obj} {H : Heap → Prop} (B : Begins v o H) :
    Meets (Builtin.«enumerate.__new__» ⟨[.type "enumerate", v], []⟩) (fun _ R s => H s.heap ∧
      R (.ok (.ret (.ref (s.heap.push o).objs.size))) { s with heap := (s.heap.push o).push { cls := .type "enumerate", data := .fields #[.none, .bool false, .ref s.heap.objs.size, rawInt 0, .none, .none] } }) :=
  .of_wp fun prog w A R s h => by
    obtain ⟨hp, g, d, tk, os⟩ := s; obtain ⟨h1, h⟩ := h
    have hsub := sub_enumerate
    have q1 : ∀ {A' : Around} {E : Value → Shared → Prop} {Q : Value → Shared → Prop}, Q (.ref hp.objs.size) ⟨hp.push o, g, d, tk, os⟩ → wpAny (model prog w) A' (pyIter v) Q E ⟨hp, g, d, tk, os⟩ :=
      fun q => B.iter prog w _ _ ⟨hp, g, d, tk, os⟩ _ h1 q
    wp_walk using q1
    refine wpAny_stack_any fun st => wpAny_pure ?_
    split
    · rename_i c _ _ _ _ _
      cases (c == Value.type "enumerate")
      · wp_walk using q1
        exact ⟨_, rfl, h⟩
      · wp_walk using q1
        exact ⟨_, rfl, h⟩
    · wp_walk using q1
      exact ⟨_, rfl, h⟩
theorem call_enumerate_B {prog : Program} {w : World} {A : Around} {E : Value → Shared → Prop} {s : Shared} {v : Value} {o : Obj} {H : Heap → Prop} {Q : Value → Shared → Prop} (B : Begins v o H) (h1 : H s.heap)
    (h : ∀ h', IsEnum h' (s.heap.objs.size + 1) s.heap.objs.size 0 .none → h'.get? s.heap.objs.size = some o → h'.objs.size = s.heap.objs.size + 2 →
      (∀ b o, s.heap.get? b = some o → h'.get? b = some o) → Q (.ref (s.heap.objs.size + 1)) { s with heap := h' }) :
    wpAny (model prog w) A (call (.type "enumerate") [v]) Q E s := by
  refine callType_new F.called_enumerate (by decide) (F.typeCall_enumerate_1 _) (F.newCall_enumerate_1 _) (fun obj => F.args_object_init_2 obj _) F.entry_enumerate_new
    (meets_enumerate_newB1 B) ⟨h1, ?_⟩
  have hz : (s.heap.push o).objs.size = s.heap.objs.size + 1 := Heap.size_push ..
  show _ ∧ _
  rw [hz]
  have he : IsEnum ((s.heap.push o).push { cls := .type "enumerate", data := .fields #[.none, .bool false, .ref s.heap.objs.size, rawInt 0, .none, .none] }) (s.heap.objs.size + 1) s.heap.objs.size 0 .none := by
    have := Heap.get?_push_size (s.heap.push o) (o := { cls := .type "enumerate", data := .fields #[.none, .bool false, .ref s.heap.objs.size, rawInt 0, .none, .none] }) rfl
    rw [hz] at this; exact this
  refine ⟨⟨_, he, rfl⟩, h _ he (Heap.get?_push_of_some _ (Heap.get?_push_size _ B.free)) (by rw [Heap.size_push, hz]) fun b o x => Heap.get?_push_of_some _ (Heap.get?_push_of_some _ x)⟩
end PySem
namespace Dl
open PySem PySem.Spec PyProof.Rows L2
def IteT (K : PySem.W.Frag) (a : Addr) : It :=
  ⟨fun i H => ∃ (xs : List V) (x : V), SqT K H a xs ∧ xs[i]? = some x, fun i H v H' => ∃ T x, v = .ref T ∧ H T = none ∧ H' = upd H T (.tup [.int (i : Nat), x]) ∧ ∀ xs, SqT K H a xs → xs[i]? = some x, fun i H => ∃ xs : List V, SqT K H a xs ∧ xs.length ≤ i⟩
theorem turn_enumT {P : Program} {w : World} {K : PySem.W.Frag} {elts : List Expr} {kk : Nat} {tpos : Pos} (a e it : Addr) :
    Turn P w K (.Tuple elts kk tpos) (IteT K a) [e, it] e (fun i h => (∃ old, IsEnum h e it ((i : Nat) : Int) old) ∧ h.IsTupleIter it a i ∧ e ≠ it ∧ e ≠ a ∧ a ≠ it) where
  mem := by simp
  obj := fun i h st b hb => by
    obtain ⟨⟨old, he⟩, ⟨o, ho, hc, hd⟩, _⟩ := st
    have e' : b = e ∨ b = it := by simpa using hb
    rcases e' with z | z
    · rw [z]; exact ⟨_, he, fun v q => nomatch q⟩
    · rw [z]; exact ⟨o, ho, fun v q => by rw [hd] at q; cases q⟩
  keep := fun i h h' st k => let ⟨⟨old, he⟩, hi, hne⟩ := st; ⟨⟨old, k e (by simp) _ he⟩, hi.at fun o q => k it (by simp) o q, hne⟩
  item := by
    intro X hP hw hK hc i pins s σ H E I hf st hg
    subst hP hw hK
    obtain ⟨⟨old, he⟩, hit, hne, hea, hai⟩ := st
    obtain ⟨xs, x, hq, hx⟩ := hg
    obtain ⟨its, rv, p, hz⟩ := I.tuple hq
    obtain ⟨u, hu, ru⟩ := rv.get hx
    have hel : e < s.heap.objs.size := Heap.lt_size he
    have hil : it < s.heap.objs.size := by obtain ⟨_, q, _⟩ := hit; exact Heap.lt_size q
    have hlt : i < its.toArray.size := by
      rw [List.size_toArray]
      exact (List.getElem?_eq_some_iff.mp hu).1
    have pT : s.heap.IsTuple a its.toArray := p
    refine wpAny_pyNext_enum_itemC (fp := [it, a]) (c := ((i : Nat) : Int)) (Draws.tuple (A := X.A.in1) (show X.A.in1.handled = none from I.ok.hd hc) it a hai its.toArray) he ⟨hit, pT⟩ hlt hne (by simp [hne, hea]) fun x' h' tk hx' ho st' hT hsz hk => ?_
    obtain ⟨hit', _⟩ := st'
    have hxe : x' = u := by
      have : its.toArray[i]? = some u := by simpa using hu
      rw [this] at hx'
      exact (Option.some.inj hx').symm
    subst hxe
    refine ⟨_, rfl, wpAny_letOwnedTupleGo_enum (s := { s with heap := h', toks := tk + 1 }) ho fun h'' he' sb => ?_⟩
    have hT2 : h''.get? s.heap.objs.size = some { cls := .type "tuple", data := .seq #[.int i tk, x'] } := (sb.2 _ (Nat.ne_of_gt hel)).trans hT
    have new : ObjOk X.prog X.w (upd H s.heap.objs.size (.tup [.int (i : Nat), x])) h'' s.heap.objs.size (.tup [.int (i : Nat), x]) :=
      ⟨by show 2 ≤ sizeLine; decide, [.int i tk, x'], .cons ⟨_, rfl⟩ (.cons ru .nil), ⟨_, hT2, rfl, _, rfl⟩⟩
    have I1 : Inv X pins σ (upd H s.heap.objs.size (.tup [.int (i : Nat), x])) { s with heap := h'', toks := tk + 1 } :=
      I.turnedNew (ch := [e, it]) (fun b ob hb q => (sb.2 b (fun z => hb (by simp [z]))).trans (hk b ob (fun z => hb (by simp [z])) (fun z => hb (by simp [z])) q)) hf (Nat.le_refl _) new
    refine ⟨.ref s.heap.objs.size, _, I1, rfl, ⟨_, x, rfl, I.hok.fresh (Nat.le_refl _), rfl, fun ys hy => by rw [I.tuple_inj hy hq]; exact hx⟩, ⟨⟨x', ?_⟩, hit'.at fun o q => (sb.2 it (Ne.symm hne)).trans q, hne, hea, hai⟩, fun b hb => ?_⟩
    · have e1 : ((i + 1 : Nat) : Int) = (i : Int) + 1 := by omega
      rw [e1]; exact he'
    · have hb' : b < s.heap.objs.size := by
        have e' : b = e ∨ b = it := by simpa using hb
        rcases e' with z | z
        · rw [z]; exact hel
        · rw [z]; exact hil
      rw [upd_ne (Nat.ne_of_lt hb')]
      exact (hf b hb).1
  done := by
    intro X hP hw hK hc i pins s σ H E I hf st hg
    subst hP hw hK
    obtain ⟨⟨old, he⟩, hit, hne, hea, hai⟩ := st
    obtain ⟨xs, hq, hx⟩ := hg
    obtain ⟨its, rv, p, hz⟩ := I.tuple hq
    obtain ⟨f0, f1, f2, f3, f4, f5⟩ := hf it (by simp)
    have hl := rv.length
    have pT : s.heap.IsTuple a its.toArray := p
    have hT : s.TypeIs (.ref e) "enumerate" := ⟨_, he, rfl⟩
    unfold pyNext
    refine wpAny_bind (wpAny_attempt (wpAny_callSpecial?_slot (name := Str.ofString "__next__") hT F.slot_enumerate_next
      (wpAny_call_entry F.slot_enumerate_next hT F.entry_enumerate_next ?_ (F.args_enumerate_next_1 _))))
    show wpAny _ _ (field (.ref e) 2 >>= _) _ _ _
    refine wpAny_bind (wpAny_field he rfl (x := .ref it) rfl ?_)
    refine wpAny_bind (wpAny_nextOf_tuple_end (I.ok.hd hc) hit pT (by simp; omega) fun h' x he' hx' => ?_)
    obtain ⟨o, ho, hc'⟩ := hx'
    refine wpAny_bind (wpAny_isInstance (T := "StopIteration") (b := true) ⟨o, ho, hc'⟩ isSubtype_stop ?_)
    exact wpAny_pure ⟨rfl, I.turned (t' := s.toks) (fun b o hb q => he' b o hb q) f0 f1 f3 f4 f5⟩
  self := fun A i s Q E st h => let ⟨⟨_, he⟩, _⟩ := st; wpAny_pyIter_enum he h
def iEnumA (K : PySem.W.Frag) (ta : TA) : TI := fun σ H R => ta σ H fun vs H1 => ∃ a, vs = [.ref a] ∧ (((∃ xs, SqL K H1 a xs) ∧ R (Ite K a) H1) ∨ ((∃ xs, SqT K H1 a xs) ∧ R (IteT K a) H1))
theorem pi_enumA {X : Cx} {e : Expr} {ta : TA} {p pos tpos : Pos} {elts : List Expr} {kk : Nat} (hg : Gl X "enumerate") (hm : X.mg "enumerate" = none) (ha : PA X [e] ta) (hs : starEach [e] X.env = [(false, eval e X.env)] := by rfl) :
    PI X (.Tuple elts kk tpos) (.Call (.Name "enumerate" p) [e] [] pos) (iEnumA X.K ta) := by
  refine ⟨fun pins s σ H R I h => ?_⟩
  refine Call_ (ld_blt I hg hm boot_enumerate (PyProof.Rows.callWith_type1 (thn (ha.run pos pins s σ H _ I h) fun us s1 ⟨vs, H1, I1, r1, q1⟩ => ?_) hs rfl))
  obtain ⟨a, ex, q⟩ := q1
  subst ex
  cases r1 with
  | cons r rr =>
    cases rr
    cases r
    have fpn : ∀ b ∈ [s1.heap.objs.size + 1, s1.heap.objs.size], FpOk X pins H1 b := fun b hb => by
      have e' : b = s1.heap.objs.size + 1 ∨ b = s1.heap.objs.size := by simpa using hb
      have hle : s1.heap.objs.size ≤ b := by
        rcases e' with z | z
        · rw [z]; exact Nat.le_add_right _ _
        · rw [z]; exact Nat.le_refl _
      exact I1.fpOk hle (I1.hok.fresh hle)
    rcases q with ⟨⟨xs, hq⟩, q⟩ | ⟨⟨xs, hq⟩, q⟩
    · obtain ⟨its, rv, p', hz⟩ := I1.list hq
      refine call_enumerate_list p'.isList fun h' he hit hsz hk => wpAny_pyIter_enum he ?_
      have I2 : Inv X pins σ H1 { s1 with heap := h' } := I1.kept (t' := s1.toks) hk
      exact ⟨s1.heap.objs.size + 1, [s1.heap.objs.size + 1, s1.heap.objs.size], _, _, H1, rfl, I2, turn_enum a (s1.heap.objs.size + 1) s1.heap.objs.size, ⟨⟨.none, he⟩, hit, Nat.succ_ne_self _⟩, fpn, q⟩
    · obtain ⟨its, rv, p', hz⟩ := I1.tuple hq
      have pT : s1.heap.IsTuple a its.toArray := p'
      have hal : a < s1.heap.objs.size := by obtain ⟨_, q, _⟩ := pT; exact Heap.lt_size q
      refine call_enumerate_B (begins_tuple a its.toArray) pT fun h' he hit hsz hk => wpAny_pyIter_enum he ?_
      have I2 : Inv X pins σ H1 { s1 with heap := h' } := I1.kept (t' := s1.toks) hk
      exact ⟨s1.heap.objs.size + 1, [s1.heap.objs.size + 1, s1.heap.objs.size], _, _, H1, rfl, I2, turn_enumT a (s1.heap.objs.size + 1) s1.heap.objs.size, ⟨⟨.none, he⟩, ⟨_, hit, rfl, rfl⟩, Nat.succ_ne_self _, fun z => absurd (z ▸ hal) (Nat.not_lt.mpr (Nat.le_add_right _ _)), fun z => absurd (z ▸ hal) (Nat.lt_irrefl _)⟩, fpn, q⟩
section
variable {K : PySem.W.Frag} {ι : Ix} {H : Hp} {h : Hs}
theorem walk_enumTN {a : Addr} {n : Nat} : Walk (IteT K a) n (fun H => ∃ vs, SqT K H a vs ∧ vs.length = n) (fun i H v H' => ∃ T x y, v = .ref T ∧ H T = none ∧ H' = upd H T (.tup [x, y]) ∧ x = .int (i : Nat) ∧ ∀ ys, SqT K H a ys → ys[i]? = some y) := by
  refine ⟨fun i _ hi ⟨vs, q, e⟩ => ⟨vs, vs[i], q, by simp [e, hi]⟩, fun _ ⟨vs, q, e⟩ => ⟨vs, q, by omega⟩, fun i H v H' _ _ y => ?_⟩
  obtain ⟨T, x, h1, h2, h3, h4⟩ := y
  exact ⟨T, .int (i : Nat), x, h1, h2, h3, rfl, h4⟩
def iEnumD (cs : Env → M (List D)) : Env → M ItD := fun ρ h => (cs ρ h).bind fun ds h1 => match ds with
  | [x] => (match itOf h1 x with
    | some it => if okG it.gs h1 then .ok ⟨enumD 0 it.items, it.gs⟩ h1 else .bad
    | none => .bad)
  | _ => .bad
variable {X : Cx} {W : WX} {pos : Pos} {cs : Env → M (List D)}
theorem di_enumA {a : Expr} {p tpos : Pos} {elts : List Expr} {kk : Nat} (hg : Gl X "enumerate") (hm : X.mg "enumerate" = none) (ha : DA X W [a] cs) (hs : starEach [a] X.env = [(false, eval a X.env)] := by rfl) : DI X W (.Tuple elts kk tpos) (.Call (.Name "enumerate" p) [a] [] pos) (iEnumD cs) := pi_imp (pi_enumA hg hm ha hs) fun σ H Q ⟨ι, h, ρ, R, S, p⟩ => by
  refine ⟨ι, h, ρ, R, S, Post.imp (Post.bind p) fun vs H1 ⟨ι1, h1, ds, x1, R1, r1, p1⟩ => ?_⟩
  split at p1
  · rename_i x
    split at p1
    · rename_i it e
      obtain ⟨g, p1⟩ := p1.guard
      cases r1 with
      | cons r rr =>
        cases rr
        cases ex : isT x with
        | false =>
          obtain ⟨a, rfl, f⟩ := itOf_L r e ex
          obtain ⟨vs, q, _⟩ := f ι1 H1 h1 (Ext.refl.up) R1 g
          refine ⟨a, rfl, .inl ⟨⟨vs, q⟩, p1.ok R1 (ri_pair (walk_enumN (n := (enumD 0 it.items).length)) (fun ι' H' h' u R g => ?_) fun i ι' H' h' y z hi u R g hy hz => ?_)⟩⟩
          · obtain ⟨vs, q, r⟩ := f ι' H' h' u R g
            exact ⟨vs, q, by rw [enumD_len]; exact r.length.symm⟩
          · obtain ⟨vs, q, r⟩ := f ι' H' h' u R g
            obtain ⟨d, e1, e2⟩ := r.getV (hz vs q)
            refine ⟨_, d, enumD_at _ _ _ _ e1, ?_, e2⟩
            rw [hy, Nat.zero_add]
            exact .int _
        | true =>
          obtain ⟨a, rfl, f⟩ := itOf_T r e ex
          obtain ⟨vs, q, _⟩ := f ι1 H1 h1 (Ext.refl.up) R1 g
          refine ⟨a, rfl, .inr ⟨⟨vs, q⟩, p1.ok R1 (ri_pair (walk_enumTN (n := (enumD 0 it.items).length)) (fun ι' H' h' u R g => ?_) fun i ι' H' h' y z hi u R g hy hz => ?_)⟩⟩
          · obtain ⟨vs, q, r⟩ := f ι' H' h' u R g
            exact ⟨vs, q, by rw [enumD_len]; exact r.length.symm⟩
          · obtain ⟨vs, q, r⟩ := f ι' H' h' u R g
            obtain ⟨d, e1, e2⟩ := r.getV (hz vs q)
            refine ⟨_, d, enumD_at _ _ _ _ e1, ?_, e2⟩
            rw [hy, Nat.zero_add]
            exact .int _
    · exact p1.elim
  · exact p1.elim
end
end Dl

/-! The D layer, 19: sorted(set(a list of ints)). -/
namespace Dl
open PySem PySem.Spec PyProof.Rows L2

/-! ### the ints of a list, each once, rising -/
def insU (x : Int) : List Int → List Int
  | [] => [x]
  | y :: ys => if x < y then x :: y :: ys else if x = y then y :: ys else y :: insU x ys
def usort : List Int → List Int
  | [] => []
  | x :: xs => insU x (usort xs)
theorem insU_mem {x z : Int} : ∀ {ys : List Int}, z ∈ insU x ys ↔ z = x ∨ z ∈ ys
  | [] => by simp [insU]
  | y :: ys => by
    unfold insU
    split
    · simp
    · split
      · rename_i e
        subst e
        simp
      · rw [List.mem_cons, insU_mem (ys := ys), List.mem_cons]
        constructor
        · rintro (h | h | h)
          · exact .inr (.inl h)
          · exact .inl h
          · exact .inr (.inr h)
        · rintro (h | h | h)
          · exact .inr (.inl h)
          · exact .inl h
          · exact .inr (.inr h)
theorem insU_up {x : Int} : ∀ {ys : List Int}, ys.Pairwise (· < ·) → (insU x ys).Pairwise (· < ·)
  | [], _ => by simp [insU]
  | y :: ys, h => by
    obtain ⟨h1, h2⟩ := List.pairwise_cons.mp h
    unfold insU
    split
    · rename_i l
      refine List.pairwise_cons.mpr ⟨fun z hz => ?_, h⟩
      rcases List.mem_cons.mp hz with e | e
      · rw [e]; exact l
      · exact Int.lt_trans l (h1 z e)
    · split
      · exact h
      · rename_i l n
        refine List.pairwise_cons.mpr ⟨fun z hz => ?_, insU_up h2⟩
        rcases insU_mem.mp hz with e | e
        · rw [e]; omega
        · exact h1 z e
theorem usort_mem {z : Int} : ∀ {xs : List Int}, z ∈ usort xs ↔ z ∈ xs
  | [] => Iff.rfl
  | x :: xs => by
    unfold usort
    rw [insU_mem, usort_mem (xs := xs), List.mem_cons]
theorem usort_up : ∀ xs : List Int, (usort xs).Pairwise (· < ·)
  | [] => .nil
  | x :: xs => insU_up (usort_up xs)
/-- rising ones with the same members are one -/
theorem up_eq : ∀ {xs ys : List Int}, xs.Pairwise (· < ·) → ys.Pairwise (· < ·) → (∀ z, z ∈ xs ↔ z ∈ ys) → xs = ys
  | [], [], _, _, _ => rfl
  | [], y :: ys, _, _, h => by have := (h y).mpr List.mem_cons_self; simp at this
  | x :: xs, [], _, _, h => by have := (h x).mp List.mem_cons_self; simp at this
  | x :: xs, y :: ys, hx, hy, h => by
    obtain ⟨x1, x2⟩ := List.pairwise_cons.mp hx
    obtain ⟨y1, y2⟩ := List.pairwise_cons.mp hy
    have e : x = y := by
      rcases List.mem_cons.mp ((h x).mp List.mem_cons_self) with a | a
      · exact a
      · rcases List.mem_cons.mp ((h y).mpr List.mem_cons_self) with b | b
        · exact b.symm
        · have := y1 x a
          have := x1 y b
          omega
    subst e
    rw [up_eq x2 y2 fun z => ⟨fun m => ?_, fun m => ?_⟩]
    · rcases List.mem_cons.mp ((h z).mp (List.mem_cons_of_mem _ m)) with b | b
      · have := x1 z m; omega
      · exact b
    · rcases List.mem_cons.mp ((h z).mpr (List.mem_cons_of_mem _ m)) with b | b
      · have := y1 z m; omega
      · exact b

/-! ### set(a list of ints) -/
section
variable {P : Program} {w : World} {A : Around} {E : Value → Shared → Prop} {s : Shared}
/-- a set as it is made -/
abbrev obS (w : World) : Obj := { cls := .type "set", dict := none, data := .set #[] 0 (.fresh 0 0 (!w.params.followText "set-order")) }
abbrev pS1 (w : World) (s : Shared) : Heap := s.heap.push (obS w)
theorem setL {l : Addr} {its : Array Value} (ns : List Int) {Q : Value → Shared → Prop} (hh : A.handled = none) (hl : s.heap.IsList l its) (hit : IntsAre its.toList ns) (hb : ns.length + 1 < scanBound)
    (k : ∀ (h' : Heap) (tk c : Nat), SetR w h' s.heap.objs.size (fun j => decide (j ∈ ns)) c → c ≤ ns.length → (∀ b o, s.heap.get? b = some o → h'.get? b = some o) → Q (.ref s.heap.objs.size) { s with heap := h', toks := tk }) : wpAny (model P w) A (call (.type "set") [.ref l]) Q E s := by
  have sz : its.size = ns.length := by rw [← Array.length_toList]; exact IntsAre.length hit
  obtain ⟨cc, tl, hmro⟩ := F.called_set.mro
  have made := F.called_set.made
  have subs := F.called_set.sub
  refine wpAny_call (codeAny_of_tree (show wpAny _ _ (callAny (.type "set") _) _ _ _ from wpAny_pure ⟨Code.quiet_builtin _ (by decide +kernel), codeAny_builtin F.entry_type_call ?_⟩))
  rw [Around.under_plain (weight_type_call_type "set" [.ref l] []) rfl]
  have a1 := F.called_set.notType
  have a2 := F.called_set.canCreate
  have a3 := F.typeCall_set_1 (.ref l)
  repeat (any_goals (first | assumption | wp_step))
  refine codeAny_mono (code_set_led1 (.ref l) (E := E) (Q₁ := fun o s1 => o = .ref s.heap.objs.size ∧ s1 = { s with heap := pS1 w s }) ⟨rfl, rfl⟩) fun r s1 hr => ?_
  cases r with
  | error e => exact hr
  | ok fl =>
    cases fl with
    | ret o1 =>
      obtain ⟨rfl, rfl⟩ := hr
      have g0 : (pS1 w s).get? s.heap.objs.size = some (obS w) := Heap.get?_push_size _ rfl
      have ty : Shared.TypeIs { s with heap := pS1 w s } (.ref s.heap.objs.size) "set" := ⟨_, g0, rfl⟩
      have b1 := F.called_set.init.lookup
      have b2 := F.called_set.init.bind (.ref s.heap.objs.size)
      repeat (any_goals (first | assumption | wp_step))
      refine codeAny_mono (codeAny_call_builtin (R := wants (fun r s2 => r = .none ∧ ∃ h' tk c, s2 = { s with heap := h', toks := tk } ∧ SetR w h' s.heap.objs.size (fun j => decide (j ∈ ns)) c ∧ c ≤ ns.length ∧ (∀ b o, s.heap.get? b = some o → h'.get? b = some o)) E) F.called_set.init.plain F.entry_set_init (check_set_init_1 ty ?_)) fun r2 s2 hr2 => ?_
      · obtain ⟨ol, hol, hcl, nl, hdl⟩ := hl
        obtain ⟨ocls, odict, odata, oslots⟩ := ol
        simp only at hcl hdl
        subst hcl hdl
        have hol' : (pS1 w s).get? l = some { cls := .type "list", dict := odict, data := .seq its nl, slots := oslots } := Heap.get?_push_of_some _ hol
        have s1 := F.sub_list_set
        have s2 := F.sub_list_frozenset
        have s3 : (Value.type "list" == Value.type "dict") = false := by decide
        have il : (pS1 w s).IsList l its := ⟨_, hol', rfl, nl, rfl⟩
        unfold Builtin.«set.__init__» noKeywords Builtin.Frozenset.updateFrom
        generalize hP : pyIter = PI
        wp_walk
        subst hP
        refine wpAny_pyIter_list il (wpAny_bind (wpAny_runValue ?_))
        have lt : l < s.heap.objs.size := Heap.lt_size hol
        have z1 : (pS1 w s).objs.size = s.heap.objs.size + 1 := Heap.size_push ..
        have hd3 : A.in1.in1.in1.handled = none := by simp [hh]
        have val : ∀ (i : Nat) (v : Value), its[i]? = some v → ∃ k t, ns[i]? = some k ∧ v = .int k t := fun i v hv => by
          have hi : i < ns.length := by rw [← sz]; exact (Array.getElem?_eq_some_iff.mp hv).1
          obtain ⟨t, e⟩ := PyProof.Rows.IntsAre.int_at hit i v (by rw [Array.getElem?_toList]; exact hv)
          exact ⟨ns[i], t, List.getElem?_eq_getElem hi, by rw [e, List.getD_eq_getElem?_getD, List.getElem?_eq_getElem hi] <;> rfl⟩
        refine set_update_ints ((Walks.list hd3 _ l (by rw [z1]; exact Nat.ne_of_lt (Nat.lt_succ_of_lt lt)) its).toS) s.heap.objs.size (by rw [z1]; simp only [List.mem_cons, List.not_mem_nil, or_false, not_or]; exact ⟨Nat.ne_of_lt (Nat.lt_succ_self _), Nat.ne_of_gt lt⟩) ns sz hb val (its.size - 0) 0 _ (by omega) (Nat.zero_le _)
          ⟨⟨_, Heap.get?_push_size _ rfl, rfl, rfl⟩, (il.push _)⟩ ⟨0, Nat.le_refl 0, setR_new_at (Heap.get?_push_of_some _ g0)⟩ fun s' c' hm hc' hS' => ?_
        obtain ⟨h', gn, dr, tk', os'⟩ := s'
        obtain rfl : gn = s.gens := hm.gens
        obtain rfl : dr = s.drawn := hm.drawn
        obtain rfl : os' = s.os := hm.os
        refine (show wpAny _ _ _ _ _ _ from wpAny_pure ?_)
        rw [sz] at hc'
        refine (show wpAny _ _ (ret Value.none) _ _ _ from wpAny_pure ⟨rfl, h', tk', c', rfl, hS', hc', fun b o e => ?_⟩)
        have bl : b < s.heap.objs.size := Heap.lt_size e
        exact hm.heap b o (by rw [z1]; simp only [List.mem_cons, List.not_mem_nil, or_false, not_or]; exact ⟨Nat.ne_of_lt bl, Nat.ne_of_lt (Nat.lt_succ_of_lt bl)⟩) (Heap.get?_push_of_some _ (Heap.get?_push_of_some _ e))
      · cases r2 with
        | error e => exact hr2
        | ok fl2 =>
          cases fl2 with
          | ret r =>
            obtain ⟨rfl, h', tk, c', rfl, hS', hc', hk'⟩ := hr2
            repeat (any_goals (first | assumption | wp_step))
            exact k _ _ _ hS' hc' hk'
          | _ => exact hr2.elim
    | _ => exact hr.elim
end

/-! ### sorted(set(e)) -/
section
variable {X : Cx} {W : WX} {a : Expr} {ca : Env → M D} {p p2 q pos : Pos}
def tSortU (K : PySem.W.Frag) (ta : TE) : TE := fun σ H Q => ta σ H fun x H1 => ∃ l ns, x = .ref l ∧ SqL K H1 l (ns.map V.int) ∧ ns.length < 60 ∧ ∀ r, H1 r = none → Q (.ref r) (upd H1 r (.lst ((usort ns).map V.int)))
theorem pe_sortU {ta : TE} (hc : X.calm = true) (hg : Gl X "sorted") (hm : X.mg "sorted" = none) (hg2 : Gl X "set") (hm2 : X.mg "set" = none) (ha : PE X a ta)
    (na : starEach [a] X.env = (false, eval a X.env) :: starEach [] X.env := by rfl) : PE X (.Call (.Name "sorted" p) [.Call (.Name "set" p2) [a] [] q] [] pos) (tSortU X.K ta) := by
  refine ⟨fun pins s σ H Q I h => ?_⟩
  refine Call_ (ld_blt I hg hm boot_sorted ?_)
  refine PyProof.Rows.callWith_builtin1 (PyProof.Rows.args_cons ?_ rfl) rfl rfl
  refine Call_ (ld_blt I hg2 hm2 boot_set ?_)
  refine PyProof.Rows.callWith_type1 (PyProof.Rows.args_cons (thn (ha.run pins s σ H _ I h) fun v s1 ⟨x, H1, I1, r1, q1⟩ => PyProof.Rows.args_nil ?_) na) na rfl
  obtain ⟨l, ns, rfl, hq, h60, q1⟩ := q1
  cases r1
  obtain ⟨its, r, pl, hz⟩ := I1.list hq
  have hd := I1.ok.hd hc
  have sb : ns.length + 1 < scanBound := by unfold scanBound; omega
  refine setL ns hd pl.isList (by simpa using ints_of_vals r) sb fun h' tk c R hcn hk => PyProof.Rows.args_nil ?_
  refine sorted_set (s := { s1 with heap := h', toks := tk }) R hd (by omega) fun s' pp out cp ms kp g o hp hgp hi hs hm' hl => ?_
  have kall : ∀ b u, s1.heap.get? b = some u → s'.heap.get? b = some u := fun b u e => kp b u (hk b u e)
  have e1 : ms = usort ns := up_eq hs (usort_up ns) fun z => by rw [hm' z, usort_mem]; simp
  subst e1
  have hle : s1.heap.objs.size ≤ pp := Nat.le_trans (Nat.le_of_lt (SetR.lt R)) hp
  have hn : H1 pp = none := I1.hok.fresh hle
  have hlen : ((usort ns).map V.int).length ≤ sizeLine := by rw [List.length_map, hl, sizeLine_eq]; omega
  have J : Inv X pins σ (upd H1 pp (.lst ((usort ns).map V.int))) { s1 with heap := s'.heap, gens := s'.gens, drawn := s'.drawn, toks := s'.toks } :=
    I1.call (ch := []) (Un.laid kall hle hn) (I1.hok.laid kall hle ⟨hlen, out.toList, cp, vals_of_ints hi, hgp⟩) (by rw [g]; exact I1.bare) (fun _ z => nomatch z)
  have e : s' = { s1 with heap := s'.heap, gens := s'.gens, drawn := s'.drawn, toks := s'.toks } := by
    cases s'
    cases s1
    cases o
    rfl
  rw [e]
  exact ⟨.ref pp, _, J, rfl, q1 pp hn⟩
def sortUN (x : D) : M (List D) := fun h => match (items h x).bind allInt with
  | some ns => if decide (ns.length < 60) then .ok ((usort ns).map .int) h else .bad
  | none => .bad
def nSortU (ca : Env → M D) : Env → M (List D) := fun ρ h => (ca ρ h).bind sortUN
theorem dn_sortU (hc : X.calm = true) (hg : Gl X "sorted") (hm : X.mg "sorted" = none) (hg2 : Gl X "set") (hm2 : X.mg "set" = none) (ha : DE X W a ca)
    (na : starEach [a] X.env = (false, eval a X.env) :: starEach [] X.env := by rfl) : DN X W (.Call (.Name "sorted" p) [.Call (.Name "set" p2) [a] [] q] [] pos) (nSortU ca) := pe_imp (pe_sortU hc hg hm hg2 hm2 ha na) fun σ H Q ⟨ι, h, ρ, R, S, p⟩ => by
  refine ⟨ι, h, ρ, R, S, Post.imp (PostN.bind p) fun x H1 ⟨ι1, h1, dx, x1, R1, r1, p1⟩ => ?_⟩
  unfold sortUN at p1
  split at p1
  · rename_i ns e
    obtain ⟨c, p1⟩ := p1.guard
    obtain ⟨l, rfl, hq⟩ := ints_of R1 r1 e
    exact ⟨l, ns, rfl, hq, of_decide_eq_true c, fun r hr => p1.new x1 R1 RDs.ofInts hr⟩
  · exact p1.elim
end
end Dl

/-! The D layer, 20: recursion; sorted(a dict); tuple(range(..)), list(range(..)); d.get(k, x); lists by an operator that may change. -/
namespace Dl
open PySem PySem.Spec PyProof.Rows L2

/-! ### what is never called -/
theorem fnD_bad {P : Program} {w : World} {K : PySem.W.Frag} {mg : Str → Option Value} {base : Heap} {x qual : Str} {params : Arguments} {body : List Stmt} {scope : Scope} {f : Addr} {fd : FuncData} {ps : List Str} {k n : Nat}
    (F : FunD K x qual params body scope [] [] f fd) (hn : ps.length = n) (b : Binds K fd ps []) : FnD P w K mg base k f n (fun _ _ => .bad) :=
  ⟨fd, ps, ⟨fun vs H Q E h => h.1.trans hn.symm, fun A outer s H args us vs Q E hr gd e0 bt r h => by
    obtain ⟨_, ι, h0, ds, R, r, p⟩ := h
    exact p.elim⟩, b, F.kp⟩

/-! ### sorted(d) of a dict whose keys are ints -/
def intKeys : List (Key × D) → Option (List Int)
  | [] => some []
  | (.inl i, _) :: r => (intKeys r).map (i :: ·)
  | (.inr _, _) :: _ => none
theorem intKeys_ok : ∀ {kvs : List (Key × D)} {ks : List Int}, intKeys kvs = some ks → kvs.map (·.1) = ks.map Sum.inl
  | [], ks, e => by cases e; rfl
  | (.inl i, d) :: r, ks, e => by
    obtain ⟨l, e1, e2⟩ := Option.map_eq_some_iff.mp (show (intKeys r).map (i :: ·) = some ks from e)
    subst e2
    rw [List.map_cons, List.map_cons, intKeys_ok e1]
  | (.inr _, _) :: _, ks, e => by cases e
def dctAt (h : Hs) : D → Option (List (Key × D))
  | .obj n => (match h[n]? with
    | some (.dI kvs) => some kvs
    | _ => none)
  | _ => none
section
variable {K : PySem.W.Frag} {ι : Ix} {H : Hp} {h : Hs}
theorem dctAt_ok (R : Rel K ι h H) {x : D} {v : V} {kvs : List (Key × D)} (r : RD K ι H x v) (e : dctAt h x = some kvs) : ∃ n a us, x = .obj n ∧ v = .ref a ∧ ι.os[n]? = some a ∧ H a = some (.dK us) ∧ RF K ι H kvs us := by
  cases r with
  | @obj n a g =>
    have e : (match h[n]? with
    | some (.dI kvs) => some kvs
    | _ => none) = some kvs := e
    cases hn : h[n]? with
    | none => rw [hn] at e; cases e
    | some o =>
      rw [hn] at e
      cases o with
      | dI ks =>
        cases e
        obtain ⟨us, h1, h2⟩ := R.at g hn
        exact ⟨n, a, us, rfl, rfl, g, h1, h2⟩
      | _ => cases e
  | _ => cases e
theorem rf_keys {κ : Type} : ∀ {kvs : List (κ × D)} {us : List (κ × V)}, RF K ι H kvs us → us.map (·.1) = kvs.map (·.1)
  | _, _, .nil => rfl
  | _, _, .cons g r => by rw [List.map_cons, List.map_cons, rf_keys r, g.1]
end
def sortDF (xs : List D) : M (List D) := fun h => match xs with
  | [x] => (match (dctAt h x).bind intKeys with
    | some ks => if decide (ks.Nodup ∧ ks.length < 64) then .ok ((usort ks).map .int) h else .bad
    | none => .bad)
  | _ => .bad
abbrev rSortD : List V → Hp → VK → Prop := fun xs H Q => ∃ (a : Addr) (kvs : List (Key × V)) (ks : List Int), xs = [.ref a] ∧ Rd H a (.dK kvs) ∧ kvs.map (·.1) = ks.map Sum.inl ∧ ks.length < 64 ∧
    ∀ (ys : List Int) (p : Addr), ys.Perm ks → ys.Pairwise (· ≤ ·) → H p = none → Q (.ref p) (upd H p (.lst (ys.map V.int)))
theorem up_of_le : ∀ {xs : List Int}, xs.Pairwise (· ≤ ·) → xs.Nodup → xs.Pairwise (· < ·)
  | [], _, _ => .nil
  | x :: xs, h, n => by
    obtain ⟨h1, h2⟩ := List.pairwise_cons.mp h
    obtain ⟨n1, n2⟩ := List.nodup_cons.mp n
    refine List.pairwise_cons.mpr ⟨fun y hy => ?_, up_of_le h2 n2⟩
    have := h1 y hy
    have : x ≠ y := fun e => n1 (e ▸ hy)
    omega
section
variable {X : Cx}
theorem o_sortD : OpF X rSortD sortDF := by
  intro ι h H xs vs ιb Hb W Q e R r p
  unfold sortDF at p
  split at p
  · obtain ⟨v, rfl, rx⟩ := r.one
    split at p
    · rename_i ks e1
      obtain ⟨c, p⟩ := p.guard
      obtain ⟨c1, c2⟩ := of_decide_eq_true c
      obtain ⟨kvs, e2, e3⟩ := Option.bind_eq_some_iff.mp e1
      obtain ⟨n, a, us, rfl, rfl, g, ha, rf⟩ := dctAt_ok R rx e2
      refine ⟨a, us, ks, rfl, .inl ha, (rf_keys rf).trans (intKeys_ok e3), c2, fun ys q pm pw hq => ?_⟩
      have eq : ys = usort ks := up_eq (up_of_le pw (pm.nodup_iff.mpr c1)) (usort_up ks) fun z => by rw [pm.mem_iff, usort_mem]
      subst eq
      exact p.new e R RDs.ofInts hq
    · exact p.elim
  · exact p.elim
end

/-! ### tuple(range(..)), list(range(..)) -/
section
variable {X : Cx} {W : WX} {a b : Expr} {ca cb : Env → M D} {p p2 q pos : Pos}
theorem rng_rds {K : PySem.W.Frag} {ι : Ix} {H : Hp} : ∀ (n : Nat) (i : Int), RDs K ι H (rng i 1 n) ((List.range n).map fun j => V.int (i + (j : Nat)))
  | 0, _ => .nil
  | n + 1, i => by
    rw [List.range_succ_eq_map, List.map_cons, List.map_map]
    refine .cons (by simpa using RD.int i) ?_
    have e : (List.range n).map ((fun j => V.int (i + (j : Nat))) ∘ Nat.succ) = (List.range n).map fun j => V.int (i + 1 + (j : Nat)) := List.map_congr_left fun j _ => by
      show V.int (i + ((j + 1 : Nat) : Int)) = V.int (i + 1 + (j : Int))
      congr 1
      omega
    rw [e]
    exact rng_rds n (i + 1)
def okRg (i j : Int) : Bool := okI i && okI j && decide ((j - i).toNat ≤ 16777216)
theorem okRg_ok {i j : Int} (h : okRg i j = true) : RgOk i j := by
  obtain ⟨h1, h2⟩ := Bool.and_eq_true_iff.mp h
  obtain ⟨h3, h4⟩ := Bool.and_eq_true_iff.mp h1
  have a1 := okI_ok h3
  have a2 := okI_ok h4
  exact ⟨a1.1, a1.2, a2.1, a2.2, of_decide_eq_true h2⟩
def rgN (i j : Int) : M (List D) := fun h => if okRg i j then .ok (rng i 1 (j - i).toNat) h else .bad
def nR1 (ca : Env → M D) : Env → M (List D) := fun ρ h => (ca ρ h).bind fun x h1 => match x with
  | .int j => rgN 0 j h1
  | _ => .bad
def nR2 (ca cb : Env → M D) : Env → M (List D) := fun ρ h => (ca ρ h).bind fun x h1 => (cb ρ h1).bind fun y h2 => match x, y with
  | .int i, .int j => rgN i j h2
  | _, _ => .bad
def eTupN (cs : Env → M (List D)) : Env → M D := fun ρ h => (cs ρ h).bind fun xs h1 => .ok (.tup xs) h1
def wR (K : PySem.W.Frag) (W : WX) (c : Env → M (List D)) : L2.St → Hp → (Int → Int → Hp → Prop) → Prop := fun σ H Q => ∃ ι h ρ, Rel K ι h H ∧ RS K ι H ρ σ ∧ Post K (fun x d H' => W x d σ H') (fun _ _ (xs : List D) (p : Int × Int) => okRg p.1 p.2 = true ∧ xs = rng p.1 1 (p.2 - p.1).toNat) (c ρ h) ι H (fun p H' => Q p.1 p.2 H')
abbrev DR (X : Cx) (W : WX) (e : Expr) (c : Env → M (List D)) : Prop := PRg X e (wR X.K W c)
theorem prg_imp {e : Expr} {t t' : L2.St → Hp → (Int → Int → Hp → Prop) → Prop} (h : PRg X e t) (w : ∀ σ H Q, t' σ H Q → t σ H Q) : PRg X e t' := fun pins s σ H Q I z => h pins s σ H Q I (w σ H Q z)
theorem dr_1 (hg : Gl X "range") (hm : X.mg "range" = none) (ha : DE X W a ca) (na : starEach [a] X.env = (false, eval a X.env) :: starEach [] X.env := by rfl) : DR X W (.Call (.Name "range" p) [a] [] pos) (nR1 ca) := prg_imp (prg_1 hg hm ha na) fun σ H Q ⟨ι, h, ρ, R, S, p⟩ => by
  refine ⟨ι, h, ρ, R, S, Post.imp (Post.bind p) fun x H1 ⟨ι1, h1, dx, x1, R1, r1, p1⟩ => ?_⟩
  split at p1
  · obtain ⟨c, p1⟩ := p1.guard
    cases r1
    exact ⟨_, rfl, p1.ok (b := (0, _)) R1 ⟨c, rfl⟩⟩
  · exact p1.elim
theorem dr_2 (hg : Gl X "range") (hm : X.mg "range" = none) (ha : DE X W a ca) (hb : DE X W b cb) (na : starEach [a, b] X.env = (false, eval a X.env) :: starEach [b] X.env := by rfl) (nb : starEach [b] X.env = (false, eval b X.env) :: starEach [] X.env := by rfl) (hp : (backTo pos (starEach [b] X.env)).any (·.1) = false := by rfl) : DR X W (.Call (.Name "range" p) [a, b] [] pos) (nR2 ca cb) := prg_imp (prg_2 hg hm ha hb na nb hp) fun σ H Q ⟨ι, h, ρ, R, S, p⟩ => by
  refine ⟨ι, h, ρ, R, S, Post.imp (Post.bind p) fun x H1 ⟨ι1, h1, dx, x1, R1, r1, p1⟩ => ?_⟩
  refine ⟨ι1, h1, ρ, R1, S.mono x1, Post.imp (Post.bind p1) fun y H2 ⟨ι2, h2, dy, x2, R2, r2, p2⟩ => ?_⟩
  split at p2
  · obtain ⟨c, p2⟩ := p2.guard
    cases r1
    cases r2
    exact ⟨_, _, rfl, rfl, p2.ok (b := (_, _)) R2 ⟨c, rfl⟩⟩
  · exact p2.elim
theorem dn_listRg {e : Expr} {cs : Env → M (List D)} (hc : X.calm = true) (hg : Gl X "list") (hm : X.mg "list" = none) (he : DR X W e cs) (na : starEach [e] X.env = (false, eval e X.env) :: starEach [] X.env := by rfl) : DN X W (.Call (.Name "list" p) [e] [] pos) cs := pe_imp (pe_listRg hc hg hm he na) fun σ H Q ⟨ι, h, ρ, R, S, p⟩ => by
  refine ⟨ι, h, ρ, R, S, ?_⟩
  cases q : cs ρ h with
  | bad => rw [q] at p; exact p.elim
  | exc C fs h' => rw [q] at p; exact p
  | ok xs h1 =>
    rw [q] at p
    intro ι1 H1 ij x1 R1 ⟨c, e⟩
    subst e
    exact ⟨okRg_ok c, fun l hl => PostN.new p x1 R1 (rng_rds _ _) hl⟩
theorem de_tupRg {e : Expr} {cs : Env → M (List D)} (hc : X.calm = true) (hg : Gl X "tuple") (hm : X.mg "tuple" = none) (he : DR X W e cs) (na : starEach [e] X.env = (false, eval e X.env) :: starEach [] X.env := by rfl) : DE X W (.Call (.Name "tuple" p) [e] [] pos) (eTupN cs) := pe_imp (pe_tupRg hc hg hm he na) fun σ H Q ⟨ι, h, ρ, R, S, p⟩ => by
  refine ⟨ι, h, ρ, R, S, Post.imp (Post.bind p) fun ij H1 ⟨ι1, h1, xs, x1, R1, ⟨c, e⟩, p1⟩ => ?_⟩
  subst e
  exact ⟨okRg_ok c, fun l hl => p1.tup R1 (rng_rds _ _) hl⟩

/-! ### d.get(k, x) -/
variable {co ck cx : Env → M D} {o k x : Expr} {apos cpos : Pos}
def eGet (co ck cx : Env → M D) : Env → M D := fun ρ h => (co ρ h).bind fun o h1 => match dctAt h1 o with
  | some _ => (ck ρ h1).bind fun k h2 => (cx ρ h2).bind fun x h3 => (match dctAt h3 o, keyOf k with
    | some kvs, some k => .ok ((look kvs k).getD x) h3
    | _, _ => .bad)
  | none => .bad
theorem de_get (hu : X.A.units + 1 < cLine) (ho : DE X W o co) (hk : DE X W k ck) (hx : DE X W x cx) (m : M2 X o "get" apos k x cpos := by exact ⟨rfl, rfl, rfl, rfl⟩) : DE X W (.Call (.Attribute o "get" apos) [k, x] [] cpos) (eGet co ck cx) := pe_imp (pe_dget2 hu ho hk hx m) fun σ H Q ⟨ι, h, ρ, R, S, p⟩ => by
  refine ⟨ι, h, ρ, R, S, Post.imp (Post.bind p) fun v H1 ⟨ι1, h1, dx, x1, R1, r1, p1⟩ => ?_⟩
  split at p1
  · rename_i kvs e
    obtain ⟨n, a, us, rfl, rfl, g, ha, rf⟩ := dctAt_ok R1 r1 e
    refine ⟨a, rfl, .inl ⟨us, .inl ha⟩, ι1, h1, ρ, R1, S.mono x1, Post.imp (Post.bind p1) fun y H2 ⟨ι2, h2, dy, x2, R2, r2, p2⟩ => ?_⟩
    refine ⟨ι2, h2, ρ, R2, S.mono (x1.trans x2), Post.imp (Post.bind p2) fun z H3 ⟨ι3, h3, dz, x3, R3, r3, p3⟩ => ?_⟩
    split at p3
    · rename_i kvs' kk e1 e2
      obtain ⟨n', a', us', en, ea, g', ha', rf'⟩ := dctAt_ok R3 (.obj (x3.get (x2.get g))) e1
      cases ea
      refine ⟨valV us' kk, ?_, ?_⟩
      · rw [keyOf_kV r2 e2]
        exact DGet.k ha'
      · obtain ⟨i1, i2⟩ := look_rf (k := kk) rf'
        cases l : look kvs' kk with
        | none =>
          rw [l] at p3
          rw [i2 l]
          exact p3.ok R3 r3
        | some d =>
          rw [l] at p3
          obtain ⟨v, z1, z2⟩ := i1 d l
          rw [z1]
          exact p3.ok R3 z2
    · exact p3.elim
  · exact p1.elim

/-! ### [x] * n, a + b: a new list that may change -/
def nRep (ca cb : Env → M D) : Env → M (List D) := fun ρ h => (ca ρ h).bind fun x h1 => (cb ρ h1).bind fun y h2 => match items h2 x, y with
  | some xs, .int k => if okRep xs.length k then .ok (List.replicate k.toNat xs).flatten h2 else .bad
  | _, _ => .bad
theorem dn_rep (ha : DE X W a ca) (hb : DE X W b cb) : DN X W (.BinOp a .Mult b pos) (nRep ca cb) := pe_imp (pe_op op_rep ha hb) fun σ H Q ⟨ι, h, ρ, R, S, p⟩ => by
  refine ⟨ι, h, ρ, R, S, Post.imp (PostN.bind p) fun x H1 ⟨ι1, h1, dx, x1, R1, r1, p1⟩ => ?_⟩
  refine ⟨ι1, h1, ρ, R1, S.mono x1, Post.imp (PostN.bindAt x1 p1) fun y H2 ⟨ι2, h2, dy, x2, R2, r2, p2⟩ => ?_⟩
  split at p2
  · rename_i xs k e1
    obtain ⟨c, p2⟩ := p2.guard
    obtain ⟨c1, c2, c3⟩ := of_decide_eq_true c
    obtain ⟨l, vs, rfl, hl, rv⟩ := items_ok R2 (r1.mono x2) e1
    cases r2
    exact ⟨l, _, vs, rfl, rfl, hl, by omega, by omega, by rw [← rv.length, sizeLine_eq]; exact c3, fun q hq => p2.new (x1.trans x2) R2 (rv.rep _) hq⟩
  · exact p2.elim
def nCat (ca cb : Env → M D) : Env → M (List D) := fun ρ h => (ca ρ h).bind fun x h1 => (cb ρ h1).bind fun y h2 => match items h2 x, items h2 y with
  | some xs, some ys => if okLen (xs.length + ys.length) then .ok (xs ++ ys) h2 else .bad
  | _, _ => .bad
theorem dn_cat (ha : DE X W a ca) (hb : DE X W b cb) : DN X W (.BinOp a .Add b pos) (nCat ca cb) := pe_imp (pe_op op_cat ha hb) fun σ H Q ⟨ι, h, ρ, R, S, p⟩ => by
  refine ⟨ι, h, ρ, R, S, Post.imp (PostN.bind p) fun x H1 ⟨ι1, h1, dx, x1, R1, r1, p1⟩ => ?_⟩
  refine ⟨ι1, h1, ρ, R1, S.mono x1, Post.imp (PostN.bindAt x1 p1) fun y H2 ⟨ι2, h2, dy, x2, R2, r2, p2⟩ => ?_⟩
  split at p2
  · rename_i xs ys e1 e2
    obtain ⟨c, p2⟩ := p2.guard
    obtain ⟨l, vs, rfl, hl, rv⟩ := items_ok R2 (r1.mono x2) e1
    obtain ⟨l', us, rfl, hl', ru⟩ := items_ok R2 r2 e2
    exact ⟨l, l', vs, us, rfl, rfl, hl, hl', by rw [← rv.length, ← ru.length]; exact okLen_ok c, fun q hq => p2.new (x1.trans x2) R2 (rv.append ru) hq⟩
  · exact p2.elim
end
end Dl

namespace Sh
open PySem PySem.Spec L2 Dl
/-! ### what the defs compute -/
/-- _law_tape -/
def c__law_tape : SM := sSeq (sSet 1 (e2 addD (e2 addD (e2 modD (eBf intD (aC (eBf sumD (aC (eSl (eV 0) pN (pS (eC (.int 1)))) aN)) aN)) (eC (.int 1000003))) (eBf lenD (aC (eV 0) aN))) (eC (.int 1)))) (sSeq (sFor (iSeq (eSl (eV 0) pN (pS (eC (.int 63))))) (.nm 2) (sSet 1 (e2 modD (eBf intD (aC (e2 addD (e2 addD (e2 mulD (eV 1) (eC (.int 48271))) (e2 modD (eBf intD (aC (eV 2) aN)) (eC (.int 2147483629)))) (eC (.int 11))) aN)) (eC (.int 2147483647))))) (sRet (thaw (nLst (aC (eV 1) (aC (eC (.int 0)) (aC (thaw (nLc (iSeq (eSl (eV 0) pN (pS (eC (.int 63))))) (.nm 2) [2] (tst (e2 geD (eBf absD (aC (eV 2) aN)) (e2 powD (eC (.int 10)) (eC (.int 18))))) (eBf absD (aC (eV 2) aN)))) aN)))))))
def m__law_tape : List D → M D := mDef 3 c__law_tape

/-- is_tuple -/
def c_is_tuple : SM := sRet (andX (eBf (isiD []) (aC (eV 0) (aC (eC (.ty "tuple")) aN))) (eCh leD leD (eV 1) (eBf lenD (aC (eV 0) aN)) (eV 2)))
def m_is_tuple : List D → M D := mDef 3 c_is_tuple

/-- is_integer -/
def c_is_integer : SM := sRet (andX (eBf (isiD []) (aC (eV 0) (aC (eC (.ty "int")) aN))) (e1 notX (eBf (isiD []) (aC (eV 0) (aC (eC (.ty "bool")) aN)))))
def m_is_integer : List D → M D := mDef 1 c_is_integer

/-- common -/
def c_common : SM := sSeq (sPar2 0 1 (aC (eBf absD (aC (eV 0) aN)) (aC (eBf absD (aC (eV 1) aN)) aN))) (sSeq (sWhile (limI 1) (tst (e2 gtD (eV 1) (eC (.int 0)))) (sPar2 0 1 (aC (eV 1) (aC (e2 modD (eV 0) (eV 1)) aN)))) (sRet (eV 0)))
def m_common : List D → M D := mDef 2 c_common

/-- is_fraction -/
def c_is_fraction : SM := sSeq (sIf (orT (notT (tru (eCall 3 m_is_tuple (aC (eV 0) (aC (eC (.int 2)) (aC (eC (.int 2)) aN)))))) (orT (notT (tru (eBf allD (aC (frz (nLc (iSeq (eV 0)) (.nm 1) [1] (tYes') (eCall 1 m_is_integer (aC (eV 1) aN)))) aN)))) (tst (e2 ltD (e2 itemD (eV 0) (eC (.int 1))) (eC (.int 1)))))) (sRet (eC (.bl false))) (sPass)) (sRet (e2 eqD (eCall 2 m_common (aC (e2 itemD (eV 0) (eC (.int 0))) (aC (e2 itemD (eV 0) (eC (.int 1))) aN))) (eC (.int 1))))
def m_is_fraction : List D → M D := mDef 2 c_is_fraction

/-- is_share -/
def c_is_share : SM := sRet (andX (eCall 1 m_is_fraction (aC (eV 0) aN)) (eCh leD leD (eC (.int 0)) (e2 itemD (eV 0) (eC (.int 0))) (e2 itemD (eV 0) (eC (.int 1)))))
def m_is_share : List D → M D := mDef 1 c_is_share

/-- Trials.__init__ -/
def c_Trials___init__ : SM := sSeq (sIf (orT (notT (tru (eCall 3 m_is_tuple (aC (eV 1) (aC (eC (.int 1)) (aC (eC (.int 12)) aN)))))) (notT (tru (eBf allD (aC (frz (nLc (iSeq (eV 1)) (.nm 2) [2] (tYes') (eCall 1 m_is_share (aC (eV 2) aN)))) aN))))) (sBad) (sPass)) (sSeq (sFldD "Trials" "chances" (eV 1) (eV 0)) (sFldD "Trials" "looked" (eDct0) (eV 0)))
def m_Trials___init__ : List D → M D := mDef 3 c_Trials___init__

/-- is_within -/
def c_is_within : SM := sRet (andX (eCall 1 m_is_integer (aC (eV 0) aN)) (eCh leD leD (eV 1) (eV 0) (eV 2)))
def m_is_within : List D → M D := mDef 3 c_is_within

/-- lowest -/
def c_lowest : SM := sSeq (sIf (tst (e2 ltD (eV 1) (eC (.int 0)))) (sPar2 0 1 (aC (e1 negD (eV 0)) (aC (e1 negD (eV 1)) aN))) (sPass)) (sSeq (sSet 2 (eCall 2 m_common (aC (eV 0) (aC (eV 1) aN)))) (sRet (eTup (aC (e2 divD (eV 0) (eV 2)) (aC (e2 divD (eV 1) (eV 2)) aN)))))
def m_lowest : List D → M D := mDef 3 c_lowest

/-- quotient -/
def c_quotient : SM := sRet (eCall 2 m_lowest (aC (e2 mulD (e2 itemD (eV 0) (eC (.int 0))) (e2 itemD (eV 1) (eC (.int 1)))) (aC (e2 mulD (e2 itemD (eV 0) (eC (.int 1))) (e2 itemD (eV 1) (eC (.int 0)))) aN)))
def m_quotient : List D → M D := mDef 2 c_quotient

/-- minus -/
def c_minus : SM := sRet (eCall 2 m_lowest (aC (e2 subD (e2 mulD (e2 itemD (eV 0) (eC (.int 0))) (e2 itemD (eV 1) (eC (.int 1)))) (e2 mulD (e2 itemD (eV 1) (eC (.int 0))) (e2 itemD (eV 0) (eC (.int 1))))) (aC (e2 mulD (e2 itemD (eV 0) (eC (.int 1))) (e2 itemD (eV 1) (eC (.int 1)))) aN)))
def m_minus : List D → M D := mDef 2 c_minus

/-- odds_of -/
def c_odds_of : SM := sRet (ifV (tst (e2 eqD (eV 0) (eC (.tup [.int 1, .int 1])))) (eC .non) (eCall 2 m_quotient (aC (eV 0) (aC (eCall 2 m_minus (aC (eC (.tup [.int 1, .int 1])) (aC (eV 0) aN))) aN))))
def m_odds_of : List D → M D := mDef 1 c_odds_of

/-- odds -/
def c_odds : SM := sSeq (sIf (notT (tru (eCall 3 m_is_within (aC (eV 1) (aC (eC (.int 0)) (aC (e2 subD (eBf lenD (aC (eFld "Trials" "chances" (eV 0)) aN)) (eC (.int 1))) aN)))))) (sBad) (sPass)) (sRet (eCall 1 m_odds_of (aC (e2 itemD (eFld "Trials" "chances" (eV 0)) (eV 1)) aN)))
def m_odds : List D → M D := mDef 2 c_odds

/-- is_less -/
def c_is_less : SM := sRet (e2 ltD (e2 mulD (e2 itemD (eV 0) (eC (.int 0))) (e2 itemD (eV 1) (eC (.int 1)))) (e2 mulD (e2 itemD (eV 1) (eC (.int 0))) (e2 itemD (eV 0) (eC (.int 1)))))
def m_is_less : List D → M D := mDef 2 c_is_less

/-- plus -/
def c_plus : SM := sRet (eCall 2 m_lowest (aC (e2 addD (e2 mulD (e2 itemD (eV 0) (eC (.int 0))) (e2 itemD (eV 1) (eC (.int 1)))) (e2 mulD (e2 itemD (eV 1) (eC (.int 0))) (e2 itemD (eV 0) (eC (.int 1))))) (aC (e2 mulD (e2 itemD (eV 0) (eC (.int 1))) (e2 itemD (eV 1) (eC (.int 1)))) aN)))
def m_plus : List D → M D := mDef 2 c_plus

/-- whole_sum -/
def c_whole_sum : SM := sSeq (sSet 1 (eC (.tup [.int 0, .int 1]))) (sSeq (sFor (iSeq (eV 0)) (.nm 2) (sSet 1 (eCall 2 m_plus (aC (eV 1) (aC (eV 2) aN))))) (sRet (eV 1)))
def m_whole_sum : List D → M D := mDef 3 c_whole_sum

/-- first_from -/
def c_first_from : SM := sSeq (sFor (iR3 (aC (e2 subD (eBf lenD (aC (eFld "Trials" "chances" (eV 0)) aN)) (eC (.int 1))) (aC (e1 negD (eC (.int 1))) (aC (e1 negD (eC (.int 1))) aN)))) (.nm 1) (sSeq (sSet 2 (frz (nLc (iSeq (eSl (eFld "Trials" "chances" (eV 0)) (pS (eV 1)) pN)) (.nm 3) [3] (tYes') (eCall 1 m_odds_of (aC (eV 3) aN))))) (sIf (orT (tst (e2 inD (eC .non) (eV 2))) (notT (tru (eCall 2 m_is_less (aC (eCall 1 m_whole_sum (aC (eV 2) aN)) (aC (eC (.tup [.int 1, .int 1])) aN)))))) (sRet (eV 1)) (sPass)))) (sRet (eC (.int 0)))
def m_first_from : List D → M D := mDef 4 c_first_from

/-- from_which -/
def c_from_which : SM := sRet (eCall 1 m_first_from (aC (eV 0) aN))
def m_from_which : List D → M D := mDef 1 c_from_which

/-- _law_draw -/
def c__law_draw : SM := sSeq (sStore (e2 addD (e2 itemD (eV 0) (eC (.int 1))) (eC (.int 1))) (eV 0) (eC (.int 1))) (sSeq (sSet 2 (e2 itemD (eV 0) (eC (.int 2)))) (sSeq (sIf (tst (e2 gtD (eBf lenD (aC (eV 2) aN)) (eC (.int 0)))) (sSeq (sSet 3 (e2 modD (eBf intD (aC (e2 itemD (eV 2) (eC (.int 0))) aN)) (eV 1))) (sSeq (sStore (e2 divD (e2 itemD (eV 2) (eC (.int 0))) (eV 1)) (eV 2) (eC (.int 0))) (sSeq (sIf (tst (e2 eqD (e2 itemD (eV 2) (eC (.int 0))) (eC (.int 0)))) (sExp (eLm popD (eV 2) (aC (eC (.int 0)) aN))) (sPass)) (sRet (eV 3))))) (sPass)) (sSeq (sSet 4 (e2 modD (eBf intD (aC (e2 mulD (e2 addD (e2 itemD (eV 0) (eC (.int 0))) (e2 mulD (eC (.int 7919)) (e2 itemD (eV 0) (eC (.int 1))))) (eC (.int 48271))) aN)) (eC (.int 2147483647)))) (sSeq (sSet 4 (e2 modD (eBf intD (aC (e2 mulD (eV 4) (e2 addD (e2 divD (eV 4) (eC (.int 1009))) (eC (.int 69621)))) aN)) (eC (.int 2147483647)))) (sSeq (sSet 4 (e2 modD (eBf intD (aC (e2 mulD (eV 4) (e2 addD (e2 divD (eV 4) (eC (.int 2003))) (eC (.int 40692)))) aN)) (eC (.int 2147483399)))) (sRet (e2 modD (eBf intD (aC (e2 divD (eV 4) (eC (.int 16))) aN)) (eV 1))))))))
def m__law_draw : List D → M D := mDef 5 c__law_draw

/-- _law_draw -/
def c__law_draw_v2 : SM := sSeq (sIf (andT (tst (e2 eqD (e2 itemD (eV 0) (eC (.int 2))) (eC (.int 0)))) (tst (e2 ltD (e2 itemD (eV 0) (eC (.int 1))) (eBf lenD (aC (e2 itemD (eV 0) (eC (.int 0))) aN))))) (sSeq (sSet 2 (e2 itemD (e2 itemD (eV 0) (eC (.int 0))) (e2 itemD (eV 0) (eC (.int 1))))) (sSeq (sStore (e2 addD (e2 itemD (eV 0) (eC (.int 1))) (eC (.int 1))) (eV 0) (eC (.int 1))) (sSeq (sStore (e2 modD (eBf intD (aC (e2 addD (e2 addD (e2 mulD (e2 itemD (eV 0) (eC (.int 3))) (eC (.int 69621))) (eV 2)) (eC (.int 11))) aN)) (eC (.int 2147483629))) (eV 0) (eC (.int 3))) (sIf (tst (e2 geD (eV 2) (e2 powD (eC (.int 10)) (eC (.int 18))))) (sStore (eV 2) (eV 0) (eC (.int 2))) (sPass))))) (sPass)) (sSeq (sIf (tst (e2 gtD (e2 itemD (eV 0) (eC (.int 2))) (eC (.int 0)))) (sSeq (sSet 3 (e2 modD (eBf intD (aC (e2 itemD (eV 0) (eC (.int 2))) aN)) (eV 1))) (sSeq (sStore (e2 divD (e2 itemD (eV 0) (eC (.int 2))) (eV 1)) (eV 0) (eC (.int 2))) (sRet (eV 3)))) (sPass)) (sSeq (sStore (e2 addD (e2 itemD (eV 0) (eC (.int 4))) (eC (.int 1))) (eV 0) (eC (.int 4))) (sSeq (sSet 4 (e2 modD (eBf intD (aC (e2 mulD (eBf intD (aC (e2 addD (e2 itemD (eV 0) (eC (.int 3))) (e2 mulD (eC (.int 7919)) (e2 itemD (eV 0) (eC (.int 4))))) aN)) (eC (.int 48271))) aN)) (eC (.int 2147483647)))) (sSeq (sSet 4 (e2 modD (eBf intD (aC (e2 mulD (eV 4) (e2 addD (e2 divD (eV 4) (eC (.int 1009))) (eC (.int 69621)))) aN)) (eC (.int 2147483647)))) (sSeq (sSet 4 (e2 modD (eBf intD (aC (e2 mulD (eV 4) (e2 addD (e2 divD (eV 4) (eC (.int 2003))) (eC (.int 40692)))) aN)) (eC (.int 2147483399)))) (sRet (e2 modD (eBf intD (aC (e2 divD (eV 4) (eC (.int 16))) aN)) (eV 1))))))))
def m__law_draw_v2 : List D → M D := mDef 5 c__law_draw_v2

/-- _law_draw -/
def c__law_draw_v3 : SM := sSeq (sIf (andT (tst (e2 eqD (e2 itemD (eV 0) (eC (.int 2))) (eC (.int 0)))) (tst (e2 ltD (e2 itemD (eV 0) (eC (.int 1))) (eBf lenD (aC (e2 itemD (eV 0) (eC (.int 0))) aN))))) (sSeq (sSet 2 (e2 itemD (e2 itemD (eV 0) (eC (.int 0))) (e2 itemD (eV 0) (eC (.int 1))))) (sSeq (sStore (e2 addD (e2 itemD (eV 0) (eC (.int 1))) (eC (.int 1))) (eV 0) (eC (.int 1))) (sSeq (sStore (e2 modD (eBf intD (aC (e2 addD (e2 addD (e2 mulD (e2 itemD (eV 0) (eC (.int 3))) (eC (.int 69621))) (eV 2)) (eC (.int 29))) aN)) (eC (.int 2147483629))) (eV 0) (eC (.int 3))) (sIf (tst (e2 geD (eV 2) (e2 powD (eC (.int 10)) (eC (.int 18))))) (sStore (eV 2) (eV 0) (eC (.int 2))) (sPass))))) (sPass)) (sSeq (sIf (tst (e2 gtD (e2 itemD (eV 0) (eC (.int 2))) (eC (.int 0)))) (sSeq (sSet 3 (e2 modD (eBf intD (aC (e2 itemD (eV 0) (eC (.int 2))) aN)) (eV 1))) (sSeq (sStore (e2 divD (e2 itemD (eV 0) (eC (.int 2))) (eV 1)) (eV 0) (eC (.int 2))) (sRet (eV 3)))) (sPass)) (sSeq (sStore (e2 addD (e2 itemD (eV 0) (eC (.int 4))) (eC (.int 1))) (eV 0) (eC (.int 4))) (sSeq (sSet 4 (e2 modD (eBf intD (aC (e2 mulD (eBf intD (aC (e2 addD (e2 itemD (eV 0) (eC (.int 3))) (e2 mulD (eC (.int 7919)) (e2 itemD (eV 0) (eC (.int 4))))) aN)) (eC (.int 48271))) aN)) (eC (.int 2147483647)))) (sSeq (sSet 4 (e2 modD (eBf intD (aC (e2 mulD (eV 4) (e2 addD (e2 divD (eV 4) (eC (.int 1009))) (eC (.int 69621)))) aN)) (eC (.int 2147483647)))) (sSeq (sSet 4 (e2 modD (eBf intD (aC (e2 mulD (eV 4) (e2 addD (e2 divD (eV 4) (eC (.int 2003))) (eC (.int 40692)))) aN)) (eC (.int 2147483399)))) (sRet (e2 modD (eBf intD (aC (e2 divD (eV 4) (eC (.int 16))) aN)) (eV 1))))))))
def m__law_draw_v3 : List D → M D := mDef 5 c__law_draw_v3

/-- _law_any -/
def c__law_any : SM := sRet (e2 itemD (eV 1) (eCall 2 m__law_draw (aC (eV 0) (aC (eBf lenD (aC (eV 1) aN)) aN))))
def m__law_any : List D → M D := mDef 2 c__law_any

/-- _law_any -/
def c__law_any_v2 : SM := sRet (e2 itemD (eV 1) (eCall 2 m__law_draw_v2 (aC (eV 0) (aC (eBf lenD (aC (eV 1) aN)) aN))))
def m__law_any_v2 : List D → M D := mDef 2 c__law_any_v2

/-- _law_low -/
def c__law_low : SM := sSeq (sPar2 2 3 (aC (eBf absD (aC (eV 0) aN)) (aC (eV 1) aN))) (sSeq (sWhile (limI 3) (tst (e2 gtD (eV 3) (eC (.int 0)))) (sPar2 2 3 (aC (eV 3) (aC (e2 modD (eBf intD (aC (eV 2) aN)) (eV 3)) aN)))) (sRet (eTup (aC (e2 divD (eV 0) (eV 2)) (aC (e2 divD (eV 1) (eV 2)) aN)))))
def m__law_low : List D → M D := mDef 4 c__law_low

/-- _law_chances -/
def c__law_chances : SM := sSeq (sPar2 2 3 (aC (thaw (nLst aN)) (aC (e2 addD (eC (.int 1)) (eCall 2 m__law_draw (aC (eV 0) (aC (eV 1) aN)))) aN))) (sSeq (sFor (iR1 (aC (eV 3) aN)) (.nm 4) (sSeq (sSet 5 (eCall 2 m__law_any (aC (eV 0) (aC (frz (nLst (aC (eC (.int 2)) (aC (eC (.int 3)) (aC (eC (.int 4)) (aC (eC (.int 6)) (aC (e2 addD (eV 4) (eC (.int 1))) (aC (eC (.int 100)) (aC (e2 powD (eC (.int 10)) (eC (.int 9))) aN))))))))) aN)))) (sExp (eLm appD (eV 2) (aC (eCall 2 m__law_any (aC (eV 0) (aC (e2 addD (e2 mulD (frz (nLst (aC (eCall 2 m__law_low (aC (eCall 2 m__law_draw (aC (eV 0) (aC (e2 addD (eV 5) (eC (.int 1))) aN))) (aC (eV 5) aN))) aN))) (eC (.int 6))) (frz (nLst (aC (eTup (aC (eC (.int 1)) (aC (e2 addD (eV 4) (eC (.int 1))) aN))) (aC (eTup (aC (eC (.int 0)) (aC (eC (.int 1)) aN))) (aC (eTup (aC (eC (.int 1)) (aC (eC (.int 1)) aN))) aN)))))) aN))) aN))))) (sRet (eBf tupD (aC (eV 2) aN))))
def m__law_chances : List D → M D := mDef 6 c__law_chances

/-- _law_even -/
def c__law_even : SM := sSeq (sPat (.tp [.nm 1, .nm 2]) (eTup (aC (frz (nLc (iR1 (aC (e2 addD (eC (.int 1)) (eCall 2 m__law_draw (aC (eV 0) (aC (eC (.int 4)) aN)))) aN)) (.nm 4) [4] (tYes') (e2 addD (eC (.int 1)) (eCall 2 m__law_draw (aC (eV 0) (aC (eC (.int 5)) aN)))))) (aC (eC (.int 0)) aN)))) (sSeq (sSet 2 (e2 addD (eBf sumD (aC (eV 1) aN)) (eCall 2 m__law_any (aC (eV 0) (aC (frz (nLst (aC (eC (.int 0)) (aC (eC (.int 0)) (aC (eC (.int 1)) (aC (e1 negD (eC (.int 1))) aN)))))) aN))))) (sSeq (sSet 3 (frz (nLc (iSeq (eV 1)) (.nm 5) [5] (tYes') (eCall 2 m__law_low (aC (eV 5) (aC (e2 addD (eV 5) (eBf maxD (aC (eC (.int 1)) (aC (eV 2) aN)))) aN)))))) (sRet (eBf tupD (aC (e2 addD (frz (nLc (iR1 (aC (eCall 2 m__law_draw (aC (eV 0) (aC (eC (.int 4)) aN))) aN)) (.nm 4) [4] (tYes') (eCall 2 m__law_any (aC (eV 0) (aC (frz (nLst (aC (eTup (aC (eC (.int 1)) (aC (eC (.int 9)) aN))) (aC (eTup (aC (eC (.int 1)) (aC (eC (.int 2)) aN))) (aC (eTup (aC (eC (.int 1)) (aC (eC (.int 1)) aN))) aN))))) aN))))) (eV 3)) aN)))))
def m__law_even : List D → M D := mDef 6 c__law_even

/-- _law_odds -/
def c__law_odds : SM := sRet (ifV (tst (e2 eqD (e2 itemD (eV 0) (eC (.int 0))) (e2 itemD (eV 0) (eC (.int 1))))) (eC .non) (eCall 2 m__law_low (aC (e2 itemD (eV 0) (eC (.int 0))) (aC (e2 subD (e2 itemD (eV 0) (eC (.int 1))) (e2 itemD (eV 0) (eC (.int 0)))) aN))))
def m__law_odds : List D → M D := mDef 1 c__law_odds

/-- _law_plus -/
def c__law_plus : SM := sRet (eCall 2 m__law_low (aC (e2 addD (e2 mulD (e2 itemD (eV 0) (eC (.int 0))) (e2 itemD (eV 1) (eC (.int 1)))) (e2 mulD (e2 itemD (eV 1) (eC (.int 0))) (e2 itemD (eV 0) (eC (.int 1))))) (aC (e2 mulD (e2 itemD (eV 0) (eC (.int 1))) (e2 itemD (eV 1) (eC (.int 1)))) aN)))
def m__law_plus : List D → M D := mDef 2 c__law_plus

/-- _law_from -/
def c__law_from : SM := sSeq (sSet 1 (eTup (aC (eC (.int 0)) (aC (eC (.int 1)) aN)))) (sSeq (sFor (iR3 (aC (e2 subD (eBf lenD (aC (eV 0) aN)) (eC (.int 1))) (aC (e1 negD (eC (.int 1))) (aC (e1 negD (eC (.int 1))) aN)))) (.nm 2) (sSeq (sSet 3 (eCall 1 m__law_odds (aC (e2 itemD (eV 0) (eV 2)) aN))) (sSeq (sSet 1 (eCall 2 m__law_plus (aC (eV 1) (aC (ifV (tst (e2 isD (eV 3) (eC .non))) (eTup (aC (eC (.int 1)) (aC (eC (.int 1)) aN))) (eV 3)) aN)))) (sIf (tst (e2 geD (e2 itemD (eV 1) (eC (.int 0))) (e2 itemD (eV 1) (eC (.int 1))))) (sRet (eV 2)) (sPass))))) (sRet (eC .non)))
def m__law_from : List D → M D := mDef 4 c__law_from

/-- _law_hand -/
def c__law_hand : SM := sSeq (sSet 1 (frz (nLc (iSeq (eSl (eV 0) pN (pS (eC (.int 63))))) (.nm 2) [2] (tYes') (eBf absD (aC (eBf intD (aC (eV 2) aN)) aN))))) (sRet (thaw (nLst (aC (eV 1) (aC (eC (.int 0)) (aC (eC (.int 0)) (aC (e2 addD (eC (.int 1)) (eBf lenD (aC (eV 1) aN))) (aC (eC (.int 0)) aN))))))))
def m__law_hand : List D → M D := mDef 3 c__law_hand

/-- _law_hand -/
def c__law_hand_v2 : SM := sSeq (sSet 1 (frz (nLc (iSeq (eSl (eV 0) pN (pS (eC (.int 63))))) (.nm 2) [2] (tYes') (eBf absD (aC (eBf intD (aC (eV 2) aN)) aN))))) (sRet (thaw (nLst (aC (eV 1) (aC (eC (.int 0)) (aC (eC (.int 0)) (aC (e2 addD (eC (.int 251)) (e2 mulD (eC (.int 37)) (eBf lenD (aC (eV 1) aN)))) (aC (eC (.int 0)) aN))))))))
def m__law_hand_v2 : List D → M D := mDef 3 c__law_hand_v2

/-- product -/
def c_product : SM := sRet (eCall 2 m_lowest (aC (e2 mulD (e2 itemD (eV 0) (eC (.int 0))) (e2 itemD (eV 1) (eC (.int 0)))) (aC (e2 mulD (e2 itemD (eV 0) (eC (.int 1))) (e2 itemD (eV 1) (eC (.int 1)))) aN)))
def m_product : List D → M D := mDef 2 c_product

/-- none_from -/
def c_none_from : SM := sSeq (sSet 2 (eC (.tup [.int 1, .int 1]))) (sSeq (sFor (iSeq (eSl (eFld "Trials" "chances" (eV 0)) (pS (eV 1)) pN)) (.nm 3) (sSet 2 (eCall 2 m_product (aC (eV 2) (aC (eCall 2 m_minus (aC (eC (.tup [.int 1, .int 1])) (aC (eV 3) aN))) aN))))) (sRet (eV 2)))
def m_none_from : List D → M D := mDef 4 c_none_from

/-- none_good -/
def c_none_good : SM := sRet (eCall 2 m_none_from (aC (eV 0) (aC (eC (.int 0)) aN)))
def m_none_good : List D → M D := mDef 1 c_none_good

/-- _law_share -/
def c__law_share : SM := sSeq (sSet 1 (e2 addD (eC (.int 1)) (eCall 2 m__law_draw_v2 (aC (eV 0) (aC (eC (.int 9)) aN))))) (sSeq (sSet 2 (e2 mulD (frz (nLst (aC (eCall 2 m__law_low (aC (eCall 2 m__law_draw_v2 (aC (eV 0) (aC (e2 addD (eV 1) (eC (.int 1))) aN))) (aC (eV 1) aN))) aN))) (eC (.int 4)))) (sRet (eCall 2 m__law_any_v2 (aC (eV 0) (aC (e2 addD (eV 2) (frz (nLst (aC (eTup (aC (eC (.int 0)) (aC (eC (.int 1)) aN))) (aC (eTup (aC (eC (.int 1)) (aC (eC (.int 1)) aN))) (aC (eTup (aC (eC (.int 1)) (aC (eC (.int 2)) aN))) (aC (eTup (aC (eC (.int 1)) (aC (e2 addD (e2 powD (eC (.int 10)) (eC (.int 20))) (eC (.int 39))) aN))) aN))))))) aN)))))
def m__law_share : List D → M D := mDef 3 c__law_share

/-- _law_row -/
def c__law_row : SM := sRet (eBf tupD (aC (frz (nLc (iR1 (aC (e2 addD (eC (.int 1)) (eCall 2 m__law_draw_v2 (aC (eV 0) (aC (eV 1) aN)))) aN)) (.nm 2) [2] (tYes') (eCall 1 m__law_share (aC (eV 0) aN)))) aN))
def m__law_row : List D → M D := mDef 3 c__law_row

/-- _law_mul -/
def c__law_mul : SM := sRet (eCall 2 m__law_low (aC (e2 mulD (e2 itemD (eV 0) (eC (.int 0))) (e2 itemD (eV 1) (eC (.int 0)))) (aC (e2 mulD (e2 itemD (eV 0) (eC (.int 1))) (e2 itemD (eV 1) (eC (.int 1)))) aN)))
def m__law_mul : List D → M D := mDef 2 c__law_mul

/-- _law_rest -/
def c__law_rest : SM := sRet (eCall 2 m__law_low (aC (e2 subD (e2 itemD (eV 0) (eC (.int 1))) (e2 itemD (eV 0) (eC (.int 0)))) (aC (e2 itemD (eV 0) (eC (.int 1))) aN)))
def m__law_rest : List D → M D := mDef 1 c__law_rest

/-- _law_rest -/
def c__law_rest_v2 : SM := sRet (eTup (aC (e2 subD (e2 itemD (eV 0) (eC (.int 1))) (e2 itemD (eV 0) (eC (.int 0)))) (aC (e2 itemD (eV 0) (eC (.int 1))) aN)))
def m__law_rest_v2 : List D → M D := mDef 1 c__law_rest_v2

/-- _law_due -/
def c__law_due : SM := sSeq (sPar2 1 2 (aC (thaw (nLst aN)) (aC (eTup (aC (eC (.int 1)) (aC (eC (.int 1)) aN))) aN))) (sSeq (sFor (iSeq (e1 revD (eV 0))) (.nm 3) (sSeq (sExp (eLm appD (eV 1) (aC (eCall 2 m__law_mul (aC (eV 3) (aC (eV 2) aN))) aN))) (sSet 2 (eCall 2 m__law_mul (aC (eV 2) (aC (eCall 1 m__law_rest (aC (eV 3) aN)) aN)))))) (sRet (eTup (aC (eBf tupD (aC (e1 revD (eV 1)) aN)) (aC (eV 2) aN)))))
def m__law_due : List D → M D := mDef 4 c__law_due

/-- is_lot -/
def c_is_lot : SM := sSeq (sIf (orT (notT (tru (eBf (isiD []) (aC (eV 0) (aC (eC (.ty "tuple")) aN))))) (notT (tru (eBf allD (aC (frz (nLc (iSeq (eV 0)) (.nm 2) [2] (tYes') (eCall 3 m_is_within (aC (eV 2) (aC (eC (.int 0)) (aC (e2 subD (eV 1) (eC (.int 1))) aN)))))) aN))))) (sRet (eC (.bl false))) (sPass)) (sRet (eBf allD (aC (frz (nLc (iZip (aC (eV 0) (aC (eSl (eV 0) (pS (eC (.int 1))) pN) aN))) (.tp [.nm 2, .nm 3]) [2, 3] (tYes') (e2 ltD (eV 2) (eV 3)))) aN)))
def m_is_lot : List D → M D := mDef 4 c_is_lot

/-- _law_below -/
def c__law_below : SM := sRet (e2 ltD (e2 mulD (e2 itemD (eV 0) (eC (.int 0))) (e2 itemD (eV 1) (eC (.int 1)))) (e2 mulD (e2 itemD (eV 1) (eC (.int 0))) (e2 itemD (eV 0) (eC (.int 1)))))
def m__law_below : List D → M D := mDef 2 c__law_below

/-- greatest -/
def c_greatest : SM := sRet (ifV (tru (eCall 2 m_is_less (aC (eV 0) (aC (eV 1) aN)))) (eV 1) (eV 0))
def m_greatest : List D → M D := mDef 2 c_greatest

/-- _law_lots -/
def c__law_lots : SM := sSeq (sSet 1 (frz (nLst (aC (eTup aN) aN)))) (sSeq (sFor (iR1 (aC (eV 0) aN)) (.nm 2) (sSet 1 (e2 addD (eV 1) (frz (nLc (iSeq (eV 1)) (.nm 3) [3] (tYes') (e2 addD (eV 3) (eTup (aC (eV 2) aN)))))))) (sRet (frz (nBf sortN (aC (eV 1) aN)))))
def m__law_lots : List D → M D := mDef 4 c__law_lots

/-- _law_product -/
def c__law_product : SM := sRet (eCall 2 m__law_low (aC (e2 mulD (e2 itemD (eV 0) (eC (.int 0))) (e2 itemD (eV 1) (eC (.int 0)))) (aC (e2 mulD (e2 itemD (eV 0) (eC (.int 1))) (e2 itemD (eV 1) (eC (.int 1)))) aN)))
def m__law_product : List D → M D := mDef 2 c__law_product

/-- _law_above -/
def c__law_above : SM := sRet (e2 gtD (e2 mulD (e2 itemD (eV 0) (eC (.int 0))) (e2 itemD (eV 1) (eC (.int 1)))) (e2 mulD (e2 itemD (eV 1) (eC (.int 0))) (e2 itemD (eV 0) (eC (.int 1)))))
def m__law_above : List D → M D := mDef 2 c__law_above

/-- law -/
def c_law_k03 : SM := sSeq (sSet 1 (eCall 1 m__law_tape (aC (eV 0) aN))) (sSeq (sSet 2 (eMake "Trials" 2 m_Trials___init__ (aC (eTup (aC (eTup (aC (eC (.int 1)) (aC (eC (.int 1)) aN))) (aC (eTup (aC (eC (.int 1)) (aC (eC (.int 2)) aN))) (aC (eTup (aC (eC (.int 1)) (aC (eC (.int 3)) aN))) (aC (eTup (aC (eC (.int 1)) (aC (eC (.int 4)) aN))) aN))))) aN))) (sSeq (sIf (orT (tst (e2 neD (frz (nLc (iR1 (aC (eC (.int 4)) aN)) (.nm 10) [10] (tYes') (eCall 2 m_odds (aC (eV 2) (aC (eV 10) aN))))) (frz (nLst (aC (eC .non) (aC (eTup (aC (eC (.int 1)) (aC (eC (.int 1)) aN))) (aC (eTup (aC (eC (.int 1)) (aC (eC (.int 2)) aN))) (aC (eTup (aC (eC (.int 1)) (aC (eC (.int 3)) aN))) aN)))))))) (tst (e2 neD (eCall 1 m_from_which (aC (eV 2) aN)) (eC (.int 1))))) (sRet (eC (.bl false))) (sPass)) (sSeq (sIf (orT (tst (e2 neD (eCall 1 m_from_which (aC (eMake "Trials" 2 m_Trials___init__ (aC (eTup (aC (eTup (aC (eC (.int 1)) (aC (eC (.int 3)) aN))) (aC (eTup (aC (eC (.int 1)) (aC (eC (.int 3)) aN))) aN))) aN)) aN)) (eC (.int 0)))) (tst (e2 neD (eCall 1 m_from_which (aC (eMake "Trials" 2 m_Trials___init__ (aC (eTup (aC (eTup (aC (eC (.int 1)) (aC (eC (.int 9)) aN))) (aC (eTup (aC (eC (.int 1)) (aC (eC (.int 2)) aN))) aN))) aN)) aN)) (eC (.int 1))))) (sRet (eC (.bl false))) (sPass)) (sSeq (sFor (iR1 (aC (eC (.int 6)) aN)) (.nm 3) (sSeq (sSet 4 (ifV (tst (e2 eqD (eCall 2 m__law_draw (aC (eV 1) (aC (eC (.int 2)) aN))) (eC (.int 0)))) (eCall 2 m__law_chances (aC (eV 1) (aC (eC (.int 12)) aN))) (eCall 1 m__law_even (aC (eV 1) aN)))) (sSeq (sPat (.tp [.nm 5, .nm 6]) (eTup (aC (eMake "Trials" 2 m_Trials___init__ (aC (eV 4) aN)) (aC (eCall 1 m__law_from (aC (eV 4) aN)) aN)))) (sSeq (sIf (tst (e2 neD (frz (nLc (iR1 (aC (eBf lenD (aC (eV 4) aN)) aN)) (.nm 10) [10] (tYes') (eBf reprD (aC (eCall 2 m_odds (aC (eV 5) (aC (eV 10) aN))) aN)))) (frz (nLc (iSeq (eV 4)) (.nm 7) [7] (tYes') (eBf reprD (aC (eCall 1 m__law_odds (aC (eV 7) aN)) aN)))))) (sRet (eC (.bl false))) (sPass)) (sSeq (sIf (tst (e2 neD (eBf reprD (aC (eCall 1 m_from_which (aC (eV 5) aN)) aN)) (eBf reprD (aC (orX (eV 6) (eC (.int 0))) aN)))) (sRet (eC (.bl false))) (sPass)) (sIf (tst (e2 ltD (eBf lenD (aC (eV 4) aN)) (eC (.int 12)))) (sSeq (sSet 7 (eCall 2 m__law_any (aC (eV 1) (aC (frz (nLst (aC (eTup (aC (eC (.int 1)) (aC (eC (.int 3)) aN))) (aC (eTup (aC (eC (.int 1)) (aC (eC (.int 50)) aN))) (aC (eTup (aC (eC (.int 0)) (aC (eC (.int 1)) aN))) aN))))) aN)))) (sSeq (sPar2 8 9 (aC (eCall 1 m_from_which (aC (eMake "Trials" 2 m_Trials___init__ (aC (e2 addD (eV 4) (eTup (aC (eV 7) aN))) aN)) aN)) (aC (eCall 1 m_from_which (aC (eMake "Trials" 2 m_Trials___init__ (aC (e2 addD (eTup (aC (eV 7) aN)) (eV 4)) aN)) aN)) aN))) (sIf (orT (tst (e2 ltD (eV 8) (orX (eV 6) (eC (.int 0))))) (orT (andT (tst (e2 isnD (eV 6) (eC .non))) (tst (e2 neD (eV 9) (e2 addD (eV 6) (eC (.int 1)))))) (andT (tst (e2 isD (eV 6) (eC .non))) (tst (e2 neD (eV 9) (eC (.int 0))))))) (sRet (eC (.bl false))) (sPass)))) (sPass))))))) (sRet (eC (.bl true)))))))
def m_law_k03 : List D → M D := mDef 11 c_law_k03

/-- last_shares -/
def c_last_shares : SM := sRet (frz (nLc (iEnumD (aC (eFld "Trials" "chances" (eV 0)) aN)) (.tp [.nm 1, .nm 2]) [1, 2] (tYes') (eCall 2 m_product (aC (eV 2) (aC (eCall 2 m_none_from (aC (eV 0) (aC (e2 addD (eV 1) (eC (.int 1))) aN))) aN)))))
def m_last_shares : List D → M D := mDef 3 c_last_shares

/-- won -/
def c_won : SM := sSeq (sPar2 2 3 (aC (eC (.tup [.int 0, .int 1])) (aC (eCall 1 m_last_shares (aC (eV 0) aN)) aN))) (sSeq (sSet 4 (eC (.tup [.int 1, .int 1]))) (sSeq (sFor (iSeq (eV 1)) (.nm 5) (sSeq (sSet 2 (eCall 2 m_plus (aC (eV 2) (aC (eCall 2 m_product (aC (eV 4) (aC (e2 itemD (eV 3) (eV 5)) aN))) aN)))) (sSet 4 (eCall 2 m_product (aC (eV 4) (aC (eCall 2 m_minus (aC (eC (.tup [.int 1, .int 1])) (aC (e2 itemD (eFld "Trials" "chances" (eV 0)) (eV 5)) aN))) aN)))))) (sRet (eV 2))))
def m_won : List D → M D := mDef 6 c_won

/-- best_lots -/
def c_best_lots : SM := sSeq (sIf (tst (e2 ninD (eC (.str "best")) (eFld "Trials" "looked" (eV 0)))) (sSeq (sPat (.tp [.nm 1, .nm 2]) (eTup (aC (frz (nLst (aC (eTup aN) aN))) (aC (eC (.tup [.int 0, .int 1])) aN)))) (sSeq (sFor (iR1 (aC (eBf lenD (aC (eFld "Trials" "chances" (eV 0)) aN)) aN)) (.nm 3) (sSet 1 (e2 addD (eV 1) (frz (nLc (iSeq (eV 1)) (.nm 6) [6] (tYes') (e2 addD (eV 6) (eTup (aC (eV 3) aN)))))))) (sSeq (sSet 4 (frz (nLc (iSeq (eV 1)) (.nm 6) [6] (tYes') (eTup (aC (eCall 2 m_won (aC (eV 0) (aC (eV 6) aN))) (aC (eV 6) aN)))))) (sSeq (sFor (iSeq (eV 4)) (.tp [.nm 5, .nm 6]) (sSet 2 (eCall 2 m_greatest (aC (eV 2) (aC (eV 5) aN))))) (sStore (eTup (aC (eV 2) (aC (frz (nBf sortN (aC (frz (nLc (iSeq (eV 4)) (.tp [.nm 5, .nm 6]) [5, 6] (tst (e2 eqD (eV 5) (eV 2))) (eV 6))) aN))) aN))) (eFld "Trials" "looked" (eV 0)) (eC (.str "best"))))))) (sPass)) (sRet (e2 itemD (eFld "Trials" "looked" (eV 0)) (eC (.str "best"))))
def m_best_lots : List D → M D := mDef 7 c_best_lots

/-- best -/
def c_best : SM := sSeq (sPat (.tp [.nm 1, .nm 2]) (eCall 1 m_best_lots (aC (eV 0) aN))) (sRet (eTup (aC (eV 1) (aC (e2 itemD (eV 2) (eC (.int 0))) aN))))
def m_best : List D → M D := mDef 3 c_best

/-- last_good -/
def c_last_good : SM := sRet (eBf tupD (aC (eCall 1 m_last_shares (aC (eV 0) aN)) aN))
def m_last_good : List D → M D := mDef 1 c_last_good

/-- win -/
def c_win : SM := sSeq (sIf (notT (tru (eCall 2 m_is_lot (aC (eV 1) (aC (eBf lenD (aC (eFld "Trials" "chances" (eV 0)) aN)) aN))))) (sBad) (sPass)) (sRet (eCall 2 m_won (aC (eV 0) (aC (eV 1) aN))))
def m_win : List D → M D := mDef 2 c_win

/-- law -/
def c_law_k05 : SM := sSeq (sSet 1 (eCall 1 m__law_hand (aC (eV 0) aN))) (sSeq (sSet 2 (eMake "Trials" 2 m_Trials___init__ (aC (eTup (aC (eTup (aC (eC (.int 1)) (aC (eC (.int 2)) aN))) (aC (eTup (aC (eC (.int 1)) (aC (eC (.int 3)) aN))) (aC (eTup (aC (eC (.int 1)) (aC (eC (.int 4)) aN))) aN)))) aN))) (sSeq (sIf (orT (tst (e2 neD (eCall 1 m_last_good (aC (eV 2) aN)) (eTup (aC (eTup (aC (eC (.int 1)) (aC (eC (.int 4)) aN))) (aC (eTup (aC (eC (.int 1)) (aC (eC (.int 4)) aN))) (aC (eTup (aC (eC (.int 1)) (aC (eC (.int 4)) aN))) aN)))))) (tst (e2 neD (eCall 1 m_none_good (aC (eV 2) aN)) (eTup (aC (eC (.int 1)) (aC (eC (.int 4)) aN)))))) (sRet (eC (.bl false))) (sPass)) (sSeq (sIf (orT (tst (e2 neD (eCall 1 m_last_good (aC (eMake "Trials" 2 m_Trials___init__ (aC (eTup (aC (eTup (aC (eC (.int 1)) (aC (eC (.int 1)) aN))) (aC (eTup (aC (eC (.int 0)) (aC (eC (.int 1)) aN))) aN))) aN)) aN)) (eTup (aC (eTup (aC (eC (.int 1)) (aC (eC (.int 1)) aN))) (aC (eTup (aC (eC (.int 0)) (aC (eC (.int 1)) aN))) aN))))) (tst (e2 neD (eCall 1 m_none_good (aC (eMake "Trials" 2 m_Trials___init__ (aC (e2 mulD (eTup (aC (eTup (aC (eC (.int 0)) (aC (eC (.int 1)) aN))) aN)) (eC (.int 12))) aN)) aN)) (eTup (aC (eC (.int 1)) (aC (eC (.int 1)) aN)))))) (sRet (eC (.bl false))) (sPass)) (sSeq (sFor (iR1 (aC (eC (.int 5)) aN)) (.nm 3) (sSeq (sSet 4 (eCall 2 m__law_row (aC (eV 1) (aC (eC (.int 12)) aN)))) (sSeq (sPar2 5 6 (aC (eMake "Trials" 2 m_Trials___init__ (aC (eV 4) aN)) (aC (eCall 1 m__law_due (aC (eV 4) aN)) aN))) (sSeq (sIf (tst (e2 neD (eBf reprD (aC (eTup (aC (eCall 1 m_last_good (aC (eV 5) aN)) (aC (eCall 1 m_none_good (aC (eV 5) aN)) aN))) aN)) (eBf reprD (aC (eV 6) aN)))) (sRet (eC (.bl false))) (sPass)) (sSeq (sSet 7 (eCall 1 m_none_good (aC (eV 5) aN))) (sSeq (sFor (iSeq (eCall 1 m_last_good (aC (eV 5) aN))) (.nm 8) (sSet 7 (eCall 2 m__law_plus (aC (eV 7) (aC (eV 8) aN))))) (sSeq (sIf (tst (e2 neD (eV 7) (eTup (aC (eC (.int 1)) (aC (eC (.int 1)) aN))))) (sRet (eC (.bl false))) (sPass)) (sSeq (sFor (iEnumD (aC (e2 itemD (eV 6) (eC (.int 0))) aN)) (.tp [.nm 9, .nm 8]) (sIf (orT (tst (e2 neD (eCall 2 m_win (aC (eV 5) (aC (eTup (aC (eV 9) aN)) aN))) (eV 8))) (tru (eCall 2 m__law_below (aC (e2 itemD (eCall 1 m_best (aC (eV 5) aN)) (eC (.int 0))) (aC (eV 8) aN))))) (sRet (eC (.bl false))) (sPass))) (sSeq (sSet 10 (eBf tupD (aC (frz (nLc (iR1 (aC (eBf lenD (aC (eV 4) aN)) aN)) (.nm 9) [9] (tst (e2 eqD (eCall 2 m__law_draw_v2 (aC (eV 1) (aC (eC (.int 2)) aN))) (eC (.int 0)))) (eV 9))) aN))) (sSeq (sSet 7 (eTup (aC (eC (.int 0)) (aC (eC (.int 1)) aN)))) (sSeq (sFor (iSeq (eV 10)) (.nm 9) (sSet 7 (eCall 2 m__law_plus (aC (eV 7) (aC (e2 itemD (e2 itemD (eV 6) (eC (.int 0))) (eV 9)) aN))))) (sSeq (sIf (tru (eCall 2 m__law_below (aC (eV 7) (aC (eCall 2 m_win (aC (eV 5) (aC (eV 10) aN))) aN)))) (sRet (eC (.bl false))) (sPass)) (sSeq (sSet 11 (e2 addD (eC (.int 1)) (eCall 2 m__law_draw_v2 (aC (eV 1) (aC (eBf lenD (aC (eV 4) aN)) aN))))) (sSeq (sSet 12 (eTup (aC (eC (.int 1)) (aC (eC (.int 1)) aN)))) (sSeq (sFor (iSeq (eSl (eV 4) (pS (eV 11)) pN)) (.nm 13) (sSet 12 (eCall 2 m__law_mul (aC (eV 12) (aC (eCall 1 m__law_rest (aC (eV 13) aN)) aN))))) (sSeq (sSet 14 (eCall 1 m_last_good (aC (eMake "Trials" 2 m_Trials___init__ (aC (eSl (eV 4) pN (pS (eV 11))) aN)) aN))) (sIf (tst (e2 neD (eBf tupD (aC (frz (nLc (iSeq (eV 14)) (.nm 8) [8] (tYes') (eCall 2 m__law_mul (aC (eV 8) (aC (eV 12) aN))))) aN)) (eSl (e2 itemD (eV 6) (eC (.int 0))) pN (pS (eV 11))))) (sRet (eC (.bl false))) (sPass)))))))))))))))))) (sRet (eC (.bl true)))))))
def m_law_k05 : List D → M D := mDef 15 c_law_k05

/-- _law_win -/
def c__law_win : SM := sSeq (sPat (.tp [.nm 2, .nm 3]) (eTup (aC (eTup (aC (eC (.int 0)) (aC (eC (.int 1)) aN))) (aC (eTup (aC (eC (.int 1)) (aC (eC (.int 1)) aN))) aN)))) (sSeq (sFor (iSeq (eV 1)) (.nm 4) (sSeq (sSet 5 (e2 itemD (eV 0) (eV 4))) (sSeq (sFor (iSeq (eSl (eV 0) (pS (e2 addD (eV 4) (eC (.int 1)))) pN)) (.nm 6) (sSet 5 (eCall 2 m__law_product (aC (eV 5) (aC (eCall 1 m__law_rest_v2 (aC (eV 6) aN)) aN))))) (sSeq (sSet 2 (eCall 2 m__law_plus (aC (eV 2) (aC (eCall 2 m__law_product (aC (eV 3) (aC (eV 5) aN))) aN)))) (sSet 3 (eCall 2 m__law_product (aC (eV 3) (aC (eCall 1 m__law_rest_v2 (aC (e2 itemD (eV 0) (eV 4)) aN)) aN)))))))) (sRet (eV 2)))
def m__law_win : List D → M D := mDef 7 c__law_win

/-- all_best -/
def c_all_best : SM := sRet (eBf tupD (aC (e2 itemD (eCall 1 m_best_lots (aC (eV 0) aN)) (eC (.int 1))) aN))
def m_all_best : List D → M D := mDef 1 c_all_best

/-- law -/
def c_law_k02 : SM := sSeq (sSet 1 (eCall 1 m__law_tape (aC (eV 0) aN))) (sSeq (sIf (orT (tst (e2 neD (eCall 1 m_best (aC (eMake "Trials" 2 m_Trials___init__ (aC (eTup (aC (eTup (aC (eC (.int 1)) (aC (eC (.int 2)) aN))) (aC (eTup (aC (eC (.int 1)) (aC (eC (.int 2)) aN))) aN))) aN)) aN)) (eTup (aC (eTup (aC (eC (.int 1)) (aC (eC (.int 2)) aN))) (aC (eTup (aC (eC (.int 0)) (aC (eC (.int 1)) aN))) aN))))) (tst (e2 neD (eCall 1 m_all_best (aC (eMake "Trials" 2 m_Trials___init__ (aC (eTup (aC (eTup (aC (eC (.int 1)) (aC (eC (.int 2)) aN))) (aC (eTup (aC (eC (.int 1)) (aC (eC (.int 2)) aN))) aN))) aN)) aN)) (eTup (aC (eTup (aC (eC (.int 0)) (aC (eC (.int 1)) aN))) (aC (eTup (aC (eC (.int 1)) aN)) aN)))))) (sRet (eC (.bl false))) (sPass)) (sSeq (sIf (orT (tst (e2 neD (eCall 1 m_best (aC (eMake "Trials" 2 m_Trials___init__ (aC (eTup (aC (eTup (aC (eC (.int 0)) (aC (eC (.int 1)) aN))) aN)) aN)) aN)) (eTup (aC (eTup (aC (eC (.int 0)) (aC (eC (.int 1)) aN))) (aC (eTup aN) aN))))) (tst (e2 neD (eCall 1 m_all_best (aC (eMake "Trials" 2 m_Trials___init__ (aC (eTup (aC (eTup (aC (eC (.int 0)) (aC (eC (.int 1)) aN))) aN)) aN)) aN)) (eTup (aC (eTup aN) (aC (eTup (aC (eC (.int 0)) aN)) aN)))))) (sRet (eC (.bl false))) (sPass)) (sSeq (sIf (tst (e2 neD (eCall 1 m_best (aC (eMake "Trials" 2 m_Trials___init__ (aC (eTup (aC (eTup (aC (eC (.int 1)) (aC (eC (.int 1)) aN))) (aC (eTup (aC (eC (.int 1)) (aC (eC (.int 2)) aN))) (aC (eTup (aC (eC (.int 1)) (aC (eC (.int 3)) aN))) aN)))) aN)) aN)) (eTup (aC (eTup (aC (eC (.int 1)) (aC (eC (.int 2)) aN))) (aC (eTup (aC (eC (.int 1)) (aC (eC (.int 2)) aN))) aN))))) (sRet (eC (.bl false))) (sPass)) (sSeq (sFor (iR1 (aC (eC (.int 3)) aN)) (.nm 2) (sSeq (sSet 3 (eCall 2 m__law_chances (aC (eV 1) (aC (ifV (tst (e2 eqD (eCall 2 m__law_draw (aC (eV 1) (aC (eC (.int 8)) aN))) (eC (.int 0)))) (eC (.int 8)) (eC (.int 6))) aN)))) (sSeq (sPar2 4 5 (aC (eMake "Trials" 2 m_Trials___init__ (aC (eV 3) aN)) (aC (eCall 1 m__law_lots (aC (eBf lenD (aC (eV 3) aN)) aN)) aN))) (sSeq (sSet 6 (frz (nLc (iSeq (eV 5)) (.nm 11) [11] (tYes') (eCall 2 m__law_win (aC (eV 3) (aC (eV 11) aN)))))) (sSeq (sSet 7 (e2 itemD (eV 6) (eC (.int 0)))) (sSeq (sFor (iSeq (eV 6)) (.nm 8) (sSet 7 (ifV (tru (eCall 2 m__law_above (aC (eV 8) (aC (eV 7) aN)))) (eV 8) (eV 7)))) (sSeq (sSet 9 (eBf tupD (aC (frz (nLc (iZip (aC (eV 5) (aC (eV 6) aN))) (.tp [.nm 11, .nm 8]) [11, 8] (tst (e2 eqD (eV 8) (eV 7))) (eV 11))) aN))) (sSeq (sIf (orT (tst (e2 neD (eBf reprD (aC (eCall 1 m_best (aC (eV 4) aN)) aN)) (eBf reprD (aC (eTup (aC (eV 7) (aC (e2 itemD (eV 9) (eC (.int 0))) aN))) aN)))) (tst (e2 neD (eBf reprD (aC (eCall 1 m_all_best (aC (eV 4) aN)) aN)) (eBf reprD (aC (eV 9) aN))))) (sRet (eC (.bl false))) (sPass)) (sSeq (sFor (iR1 (aC (eC (.int 6)) aN)) (.nm 10) (sSeq (sSet 11 (eCall 2 m__law_any (aC (eV 1) (aC (eV 5) aN)))) (sIf (orT (tst (e2 neD (e2 eqD (eCall 2 m_win (aC (eV 4) (aC (eV 11) aN))) (eV 7)) (e2 inD (eV 11) (eV 9)))) (tru (eCall 2 m__law_above (aC (eCall 2 m_win (aC (eV 4) (aC (eV 11) aN))) (aC (eV 7) aN))))) (sRet (eC (.bl false))) (sPass)))) (sIf (orT (tst (e2 neD (eCall 1 m_best (aC (eV 4) aN)) (eTup (aC (eV 7) (aC (e2 itemD (eV 9) (eC (.int 0))) aN))))) (tst (e2 neD (eCall 1 m_all_best (aC (eV 4) aN)) (eV 9)))) (sRet (eC (.bl false))) (sPass))))))))))) (sRet (eC (.bl true)))))))
def m_law_k02 : List D → M D := mDef 12 c_law_k02

/-- is_value_pair -/
def c_is_value_pair : SM := sRet (andX (eCall 3 m_is_tuple (aC (eV 0) (aC (eC (.int 2)) (aC (eC (.int 2)) aN)))) (andX (eCall 3 m_is_within (aC (e2 itemD (eV 0) (eC (.int 0))) (aC (eC (.int 0)) (aC (eC (.int 1000)) aN)))) (andX (eCall 1 m_is_share (aC (e2 itemD (eV 0) (eC (.int 1))) aN)) (e2 gtD (e2 itemD (e2 itemD (eV 0) (eC (.int 1))) (eC (.int 0))) (eC (.int 0))))))
def m_is_value_pair : List D → M D := mDef 1 c_is_value_pair

/-- is_offer -/
def c_is_offer : SM := sSeq (sIf (orT (notT (tru (eCall 3 m_is_tuple (aC (eV 0) (aC (eC (.int 1)) (aC (eC (.int 5)) aN)))))) (notT (tru (eBf allD (aC (frz (nLc (iSeq (eV 0)) (.nm 1) [1] (tYes') (eCall 1 m_is_value_pair (aC (eV 1) aN)))) aN))))) (sRet (eC (.bl false))) (sPass)) (sSeq (sIf (notT (tru (eBf allD (aC (frz (nLc (iZip (aC (eV 0) (aC (eSl (eV 0) (pS (eC (.int 1))) pN) aN))) (.tp [.nm 2, .nm 3]) [2, 3] (tYes') (e2 ltD (e2 itemD (eV 2) (eC (.int 0))) (e2 itemD (eV 3) (eC (.int 0)))))) aN)))) (sRet (eC (.bl false))) (sPass)) (sRet (e2 eqD (eCall 1 m_whole_sum (aC (frz (nLc (iSeq (eV 0)) (.tp [.nm 4, .nm 5]) [4, 5] (tYes') (eV 5))) aN)) (eC (.tup [.int 1, .int 1])))))
def m_is_offer : List D → M D := mDef 6 c_is_offer

/-- Deal.__init__ -/
def c_Deal___init__ : SM := sSeq (sIf (orT (notT (tru (eCall 3 m_is_tuple (aC (eV 1) (aC (eC (.int 1)) (aC (eC (.int 8)) aN)))))) (notT (tru (eBf allD (aC (frz (nLc (iSeq (eV 1)) (.nm 2) [2] (tYes') (eCall 1 m_is_offer (aC (eV 2) aN)))) aN))))) (sBad) (sPass)) (sFldD "Deal" "offers" (eV 1) (eV 0))
def m_Deal___init__ : List D → M D := mDef 3 c_Deal___init__

/-- _law_some -/
def c__law_some : SM := sRet (e2 itemD (eV 1) (eCall 2 m__law_draw_v3 (aC (eV 0) (aC (eBf lenD (aC (eV 1) aN)) aN))))
def m__law_some : List D → M D := mDef 2 c__law_some

/-- _law_offer -/
def c__law_offer : SM := sSeq (sSet 2 (thaw (nLst aN))) (sSeq (sFor (iR1 (aC (e2 addD (eC (.int 1)) (eCall 2 m__law_draw_v3 (aC (eV 0) (aC (eV 1) aN)))) aN)) (.nm 3) (sExp (eLm appD (eV 2) (aC (eCall 2 m__law_some (aC (eV 0) (aC (frz (nLst (aC (eC (.int 0)) (aC (eC (.int 1)) (aC (eC (.int 2)) (aC (eC (.int 3)) (aC (eC (.int 5)) (aC (eC (.int 8)) (aC (eC (.int 9)) (aC (eC (.int 20)) (aC (ifV (tst (e2 eqD (eCall 2 m__law_draw_v3 (aC (eV 0) (aC (eC (.int 6)) aN))) (eC (.int 0)))) (eC (.int 1000)) (eC (.int 4))) aN))))))))))) aN))) aN)))) (sSeq (sSet 2 (thaw (nSortU (eV 2)))) (sSeq (sSet 4 (frz (nLc (iSeq (eV 2)) (.nm 5) [5] (tYes') (e2 addD (eC (.int 1)) (eCall 2 m__law_draw_v3 (aC (eV 0) (aC (eC (.int 4)) aN))))))) (sRet (eBf tupD (aC (frz (nLc (iZip (aC (eV 2) (aC (eV 4) aN))) (.tp [.nm 5, .nm 6]) [5, 6] (tYes') (eTup (aC (eV 5) (aC (eCall 2 m__law_low (aC (eV 6) (aC (eBf sumD (aC (eV 4) aN)) aN))) aN))))) aN))))))
def m__law_offer : List D → M D := mDef 7 c__law_offer

/-- _law_deal -/
def c__law_deal : SM := sRet (eBf tupD (aC (frz (nLc (iR1 (aC (e2 addD (eC (.int 1)) (eCall 2 m__law_draw_v3 (aC (eV 0) (aC (eV 1) aN)))) aN)) (.nm 3) [3] (tYes') (eCall 2 m__law_offer (aC (eV 0) (aC (eV 2) aN))))) aN))
def m__law_deal : List D → M D := mDef 4 c__law_deal

/-- _law_is -/
def c__law_is (rec : List D → M D) : SM := sSeq (sIf (orT (tru (eBf (isiD []) (aC (eV 0) (aC (eC (.ty "bool")) aN)))) (tru (eBf (isiD []) (aC (eV 1) (aC (eC (.ty "bool")) aN))))) (sRet (andX (eBf (isiD []) (aC (eV 0) (aC (eC (.ty "bool")) aN))) (andX (eBf (isiD []) (aC (eV 1) (aC (eC (.ty "bool")) aN))) (e2 eqD (eV 0) (eV 1))))) (sPass)) (sSeq (sIf (orT (tru (eBf (isiD []) (aC (eV 0) (aC (eC (.ty "tuple")) aN)))) (tru (eBf (isiD []) (aC (eV 0) (aC (eC (.ty "list")) aN))))) (sSeq (sIf (orT (tst (e2 neD (eBf (isiD []) (aC (eV 0) (aC (eC (.ty "tuple")) aN))) (eBf (isiD []) (aC (eV 1) (aC (eC (.ty "tuple")) aN))))) (tst (e2 neD (eBf (isiD []) (aC (eV 0) (aC (eC (.ty "list")) aN))) (eBf (isiD []) (aC (eV 1) (aC (eC (.ty "list")) aN)))))) (sRet (eC (.bl false))) (sPass)) (sRet (andX (e2 eqD (eBf lenD (aC (eV 0) aN)) (eBf lenD (aC (eV 1) aN))) (eBf allD (aC (frz (nLc (iZip (aC (eV 0) (aC (eV 1) aN))) (.tp [.nm 2, .nm 3]) [2, 3] (tYes') (eCall 2 rec (aC (eV 2) (aC (eV 3) aN))))) aN))))) (sPass)) (sSeq (sIf (tru (eBf (isiD []) (aC (eV 0) (aC (eC (.ty "dict")) aN)))) (sSeq (sIf (orT (notT (tru (eBf (isiD []) (aC (eV 1) (aC (eC (.ty "dict")) aN))))) (tst (e2 neD (eBf lenD (aC (eV 0) aN)) (eBf lenD (aC (eV 1) aN))))) (sRet (eC (.bl false))) (sPass)) (sRet (eBf allD (aC (frz (nLc (iSeq (eV 0)) (.nm 4) [4] (tYes') (andX (e2 inD (eV 4) (eV 1)) (eCall 2 rec (aC (e2 itemD (eV 0) (eV 4)) (aC (e2 itemD (eV 1) (eV 4)) aN)))))) aN)))) (sPass)) (sRet (andX (e2 eqD (eBf (isiD []) (aC (eV 0) (aC (eC (.ty "int")) aN))) (eBf (isiD []) (aC (eV 1) (aC (eC (.ty "int")) aN)))) (e2 eqD (eV 0) (eV 1))))))
def r__law_is : Nat → List D → M D
  | 0 => fun _ _ => .bad
  | j + 1 => mDef 5 (c__law_is (r__law_is j))
def m__law_is : List D → M D := r__law_is 12

/-- _law_less -/
def c__law_less : SM := sRet (e2 ltD (e2 mulD (e2 itemD (eV 0) (eC (.int 0))) (e2 itemD (eV 1) (eC (.int 1)))) (e2 mulD (e2 itemD (eV 1) (eC (.int 0))) (e2 itemD (eV 0) (eC (.int 1)))))
def m__law_less : List D → M D := mDef 2 c__law_less

/-- _law_prod -/
def c__law_prod : SM := sRet (eCall 2 m__law_low (aC (e2 mulD (e2 itemD (eV 0) (eC (.int 0))) (e2 itemD (eV 1) (eC (.int 0)))) (aC (e2 mulD (e2 itemD (eV 0) (eC (.int 1))) (e2 itemD (eV 1) (eC (.int 1)))) aN)))
def m__law_prod : List D → M D := mDef 2 c__law_prod

/-- _law_rows -/
def c__law_rows : SM := sSeq (sSet 1 (frz (nLst (aC (eTup (aC (eC (.int 0)) (aC (eTup (aC (eC (.int 1)) (aC (eC (.int 1)) aN))) aN))) aN)))) (sSeq (sFor (iSeq (eV 0)) (.nm 2) (sSeq (sSet 3 (thaw (nLst aN))) (sSeq (sFor (iSeq (eV 1)) (.tp [.nm 4, .nm 5]) (sExp (eLm extD (eV 3) (aC (frz (nLc (iSeq (eV 2)) (.tp [.nm 6, .nm 7]) [6, 7] (tYes') (eTup (aC (eBf maxD (aC (eV 4) (aC (eV 6) aN))) (aC (eCall 2 m__law_prod (aC (eV 5) (aC (eV 7) aN))) aN))))) aN)))) (sSet 1 (eV 3))))) (sRet (eV 1)))
def m__law_rows : List D → M D := mDef 8 c__law_rows

/-- _law_sum -/
def c__law_sum : SM := sRet (eCall 2 m__law_low (aC (e2 addD (e2 mulD (e2 itemD (eV 0) (eC (.int 0))) (e2 itemD (eV 1) (eC (.int 1)))) (e2 mulD (e2 itemD (eV 1) (eC (.int 0))) (e2 itemD (eV 0) (eC (.int 1))))) (aC (e2 mulD (e2 itemD (eV 0) (eC (.int 1))) (e2 itemD (eV 1) (eC (.int 1)))) aN)))
def m__law_sum : List D → M D := mDef 2 c__law_sum

/-- mean_of -/
def c_mean_of : SM := sRet (eCall 1 m_whole_sum (aC (frz (nLc (iSeq (eV 0)) (.tp [.nm 1, .nm 2]) [1, 2] (tYes') (eCall 2 m_product (aC (eTup (aC (eV 1) (aC (eC (.int 1)) aN))) (aC (eV 2) aN))))) aN))
def m_mean_of : List D → M D := mDef 3 c_mean_of

/-- one_floor -/
def c_one_floor : SM := sSeq (sPar2 2 3 (aC (eC (.tup [.int 0, .int 1])) (aC (eC (.tup [.int 1, .int 1])) aN))) (sSeq (sFor (iSeq (eV 0)) (.nm 4) (sSeq (sSet 5 (frz (nLc (iSeq (eV 4)) (.tp [.nm 6, .nm 7]) [6, 7] (notT (tru (eCall 2 m_is_less (aC (eTup (aC (eV 6) (aC (eC (.int 1)) aN))) (aC (eV 1) aN))))) (eTup (aC (eV 6) (aC (eV 7) aN)))))) (sSeq (sSet 2 (eCall 2 m_plus (aC (eV 2) (aC (eCall 2 m_product (aC (eV 3) (aC (eCall 1 m_mean_of (aC (eV 5) aN)) aN))) aN)))) (sSet 3 (eCall 2 m_product (aC (eV 3) (aC (eCall 2 m_minus (aC (eC (.tup [.int 1, .int 1])) (aC (eCall 1 m_whole_sum (aC (frz (nLc (iSeq (eV 5)) (.tp [.nm 6, .nm 7]) [6, 7] (tYes') (eV 7))) aN)) aN))) aN))))))) (sRet (eV 2)))
def m_one_floor : List D → M D := mDef 8 c_one_floor

/-- values_of -/
def c_values_of : SM := sSeq (sSet 1 (eDct0)) (sSeq (sFor (iSeq (eV 0)) (.nm 2) (sFor (iSeq (eV 2)) (.tp [.nm 3, .nm 4]) (sStore (eC (.bl true)) (eV 1) (eV 3)))) (sRet (frz (nBf sortDF (aC (eV 1) aN)))))
def m_values_of : List D → M D := mDef 5 c_values_of

/-- best_floor -/
def c_best_floor : SM := sSeq (sSet 1 (frz (nLc (iSeq (eCall 1 m_values_of (aC (eFld "Deal" "offers" (eV 0)) aN))) (.nm 4) [4] (tYes') (eTup (aC (eCall 2 m_one_floor (aC (eFld "Deal" "offers" (eV 0)) (aC (eTup (aC (eV 4) (aC (eC (.int 1)) aN))) aN))) (aC (eTup (aC (eV 4) (aC (eC (.int 1)) aN))) aN)))))) (sSeq (sSet 2 (e2 itemD (eV 1) (eC (.int 0)))) (sSeq (sFor (iSeq (eSl (eV 1) (pS (eC (.int 1))) pN)) (.nm 3) (sIf (tru (eCall 2 m_is_less (aC (e2 itemD (eV 2) (eC (.int 0))) (aC (e2 itemD (eV 3) (eC (.int 0))) aN)))) (sSet 2 (eV 3)) (sPass))) (sRet (eV 2))))
def m_best_floor : List D → M D := mDef 5 c_best_floor

/-- by_floor -/
def c_by_floor : SM := sSeq (sIf (orT (notT (tru (eCall 1 m_is_fraction (aC (eV 1) aN)))) (tst (e2 ltD (e2 itemD (eV 1) (eC (.int 0))) (eC (.int 0))))) (sBad) (sPass)) (sRet (eCall 2 m_one_floor (aC (eFld "Deal" "offers" (eV 0)) (aC (eV 1) aN))))
def m_by_floor : List D → M D := mDef 2 c_by_floor

/-- no_more -/
def c_no_more : SM := sSeq (sSet 2 (eC (.tup [.int 1, .int 1]))) (sSeq (sFor (iSeq (eV 0)) (.nm 3) (sSet 2 (eCall 2 m_product (aC (eV 2) (aC (eCall 1 m_whole_sum (aC (frz (nLc (iSeq (eV 3)) (.tp [.nm 4, .nm 5]) [4, 5] (tst (e2 leD (eV 4) (eV 1))) (eV 5))) aN)) aN))))) (sRet (eV 2)))
def m_no_more : List D → M D := mDef 6 c_no_more

/-- greatest_mean -/
def c_greatest_mean : SM := sSeq (sPar2 1 2 (aC (eC (.tup [.int 0, .int 1])) (aC (eC (.tup [.int 0, .int 1])) aN))) (sSeq (sFor (iSeq (eCall 1 m_values_of (aC (eV 0) aN))) (.nm 3) (sSeq (sSet 4 (eCall 2 m_no_more (aC (eV 0) (aC (eV 3) aN)))) (sSeq (sSet 1 (eCall 2 m_plus (aC (eV 1) (aC (eCall 2 m_product (aC (eTup (aC (eV 3) (aC (eC (.int 1)) aN))) (aC (eCall 2 m_minus (aC (eV 4) (aC (eV 2) aN))) aN))) aN)))) (sSet 2 (eV 4))))) (sRet (eV 1)))
def m_greatest_mean : List D → M D := mDef 5 c_greatest_mean

/-- foreseen -/
def c_foreseen : SM := sRet (eCall 1 m_greatest_mean (aC (eFld "Deal" "offers" (eV 0)) aN))
def m_foreseen : List D → M D := mDef 1 c_foreseen

/-- half_floor -/
def c_half_floor : SM := sRet (eCall 2 m_product (aC (eTup (aC (eC (.int 1)) (aC (eC (.int 2)) aN))) (aC (eCall 1 m_greatest_mean (aC (eFld "Deal" "offers" (eV 0)) aN)) aN)))
def m_half_floor : List D → M D := mDef 1 c_half_floor

/-- with_floor -/
def c_with_floor : SM := sRet (eCall 1 m_whole_sum (aC (frz (nLc (iSeq (eV 0)) (.tp [.nm 2, .nm 3]) [2, 3] (tYes') (eCall 2 m_product (aC (eV 3) (aC (eCall 2 m_greatest (aC (eTup (aC (eV 2) (aC (eC (.int 1)) aN))) (aC (eV 1) aN))) aN))))) aN))
def m_with_floor : List D → M D := mDef 4 c_with_floor

/-- worths -/
def c_worths : SM := sSeq (sSet 1 (thaw (nLst (aC (eC (.tup [.int 0, .int 1])) aN)))) (sSeq (sFor (iSeq (e1 revD (eV 0))) (.nm 2) (sExp (eLm appD (eV 1) (aC (eCall 2 m_with_floor (aC (eV 2) (aC (e2 itemD (eV 1) (e1 negD (eC (.int 1)))) aN))) aN)))) (sRet (e1 revD (eV 1))))
def m_worths : List D → M D := mDef 3 c_worths

/-- worth -/
def c_worth : SM := sRet (e2 itemD (eCall 1 m_worths (aC (eFld "Deal" "offers" (eV 0)) aN)) (eC (.int 0)))
def m_worth : List D → M D := mDef 1 c_worth

/-- law -/
def c_law_k14 : SM := sSeq (sSet 1 (eCall 1 m__law_hand_v2 (aC (eV 0) aN))) (sSeq (sFor (iR1 (aC (eC (.int 3)) aN)) (.nm 2) (sSeq (sSet 3 (eCall 3 m__law_deal (aC (eV 1) (aC (eC (.int 4)) (aC (eC (.int 4)) aN))))) (sSeq (sIf (tst (e2 eqD (eCall 2 m__law_draw_v3 (aC (eV 1) (aC (eC (.int 3)) aN))) (eC (.int 0)))) (sSeq (sSet 4 (e2 addD (eC (.int 2)) (eCall 2 m__law_draw_v3 (aC (eV 1) (aC (eC (.int 40)) aN))))) (sSet 3 (eTup (aC (eTup (aC (eTup (aC (eC (.int 1)) (aC (eTup (aC (eC (.int 1)) (aC (eC (.int 1)) aN))) aN))) aN)) (aC (eTup (aC (eTup (aC (eC (.int 0)) (aC (eTup (aC (e2 subD (eV 4) (eC (.int 1))) (aC (eV 4) aN))) aN))) (aC (eTup (aC (eV 4) (aC (eTup (aC (eC (.int 1)) (aC (eV 4) aN))) aN))) aN))) aN))))) (sPass)) (sSeq (sPat (.tp [.nm 5, .nm 6]) (eTup (aC (eMake "Deal" 2 m_Deal___init__ (aC (eV 3) aN)) (aC (eTup (aC (eC (.int 0)) (aC (eC (.int 1)) aN))) aN)))) (sSeq (sFor (iSeq (eCall 1 m__law_rows (aC (eV 3) aN))) (.tp [.nm 7, .nm 8]) (sSet 6 (eCall 2 m__law_sum (aC (eV 6) (aC (eCall 2 m__law_prod (aC (eTup (aC (eV 7) (aC (eC (.int 1)) aN))) (aC (eV 8) aN))) aN))))) (sSeq (sSet 9 (eCall 2 m__law_low (aC (e2 itemD (eV 6) (eC (.int 0))) (aC (e2 mulD (eC (.int 2)) (e2 itemD (eV 6) (eC (.int 1)))) aN)))) (sSeq (sIf (orT (notT (tru (eCall 2 m__law_is (aC (eCall 1 m_foreseen (aC (eV 5) aN)) (aC (eV 6) aN))))) (notT (tru (eCall 2 m__law_is (aC (eCall 1 m_half_floor (aC (eV 5) aN)) (aC (eV 9) aN)))))) (sRet (eC (.bl false))) (sPass)) (sSeq (sSet 10 (frz (nLst (aC (eCall 2 m_by_floor (aC (eV 5) (aC (eV 9) aN))) (aC (e2 itemD (eCall 1 m_best_floor (aC (eV 5) aN)) (eC (.int 0))) (aC (eCall 1 m_worth (aC (eV 5) aN)) aN)))))) (sSeq (sIf (tru (eBf anyD (aC (frz (nLc (iSeq (eV 10)) (.nm 12) [12] (tYes') (orX (eCall 2 m__law_less (aC (eV 12) (aC (eV 9) aN))) (eCall 2 m__law_less (aC (eV 6) (aC (eV 12) aN)))))) aN))) (sRet (eC (.bl false))) (sPass)) (sIf (tru (eCall 2 m__law_less (aC (e2 itemD (eV 10) (eC (.int 2))) (aC (e2 itemD (eV 10) (eC (.int 1))) aN)))) (sRet (eC (.bl false))) (sPass))))))))))) (sSeq (sSet 11 (eTup (aC (eTup (aC (eC (.int 0)) (aC (eTup (aC (eC (.int 1)) (aC (eC (.int 2)) aN))) aN))) (aC (eTup (aC (eC (.int 4)) (aC (eTup (aC (eC (.int 1)) (aC (eC (.int 2)) aN))) aN))) aN)))) (sRet (andX (e2 eqD (eCall 1 m_foreseen (aC (eMake "Deal" 2 m_Deal___init__ (aC (eTup (aC (eV 11) (aC (eV 11) aN))) aN)) aN)) (eTup (aC (eC (.int 3)) (aC (eC (.int 1)) aN)))) (e2 eqD (eCall 1 m_half_floor (aC (eMake "Deal" 2 m_Deal___init__ (aC (eTup (aC (eV 11) aN)) aN)) aN)) (eTup (aC (eC (.int 1)) (aC (eC (.int 1)) aN))))))))
def m_law_k14 : List D → M D := mDef 13 c_law_k14

/-- _law_greater -/
def c__law_greater : SM := sSeq (sSet 2 (eCall 2 m__law_draw_v3 (aC (eV 0) (aC (eBf lenD (aC (eV 1) aN)) aN)))) (sSeq (sPat (.tp [.nm 3, .nm 4]) (e2 itemD (e2 itemD (eV 1) (eV 2)) (e1 negD (eC (.int 1))))) (sSeq (sSet 5 (e2 addD (eSl (e2 itemD (eV 1) (eV 2)) pN (pS (e1 negD (eC (.int 1))))) (eTup (aC (eTup (aC (ifV (tst (e2 ltD (eV 3) (eC (.int 900)))) (e2 addD (e2 addD (eV 3) (eC (.int 1))) (eCall 2 m__law_draw_v3 (aC (eV 0) (aC (eC (.int 5)) aN)))) (eV 3)) (aC (eV 4) aN))) aN)))) (sRet (e2 addD (e2 addD (eSl (eV 1) pN (pS (eV 2))) (eTup (aC (eV 5) aN))) (eSl (eV 1) (pS (e2 addD (eV 2) (eC (.int 1)))) pN)))))
def m__law_greater : List D → M D := mDef 6 c__law_greater

/-- _law_no_less -/
def c__law_no_less : SM := sSeq (sSet 2 (frz (nLst (aC (eTup (aC (eCall 1 m_worth (aC (eV 0) aN)) (aC (eCall 1 m_worth (aC (eV 1) aN)) aN))) (aC (eTup (aC (eCall 1 m_foreseen (aC (eV 0) aN)) (aC (eCall 1 m_foreseen (aC (eV 1) aN)) aN))) (aC (eTup (aC (eCall 1 m_half_floor (aC (eV 0) aN)) (aC (eCall 1 m_half_floor (aC (eV 1) aN)) aN))) aN)))))) (sRet (e1 notX (eBf anyD (aC (frz (nLc (iSeq (eV 2)) (.tp [.nm 3, .nm 4]) [3, 4] (tYes') (eCall 2 m__law_less (aC (eV 4) (aC (eV 3) aN))))) aN))))
def m__law_no_less : List D → M D := mDef 5 c__law_no_less

/-- _law_most -/
def c__law_most : SM := sRet (ifV (tru (eCall 2 m__law_less (aC (eV 0) (aC (eV 1) aN)))) (eV 1) (eV 0))
def m__law_most : List D → M D := mDef 2 c__law_most

/-- _law_hopes -/
def c__law_hopes : SM := sSeq (sSet 1 (frz (nLst (aC (eTup (aC (eC (.int 0)) (aC (eC (.int 1)) aN))) aN)))) (sSeq (sFor (iSeq (e1 revD (eV 0))) (.nm 2) (sSeq (sSet 3 (eTup (aC (eC (.int 0)) (aC (eC (.int 1)) aN)))) (sSeq (sFor (iSeq (eV 2)) (.tp [.nm 4, .nm 5]) (sSet 3 (eCall 2 m__law_sum (aC (eV 3) (aC (eCall 2 m__law_prod (aC (eV 5) (aC (eCall 2 m__law_most (aC (eTup (aC (eV 4) (aC (eC (.int 1)) aN))) (aC (e2 itemD (eV 1) (eC (.int 0))) aN))) aN))) aN))))) (sSet 1 (e2 addD (frz (nLst (aC (eV 3) aN))) (eV 1)))))) (sRet (eV 1)))
def m__law_hopes : List D → M D := mDef 6 c__law_hopes

/-- floors -/
def c_floors : SM := sRet (eBf tupD (aC (eSl (eCall 1 m_worths (aC (eFld "Deal" "offers" (eV 0)) aN)) (pS (eC (.int 1))) pN) aN))
def m_floors : List D → M D := mDef 1 c_floors

/-- mean -/
def c_mean : SM := sSeq (sIf (notT (tru (eCall 3 m_is_within (aC (eV 1) (aC (eC (.int 0)) (aC (e2 subD (eBf lenD (aC (eFld "Deal" "offers" (eV 0)) aN)) (eC (.int 1))) aN)))))) (sBad) (sPass)) (sRet (eCall 1 m_mean_of (aC (e2 itemD (eFld "Deal" "offers" (eV 0)) (eV 1)) aN)))
def m_mean : List D → M D := mDef 2 c_mean

/-- _law_one_right -/
def c__law_one_right : SM := sSeq (sSet 2 (eCall 1 m__law_hopes (aC (eV 1) aN))) (sSeq (sIf (orT (tst (e2 neD (eCall 1 m_worth (aC (eV 0) aN)) (e2 itemD (eV 2) (eC (.int 0))))) (orT (tst (e2 neD (eCall 1 m_floors (aC (eV 0) aN)) (eBf tupD (aC (eSl (eV 2) (pS (eC (.int 1))) pN) aN)))) (tru (eCall 2 m__law_less (aC (eCall 1 m_foreseen (aC (eV 0) aN)) (aC (eCall 1 m_worth (aC (eV 0) aN)) aN)))))) (sRet (eC (.bl false))) (sPass)) (sRet (e1 notX (eBf anyD (aC (frz (nLc (iR1 (aC (eBf lenD (aC (eV 1) aN)) aN)) (.nm 3) [3] (tYes') (eCall 2 m__law_less (aC (eCall 1 m_worth (aC (eV 0) aN)) (aC (eCall 2 m_mean (aC (eV 0) (aC (eV 3) aN))) aN))))) aN)))))
def m__law_one_right : List D → M D := mDef 4 c__law_one_right

/-- law -/
def c_law_k36 : SM := sSeq (sSet 1 (eCall 1 m__law_hand_v2 (aC (eV 0) aN))) (sSeq (sFor (iR1 (aC (eC (.int 2)) aN)) (.nm 2) (sSeq (sPar2 3 4 (aC (eCall 3 m__law_deal (aC (eV 1) (aC (eC (.int 4)) (aC (eC (.int 3)) aN)))) (aC (eCall 2 m__law_offer (aC (eV 1) (aC (eC (.int 3)) aN))) aN))) (sSeq (sPar2 5 6 (aC (eMake "Deal" 2 m_Deal___init__ (aC (eV 3) aN)) (aC (eCall 2 m__law_draw_v3 (aC (eV 1) (aC (e2 addD (eBf lenD (aC (eV 3) aN)) (eC (.int 1))) aN))) aN))) (sSeq (sIf (notT (tru (eCall 2 m__law_one_right (aC (eV 5) (aC (eV 3) aN))))) (sRet (eC (.bl false))) (sPass)) (sSeq (sSet 7 (frz (nLst (aC (e2 addD (eTup (aC (eV 4) aN)) (eV 3)) (aC (e2 addD (eV 3) (eTup (aC (eV 4) aN))) (aC (e2 addD (e2 addD (eSl (eV 3) pN (pS (eV 6))) (eTup (aC (eV 4) aN))) (eSl (eV 3) (pS (eV 6)) pN)) (aC (eCall 2 m__law_greater (aC (eV 1) (aC (eV 3) aN))) aN))))))) (sSeq (sFor (iSeq (eV 7)) (.nm 8) (sIf (orT (notT (tru (eCall 2 m__law_one_right (aC (eMake "Deal" 2 m_Deal___init__ (aC (eV 8) aN)) (aC (eV 8) aN))))) (notT (tru (eCall 2 m__law_no_less (aC (eV 5) (aC (eMake "Deal" 2 m_Deal___init__ (aC (eV 8) aN)) aN)))))) (sRet (eC (.bl false))) (sPass))) (sSeq (sSet 9 (eMake "Deal" 2 m_Deal___init__ (aC (e2 addD (eTup (aC (eV 4) aN)) (eV 3)) aN))) (sSeq (sIf (orT (tst (e2 neD (eSl (eCall 1 m_floors (aC (eV 9) aN)) (pS (eC (.int 1))) pN) (eCall 1 m_floors (aC (eV 5) aN)))) (tst (e2 neD (e2 itemD (eCall 1 m_floors (aC (eV 9) aN)) (eC (.int 0))) (eCall 1 m_worth (aC (eV 5) aN))))) (sRet (eC (.bl false))) (sPass)) (sSeq (sIf (tst (e2 neD (eCall 1 m_foreseen (aC (eV 9) aN)) (eCall 1 m_foreseen (aC (eMake "Deal" 2 m_Deal___init__ (aC (e2 addD (eV 3) (eTup (aC (eV 4) aN))) aN)) aN)))) (sRet (eC (.bl false))) (sPass)) (sSeq (sSet 10 (eMake "Deal" 2 m_Deal___init__ (aC (e2 addD (e2 addD (eSl (eV 3) pN (pS (eV 6))) (eTup (aC (eTup (aC (eTup (aC (eC (.int 0)) (aC (eTup (aC (eC (.int 1)) (aC (eC (.int 1)) aN))) aN))) aN)) aN))) (eSl (eV 3) (pS (eV 6)) pN)) aN))) (sSeq (sIf (orT (tst (e2 neD (eCall 1 m_worth (aC (eV 10) aN)) (eCall 1 m_worth (aC (eV 5) aN)))) (tst (e2 neD (eCall 1 m_foreseen (aC (eV 10) aN)) (eCall 1 m_foreseen (aC (eV 5) aN))))) (sRet (eC (.bl false))) (sPass)) (sIf (tst (e2 neD (e2 itemD (eCall 1 m_best_floor (aC (eV 10) aN)) (eC (.int 0))) (e2 itemD (eCall 1 m_best_floor (aC (eV 5) aN)) (eC (.int 0))))) (sRet (eC (.bl false))) (sPass))))))))))))) (sRet (e2 eqD (eCall 1 m_worth (aC (eMake "Deal" 2 m_Deal___init__ (aC (eTup (aC (eTup (aC (eTup (aC (eC (.int 5)) (aC (eTup (aC (eC (.int 1)) (aC (eC (.int 1)) aN))) aN))) aN)) aN)) aN)) aN)) (eTup (aC (eC (.int 5)) (aC (eC (.int 1)) aN))))))
def m_law_k36 : List D → M D := mDef 11 c_law_k36

/-- _law_orders -/
def c__law_orders : SM := sSeq (sSet 1 (frz (nLst (aC (eTup aN) aN)))) (sSeq (sFor (iR1 (aC (eV 0) aN)) (.nm 2) (sSeq (sSet 3 (thaw (nLst aN))) (sSeq (sFor (iSeq (eV 1)) (.nm 4) (sExp (eLm extD (eV 3) (aC (frz (nLc (iR1 (aC (eV 0) aN)) (.nm 5) [5] (tst (e2 ninD (eV 5) (eV 4))) (e2 addD (eV 4) (eTup (aC (eV 5) aN))))) aN)))) (sSet 1 (eV 3))))) (sRet (eV 1)))
def m__law_orders : List D → M D := mDef 6 c__law_orders

/-- all_orders -/
def c_all_orders : SM := sSeq (sSet 1 (frz (nLst (aC (eTup aN) aN)))) (sSeq (sFor (iR1 (aC (eV 0) aN)) (.nm 2) (sSeq (sSet 3 (thaw (nLst aN))) (sSeq (sFor (iSeq (eV 1)) (.nm 4) (sExp (eLm extD (eV 3) (aC (frz (nLc (iR1 (aC (eV 0) aN)) (.nm 5) [5] (tst (e2 ninD (eV 5) (eV 4))) (e2 addD (eV 4) (eTup (aC (eV 5) aN))))) aN)))) (sSet 1 (eV 3))))) (sRet (eV 1)))
def m_all_orders : List D → M D := mDef 6 c_all_orders

/-- best_order -/
def c_best_order : SM := sSeq (sIf (tst (e2 gtD (eBf lenD (aC (eFld "Deal" "offers" (eV 0)) aN)) (eC (.int 6)))) (sBad) (sPass)) (sSeq (sSet 1 (eC .non)) (sSeq (sFor (iSeq (eCall 1 m_all_orders (aC (eBf lenD (aC (eFld "Deal" "offers" (eV 0)) aN)) aN))) (.nm 2) (sSeq (sSet 3 (e2 itemD (eCall 1 m_worths (aC (frz (nLc (iSeq (eV 2)) (.nm 4) [4] (tYes') (e2 itemD (eFld "Deal" "offers" (eV 0)) (eV 4)))) aN)) (eC (.int 0)))) (sIf (orT (tst (e2 isD (eV 1) (eC .non))) (tru (eCall 2 m_is_less (aC (e2 itemD (eV 1) (eC (.int 0))) (aC (eV 3) aN))))) (sSet 1 (eTup (aC (eV 3) (aC (eV 2) aN)))) (sPass)))) (sRet (eV 1))))
def m_best_order : List D → M D := mDef 5 c_best_order

/-- is_order -/
def c_is_order : SM := sSeq (sSet 2 (eBf lenD (aC (eFld "Deal" "offers" (eV 0)) aN))) (sSeq (sIf (orT (notT (tru (eCall 3 m_is_tuple (aC (eV 1) (aC (eV 2) (aC (eV 2) aN)))))) (notT (tru (eBf allD (aC (frz (nLc (iSeq (eV 1)) (.nm 3) [3] (tYes') (eCall 3 m_is_within (aC (eV 3) (aC (eC (.int 0)) (aC (e2 subD (eV 2) (eC (.int 1))) aN)))))) aN))))) (sRet (eC (.bl false))) (sPass)) (sRet (e2 eqD (frz (nBf sortN (aC (eV 1) aN))) (frz (nR1 (eV 2))))))
def m_is_order : List D → M D := mDef 4 c_is_order

/-- in_order -/
def c_in_order : SM := sSeq (sIf (notT (tru (eCall 2 m_is_order (aC (eV 0) (aC (eV 1) aN))))) (sBad) (sPass)) (sRet (eMake "Deal" 2 m_Deal___init__ (aC (eBf tupD (aC (frz (nLc (iSeq (eV 1)) (.nm 2) [2] (tYes') (e2 itemD (eFld "Deal" "offers" (eV 0)) (eV 2)))) aN)) aN)))
def m_in_order : List D → M D := mDef 3 c_in_order

/-- nearly -/
def c_nearly : SM := sSeq (sIf (notT (tru (eCall 3 m_is_within (aC (eV 0) (aC (eC (.int 2)) (aC (eC (.int 1000)) aN)))))) (sBad) (sPass)) (sRet (eMake "Deal" 2 m_Deal___init__ (aC (eTup (aC (eTup (aC (eTup (aC (eC (.int 1)) (aC (eC (.tup [.int 1, .int 1])) aN))) aN)) (aC (eTup (aC (eTup (aC (eC (.int 0)) (aC (eCall 2 m_lowest (aC (e2 subD (eV 0) (eC (.int 1))) (aC (eV 0) aN))) aN))) (aC (eTup (aC (eV 0) (aC (eTup (aC (eC (.int 1)) (aC (eV 0) aN))) aN))) aN))) aN))) aN)))
def m_nearly : List D → M D := mDef 1 c_nearly

/-- law -/
def c_law_k15 : SM := sSeq (sSet 1 (eCall 1 m__law_hand_v2 (aC (eV 0) aN))) (sSeq (sSet 2 (e2 addD (eC (.int 2)) (eCall 2 m__law_draw_v3 (aC (eV 1) (aC (eC (.int 999)) aN))))) (sSeq (sSet 3 (eCall 1 m_nearly (aC (eV 2) aN))) (sSeq (sIf (tst (e2 neD (eV 3) (eMake "Deal" 2 m_Deal___init__ (aC (eTup (aC (eTup (aC (eTup (aC (eC (.int 1)) (aC (eTup (aC (eC (.int 1)) (aC (eC (.int 1)) aN))) aN))) aN)) (aC (eTup (aC (eTup (aC (eC (.int 0)) (aC (eTup (aC (e2 subD (eV 2) (eC (.int 1))) (aC (eV 2) aN))) aN))) (aC (eTup (aC (eV 2) (aC (eTup (aC (eC (.int 1)) (aC (eV 2) aN))) aN))) aN))) aN))) aN)))) (sRet (eC (.bl false))) (sPass)) (sSeq (sIf (orT (tst (e2 neD (eCall 1 m_worth (aC (eV 3) aN)) (eTup (aC (eC (.int 1)) (aC (eC (.int 1)) aN))))) (tst (e2 neD (eCall 1 m_foreseen (aC (eV 3) aN)) (eTup (aC (e2 subD (e2 mulD (eC (.int 2)) (eV 2)) (eC (.int 1))) (aC (eV 2) aN)))))) (sRet (eC (.bl false))) (sPass)) (sSeq (sFor (iR1 (aC (eC (.int 2)) aN)) (.nm 4) (sSeq (sSet 5 (eCall 3 m__law_deal (aC (eV 1) (aC (eC (.int 4)) (aC (eC (.int 3)) aN))))) (sSeq (sPar2 6 7 (aC (eMake "Deal" 2 m_Deal___init__ (aC (eV 5) aN)) (aC (eC .non) aN))) (sSeq (sFor (iSeq (eCall 1 m__law_orders (aC (eBf lenD (aC (eV 5) aN)) aN))) (.nm 8) (sSeq (sSet 9 (e2 itemD (eCall 1 m__law_hopes (aC (eBf tupD (aC (frz (nLc (iSeq (eV 8)) (.nm 13) [13] (tYes') (e2 itemD (eV 5) (eV 13)))) aN)) aN)) (eC (.int 0)))) (sIf (orT (tst (e2 isD (eV 7) (eC .non))) (tru (eCall 2 m__law_less (aC (e2 itemD (eV 7) (eC (.int 0))) (aC (eV 9) aN))))) (sSet 7 (eTup (aC (eV 9) (aC (eV 8) aN)))) (sPass)))) (sSeq (sIf (notT (tru (eCall 2 m__law_is (aC (eCall 1 m_best_order (aC (eV 6) aN)) (aC (eV 7) aN))))) (sRet (eC (.bl false))) (sPass)) (sSeq (sSet 8 (eCall 2 m__law_some (aC (eV 1) (aC (eCall 1 m__law_orders (aC (eBf lenD (aC (eV 5) aN)) aN)) aN)))) (sSeq (sSet 10 (eCall 2 m_in_order (aC (eV 6) (aC (eV 8) aN)))) (sSeq (sIf (orT (tst (e2 neD (eV 10) (eMake "Deal" 2 m_Deal___init__ (aC (eBf tupD (aC (frz (nLc (iSeq (eV 8)) (.nm 13) [13] (tYes') (e2 itemD (eV 5) (eV 13)))) aN)) aN)))) (tst (e2 neD (eCall 1 m_foreseen (aC (eV 10) aN)) (eCall 1 m_foreseen (aC (eV 6) aN))))) (sRet (eC (.bl false))) (sPass)) (sIf (tru (eCall 2 m__law_less (aC (e2 itemD (eV 7) (eC (.int 0))) (aC (eCall 1 m_worth (aC (eV 10) aN)) aN)))) (sRet (eC (.bl false))) (sPass)))))))))) (sSeq (sPat (.tp [.nm 11, .nm 12]) (eTup (aC (eTup (aC (eTup (aC (eC (.int 3)) (aC (eTup (aC (eC (.int 1)) (aC (eC (.int 1)) aN))) aN))) aN)) (aC (eTup (aC (eTup (aC (eC (.int 0)) (aC (eTup (aC (eC (.int 1)) (aC (eC (.int 2)) aN))) aN))) (aC (eTup (aC (eC (.int 4)) (aC (eTup (aC (eC (.int 1)) (aC (eC (.int 2)) aN))) aN))) aN))) aN)))) (sRet (e2 eqD (eCall 1 m_best_order (aC (eMake "Deal" 2 m_Deal___init__ (aC (eTup (aC (eV 11) (aC (eV 12) aN))) aN)) aN)) (eTup (aC (eTup (aC (eC (.int 7)) (aC (eC (.int 2)) aN))) (aC (eTup (aC (eC (.int 1)) (aC (eC (.int 0)) aN))) aN)))))))))))
def m_law_k15 : List D → M D := mDef 14 c_law_k15

/-- _law_by_floor -/
def c__law_by_floor : SM := sSeq (sPat (.tp [.nm 2, .nm 3]) (eTup (aC (eTup (aC (eC (.int 0)) (aC (eC (.int 1)) aN))) (aC (eTup (aC (eC (.int 1)) (aC (eC (.int 1)) aN))) aN)))) (sSeq (sFor (iSeq (eV 0)) (.nm 4) (sSeq (sSet 5 (frz (nLc (iSeq (eV 4)) (.tp [.nm 7, .nm 8]) [7, 8] (notT (tru (eCall 2 m__law_less (aC (eTup (aC (eV 7) (aC (eC (.int 1)) aN))) (aC (eV 1) aN))))) (eTup (aC (eV 7) (aC (eV 8) aN)))))) (sSeq (sSet 6 (eTup (aC (eC (.int 0)) (aC (eC (.int 1)) aN)))) (sSeq (sFor (iSeq (eV 5)) (.tp [.nm 7, .nm 8]) (sSeq (sSet 2 (eCall 2 m__law_sum (aC (eV 2) (aC (eCall 2 m__law_prod (aC (eV 3) (aC (eCall 2 m__law_prod (aC (eTup (aC (eV 7) (aC (eC (.int 1)) aN))) (aC (eV 8) aN))) aN))) aN)))) (sSet 6 (eCall 2 m__law_sum (aC (eV 6) (aC (eV 8) aN)))))) (sSet 3 (eCall 2 m__law_prod (aC (eV 3) (aC (eCall 2 m__law_low (aC (e2 subD (e2 itemD (eV 6) (eC (.int 1))) (e2 itemD (eV 6) (eC (.int 0)))) (aC (e2 itemD (eV 6) (eC (.int 1))) aN))) aN)))))))) (sRet (eV 2)))
def m__law_by_floor : List D → M D := mDef 9 c__law_by_floor

/-- law -/
def c_law_k13 : SM := sSeq (sSet 1 (eCall 1 m__law_hand_v2 (aC (eV 0) aN))) (sSeq (sFor (iR1 (aC (eC (.int 3)) aN)) (.nm 2) (sSeq (sPar2 3 4 (aC (eCall 3 m__law_deal (aC (eV 1) (aC (eC (.int 4)) (aC (eC (.int 4)) aN)))) (aC (eDct0) aN))) (sSeq (sSet 5 (eMake "Deal" 2 m_Deal___init__ (aC (eV 3) aN))) (sSeq (sFor (iSeq (eV 3)) (.nm 6) (sFor (iSeq (eV 6)) (.tp [.nm 7, .nm 8]) (sStore (eC (.bl true)) (eV 4) (eV 7)))) (sSeq (sSet 9 (eC .non)) (sSeq (sFor (iSeq (frz (nBf sortDF (aC (eV 4) aN)))) (.nm 7) (sSeq (sSet 10 (eCall 2 m__law_by_floor (aC (eV 3) (aC (eTup (aC (eV 7) (aC (eC (.int 1)) aN))) aN)))) (sSeq (sIf (notT (tru (eCall 2 m__law_is (aC (eCall 2 m_by_floor (aC (eV 5) (aC (eTup (aC (eV 7) (aC (eC (.int 1)) aN))) aN))) (aC (eV 10) aN))))) (sRet (eC (.bl false))) (sPass)) (sIf (orT (tst (e2 isD (eV 9) (eC .non))) (tru (eCall 2 m__law_less (aC (e2 itemD (eV 9) (eC (.int 0))) (aC (eV 10) aN))))) (sSet 9 (eTup (aC (eV 10) (aC (eTup (aC (eV 7) (aC (eC (.int 1)) aN))) aN)))) (sPass))))) (sSeq (sIf (orT (notT (tru (eCall 2 m__law_is (aC (eCall 1 m_best_floor (aC (eV 5) aN)) (aC (eV 9) aN))))) (tru (eCall 2 m__law_less (aC (eCall 1 m_worth (aC (eV 5) aN)) (aC (e2 itemD (eV 9) (eC (.int 0))) aN))))) (sRet (eC (.bl false))) (sPass)) (sSeq (sFor (iR1 (aC (eC (.int 4)) aN)) (.nm 11) (sSeq (sSet 12 (eCall 2 m__law_low (aC (eCall 2 m__law_draw_v3 (aC (eV 1) (aC (eC (.int 60)) aN))) (aC (e2 addD (eC (.int 1)) (eCall 2 m__law_draw_v3 (aC (eV 1) (aC (eC (.int 4)) aN)))) aN)))) (sIf (notT (tru (eCall 2 m__law_is (aC (eCall 2 m_by_floor (aC (eV 5) (aC (eV 12) aN))) (aC (eCall 2 m__law_by_floor (aC (eV 3) (aC (eV 12) aN))) aN))))) (sRet (eC (.bl false))) (sPass)))) (sIf (tst (e2 neD (eCall 2 m_by_floor (aC (eV 5) (aC (eTup (aC (eC (.int 1001)) (aC (eC (.int 1)) aN))) aN))) (eTup (aC (eC (.int 0)) (aC (eC (.int 1)) aN))))) (sRet (eC (.bl false))) (sPass)))))))))) (sSeq (sSet 13 (eTup (aC (eTup (aC (eC (.int 0)) (aC (eTup (aC (eC (.int 1)) (aC (eC (.int 2)) aN))) aN))) (aC (eTup (aC (eC (.int 4)) (aC (eTup (aC (eC (.int 1)) (aC (eC (.int 2)) aN))) aN))) aN)))) (sRet (andX (e2 eqD (eCall 1 m_best_floor (aC (eMake "Deal" 2 m_Deal___init__ (aC (eTup (aC (eV 13) (aC (eV 13) aN))) aN)) aN)) (eTup (aC (eTup (aC (eC (.int 3)) (aC (eC (.int 1)) aN))) (aC (eTup (aC (eC (.int 4)) (aC (eC (.int 1)) aN))) aN)))) (e2 eqD (eCall 2 m_by_floor (aC (eMake "Deal" 2 m_Deal___init__ (aC (eTup (aC (eV 13) (aC (eV 13) aN))) aN)) (aC (eTup (aC (eC (.int 0)) (aC (eC (.int 1)) aN))) aN))) (eTup (aC (eC (.int 2)) (aC (eC (.int 1)) aN))))))))
def m_law_k13 : List D → M D := mDef 14 c_law_k13
end Sh

/-! Plain laws, 1: what a computation gives; the greatest common divisor; fractions in lowest terms. -/
namespace Pl
open Dl Sh

theorem nr {α : Sort _} {a b : α} (h : a = b) : a = b := h
def Wp {α : Type} (r : R α) (Q : α → Hs → Prop) : Prop := match r with
  | .ok a h => Q a h
  | _ => False
def WpS (r : SR) (N : Env → Hs → Prop) (T : D → Hs → Prop) : Prop := match r with
  | .nx ρ h => N ρ h
  | .ret d h => T d h
  | _ => False
section
variable {α β : Type}
theorem wp_ok {a : α} {h : Hs} {Q : α → Hs → Prop} : Wp (.ok a h) Q = Q a h := nr rfl
theorem wp_bad {Q : α → Hs → Prop} : Wp (.bad) Q = False := nr rfl
theorem wp_bind {r : R α} {f : α → M β} {Q : β → Hs → Prop} : Wp (r.bind f) Q = Wp r fun a h => Wp (f a h) Q := by cases r <;> rfl
theorem wp_mono {r : R α} {Q Q' : α → Hs → Prop} (p : Wp r Q) (k : ∀ a h, Q a h → Q' a h) : Wp r Q' := by
  cases r with
  | ok a h => exact k _ _ p
  | exc C fs h => exact p
  | bad => exact p
theorem wp_iff {r : R α} {a : α} {h : Hs} (e : r = .ok a h) {Q : α → Hs → Prop} : Wp r Q = Q a h := by rw [e]; rfl
theorem wp_ex {r : R α} {Q : α → Hs → Prop} (p : Wp r Q) : ∃ a h, r = .ok a h ∧ Q a h := by
  cases r with
  | ok a h => exact ⟨a, h, rfl, p⟩
  | exc C fs h => exact p.elim
  | bad => exact p.elim
theorem wp_nox {r : R α} {Q : α → Hs → Prop} : Wp r.nox Q = Wp r Q := by cases r <;> rfl
theorem wps_then {r : R α} {ρ : Env} {f : α → Hs → SR} {N : Env → Hs → Prop} {T : D → Hs → Prop} : WpS (r.then ρ f) N T = Wp r fun a h => WpS (f a h) N T := by cases r <;> rfl
theorem wps_seq {a b : SM} {ρ : Env} {h : Hs} {N : Env → Hs → Prop} {T : D → Hs → Prop} : WpS (sSeq a b ρ h) N T = WpS (a ρ h) (fun ρ1 h1 => WpS (b ρ1 h1) N T) T := by
  unfold sSeq
  cases a ρ h <;> rfl
theorem wps_nx {ρ : Env} {h : Hs} {N : Env → Hs → Prop} {T : D → Hs → Prop} : WpS (.nx ρ h) N T = N ρ h := nr rfl
theorem wps_ret {d : D} {h : Hs} {N : Env → Hs → Prop} {T : D → Hs → Prop} : WpS (.ret d h) N T = T d h := nr rfl
theorem wps_mono {r : SR} {N N' : Env → Hs → Prop} {T T' : D → Hs → Prop} (p : WpS r N T) (k : ∀ ρ h, N ρ h → N' ρ h) (t : ∀ d h, T d h → T' d h) : WpS r N' T' := by
  cases r with
  | nx ρ h => exact k _ _ p
  | ret d h => exact t _ _ p
  | _ => exact p
theorem wp_def {n : Nat} {c : SM} {ds : List D} {h : Hs} {Q : D → Hs → Prop} : Wp (mDef n c ds h) Q = WpS (c (ent n ds) h) (fun _ h => Q .non h) Q := by
  unfold mDef
  cases c (ent n ds) h <;> rfl
theorem mdef_ret {n : Nat} {c : SM} {ds : List D} {h h' : Hs} {d : D} (e : c (ent n ds) h = .ret d h') : mDef n c ds h = .ok d h' := by
  unfold mDef
  rw [e]
  rfl
theorem seq_nx {a b : SM} {ρ ρ1 : Env} {h h1 : Hs} (e : a ρ h = .nx ρ1 h1) : sSeq a b ρ h = b ρ1 h1 := by
  unfold sSeq
  rw [e]
theorem bind_of {r : R α} {a : α} {h : Hs} (e : r = .ok a h) (f : α → M β) : r.bind f = f a h := by rw [e]; rfl
theorem then_of {r : R α} {a : α} {h : Hs} (e : r = .ok a h) (ρ : Env) (f : α → Hs → SR) : r.then ρ f = f a h := by rw [e]; rfl
end
/-QBEGIN-/
theorem q_e2 {f : D → D → M D} {ca cb : Env → M D} {ρ : Env} {h : Hs} : e2 f ca cb ρ h = (ca ρ h).bind fun x h1 => (cb ρ h1).bind fun y h2 => f x y h2 := nr rfl
theorem q_e1 {f : D → M D} {ca : Env → M D} {ρ : Env} {h : Hs} : e1 f ca ρ h = (ca ρ h).bind fun x h1 => f x h1 := nr rfl
theorem q_eC {d : D} {ρ : Env} {h : Hs} : eC d ρ h = .ok d h := nr rfl
theorem q_aC {ca : Env → M D} {cs : Env → M (List D)} {ρ : Env} {h : Hs} : aC ca cs ρ h = (ca ρ h).bind fun x h1 => (cs ρ h1).bind fun xs h2 => .ok (x :: xs) h2 := nr rfl
theorem q_aN {ρ : Env} {h : Hs} : aN  ρ h = .ok [] h := nr rfl
theorem q_sPar2 {i j : Nat} {cs : Env → M (List D)} {ρ : Env} {h : Hs} : sPar2 i j cs ρ h = (cs ρ h).then ρ fun xs h1 => match xs with
    | [x, y] => .nx ((ρ.set i (some x)).set j (some y)) h1
    | _ => .bad := nr rfl
theorem q_sPar3 {i j l : Nat} {cs : Env → M (List D)} {ρ : Env} {h : Hs} : sPar3 i j l cs ρ h = (cs ρ h).then ρ fun xs h1 => match xs with
    | [x, y, z] => .nx (((ρ.set i (some x)).set j (some y)).set l (some z)) h1
    | _ => .bad := nr rfl
theorem q_sSet {i : Nat} {ce : Env → M D} {ρ : Env} {h : Hs} : sSet i ce ρ h = (ce ρ h).then ρ fun d h1 => .nx (ρ.set i (some d)) h1 := nr rfl
theorem q_sRet {ce : Env → M D} {ρ : Env} {h : Hs} : sRet ce ρ h = (ce ρ h).then ρ fun d h1 => .ret d h1 := nr rfl
theorem q_eBf {f : List D → M D} {cs : Env → M (List D)} {ρ : Env} {h : Hs} : eBf f cs ρ h = (cs ρ h).bind f := nr rfl
theorem q_nBf {f : List D → M (List D)} {cs : Env → M (List D)} {ρ : Env} {h : Hs} : nBf f cs ρ h = (cs ρ h).bind f := nr rfl
theorem q_eCall {n : Nat} {m : List D → M D} {cs : Env → M (List D)} {ρ : Env} {h : Hs} : eCall n m cs ρ h = (cs ρ h).bind fun xs h1 => if decide (xs.length = n) then m xs h1 else .bad := nr rfl
theorem q_tst {ca : Env → M D} {ρ : Env} {h : Hs} : tst ca ρ h = (ca ρ h).bind fun x h1 => match x with
    | .bl b => .ok b h1
    | _ => .bad := nr rfl
theorem q_tru {ca : Env → M D} {ρ : Env} {h : Hs} : tru ca ρ h = (ca ρ h).bind fun x h1 => match truD h1 x with
    | some b => .ok b h1
    | none => .bad := nr rfl
theorem q_ifV {ct : Env → M Bool} {ca cb : Env → M D} {ρ : Env} {h : Hs} : ifV ct ca cb ρ h = (ct ρ h).bind fun x h1 => if x = true then ca ρ h1 else cb ρ h1 := nr rfl
theorem q_sIf {ct : Env → M Bool} {c1 c2 : SM} {ρ : Env} {h : Hs} : sIf ct c1 c2 ρ h = (ct ρ h).then ρ fun b h1 => if b = true then c1 ρ h1 else c2 ρ h1 := nr rfl
theorem q_eTup {cs : Env → M (List D)} {ρ : Env} {h : Hs} : eTup cs ρ h = (cs ρ h).bind fun xs h1 => if okLen xs.length then .ok (.tup xs) h1 else .bad := nr rfl
theorem q_sPass {ρ : Env} {h : Hs} : sPass  ρ h = .nx ρ h := nr rfl
theorem q_sExp {ce : Env → M D} {ρ : Env} {h : Hs} : sExp ce ρ h = (ce ρ h).then ρ fun _ h1 => .nx ρ h1 := nr rfl
theorem q_eLm {f : D → List D → M D} {ca : Env → M D} {cs : Env → M (List D)} {ρ : Env} {h : Hs} : eLm f ca cs ρ h = (ca ρ h).bind fun x h1 => match lstAt h1 x with
    | some _ => (cs ρ h1).bind fun xs h2 => f x xs h2
    | none => .bad := nr rfl
theorem q_nLst {cs : Env → M (List D)} {ρ : Env} {h : Hs} : nLst cs ρ h = (cs ρ h).bind fun xs h1 => if okLen xs.length then .ok xs h1 else .bad := nr rfl
theorem q_frz {cs : Env → M (List D)} {ρ : Env} {h : Hs} : frz cs ρ h = (cs ρ h).bind fun xs h1 => .ok (.lst xs) h1 := nr rfl
theorem q_thaw {cs : Env → M (List D)} {ρ : Env} {h : Hs} : thaw cs ρ h = (cs ρ h).bind fun xs h1 => .ok (.obj h1.length) (h1 ++ [.lst xs]) := nr rfl
theorem q_iSeq {ce : Env → M D} {ρ : Env} {h : Hs} : iSeq ce ρ h = (ce ρ h).bind fun x h1 => match itOf h1 x with
    | some it => if okG it.gs h1 then .ok it h1 else .bad
    | none => .bad := nr rfl
theorem q_iR1 {cs : Env → M (List D)} {ρ : Env} {h : Hs} : iR1 cs ρ h = (cs ρ h).bind fun ds h1 => match ds with
    | [.int j] => if okI j then .ok ⟨rng 0 1 j.toNat, []⟩ h1 else .bad
    | _ => .bad := nr rfl
theorem q_iR2 {cs : Env → M (List D)} {ρ : Env} {h : Hs} : iR2 cs ρ h = (cs ρ h).bind fun ds h1 => match ds with
    | [.int i, .int j] => if okI i && okI j then .ok ⟨rng i 1 (j - i).toNat, []⟩ h1 else .bad
    | _ => .bad := nr rfl
theorem q_iR3 {cs : Env → M (List D)} {ρ : Env} {h : Hs} : iR3 cs ρ h = (cs ρ h).bind fun ds h1 => match ds with
    | [.int i, .int j, .int k] => if okI i && okI j && decide (k = -1) then .ok ⟨rng i (-1) (i - j).toNat, []⟩ h1 else .bad
    | _ => .bad := nr rfl
theorem q_iEnumD {cs : Env → M (List D)} {ρ : Env} {h : Hs} : iEnumD cs ρ h = (cs ρ h).bind fun ds h1 => match ds with
    | [x] => (match itOf h1 x with
      | some it => if okG it.gs h1 then .ok ⟨enumD 0 it.items, it.gs⟩ h1 else .bad
      | none => .bad)
    | _ => .bad := nr rfl
theorem q_iZip {cs : Env → M (List D)} {ρ : Env} {h : Hs} : iZip cs ρ h = (cs ρ h).bind fun ds h1 => match ds with
    | [x, y] => if isT x == isT y then (match itOf h1 x, itOf h1 y with
      | some it, some jt => if okG it.gs h1 && okG jt.gs h1 then .ok ⟨zipD it.items jt.items, it.gs ++ jt.gs⟩ h1 else .bad
      | _, _ => .bad) else .bad
    | _ => .bad := nr rfl
theorem q_andX {ca cb : Env → M D} {ρ : Env} {h : Hs} : andX ca cb ρ h = (ca ρ h).bind fun x h1 => match truD h1 x with
    | some true => cb ρ h1
    | some false => .ok x h1
    | none => .bad := nr rfl
theorem q_orX {ca cb : Env → M D} {ρ : Env} {h : Hs} : orX ca cb ρ h = (ca ρ h).bind fun x h1 => match truD h1 x with
    | some true => .ok x h1
    | some false => cb ρ h1
    | none => .bad := nr rfl
theorem q_andT {ca cb : Env → M Bool} {ρ : Env} {h : Hs} : andT ca cb ρ h = (ca ρ h).bind fun x h1 => if x = true then cb ρ h1 else .ok false h1 := nr rfl
theorem q_orT {ca cb : Env → M Bool} {ρ : Env} {h : Hs} : orT ca cb ρ h = (ca ρ h).bind fun x h1 => if x = true then .ok true h1 else cb ρ h1 := nr rfl
theorem q_notT {ca : Env → M Bool} {ρ : Env} {h : Hs} : notT ca ρ h = (ca ρ h).bind fun x h1 => .ok (!x) h1 := nr rfl
theorem q_eCh {f g : D → D → M D} {ca cb cc : Env → M D} {ρ : Env} {h : Hs} : eCh f g ca cb cc ρ h = (ca ρ h).bind fun x h1 => (cb ρ h1).bind fun y h2 => (f x y h2).bind fun z h3 => match z with
    | .bl true => (cc ρ h3).bind fun w h4 => g y w h4
    | .bl false => .ok (.bl false) h3
    | _ => .bad := nr rfl
theorem q_eFld {C f : PySem.Str} {ca : Env → M D} {ρ : Env} {h : Hs} : eFld C f ca ρ h = (ca ρ h).bind fun x h1 => match (fieldsAt C h1 x).bind (·.lookup f) with
    | some d => .ok d h1
    | none => .bad := nr rfl
theorem q_eMake {C : PySem.Str} {n : Nat} {mf : List D → M D} {cs : Env → M (List D)} {ρ : Env} {h : Hs} : eMake C n mf cs ρ h = (cs ρ h).bind fun xs h1 => if decide (xs.length + 1 = n) then
    (mf (.obj h1.length :: xs) (h1 ++ [.ins C []])).bind fun r h2 => match r with
    | .non => .ok (.obj h1.length) h2
    | _ => .bad
    else .bad := nr rfl
theorem q_eMeth {C m : PySem.Str} {n : Nat} {mf : List D → M D} {ca : Env → M D} {cs : Env → M (List D)} {ρ : Env} {h : Hs} : eMeth C m n mf ca cs ρ h = (ca ρ h).bind fun x h1 => match (fieldsAt C h1 x).map (·.lookup m) with
    | some none => (cs ρ h1).bind fun xs h2 => if decide (xs.length + 1 = n) then mf (x :: xs) h2 else .bad
    | _ => .bad := nr rfl
theorem q_sFldD {C f : PySem.Str} {ce co : Env → M D} {ρ : Env} {h : Hs} : sFldD C f ce co ρ h = (ce ρ h).then ρ fun v h1 => (co ρ h1).then ρ fun o h2 => match o, fieldsAt C h2 o with
    | .obj n, some fs => if decide (fs.length < 1000) then .nx ρ (h2.set n (.ins C (putFD f v fs))) else .bad
    | _, _ => .bad := nr rfl
theorem q_sPat {p : Pat} {ce : Env → M D} {ρ : Env} {h : Hs} : sPat p ce ρ h = (ce ρ h).then ρ fun x h1 => match patD p x ρ with
    | some ρ1 => .nx ρ1 h1
    | none => .bad := nr rfl
theorem q_eSl {ca : Env → M D} {cl cu : Env → M (Option Int)} {ρ : Env} {h : Hs} : eSl ca cl cu ρ h = (ca ρ h).bind fun x h1 => (cl ρ h1).bind fun lo h2 => (cu ρ h2).bind fun hi h3 => sliceD x lo hi h3 := nr rfl
theorem q_nSl {ca : Env → M D} {cl cu : Env → M (Option Int)} {ρ : Env} {h : Hs} : nSl ca cl cu ρ h = (ca ρ h).bind fun x h1 => (cl ρ h1).bind fun lo h2 => (cu ρ h2).bind fun hi h3 => sliceN x lo hi h3 := nr rfl
theorem q_pS {ca : Env → M D} {ρ : Env} {h : Hs} : pS ca ρ h = (ca ρ h).bind fun x h1 => match x with
    | .int i => .ok (some i) h1
    | _ => .bad := nr rfl
theorem q_pN {ρ : Env} {h : Hs} : pN  ρ h = .ok none h := nr rfl
theorem q_sRetN {ρ : Env} {h : Hs} : sRetN  ρ h = .ret .non h := nr rfl
theorem q_sFor {ci : Env → M ItD} {p : Pat} {body : SM} {ρ : Env} {h : Hs} : sFor ci p body ρ h = (ci ρ h).then ρ fun it h1 => loopF p body it.gs it.items ρ h1 := nr rfl
theorem q_sWhile {lim : Env → Hs → Nat} {ct : Env → M Bool} {body : SM} {ρ : Env} {h : Hs} : sWhile lim ct body ρ h = whileF ct body (lim ρ h) ρ h := nr rfl
theorem q_tYes {ρ : Env} {h : Hs} : tYes'  ρ h = .ok true h := nr rfl
theorem q_eDct0 {ρ : Env} {h : Hs} : eDct0  ρ h = .ok (.obj h.length) (h ++ [.dI []]) := nr rfl
/-QEND-/
/-! ### sizes -/
theorem bits_le {i : Int} {n : Nat} (h : i.natAbs < 2 ^ n) : PySem.Builtin.Int.intBits i ≤ n := by
  unfold PySem.Builtin.Int.intBits
  split
  · exact Nat.zero_le _
  · rename_i z
    have z1 : i.natAbs ≠ 0 := fun e => z (by simp; omega)
    exact (Nat.log2_lt z1).mpr h
theorem okMul_of {i j : Int} {a b : Nat} (hi : i.natAbs < 2 ^ a) (hj : j.natAbs < 2 ^ b) (h : a + b ≤ 134217728) : okMul i j = true := by
  have h1 := bits_le hi
  have h2 := bits_le hj
  exact decide_eq_true (by omega)
theorem okDiv_of {i j : Int} (hj : 0 < j) (hs : j.natAbs < 2 ^ 9000) : okDiv i j = true := by
  refine decide_eq_true ⟨hj, .inl ?_⟩
  exact (Nat.log2_lt (by omega)).mpr hs
/-! ### the greatest common divisor -/
theorem gcd_step (a b : Int) : Int.gcd b (a % b) = Int.gcd a b := by
  have e := Int.gcd_add_mul_left_right b (a % b) (a / b)
  rw [Int.emod_add_mul_ediv] at e
  rw [← e, Int.gcd_comm]
theorem gcd_while {ct : Env → M Bool} {body : SM} {mk : Int → Int → Env} (hct : ∀ a b h, ct (mk a b) h = .ok (decide (0 < b)) h) (hb : ∀ a b h, 0 ≤ a → 0 < b → body (mk a b) h = .nx (mk b (a % b)) h) (h : Hs) :
    ∀ (n : Nat) (a b : Int), 0 ≤ a → 0 ≤ b → b < n → whileF ct body n (mk a b) h = .nx (mk (Int.gcd a b) 0) h
  | 0, a, b, _, hb0, hn => by omega
  | n + 1, a, b, ha, hb0, hn => by
    show (ct (mk a b) h).then (mk a b) _ = _
    rw [hct]
    show (if decide (0 < b) = true then _ else _) = _
    by_cases z : 0 < b
    · rw [if_pos (decide_eq_true z)]
      simp only [hb a b h ha z]
      have m0 := Int.emod_nonneg a (show b ≠ 0 by omega)
      have m1 := Int.emod_lt_of_pos a z
      rw [gcd_while hct hb h n b (a % b) hb0 m0 (by omega), gcd_step]
    · rw [if_neg (by simpa using z)]
      have e : b = 0 := by omega
      subst e
      rw [Int.gcd_zero_right, Int.natAbs_of_nonneg ha]
theorem modD_ii {a b : Int} (hb : 0 < b) (h : Hs) : modD (.int a) (.int b) h = .ok (.int (a % b)) h := if_pos (decide_eq_true hb)
theorem divD_ii {a b : Int} (hb : okDiv a b = true) (h : Hs) : divD (.int a) (.int b) h = .ok (.int (a / b)) h := if_pos hb
theorem mulD_ii {a b : Int} (hb : okMul a b = true) (h : Hs) : mulD (.int a) (.int b) h = .ok (.int (a * b)) h := if_pos hb
theorem addD_ii {a b : Int} (h : Hs) : addD (.int a) (.int b) h = .ok (.int (a + b)) h := nr rfl
theorem subD_ii {a b : Int} (h : Hs) : subD (.int a) (.int b) h = .ok (.int (a - b)) h := nr rfl
theorem negD_i {a : Int} (h : Hs) : negD (.int a) h = .ok (.int (-a)) h := nr rfl
theorem absD_i {a : Int} (h : Hs) : absD [.int a] h = .ok (.int a.natAbs) h := by
  show Dl.R.ok (D.int (if a < 0 then -a else a)) h = _
  congr 2
  split <;> omega
theorem bind_ok' {α β : Type} (a : α) (h : Hs) (f : α → M β) : (Dl.R.ok a h).bind f = f a h := nr rfl
theorem then_ok {α : Type} (a : α) (h : Hs) (ρ : Env) (f : α → Hs → SR) : (Dl.R.ok a h).then ρ f = f a h := nr rfl
theorem eV0 {d : D} {ρ : Env} {h : Hs} : eV 0 (some d :: ρ) h = .ok d h := nr rfl
theorem eVs {n : Nat} {x : Option D} {ρ : Env} {h : Hs} : eV (n + 1) (x :: ρ) h = eV n ρ h := nr rfl
theorem zero_add' {n : Nat} : 0 + n = n := Nat.zero_add n
theorem decide_true' {p : Prop} [Decidable p] : p → (decide p = true) := fun h => decide_eq_true h
theorem if_true' {α : Type} {a b : α} : (if true = true then a else b) = a := rfl
theorem okL0 : okLen 0 = true := nr rfl
theorem okL1 : okLen 1 = true := nr rfl
theorem okL2 : okLen 2 = true := nr rfl
theorem okL3 : okLen 3 = true := nr rfl
theorem okL4 : okLen 4 = true := nr rfl
theorem okL5 : okLen 5 = true := nr rfl
theorem okL6 : okLen 6 = true := nr rfl
theorem if_false' {α : Type} {a b : α} : (if false = true then a else b) = b := rfl
theorem item_at {xs : List D} {i : Nat} {d : D} {h : Hs} (e : xs[i]? = some d) : itemD (.tup xs) (.int i) h = .ok d h := by
  have hl := (List.getElem?_eq_some_iff.mp e).1
  have z : L2.atI xs i = some d := by
    unfold L2.atI L2.ixN
    rw [if_pos (by omega), if_pos (by omega)]
    exact e
  show (match L2.atI xs i with
      | some d => Dl.R.ok d h
      | none => .bad) = _
  rw [z]
theorem item0 {a : D} {xs : List D} {h : Hs} : itemD (.tup (a :: xs)) (.int 0) h = .ok a h := item_at (i := 0) rfl
theorem item1 {a b : D} {xs : List D} {h : Hs} : itemD (.tup (a :: b :: xs)) (.int 1) h = .ok b h := item_at (i := 1) rfl
theorem ltD_ii {a b : Int} {h : Hs} : ltD (.int a) (.int b) h = .ok (.bl (decide (a < b))) h := nr rfl
theorem leD_ii {a b : Int} {h : Hs} : leD (.int a) (.int b) h = .ok (.bl (decide (a ≤ b))) h := nr rfl
theorem gtD_ii {a b : Int} {h : Hs} : gtD (.int a) (.int b) h = .ok (.bl (decide (b < a))) h := nr rfl
theorem geD_ii {a b : Int} {h : Hs} : geD (.int a) (.int b) h = .ok (.bl (decide (b ≤ a))) h := nr rfl
theorem truD_bl {b : Bool} {h : Hs} : truD h (.bl b) = some b := nr rfl
theorem wp_ite {α : Type} {c : Prop} [Decidable c] {a b : R α} {Q : α → Hs → Prop} : Wp (if c then a else b) Q = if c then Wp a Q else Wp b Q := by split <;> rfl
theorem wps_ite {c : Prop} [Decidable c] {a b : SR} {N : Env → Hs → Prop} {T : D → Hs → Prop} : WpS (if c then a else b) N T = if c then WpS a N T else WpS b N T := by split <;> rfl
theorem common_eq (a b : Int) (h : Hs) : m_common [.int a, .int b] h = .ok (.int (Int.gcd a b)) h := by
  refine mdef_ret (h' := h) ?_
  have w := gcd_while (ct := tst (e2 gtD (eV 1) (eC (.int 0)))) (body := sPar2 0 1 (aC (eV 1) (aC (e2 modD (eV 0) (eV 1)) aN))) (mk := fun a b => [some (.int a), some (.int b)]) (fun a b h => rfl) (fun a b h _ hb => ?_) h
    (b.natAbs + 2) a.natAbs b.natAbs (by omega) (by omega) (by omega)
  · unfold c_common
    rw [seq_nx (ρ1 := [some (.int a.natAbs), some (.int b.natAbs)]) (h1 := h), seq_nx (ρ1 := [some (.int (Int.gcd a.natAbs b.natAbs)), some (.int 0)]) (h1 := h)]
    · show SR.ret (.int (Int.gcd (a.natAbs : Int) b.natAbs)) h = _
      simp [Int.gcd]
    · exact w
    · simp only [eV0, eVs, bind_ok', then_ok, q_e2, q_e1, q_eC, q_aC, q_aN, q_sPar2, q_sPar3, q_sSet, q_sRet, q_eBf, q_nBf, q_eCall, q_tst, q_tru, q_ifV, q_sIf, q_eTup, q_sPass, q_sExp, q_eLm, q_nLst, q_frz, q_thaw, q_iSeq, q_iR2, q_iR3, q_iEnumD, q_iZip, q_andX, q_andT, q_orT, q_notT, q_eCh, q_sPat, q_eSl, q_nSl, q_pS, q_pN, q_sRetN, q_tYes, q_eDct0, okL0, okL1, okL2, okL3, okL4, okL5, okL6, ent, List.map_cons, List.map_nil, List.length_cons, List.length_nil, List.set_cons_zero, List.set_cons_succ, List.replicate, List.cons_append, List.nil_append, Nat.reduceAdd, Nat.reduceSub, Nat.sub_self, Nat.sub_zero, zero_add', ↓reduceIte, Bool.false_eq_true, item0, item1, addD_ii, subD_ii, negD_i, absD_i, ltD_ii, leD_ii, gtD_ii, geD_ii, truD_bl, decide_true, decide_false]
  · simp only [eV0, eVs, bind_ok', then_ok, q_e2, q_e1, q_eC, q_aC, q_aN, q_sPar2, q_sPar3, q_sSet, q_sRet, q_eBf, q_nBf, q_eCall, q_tst, q_tru, q_ifV, q_sIf, q_eTup, q_sPass, q_sExp, q_eLm, q_nLst, q_frz, q_thaw, q_iSeq, q_iR2, q_iR3, q_iEnumD, q_iZip, q_andX, q_andT, q_orT, q_notT, q_eCh, q_sPat, q_eSl, q_nSl, q_pS, q_pN, q_sRetN, q_tYes, q_eDct0, okL0, okL1, okL2, okL3, okL4, okL5, okL6, ent, List.map_cons, List.map_nil, List.length_cons, List.length_nil, List.set_cons_zero, List.set_cons_succ, List.replicate, List.cons_append, List.nil_append, Nat.reduceAdd, Nat.reduceSub, Nat.sub_self, Nat.sub_zero, zero_add', ↓reduceIte, Bool.false_eq_true, item0, item1, addD_ii, subD_ii, negD_i, absD_i, ltD_ii, leD_ii, gtD_ii, geD_ii, truD_bl, decide_true, decide_false, modD_ii hb]
/-! ### fractions -/
def fr (q : Rat) : D := .tup [.int q.num, .int q.den]
def Sz (n : Nat) (q : Rat) : Prop := q.num.natAbs < 2 ^ n ∧ q.den < 2 ^ n
theorem Sz.mono {m n : Nat} {q : Rat} (h : Sz m q) (l : m ≤ n) : Sz n q := ⟨Nat.lt_of_lt_of_le h.1 (Nat.pow_le_pow_right (by decide) l), Nat.lt_of_lt_of_le h.2 (Nat.pow_le_pow_right (by decide) l)⟩
theorem lowest_eq (n d : Int) (h : Hs) (hd : d ≠ 0) (hs : d.natAbs < 2 ^ 9000) : m_lowest [.int n, .int d] h = .ok (fr (Rat.divInt n d)) h := by
  have gpos : ∀ a b : Int, 0 < b → (0 : Int) < (Int.gcd a b : Int) := fun a b hb => by
    have := Int.gcd_pos_of_ne_zero_right a (show b ≠ 0 by omega)
    omega
  have gle : ∀ a b : Int, 0 < b → (Int.gcd a b) ≤ b.natAbs := fun a b hb => Nat.le_of_dvd (by omega) (Int.gcd_dvd_natAbs_right a b)
  have fin : ∀ a b : Int, 0 < b → b.natAbs < 2 ^ 9000 → okDiv a (Int.gcd a b : Int) = true ∧ okDiv b (Int.gcd a b : Int) = true ∧ (Rat.divInt a b).num = a / (Int.gcd a b : Int) ∧ ((Rat.divInt a b).den : Int) = b / (Int.gcd a b : Int) := fun a b hb hs => by
    have g1 := gpos a b hb
    have g2 := gle a b hb
    have g3 : ((Int.gcd a b : Int)).natAbs < 2 ^ 9000 := by rw [Int.natAbs_natCast]; omega
    refine ⟨okDiv_of g1 g3, okDiv_of g1 g3, ?_, ?_⟩
    · rw [Rat.num_divInt, Int.sign_eq_one_of_pos hb, Int.one_mul, Int.gcd_comm]
    · rw [Rat.den_divInt, if_neg (by omega), Int.gcd_comm]
      have e : (b.natAbs : Int) = b := by omega
      rw [Int.natCast_ediv, e]
  refine mdef_ret (h' := h) ?_
  unfold c_lowest
  by_cases z : d < 0
  · obtain ⟨k1, k2, k3, k4⟩ := fin (-n) (-d) (by omega) (by omega)
    rw [seq_nx (ρ1 := [some (.int (-n)), some (.int (-d)), none]) (h1 := h), seq_nx (ρ1 := [some (.int (-n)), some (.int (-d)), some (.int (Int.gcd (-n) (-d)))]) (h1 := h)]
    · simp only [eV0, eVs, bind_ok', then_ok, q_e2, q_e1, q_eC, q_aC, q_aN, q_sPar2, q_sPar3, q_sSet, q_sRet, q_eBf, q_nBf, q_eCall, q_tst, q_tru, q_ifV, q_sIf, q_eTup, q_sPass, q_sExp, q_eLm, q_nLst, q_frz, q_thaw, q_iSeq, q_iR2, q_iR3, q_iEnumD, q_iZip, q_andX, q_andT, q_orT, q_notT, q_eCh, q_sPat, q_eSl, q_nSl, q_pS, q_pN, q_sRetN, q_tYes, q_eDct0, okL0, okL1, okL2, okL3, okL4, okL5, okL6, ent, List.map_cons, List.map_nil, List.length_cons, List.length_nil, List.set_cons_zero, List.set_cons_succ, List.replicate, List.cons_append, List.nil_append, Nat.reduceAdd, Nat.reduceSub, Nat.sub_self, Nat.sub_zero, zero_add', ↓reduceIte, Bool.false_eq_true, item0, item1, addD_ii, subD_ii, negD_i, absD_i, ltD_ii, leD_ii, gtD_ii, geD_ii, truD_bl, decide_true, decide_false, divD_ii k1, divD_ii k2]
      unfold fr
      rw [← Rat.neg_divInt_neg n d, k3, k4]
    · simp only [eV0, eVs, bind_ok', then_ok, q_e2, q_e1, q_eC, q_aC, q_aN, q_sPar2, q_sPar3, q_sSet, q_sRet, q_eBf, q_nBf, q_eCall, q_tst, q_tru, q_ifV, q_sIf, q_eTup, q_sPass, q_sExp, q_eLm, q_nLst, q_frz, q_thaw, q_iSeq, q_iR2, q_iR3, q_iEnumD, q_iZip, q_andX, q_andT, q_orT, q_notT, q_eCh, q_sPat, q_eSl, q_nSl, q_pS, q_pN, q_sRetN, q_tYes, q_eDct0, okL0, okL1, okL2, okL3, okL4, okL5, okL6, ent, List.map_cons, List.map_nil, List.length_cons, List.length_nil, List.set_cons_zero, List.set_cons_succ, List.replicate, List.cons_append, List.nil_append, Nat.reduceAdd, Nat.reduceSub, Nat.sub_self, Nat.sub_zero, zero_add', ↓reduceIte, Bool.false_eq_true, item0, item1, addD_ii, subD_ii, negD_i, absD_i, ltD_ii, leD_ii, gtD_ii, geD_ii, truD_bl, decide_true, decide_false, common_eq]
    · simp only [eV0, eVs, bind_ok', then_ok, q_e2, q_e1, q_eC, q_aC, q_aN, q_sPar2, q_sPar3, q_sSet, q_sRet, q_eBf, q_nBf, q_eCall, q_tst, q_tru, q_ifV, q_sIf, q_eTup, q_sPass, q_sExp, q_eLm, q_nLst, q_frz, q_thaw, q_iSeq, q_iR2, q_iR3, q_iEnumD, q_iZip, q_andX, q_andT, q_orT, q_notT, q_eCh, q_sPat, q_eSl, q_nSl, q_pS, q_pN, q_sRetN, q_tYes, q_eDct0, okL0, okL1, okL2, okL3, okL4, okL5, okL6, ent, List.map_cons, List.map_nil, List.length_cons, List.length_nil, List.set_cons_zero, List.set_cons_succ, List.replicate, List.cons_append, List.nil_append, Nat.reduceAdd, Nat.reduceSub, Nat.sub_self, Nat.sub_zero, zero_add', ↓reduceIte, Bool.false_eq_true, item0, item1, addD_ii, subD_ii, negD_i, absD_i, ltD_ii, leD_ii, gtD_ii, geD_ii, truD_bl, decide_true, decide_false, decide_eq_true z]
  · obtain ⟨k1, k2, k3, k4⟩ := fin n d (by omega) hs
    rw [seq_nx (ρ1 := [some (.int n), some (.int d), none]) (h1 := h), seq_nx (ρ1 := [some (.int n), some (.int d), some (.int (Int.gcd n d))]) (h1 := h)]
    · simp only [eV0, eVs, bind_ok', then_ok, q_e2, q_e1, q_eC, q_aC, q_aN, q_sPar2, q_sPar3, q_sSet, q_sRet, q_eBf, q_nBf, q_eCall, q_tst, q_tru, q_ifV, q_sIf, q_eTup, q_sPass, q_sExp, q_eLm, q_nLst, q_frz, q_thaw, q_iSeq, q_iR2, q_iR3, q_iEnumD, q_iZip, q_andX, q_andT, q_orT, q_notT, q_eCh, q_sPat, q_eSl, q_nSl, q_pS, q_pN, q_sRetN, q_tYes, q_eDct0, okL0, okL1, okL2, okL3, okL4, okL5, okL6, ent, List.map_cons, List.map_nil, List.length_cons, List.length_nil, List.set_cons_zero, List.set_cons_succ, List.replicate, List.cons_append, List.nil_append, Nat.reduceAdd, Nat.reduceSub, Nat.sub_self, Nat.sub_zero, zero_add', ↓reduceIte, Bool.false_eq_true, item0, item1, addD_ii, subD_ii, negD_i, absD_i, ltD_ii, leD_ii, gtD_ii, geD_ii, truD_bl, decide_true, decide_false, divD_ii k1, divD_ii k2]
      unfold fr
      rw [k3, k4]
    · simp only [eV0, eVs, bind_ok', then_ok, q_e2, q_e1, q_eC, q_aC, q_aN, q_sPar2, q_sPar3, q_sSet, q_sRet, q_eBf, q_nBf, q_eCall, q_tst, q_tru, q_ifV, q_sIf, q_eTup, q_sPass, q_sExp, q_eLm, q_nLst, q_frz, q_thaw, q_iSeq, q_iR2, q_iR3, q_iEnumD, q_iZip, q_andX, q_andT, q_orT, q_notT, q_eCh, q_sPat, q_eSl, q_nSl, q_pS, q_pN, q_sRetN, q_tYes, q_eDct0, okL0, okL1, okL2, okL3, okL4, okL5, okL6, ent, List.map_cons, List.map_nil, List.length_cons, List.length_nil, List.set_cons_zero, List.set_cons_succ, List.replicate, List.cons_append, List.nil_append, Nat.reduceAdd, Nat.reduceSub, Nat.sub_self, Nat.sub_zero, zero_add', ↓reduceIte, Bool.false_eq_true, item0, item1, addD_ii, subD_ii, negD_i, absD_i, ltD_ii, leD_ii, gtD_ii, geD_ii, truD_bl, decide_true, decide_false, common_eq]
    · simp only [eV0, eVs, bind_ok', then_ok, q_e2, q_e1, q_eC, q_aC, q_aN, q_sPar2, q_sPar3, q_sSet, q_sRet, q_eBf, q_nBf, q_eCall, q_tst, q_tru, q_ifV, q_sIf, q_eTup, q_sPass, q_sExp, q_eLm, q_nLst, q_frz, q_thaw, q_iSeq, q_iR2, q_iR3, q_iEnumD, q_iZip, q_andX, q_andT, q_orT, q_notT, q_eCh, q_sPat, q_eSl, q_nSl, q_pS, q_pN, q_sRetN, q_tYes, q_eDct0, okL0, okL1, okL2, okL3, okL4, okL5, okL6, ent, List.map_cons, List.map_nil, List.length_cons, List.length_nil, List.set_cons_zero, List.set_cons_succ, List.replicate, List.cons_append, List.nil_append, Nat.reduceAdd, Nat.reduceSub, Nat.sub_self, Nat.sub_zero, zero_add', ↓reduceIte, Bool.false_eq_true, item0, item1, addD_ii, subD_ii, negD_i, absD_i, ltD_ii, leD_ii, gtD_ii, geD_ii, truD_bl, decide_true, decide_false, decide_eq_false z]
end Pl

/-! Plain laws, 2: fractions. -/
namespace Pl
open Dl Sh

theorem sz_divInt {k : Nat} {n d : Int} (hn : n.natAbs < 2 ^ k) (hd : d.natAbs < 2 ^ k) (h0 : d ≠ 0) : Sz k (Rat.divInt n d) := by
  refine ⟨?_, ?_⟩
  · rw [Rat.num_divInt]
    have e : (d.sign * n / (Int.gcd d n : Int)).natAbs ≤ n.natAbs := by
      refine Nat.le_trans (Int.natAbs_ediv_le_natAbs _ _) ?_
      rw [Int.natAbs_mul]
      have : d.sign.natAbs ≤ 1 := by
        rcases Int.lt_trichotomy d 0 with z | z | z
        · rw [Int.sign_eq_neg_one_of_neg z]; decide
        · exact absurd z h0
        · rw [Int.sign_eq_one_of_pos z]; decide
      calc d.sign.natAbs * n.natAbs ≤ 1 * n.natAbs := Nat.mul_le_mul_right _ this
        _ = n.natAbs := Nat.one_mul _
    exact Nat.lt_of_le_of_lt e hn
  · rw [Rat.den_divInt, if_neg h0]
    exact Nat.lt_of_le_of_lt (Nat.div_le_self _ _) hd
theorem pow_mul_lt {a b x y : Nat} (hx : x < 2 ^ a) (hy : y < 2 ^ b) : x * y < 2 ^ (a + b) := by
  rw [Nat.pow_add]
  exact Nat.mul_lt_mul'' hx hy
theorem den_pos (q : Rat) : 0 < q.den := Nat.pos_of_ne_zero q.den_nz
theorem fr_num {q : Rat} {h : Hs} : itemD (fr q) (.int 0) h = .ok (.int q.num) h := item0
theorem fr_den {q : Rat} {h : Hs} : itemD (fr q) (.int 1) h = .ok (.int q.den) h := item1
theorem fr_inj {p q : Rat} : fr p = fr q ↔ p = q := by
  refine ⟨fun e => ?_, fun e => by rw [e]⟩
  unfold fr at e
  simp only [D.tup.injEq, List.cons.injEq, D.int.injEq, and_true] at e
  exact Rat.ext e.1 (by omega)
section
variable {p q : Rat} {a b : Nat} (hp : Sz a p) (hq : Sz b q) (hab : a + b ≤ 8000)
include hp hq
theorem mul_nn : (p.num * q.num).natAbs < 2 ^ (a + b) := by rw [Int.natAbs_mul]; exact pow_mul_lt hp.1 hq.1
theorem mul_nd : (p.num * (q.den : Int)).natAbs < 2 ^ (a + b) := by rw [Int.natAbs_mul]; exact pow_mul_lt hp.1 hq.2
theorem mul_dn : (q.num * (p.den : Int)).natAbs < 2 ^ (a + b) := by rw [Int.natAbs_mul, Nat.mul_comm]; exact pow_mul_lt hp.2 hq.1
theorem mul_dd : ((p.den : Int) * (q.den : Int)).natAbs < 2 ^ (a + b) := by rw [Int.natAbs_mul]; exact pow_mul_lt hp.2 hq.2
omit hp hq in
theorem dd_ne : ((p.den : Int) * (q.den : Int)) ≠ 0 := by
  have h1 := den_pos p
  have h2 := den_pos q
  have := Nat.mul_pos h1 h2
  intro z
  have e : ((p.den * q.den : Nat) : Int) = 0 := by rw [Int.natCast_mul]; exact z
  omega
include hab
theorem ok_nn : okMul p.num q.num = true := okMul_of hp.1 hq.1 (by omega)
theorem ok_nd : okMul p.num (q.den : Int) = true := okMul_of hp.1 (show ((q.den : Int)).natAbs < 2 ^ b from hq.2) (by omega)
theorem ok_dn : okMul q.num (p.den : Int) = true := okMul_of hq.1 (show ((p.den : Int)).natAbs < 2 ^ a from hp.2) (by omega)
theorem ok_dd : okMul (p.den : Int) (q.den : Int) = true := okMul_of (show ((p.den : Int)).natAbs < 2 ^ a from hp.2) (show ((q.den : Int)).natAbs < 2 ^ b from hq.2) (by omega)
theorem lt9000 {x : Nat} (h : x < 2 ^ (a + b)) : x < 2 ^ 9000 := Nat.lt_of_lt_of_le h (Nat.pow_le_pow_right (by decide) (by omega))
theorem ok_dp : okMul (p.den : Int) q.num = true := okMul_of (show ((p.den : Int)).natAbs < 2 ^ a from hp.2) hq.1 (by omega)
theorem plus_eq (h : Hs) : m_plus [fr p, fr q] h = .ok (fr (p + q)) h := by
  refine mdef_ret (h' := h) ?_
  unfold c_plus
  simp only [eV0, eVs, bind_ok', then_ok, q_e2, q_e1, q_eC, q_aC, q_aN, q_sPar2, q_sPar3, q_sSet, q_sRet, q_eBf, q_nBf, q_eCall, q_tst, q_tru, q_ifV, q_sIf, q_eTup, q_sPass, q_sExp, q_eLm, q_nLst, q_frz, q_thaw, q_iSeq, q_iR2, q_iR3, q_iEnumD, q_iZip, q_andX, q_andT, q_orT, q_notT, q_eCh, q_sPat, q_eSl, q_nSl, q_pS, q_pN, q_sRetN, q_tYes, q_eDct0, okL0, okL1, okL2, okL3, okL4, okL5, okL6, ent, List.map_cons, List.map_nil, List.length_cons, List.length_nil, List.set_cons_zero, List.set_cons_succ, List.replicate, List.cons_append, List.nil_append, Nat.reduceAdd, Nat.reduceSub, Nat.sub_self, Nat.sub_zero, zero_add', ↓reduceIte, Bool.false_eq_true, item0, item1, addD_ii, subD_ii, negD_i, absD_i, ltD_ii, leD_ii, gtD_ii, geD_ii, truD_bl, decide_true, decide_false, fr_num, fr_den, mulD_ii (ok_nd hp hq hab), mulD_ii (ok_dn hp hq hab), mulD_ii (ok_dd hp hq hab), lowest_eq _ _ h (dd_ne (p := p) (q := q)) (lt9000 hp hq hab (mul_dd hp hq))]
  rw [Rat.add_def', ← Int.natCast_mul, Rat.divInt_ofNat]
theorem minus_eq (h : Hs) : m_minus [fr p, fr q] h = .ok (fr (p - q)) h := by
  refine mdef_ret (h' := h) ?_
  unfold c_minus
  simp only [eV0, eVs, bind_ok', then_ok, q_e2, q_e1, q_eC, q_aC, q_aN, q_sPar2, q_sPar3, q_sSet, q_sRet, q_eBf, q_nBf, q_eCall, q_tst, q_tru, q_ifV, q_sIf, q_eTup, q_sPass, q_sExp, q_eLm, q_nLst, q_frz, q_thaw, q_iSeq, q_iR2, q_iR3, q_iEnumD, q_iZip, q_andX, q_andT, q_orT, q_notT, q_eCh, q_sPat, q_eSl, q_nSl, q_pS, q_pN, q_sRetN, q_tYes, q_eDct0, okL0, okL1, okL2, okL3, okL4, okL5, okL6, ent, List.map_cons, List.map_nil, List.length_cons, List.length_nil, List.set_cons_zero, List.set_cons_succ, List.replicate, List.cons_append, List.nil_append, Nat.reduceAdd, Nat.reduceSub, Nat.sub_self, Nat.sub_zero, zero_add', ↓reduceIte, Bool.false_eq_true, item0, item1, addD_ii, subD_ii, negD_i, absD_i, ltD_ii, leD_ii, gtD_ii, geD_ii, truD_bl, decide_true, decide_false, fr_num, fr_den, mulD_ii (ok_nd hp hq hab), mulD_ii (ok_dn hp hq hab), mulD_ii (ok_dd hp hq hab), lowest_eq _ _ h (dd_ne (p := p) (q := q)) (lt9000 hp hq hab (mul_dd hp hq))]
  rw [Rat.sub_def', ← Int.natCast_mul, Rat.divInt_ofNat]
theorem less_eq (h : Hs) : m_is_less [fr p, fr q] h = .ok (.bl (decide (p < q))) h := by
  refine mdef_ret (h' := h) ?_
  unfold c_is_less
  simp only [eV0, eVs, bind_ok', then_ok, q_e2, q_e1, q_eC, q_aC, q_aN, q_sPar2, q_sPar3, q_sSet, q_sRet, q_eBf, q_nBf, q_eCall, q_tst, q_tru, q_ifV, q_sIf, q_eTup, q_sPass, q_sExp, q_eLm, q_nLst, q_frz, q_thaw, q_iSeq, q_iR2, q_iR3, q_iEnumD, q_iZip, q_andX, q_andT, q_orT, q_notT, q_eCh, q_sPat, q_eSl, q_nSl, q_pS, q_pN, q_sRetN, q_tYes, q_eDct0, okL0, okL1, okL2, okL3, okL4, okL5, okL6, ent, List.map_cons, List.map_nil, List.length_cons, List.length_nil, List.set_cons_zero, List.set_cons_succ, List.replicate, List.cons_append, List.nil_append, Nat.reduceAdd, Nat.reduceSub, Nat.sub_self, Nat.sub_zero, zero_add', ↓reduceIte, Bool.false_eq_true, item0, item1, addD_ii, subD_ii, negD_i, absD_i, ltD_ii, leD_ii, gtD_ii, geD_ii, truD_bl, decide_true, decide_false, fr_num, fr_den, mulD_ii (ok_nd hp hq hab), mulD_ii (ok_dn hp hq hab)]
  congr 2
  exact decide_eq_decide.mpr (Rat.lt_iff p q).symm
theorem quot_eq (h : Hs) (h0 : q ≠ 0) : m_quotient [fr p, fr q] h = .ok (fr (p / q)) h := by
  have n0 : q.num ≠ 0 := fun z => h0 (Rat.num_eq_zero.mp z)
  have e0 : (p.den : Int) * q.num ≠ 0 := Int.mul_ne_zero (by have := den_pos p; omega) n0
  refine mdef_ret (h' := h) ?_
  unfold c_quotient
  simp only [eV0, eVs, bind_ok', then_ok, q_e2, q_e1, q_eC, q_aC, q_aN, q_sPar2, q_sPar3, q_sSet, q_sRet, q_eBf, q_nBf, q_eCall, q_tst, q_tru, q_ifV, q_sIf, q_eTup, q_sPass, q_sExp, q_eLm, q_nLst, q_frz, q_thaw, q_iSeq, q_iR2, q_iR3, q_iEnumD, q_iZip, q_andX, q_andT, q_orT, q_notT, q_eCh, q_sPat, q_eSl, q_nSl, q_pS, q_pN, q_sRetN, q_tYes, q_eDct0, okL0, okL1, okL2, okL3, okL4, okL5, okL6, ent, List.map_cons, List.map_nil, List.length_cons, List.length_nil, List.set_cons_zero, List.set_cons_succ, List.replicate, List.cons_append, List.nil_append, Nat.reduceAdd, Nat.reduceSub, Nat.sub_self, Nat.sub_zero, zero_add', ↓reduceIte, Bool.false_eq_true, item0, item1, addD_ii, subD_ii, negD_i, absD_i, ltD_ii, leD_ii, gtD_ii, geD_ii, truD_bl, decide_true, decide_false, fr_num, fr_den, mulD_ii (ok_nd hp hq hab), mulD_ii (ok_dp hp hq hab), lowest_eq _ _ h e0 (lt9000 hp hq hab (by rw [Int.natAbs_mul]; exact pow_mul_lt hp.2 hq.1))]
  have e1 : p / q = Rat.divInt (p.num * q.den) (p.den * q.num) := by
    rw [Rat.div_def, Rat.inv_def]
    conv => lhs; rw [← Rat.num_divInt_den p]
    rw [Rat.divInt_mul_divInt]
  rw [e1]
end
section
variable {p q : Rat} {a b : Nat} (hp : Sz a p) (hq : Sz b q)
include hp hq
theorem Sz.mul : Sz (a + b) (p * q) := by
  rw [Rat.mul_def', ← Rat.divInt_ofNat, Int.natCast_mul]
  exact sz_divInt (mul_nn hp hq) (mul_dd hp hq) dd_ne
theorem Sz.add : Sz (a + b + 1) (p + q) := by
  rw [Rat.add_def', ← Rat.divInt_ofNat, Int.natCast_mul]
  have h1 := mul_nd hp hq
  have h2 := mul_dn hp hq
  have h3 := mul_dd hp hq
  have e : 2 ^ (a + b + 1) = 2 * 2 ^ (a + b) := by rw [Nat.pow_succ, Nat.mul_comm]
  refine sz_divInt ?_ (by omega) dd_ne
  have := Int.natAbs_add_le (p.num * (q.den : Int)) (q.num * (p.den : Int))
  omega
theorem Sz.sub : Sz (a + b + 1) (p - q) := by
  rw [Rat.sub_def', ← Rat.divInt_ofNat, Int.natCast_mul]
  have h1 := mul_nd hp hq
  have h2 := mul_dn hp hq
  have h3 := mul_dd hp hq
  have e : 2 ^ (a + b + 1) = 2 * 2 ^ (a + b) := by rw [Nat.pow_succ, Nat.mul_comm]
  refine sz_divInt ?_ (by omega) dd_ne
  have := Int.natAbs_sub_le (p.num * (q.den : Int)) (q.num * (p.den : Int))
  omega
theorem Sz.div : Sz (a + b) (p / q) := by
  by_cases h0 : q = 0
  · subst h0
    rw [Rat.div_def, Rat.inv_zero, Rat.mul_zero]
    exact ⟨Nat.pow_pos (by decide), by
      have := hp.2
      have h1 := den_pos p
      have : 1 < 2 ^ a := by omega
      have h2 : 2 ^ a ≤ 2 ^ (a + b) := Nat.pow_le_pow_right (by decide) (by omega)
      show 1 < _
      omega⟩
  have n0 : q.num ≠ 0 := fun z => h0 (Rat.num_eq_zero.mp z)
  have e1 : p / q = Rat.divInt (p.num * q.den) (p.den * q.num) := by
    rw [Rat.div_def, Rat.inv_def]
    conv => lhs; rw [← Rat.num_divInt_den p]
    rw [Rat.divInt_mul_divInt]
  rw [e1]
  exact sz_divInt (mul_nd hp hq) (by rw [Int.natAbs_mul]; exact pow_mul_lt hp.2 hq.1) (Int.mul_ne_zero (by have := den_pos p; omega) n0)
end
theorem sz0 : Sz 1 0 := ⟨by decide, by decide⟩
theorem sz1 : Sz 1 1 := ⟨by decide, by decide⟩
theorem fr0 : fr 0 = .tup [.int 0, .int 1] := rfl
theorem fr1 : fr 1 = .tup [.int 1, .int 1] := rfl
end Pl

/-! Plain laws, 0: == and repr of data that stay. -/
namespace Pl
open Dl

instance : DecidableEq D := fun x y => if h : D.beq x y = true then .isTrue (D.beq_eq x y h) else .isFalse fun e => h (by rw [e]; exact D.beq_refl y)
mutual
def pyF : D → PySem.PyData
  | .int i => .int i
  | .str x => .str x
  | .tup xs => .tuple (pyFs xs)
  | .lst xs => .list (pyFs xs)
  | .bl b => .bool b
  | _ => .none
def pyFs : List D → List PySem.PyData
  | [] => []
  | x :: xs => pyF x :: pyFs xs
end
/-- data of None, ints, tuples, lists that stay; n its depth at most -/
inductive Fz : Nat → D → Prop
  | non {n : Nat} : Fz n .non
  | int {n : Nat} (i : Int) : Fz n (.int i)
  | tup {n : Nat} {xs : List D} : (∀ x ∈ xs, Fz n x) → Fz (n + 1) (.tup xs)
  | lst {n : Nat} {xs : List D} : (∀ x ∈ xs, Fz n x) → Fz (n + 1) (.lst xs)
theorem Fz.mono {n : Nat} {d : D} (h : Fz n d) : ∀ {m : Nat}, n ≤ m → Fz m d := by
  induction h with
  | non => exact fun _ => .non
  | int i => exact fun _ => .int i
  | tup _ ih => exact fun {m} l => match m, l with
    | m + 1, l => .tup fun x hx => ih x hx (by omega)
  | lst _ ih => exact fun {m} l => match m, l with
    | m + 1, l => .lst fun x hx => ih x hx (by omega)
theorem optAll_eq {f : D → Option PySem.PyData} : ∀ {xs : List D}, (∀ x ∈ xs, f x = some (pyF x)) → optAll f xs = some (pyFs xs)
  | [], _ => rfl
  | x :: xs, h => by
    unfold optAll
    rw [h x List.mem_cons_self, optAll_eq fun y hy => h y (List.mem_cons_of_mem _ hy)]
    simp only [pyFs]
theorem toPy_fz {h : Hs} {n : Nat} {d : D} (f : Fz n d) : toPy h n d = some (pyF d) := by
  induction f with
  | @non n => cases n <;> simp only [pyF] <;> rfl
  | @int n i => cases n <;> simp only [pyF] <;> rfl
  | @tup n xs _ ih =>
    show (optAll (toPy h n) xs).map PySem.PyData.tuple = _
    rw [optAll_eq ih]
    simp only [pyF]
    rfl
  | @lst n xs _ ih =>
    show (optAll (toPy h n) xs).map PySem.PyData.list = _
    rw [optAll_eq ih]
    simp only [pyF]
    rfl
theorem lays_fz : ∀ {xs : List D}, (∀ x ∈ xs, (pyF x).canLay0 = true) → PySem.PyData.canLayAll0 (pyFs xs) = true
  | [], _ => by simp only [pyFs, PySem.PyData.canLayAll0]
  | x :: xs, h => by
    simp only [pyFs, PySem.PyData.canLayAll0]
    rw [h x List.mem_cons_self, lays_fz fun y hy => h y (List.mem_cons_of_mem _ hy)]
    rfl
theorem depths_fz {n : Nat} : ∀ {xs : List D}, (∀ x ∈ xs, (pyF x).depth ≤ n) → PySem.PyData.depthAll (pyFs xs) ≤ n
  | [], _ => by simp only [pyFs, PySem.PyData.depthAll]; exact Nat.zero_le _
  | x :: xs, h => by
    simp only [pyFs, PySem.PyData.depthAll]
    have h1 := h x List.mem_cons_self
    have h2 := depths_fz (n := n) fun y hy => h y (List.mem_cons_of_mem _ hy)
    omega
theorem lay_fz {n : Nat} {d : D} (f : Fz n d) : (pyF d).canLay0 = true ∧ (pyF d).depth ≤ n := by
  induction f with
  | non => simp only [pyF, PySem.PyData.canLay0, PySem.PyData.depth]; exact ⟨trivial, Nat.zero_le _⟩
  | int i => simp only [pyF, PySem.PyData.canLay0, PySem.PyData.depth]; exact ⟨trivial, Nat.zero_le _⟩
  | @tup n xs _ ih =>
    simp only [pyF, PySem.PyData.canLay0, PySem.PyData.depth]
    exact ⟨lays_fz fun x hx => (ih x hx).1, Nat.succ_le_succ (depths_fz fun x hx => (ih x hx).2)⟩
  | @lst n xs _ ih =>
    simp only [pyF, PySem.PyData.canLay0, PySem.PyData.depth]
    exact ⟨lays_fz fun x hx => (ih x hx).1, Nat.succ_le_succ (depths_fz fun x hx => (ih x hx).2)⟩
theorem shaped_fz {n : Nat} {d : D} (f : Fz n d) (l : n ≤ 64) : PySem.SeqAt.shaped (pyF d) = true := by
  obtain ⟨h1, h2⟩ := lay_fz f
  unfold PySem.SeqAt.shaped
  rw [h1, decide_eq_true (by omega)]
  rfl
theorem eqvs_fz : ∀ {xs ys : List D}, (∀ x ∈ xs, ∀ y ∈ ys, (PySem.PyData.eqv (pyF x) (pyF y) = true ↔ x = y)) → (PySem.PyData.eqvAll (pyFs xs) (pyFs ys) = true ↔ xs = ys)
  | [], [], _ => by simp [pyFs, PySem.PyData.eqvAll]
  | [], _ :: _, _ => by simp [pyFs, PySem.PyData.eqvAll]
  | _ :: _, [], _ => by simp [pyFs, PySem.PyData.eqvAll]
  | x :: xs, y :: ys, h => by
    simp only [pyFs, PySem.PyData.eqvAll, Bool.and_eq_true, List.cons.injEq]
    rw [h x List.mem_cons_self y List.mem_cons_self, eqvs_fz fun a ha b hb => h a (List.mem_cons_of_mem _ ha) b (List.mem_cons_of_mem _ hb)]
theorem eqv_fz {n : Nat} {x : D} (f : Fz n x) : ∀ {m : Nat} {y : D}, Fz m y → (PySem.PyData.eqv (pyF x) (pyF y) = true ↔ x = y) := by
  induction f with
  | non => intro m y g; cases g <;> simp [pyF, PySem.PyData.eqv]
  | int i => intro m y g; cases g <;> simp [pyF, PySem.PyData.eqv]
  | @tup n xs _ ih =>
    intro m y g
    cases g with
    | tup g =>
      simp only [pyF, PySem.PyData.eqv, D.tup.injEq]
      exact eqvs_fz fun a ha b hb => ih a ha (g b hb)
    | _ => simp [pyF, PySem.PyData.eqv]
  | @lst n xs _ ih =>
    intro m y g
    cases g with
    | lst g =>
      simp only [pyF, PySem.PyData.eqv, D.lst.injEq]
      exact eqvs_fz fun a ha b hb => ih a ha (g b hb)
    | _ => simp [pyF, PySem.PyData.eqv]
theorem eqvB_fz {n m : Nat} {x y : D} (f : Fz n x) (g : Fz m y) : PySem.PyData.eqv (pyF x) (pyF y) = decide (x = y) := by
  have e := eqv_fz f g
  cases z : PySem.PyData.eqv (pyF x) (pyF y) with
  | true => exact (decide_eq_true (e.mp z)).symm
  | false => exact (decide_eq_false fun h => by rw [e.mpr h] at z; cases z).symm
section
variable {x y : D} {h : Hs} (f : Fz 8 x) (g : Fz 8 y)
include f g
theorem eqD_fz : eqD x y h = .ok (.bl (decide (x = y))) h := by
  unfold eqD eqPy
  rw [toPy_fz (f.mono (show 8 ≤ pyDepth by decide)), toPy_fz (g.mono (show 8 ≤ pyDepth by decide))]
  show (if (PySem.SeqAt.shaped (pyF x) && PySem.SeqAt.shaped (pyF y)) = true then _ else _) = _
  rw [shaped_fz f (by decide), shaped_fz g (by decide), eqvB_fz f g]
  rfl
theorem neD_fz : neD x y h = .ok (.bl (!decide (x = y))) h := by
  unfold neD eqPy
  rw [toPy_fz (f.mono (show 8 ≤ pyDepth by decide)), toPy_fz (g.mono (show 8 ≤ pyDepth by decide))]
  show (if (PySem.SeqAt.shaped (pyF x) && PySem.SeqAt.shaped (pyF y)) = true then _ else _) = _
  rw [shaped_fz f (by decide), shaped_fz g (by decide), eqvB_fz f g]
  rfl
end
theorem any_fz {x : D} {n : Nat} (f : Fz n x) : ∀ {ys : List D}, (∀ y ∈ ys, Fz n y) → ((pyFs ys).any fun z => PySem.PyData.eqv z (pyF x)) = decide (x ∈ ys)
  | [], _ => rfl
  | y :: ys, h => by
    simp only [pyFs, List.any_cons, eqvB_fz (h y List.mem_cons_self) f, any_fz f fun z hz => h z (List.mem_cons_of_mem _ hz)]
    by_cases e : y = x
    · subst e; simp
    · have e' : x ≠ y := fun z => e z.symm
      simp [e, e']
theorem inD_fz {x : D} {ys : List D} {h : Hs} (f : Fz 8 x) (g : ∀ y ∈ ys, Fz 8 y) : inD x (.tup ys) h = .ok (.bl (decide (x ∈ ys))) h ∧ inD x (.lst ys) h = .ok (.bl (decide (x ∈ ys))) h := by
  have e1 : optAll (toPy h pyDepth) ys = some (pyFs ys) := optAll_eq fun y hy => toPy_fz ((g y hy).mono (show 8 ≤ pyDepth by decide))
  have e2 := toPy_fz (h := h) (f.mono (show 8 ≤ pyDepth by decide))
  have e3 : PySem.SeqAt.shaped (.tuple (pyFs ys)) = true := by
    have z := shaped_fz (.tup g) (show 8 + 1 ≤ 64 by decide)
    simpa only [pyF] using z
  have e4 := shaped_fz f (by decide)
  constructor
  · show (match toPy h pyDepth x, optAll (toPy h pyDepth) ys with
      | some p, some ps => if PySem.SeqAt.shaped p && PySem.SeqAt.shaped (.tuple ps) then Dl.R.ok (D.bl (if false = true then _ else ps.any fun z => PySem.PyData.eqv z p)) h else .bad
      | _, _ => .bad) = _
    rw [e1, e2]
    show (if (PySem.SeqAt.shaped (pyF x) && PySem.SeqAt.shaped (.tuple (pyFs ys))) = true then _ else _) = _
    rw [e3, e4, any_fz f g]
    rfl
  · show (match toPy h pyDepth x, optAll (toPy h pyDepth) ys with
      | some p, some ps => if PySem.SeqAt.shaped p && PySem.SeqAt.shaped (.tuple ps) then Dl.R.ok (D.bl (if false = true then _ else ps.any fun z => PySem.PyData.eqv z p)) h else .bad
      | _, _ => .bad) = _
    rw [e1, e2]
    show (if (PySem.SeqAt.shaped (pyF x) && PySem.SeqAt.shaped (.tuple (pyFs ys))) = true then _ else _) = _
    rw [e3, e4, any_fz f g]
    rfl
theorem eqD_ii {a b : Int} {h : Hs} : eqD (.int a) (.int b) h = .ok (.bl (decide (a = b))) h := by
  rw [eqD_fz (.int a) (.int b)]
  simp
theorem neD_ii {a b : Int} {h : Hs} : neD (.int a) (.int b) h = .ok (.bl (!decide (a = b))) h := by
  rw [neD_fz (.int a) (.int b)]
  simp
theorem fz_fr (q : Rat) : Fz 1 (fr q) := .tup fun x hx => by
  rcases List.mem_cons.mp hx with e | hx
  · subst e; exact .int _
  · rw [List.mem_singleton.mp hx]; exact .int _
/-! ### what is shown -/
inductive Sh' : Nat → D → Prop
  | non {w : Nat} : 4 ≤ w → Sh' w .non
  | int {w : Nat} {i : Int} : i.natAbs < 2 ^ 1900 → 1921 ≤ w → Sh' w (.int i)
  | tup {w u : Nat} {xs : List D} : (∀ x ∈ xs, Sh' u x) → (u + 2) * xs.length + 3 ≤ w → Sh' w (.tup xs)
  | lst {w u : Nat} {xs : List D} : (∀ x ∈ xs, Sh' u x) → (u + 2) * xs.length + 3 ≤ w → Sh' w (.lst xs)
theorem Sh'.mono {w v : Nat} {d : D} (h : Sh' w d) (l : w ≤ v) : Sh' v d := by
  cases h with
  | non a => exact .non (by omega)
  | int a b => exact .int a (by omega)
  | tup a b => exact .tup a (by omega)
  | lst a b => exact .lst a (by omega)
theorem piled_le {u : Nat} : ∀ {ts : List PySem.Str}, (∀ t ∈ ts, t.length ≤ u) → PySem.piled ts ≤ (u + 2) * ts.length
  | [], _ => Nat.zero_le _
  | t :: ts, h => by
    have h1 := h t List.mem_cons_self
    have h2 := piled_le (u := u) fun x hx => h x (List.mem_cons_of_mem _ hx)
    rw [PySem.piled_cons, List.length_cons, Nat.mul_succ]
    omega
theorem listText_le (ts : List PySem.Str) : (PySem.listText ts).length ≤ PySem.piled ts + 3 := by
  cases ts with
  | nil => decide +kernel
  | cons t r =>
    have h := PySem.textFrom_length_pos r 1 (("[" : PySem.Str) ++ (if (0 : Nat) > 0 then ", " else "" : String) ++ t) (Nat.succ_pos 0)
    have e : ((("[" : PySem.Str) ++ (if (0 : Nat) > 0 then ", " else "" : String) ++ t)).length = 1 + t.length := by
      rw [PySem.strLen_append, PySem.strLen_append]; rfl
    have hX : (PySem.listText (t :: r)).length = (PySem.textFrom 0 "[" (t :: r)).length + 1 := by
      show (PySem.textFrom 0 "[" (t :: r) ++ ("]" : PySem.Str)).length = _
      rw [PySem.strLen_append]; rfl
    have hY : (PySem.textFrom 0 "[" (t :: r)).length = (PySem.textFrom 1 (("[" : PySem.Str) ++ (if (0 : Nat) > 0 then ", " else "" : String) ++ t) r).length := rfl
    rw [hX, hY, h, e, PySem.piled_cons]
    omega
theorem tupleText_le (ts : List PySem.Str) : (PySem.tupleText ts).length ≤ PySem.piled ts + 3 := by
  cases ts with
  | nil => decide +kernel
  | cons t r =>
    have h := PySem.join_length_add (t :: r) (by simp)
    unfold PySem.tupleText
    rw [PySem.strLen_append, PySem.strLen_append]
    have e : ((if (t :: r).length == 1 then ",)" else ")" : String) : PySem.Str).length ≤ 2 := by split <;> decide +kernel
    have e1 : (("(" : PySem.Str)).length = 1 := by decide +kernel
    omega
theorem int_shown {i : Int} (h : i.natAbs < 2 ^ 1900) : (PySem.PyData.shown (.int i)).length ≤ 1921 ∧ PySem.PyData.showable (.int i) = true := by
  have l : i.natAbs.log2 < 1920 := by
    by_cases z : i.natAbs = 0
    · rw [z]; decide
    · have := (Nat.log2_lt z).mpr h
      omega
  refine ⟨?_, by simp only [PySem.PyData.showable]; exact decide_eq_true l⟩
  have e := PySem.int_text_length_le (a := i) (k := 1920) (by decide) l
  simp only [PySem.PyData.shown]
  show (PySem.Str.ofString (toString i)).length ≤ 1921
  rw [PySem.ofString_length]
  exact e
theorem shownAll_le {u : Nat} : ∀ {xs : List D}, (∀ x ∈ xs, (PySem.PyData.shown (pyF x)).length ≤ u ∧ (pyF x).showable = true ∧ (pyF x).hasDict = false) →
    (∀ t ∈ PySem.PyData.shownAll (pyFs xs), t.length ≤ u) ∧ (PySem.PyData.shownAll (pyFs xs)).length = xs.length ∧ PySem.PyData.showableAll (pyFs xs) = true ∧ PySem.PyData.hasDictAll (pyFs xs) = false
  | [], _ => by simp [pyFs, PySem.PyData.shownAll, PySem.PyData.showableAll, PySem.PyData.hasDictAll]
  | x :: xs, h => by
    obtain ⟨h1, h2, h3⟩ := h x List.mem_cons_self
    obtain ⟨k1, k2, k3, k4⟩ := shownAll_le (u := u) fun y hy => h y (List.mem_cons_of_mem _ hy)
    simp only [pyFs, PySem.PyData.shownAll, PySem.PyData.showableAll, PySem.PyData.hasDictAll, h2, h3, k3, k4, List.length_cons, k2, Bool.and_self, Bool.or_self, and_true]
    refine fun t ht => ?_
    rcases List.mem_cons.mp ht with z | z
    · rw [z]; exact h1
    · exact k1 t z
theorem shown_le {w : Nat} {d : D} (s : Sh' w d) : (PySem.PyData.shown (pyF d)).length ≤ w ∧ (pyF d).showable = true ∧ (pyF d).hasDict = false := by
  induction s with
  | non a => exact ⟨Nat.le_trans (by decide +kernel) a, by simp only [pyF, PySem.PyData.showable], by simp only [pyF, PySem.PyData.hasDict]⟩
  | int a b =>
    obtain ⟨h1, h2⟩ := int_shown a
    simp only [pyF]
    exact ⟨Nat.le_trans h1 b, h2, by simp only [PySem.PyData.hasDict]⟩
  | @tup w u xs _ l ih =>
    obtain ⟨k1, k2, k3, k4⟩ := shownAll_le ih
    simp only [pyF, PySem.PyData.shown, PySem.PyData.showable, PySem.PyData.hasDict]
    refine ⟨?_, k3, k4⟩
    have h1 := tupleText_le (PySem.PyData.shownAll (pyFs xs))
    have h2 := piled_le k1
    rw [k2] at h2
    exact Nat.le_trans h1 (Nat.le_trans (Nat.add_le_add_right h2 3) l)
  | @lst w u xs _ l ih =>
    obtain ⟨k1, k2, k3, k4⟩ := shownAll_le ih
    simp only [pyF, PySem.PyData.shown, PySem.PyData.showable, PySem.PyData.hasDict]
    refine ⟨?_, k3, k4⟩
    have h1 := listText_le (PySem.PyData.shownAll (pyFs xs))
    have h2 := piled_le k1
    rw [k2] at h2
    exact Nat.le_trans h1 (Nat.le_trans (Nat.add_le_add_right h2 3) l)
theorem reprD_fz {x : D} {h : Hs} (f : Fz 8 x) (s : Sh' 16777216 x) : reprD [x] h = .ok (.str (pyF x).shown) h := by
  obtain ⟨h1, h2, h3⟩ := shown_le s
  show (match toPy h 62 x with
    | some d => if okShow d = true then Dl.R.ok (D.str d.shown) h else .bad
    | none => .bad) = _
  rw [toPy_fz (f.mono (show 8 ≤ 62 by decide))]
  refine if_pos ?_
  unfold okShow
  rw [h2, h3, decide_eq_true (show (pyF x).depth ≤ 62 from Nat.le_trans (lay_fz f).2 (by decide)), decide_eq_true h1]
  rfl
theorem sh_fr {q : Rat} (s : Sz 1900 q) : Sh' 4000 (fr q) := .tup (u := 1921) (fun x hx => by
  rcases List.mem_cons.mp hx with e | hx
  · subst e; exact .int s.1 (Nat.le_refl _)
  · rw [List.mem_singleton.mp hx]; exact .int (show ((q.den : Int)).natAbs < _ from s.2) (Nat.le_refl _)) (by simp)
end Pl

/-! Plain laws, 3: the tape. -/
namespace Pl
open Dl Sh

theorem items_obj {h : Hs} {n : Nat} {xs : List D} (e : h[n]? = some (.lst xs)) : items h (.obj n) = some xs := by
  show (match h[n]? with
    | some (.lst xs) => some xs
    | _ => none) = some xs
  rw [e]
theorem item_obj {h : Hs} {n : Nat} {xs : List D} {i : Nat} {d : D} (e : h[n]? = some (.lst xs)) (e2 : xs[i]? = some d) : itemD (.obj n) (.int i) h = .ok d h := by
  have hl := (List.getElem?_eq_some_iff.mp e2).1
  have z : L2.atI xs i = some d := by
    unfold L2.atI L2.ixN
    rw [if_pos (by omega), if_pos (by omega)]
    exact e2
  have s : seqOf h (.obj n) = some xs := by
    exact items_obj e
  show (match seqOf h (.obj n) with
    | some xs => (match L2.atI xs i with
        | some d => Dl.R.ok d h
        | none => .bad)
    | none => _) = _
  rw [s]
  show (match L2.atI xs i with
        | some d => Dl.R.ok d h
        | none => .bad) = _
  rw [z]
theorem set_obj {h : Hs} {n : Nat} {xs : List D} {i : Nat} {v : D} (e : h[n]? = some (.lst xs)) (hl : i < xs.length) : setItemD (.obj n) (.int i) v h = some (h.set n (.lst (xs.set i v))) := by
  show (match h[n]? with
    | some (.lst xs) => (L2.ixN xs.length i).map fun j => h.set n (.lst (xs.set j v))
    | some (.dI kvs) => _
    | _ => none) = _
  rw [e]
  show (L2.ixN xs.length i).map _ = _
  unfold L2.ixN
  rw [if_pos (by omega), if_pos (by omega)]
  rfl
theorem wps_store {ce co cx : Env → M D} {ρ : Env} {h : Hs} {N : Env → Hs → Prop} {T : D → Hs → Prop} : WpS (sStore ce co cx ρ h) N T = Wp (ce ρ h) fun v h1 => Wp (co ρ h1) fun o h2 => Wp (cx ρ h2) fun i h3 => WpS (match setItemD o i v h3 with
  | some h4 => .nx ρ h4
  | none => .bad) N T := by
  unfold sStore
  cases ce ρ h with
  | ok v h1 =>
    show WpS ((co ρ h1).then ρ _) N T = Wp (co ρ h1) _
    rw [wps_then]
    cases co ρ h1 with
    | ok o h2 =>
      show WpS ((cx ρ h2).then ρ _) N T = Wp (cx ρ h2) _
      rw [wps_then]
      try rfl
    | _ => rfl
  | _ => rfl
/-- the tape stands at 1, its cells at 0; N bounds the draws so far -/
structure Tp (h : Hs) (N : Nat) : Prop where
  ex : ∃ (s n : Int) (cs : List Int), h[1]? = some (.lst [.int s, .int n, .obj 0]) ∧ h[0]? = some (.lst (cs.map D.int)) ∧ 0 ≤ s ∧ s < 4294967296 ∧ 0 ≤ n ∧ n ≤ N
/-- what stood behind the tape stands -/
structure Ge (h h' : Hs) : Prop where
  len : h.length ≤ h'.length
  keep : ∀ j, 2 ≤ j → j < h.length → h'[j]? = h[j]?
theorem Ge.refl {h : Hs} : Ge h h := ⟨Nat.le_refl _, fun _ _ _ => rfl⟩
theorem Ge.trans {a b c : Hs} (x : Ge a b) (y : Ge b c) : Ge a c := ⟨Nat.le_trans x.len y.len, fun j h1 h2 => (y.keep j h1 (Nat.lt_of_lt_of_le h2 x.len)).trans (x.keep j h1 h2)⟩
theorem Ge.set {h : Hs} {i : Nat} {o : DO} (hi : i < 2) : Ge h (h.set i o) := ⟨by rw [List.length_set]; exact Nat.le_refl _, fun j h1 _ => List.getElem?_set_ne (by omega)⟩
theorem Ge.app {h : Hs} {l : List DO} (hl : 2 ≤ h.length) : Ge h (h ++ l) := ⟨by rw [List.length_append]; omega, fun j _ h2 => List.getElem?_append_left h2⟩
theorem Ge.at {h h' : Hs} (g : Ge h h') {j : Nat} {o : DO} (hj : 2 ≤ j) (e : h[j]? = some o) : h'[j]? = some o := (g.keep j hj (List.getElem?_eq_some_iff.mp e).1).trans e
theorem Tp.mono {h : Hs} {N M : Nat} (t : Tp h N) (l : N ≤ M) : Tp h M := by
  obtain ⟨s, n, cs, h1, h2, h3, h4, h5, h6⟩ := t.ex
  exact ⟨s, n, cs, h1, h2, h3, h4, h5, by omega⟩
theorem Tp.two {h : Hs} {N : Nat} (t : Tp h N) : 2 ≤ h.length := by
  obtain ⟨s, n, cs, h1, _⟩ := t.ex
  exact (List.getElem?_eq_some_iff.mp h1).1
theorem Tp.app {h : Hs} {N : Nat} {l : List DO} (t : Tp h N) : Tp (h ++ l) N := by
  have h2 := t.two
  obtain ⟨s, n, cs, h1, h2', r⟩ := t.ex
  exact ⟨s, n, cs, by rw [List.getElem?_append_left (by omega)]; exact h1, by rw [List.getElem?_append_left (by omega)]; exact h2', r⟩
theorem Tp.set {h : Hs} {N i : Nat} {o : DO} (t : Tp h N) (hi : 2 ≤ i) : Tp (h.set i o) N := by
  obtain ⟨s, n, cs, h1, h2', r⟩ := t.ex
  exact ⟨s, n, cs, by rw [List.getElem?_set_ne (by omega)]; exact h1, by rw [List.getElem?_set_ne (by omega)]; exact h2', r⟩
theorem okMul_small {i j : Int} (hi : i.natAbs < 2 ^ 1000) (hj : j.natAbs < 2 ^ 1000) : okMul i j = true := okMul_of hi hj (by decide)
theorem pow18 : 2 ^ 64 ≤ 2 ^ 9000 := Nat.pow_le_pow_right (by decide) (by decide)
theorem small_lt {i : Int} (h : i.natAbs < 18446744073709551616) : i.natAbs < 2 ^ 1000 := Nat.lt_of_lt_of_le h (show (2 ^ 64 : Nat) ≤ 2 ^ 1000 from Nat.pow_le_pow_right (by decide) (by decide))
theorem okDiv_small {i j : Int} (h0 : 0 < j) (h : j.natAbs < 18446744073709551616) : okDiv i j = true := okDiv_of h0 (Nat.lt_of_lt_of_le h pow18)
theorem intD_i {i : Int} {h : Hs} : intD [.int i] h = .ok (.int i) h := rfl
theorem lenD_obj {h : Hs} {n : Nat} {xs : List D} (e : h[n]? = some (.lst xs)) : lenD [.obj n] h = .ok (.int xs.length) h := by
  show (match seqOf h (.obj n) with
    | some ys => Dl.R.ok (D.int ys.length) h
    | none => _) = _
  have s : seqOf h (.obj n) = some xs := by
    exact items_obj e
  rw [s]
theorem pop0_obj {h : Hs} {n : Nat} {x : D} {xs : List D} (e : h[n]? = some (.lst (x :: xs))) : popD (.obj n) [.int 0] h = .ok x (h.set n (.lst xs)) := by
  unfold popD
  have l : lstAt h (.obj n) = some (n, x :: xs) := by
    show (match h[n]? with
    | some (.lst xs) => some (n, xs)
    | _ => none) = _
    rw [e]
  rw [l]
  show (if okI 0 = true then (match PySem.seqIndex? 0 (x :: xs).length with
    | some k => (match (x :: xs)[k]? with
      | some d => Dl.R.ok d (h.set n (.lst ((x :: xs).eraseIdx k)))
      | none => .bad)
    | none => .bad) else .bad) = _
  have z : PySem.seqIndex? 0 (x :: xs).length = some 0 := by
    unfold PySem.seqIndex?
    simp
  rw [z]
  rfl
theorem mixed_le {x : Int} (h0 : 0 ≤ x) (h1 : x < 2147483647) : okMul x (x / 1009 + 69621) = true ∧ okMul x (x / 2003 + 40692) = true := by
  have e1 : 0 ≤ x / 1009 := Int.ediv_nonneg h0 (by decide)
  have e2 : x / 1009 ≤ x := Int.ediv_le_self _ h0
  have e3 : 0 ≤ x / 2003 := Int.ediv_nonneg h0 (by decide)
  have e4 : x / 2003 ≤ x := Int.ediv_le_self _ h0
  exact ⟨okMul_small (small_lt (by omega)) (small_lt (by omega)), okMul_small (small_lt (by omega)) (small_lt (by omega))⟩
theorem draw_spec {h : Hs} {N : Nat} {sides : Int} {Q : D → Hs → Prop} (t : Tp h N) (h0 : 0 < sides) (hs : sides < 18446744073709551616) (hN : N < 1000000) (k : ∀ d h', 0 ≤ d → d < sides → Tp h' (N + 1) → Ge h h' → Q (.int d) h') : Wp (m__law_draw [.obj 1, .int sides] h) Q := by
  obtain ⟨s, n, cs, h1, h2, s0, s1, n0, n1⟩ := t.ex
  have two := t.two
  have i11 : itemD (.obj 1) (.int 1) h = .ok (.int n) h := item_obj (i := 1) h1 rfl
  have st : setItemD (.obj 1) (.int 1) (.int (n + 1)) h = some (h.set 1 (.lst [.int s, .int (n + 1), .obj 0])) := set_obj (i := 1) h1 (by simp)
  unfold m__law_draw c__law_draw
  simp only [wps_store, eV0, eVs, bind_ok', then_ok, q_e2, q_e1, q_eC, q_aC, q_aN, q_sPar2, q_sPar3, q_sSet, q_sRet, q_eBf, q_nBf, q_eCall, q_tst, q_tru, q_ifV, q_sIf, q_eTup, q_sPass, q_sExp, q_eLm, q_nLst, q_frz, q_thaw, q_iSeq, q_iR2, q_iR3, q_iEnumD, q_iZip, q_andX, q_andT, q_orT, q_notT, q_eCh, q_sPat, q_eSl, q_nSl, q_pS, q_pN, q_sRetN, q_tYes, q_eDct0, okL0, okL1, okL2, okL3, okL4, okL5, okL6, ent, List.map_cons, List.map_nil, List.length_cons, List.length_nil, List.set_cons_zero, List.set_cons_succ, List.replicate, List.cons_append, List.nil_append, Nat.reduceAdd, Nat.reduceSub, Nat.sub_self, Nat.sub_zero, zero_add', ↓reduceIte, Bool.false_eq_true, item0, item1, addD_ii, subD_ii, negD_i, absD_i, ltD_ii, leD_ii, gtD_ii, geD_ii, truD_bl, decide_true, decide_false, wp_ok, wp_bad, wp_bind, wp_nox, wp_def, wps_then, wps_seq, wps_nx, wps_ret, wp_ite, wps_ite, i11, st]
  have g1 : (h.set 1 (.lst [.int s, .int (n + 1), .obj 0]))[1]? = some (.lst [.int s, .int (n + 1), .obj 0]) := List.getElem?_set_self (by omega)
  have g0 : (h.set 1 (.lst [.int s, .int (n + 1), .obj 0]))[0]? = some (.lst (cs.map D.int)) := by rw [List.getElem?_set_ne (by decide)]; exact h2
  have gg : Ge h (h.set 1 (.lst [.int s, .int (n + 1), .obj 0])) := .set (by decide)
  generalize h.set 1 (.lst [.int s, .int (n + 1), .obj 0]) = g at g1 g0 gg ⊢
  have j12 : itemD (.obj 1) (.int 2) g = .ok (.obj 0) g := item_obj (i := 2) g1 rfl
  have j10 : itemD (.obj 1) (.int 0) g = .ok (.int s) g := item_obj (i := 0) g1 rfl
  have j11 : itemD (.obj 1) (.int 1) g = .ok (.int (n + 1)) g := item_obj (i := 1) g1 rfl
  have l0 := lenD_obj g0
  rw [List.length_map] at l0
  simp only [eV0, eVs, bind_ok', then_ok, q_e2, q_e1, q_eC, q_aC, q_aN, q_sPar2, q_sPar3, q_sSet, q_sRet, q_eBf, q_nBf, q_eCall, q_tst, q_tru, q_ifV, q_sIf, q_eTup, q_sPass, q_sExp, q_eLm, q_nLst, q_frz, q_thaw, q_iSeq, q_iR2, q_iR3, q_iEnumD, q_iZip, q_andX, q_andT, q_orT, q_notT, q_eCh, q_sPat, q_eSl, q_nSl, q_pS, q_pN, q_sRetN, q_tYes, q_eDct0, okL0, okL1, okL2, okL3, okL4, okL5, okL6, ent, List.map_cons, List.map_nil, List.length_cons, List.length_nil, List.set_cons_zero, List.set_cons_succ, List.replicate, List.cons_append, List.nil_append, Nat.reduceAdd, Nat.reduceSub, Nat.sub_self, Nat.sub_zero, zero_add', ↓reduceIte, Bool.false_eq_true, item0, item1, addD_ii, subD_ii, negD_i, absD_i, ltD_ii, leD_ii, gtD_ii, geD_ii, truD_bl, decide_true, decide_false, wp_ok, wp_bad, wp_bind, wp_nox, wp_def, wps_then, wps_seq, wps_nx, wps_ret, wp_ite, wps_ite, j12, l0]
  cases cs with
  | nil =>
    have z : ¬ ((0 : Int) < (([] : List Int).length : Int)) := by simp
    have m1 : okMul 7919 (n + 1) = true := okMul_small (by decide +kernel) (small_lt (by omega))
    have m2 : okMul (s + 7919 * (n + 1)) 48271 = true := okMul_small (small_lt (by omega)) (by decide +kernel)
    have b0 := Int.emod_nonneg ((s + 7919 * (n + 1)) * 48271) (show (2147483647 : Int) ≠ 0 by decide)
    have b1 := Int.emod_lt_of_pos ((s + 7919 * (n + 1)) * 48271) (show (0 : Int) < 2147483647 by decide)
    simp only [eV0, eVs, bind_ok', then_ok, q_e2, q_e1, q_eC, q_aC, q_aN, q_sPar2, q_sPar3, q_sSet, q_sRet, q_eBf, q_nBf, q_eCall, q_tst, q_tru, q_ifV, q_sIf, q_eTup, q_sPass, q_sExp, q_eLm, q_nLst, q_frz, q_thaw, q_iSeq, q_iR2, q_iR3, q_iEnumD, q_iZip, q_andX, q_andT, q_orT, q_notT, q_eCh, q_sPat, q_eSl, q_nSl, q_pS, q_pN, q_sRetN, q_tYes, q_eDct0, okL0, okL1, okL2, okL3, okL4, okL5, okL6, ent, List.map_cons, List.map_nil, List.length_cons, List.length_nil, List.set_cons_zero, List.set_cons_succ, List.replicate, List.cons_append, List.nil_append, Nat.reduceAdd, Nat.reduceSub, Nat.sub_self, Nat.sub_zero, zero_add', ↓reduceIte, Bool.false_eq_true, item0, item1, addD_ii, subD_ii, negD_i, absD_i, ltD_ii, leD_ii, gtD_ii, geD_ii, truD_bl, decide_true, decide_false, wp_ok, wp_bad, wp_bind, wp_nox, wp_def, wps_then, wps_seq, wps_nx, wps_ret, wp_ite, wps_ite, decide_eq_false z, sPass, j10, j11, mulD_ii m1, mulD_ii m2, intD_i, modD_ii (show (0 : Int) < 2147483647 by decide)]
    generalize (s + 7919 * (n + 1)) * 48271 % 2147483647 = x at b0 b1 ⊢
    obtain ⟨m3, _⟩ := mixed_le b0 b1
    have c0 := Int.emod_nonneg (x * (x / 1009 + 69621)) (show (2147483647 : Int) ≠ 0 by decide)
    have c1 := Int.emod_lt_of_pos (x * (x / 1009 + 69621)) (show (0 : Int) < 2147483647 by decide)
    simp only [eV0, eVs, bind_ok', then_ok, q_e2, q_e1, q_eC, q_aC, q_aN, q_sPar2, q_sPar3, q_sSet, q_sRet, q_eBf, q_nBf, q_eCall, q_tst, q_tru, q_ifV, q_sIf, q_eTup, q_sPass, q_sExp, q_eLm, q_nLst, q_frz, q_thaw, q_iSeq, q_iR2, q_iR3, q_iEnumD, q_iZip, q_andX, q_andT, q_orT, q_notT, q_eCh, q_sPat, q_eSl, q_nSl, q_pS, q_pN, q_sRetN, q_tYes, q_eDct0, okL0, okL1, okL2, okL3, okL4, okL5, okL6, ent, List.map_cons, List.map_nil, List.length_cons, List.length_nil, List.set_cons_zero, List.set_cons_succ, List.replicate, List.cons_append, List.nil_append, Nat.reduceAdd, Nat.reduceSub, Nat.sub_self, Nat.sub_zero, zero_add', ↓reduceIte, Bool.false_eq_true, item0, item1, addD_ii, subD_ii, negD_i, absD_i, ltD_ii, leD_ii, gtD_ii, geD_ii, truD_bl, decide_true, decide_false, wp_ok, wp_bad, wp_bind, wp_nox, wp_def, wps_then, wps_seq, wps_nx, wps_ret, wp_ite, wps_ite, divD_ii (okDiv_small (i := x) (j := 1009) (by decide) (by decide)), mulD_ii m3, intD_i, modD_ii (show (0 : Int) < 2147483647 by decide)]
    generalize x * (x / 1009 + 69621) % 2147483647 = y at c0 c1 ⊢
    obtain ⟨_, m4⟩ := mixed_le c0 c1
    simp only [eV0, eVs, bind_ok', then_ok, q_e2, q_e1, q_eC, q_aC, q_aN, q_sPar2, q_sPar3, q_sSet, q_sRet, q_eBf, q_nBf, q_eCall, q_tst, q_tru, q_ifV, q_sIf, q_eTup, q_sPass, q_sExp, q_eLm, q_nLst, q_frz, q_thaw, q_iSeq, q_iR2, q_iR3, q_iEnumD, q_iZip, q_andX, q_andT, q_orT, q_notT, q_eCh, q_sPat, q_eSl, q_nSl, q_pS, q_pN, q_sRetN, q_tYes, q_eDct0, okL0, okL1, okL2, okL3, okL4, okL5, okL6, ent, List.map_cons, List.map_nil, List.length_cons, List.length_nil, List.set_cons_zero, List.set_cons_succ, List.replicate, List.cons_append, List.nil_append, Nat.reduceAdd, Nat.reduceSub, Nat.sub_self, Nat.sub_zero, zero_add', ↓reduceIte, Bool.false_eq_true, item0, item1, addD_ii, subD_ii, negD_i, absD_i, ltD_ii, leD_ii, gtD_ii, geD_ii, truD_bl, decide_true, decide_false, wp_ok, wp_bad, wp_bind, wp_nox, wp_def, wps_then, wps_seq, wps_nx, wps_ret, wp_ite, wps_ite, divD_ii (okDiv_small (i := y) (j := 2003) (by decide) (by decide)), mulD_ii m4, intD_i, modD_ii (show (0 : Int) < 2147483399 by decide)]
    generalize y * (y / 2003 + 40692) % 2147483399 = u
    simp only [eV0, eVs, bind_ok', then_ok, q_e2, q_e1, q_eC, q_aC, q_aN, q_sPar2, q_sPar3, q_sSet, q_sRet, q_eBf, q_nBf, q_eCall, q_tst, q_tru, q_ifV, q_sIf, q_eTup, q_sPass, q_sExp, q_eLm, q_nLst, q_frz, q_thaw, q_iSeq, q_iR2, q_iR3, q_iEnumD, q_iZip, q_andX, q_andT, q_orT, q_notT, q_eCh, q_sPat, q_eSl, q_nSl, q_pS, q_pN, q_sRetN, q_tYes, q_eDct0, okL0, okL1, okL2, okL3, okL4, okL5, okL6, ent, List.map_cons, List.map_nil, List.length_cons, List.length_nil, List.set_cons_zero, List.set_cons_succ, List.replicate, List.cons_append, List.nil_append, Nat.reduceAdd, Nat.reduceSub, Nat.sub_self, Nat.sub_zero, zero_add', ↓reduceIte, Bool.false_eq_true, item0, item1, addD_ii, subD_ii, negD_i, absD_i, ltD_ii, leD_ii, gtD_ii, geD_ii, truD_bl, decide_true, decide_false, wp_ok, wp_bad, wp_bind, wp_nox, wp_def, wps_then, wps_seq, wps_nx, wps_ret, wp_ite, wps_ite, divD_ii (okDiv_small (i := u) (j := 16) (by decide) (by decide)), intD_i, modD_ii h0]
    exact k _ _ (Int.emod_nonneg _ (by omega)) (Int.emod_lt_of_pos _ h0) ⟨s, n + 1, [], g1, g0, s0, s1, by omega, by omega⟩ gg
  | cons c cs =>
    have z : ((0 : Int) < ((cs.length + 1 : Nat) : Int)) := by omega
    have p0 : itemD (.obj 0) (.int 0) g = .ok (.int c) g := item_obj (i := 0) g0 rfl
    have st : setItemD (.obj 0) (.int 0) (.int (c / sides)) g = some (g.set 0 (.lst (D.int (c / sides) :: cs.map D.int))) := set_obj (i := 0) g0 (by simp)
    simp only [eV0, eVs, bind_ok', then_ok, q_e2, q_e1, q_eC, q_aC, q_aN, q_sPar2, q_sPar3, q_sSet, q_sRet, q_eBf, q_nBf, q_eCall, q_tst, q_tru, q_ifV, q_sIf, q_eTup, q_sPass, q_sExp, q_eLm, q_nLst, q_frz, q_thaw, q_iSeq, q_iR2, q_iR3, q_iEnumD, q_iZip, q_andX, q_andT, q_orT, q_notT, q_eCh, q_sPat, q_eSl, q_nSl, q_pS, q_pN, q_sRetN, q_tYes, q_eDct0, okL0, okL1, okL2, okL3, okL4, okL5, okL6, ent, List.map_cons, List.map_nil, List.length_cons, List.length_nil, List.set_cons_zero, List.set_cons_succ, List.replicate, List.cons_append, List.nil_append, Nat.reduceAdd, Nat.reduceSub, Nat.sub_self, Nat.sub_zero, zero_add', ↓reduceIte, Bool.false_eq_true, item0, item1, addD_ii, subD_ii, negD_i, absD_i, ltD_ii, leD_ii, gtD_ii, geD_ii, truD_bl, decide_true, decide_false, wp_ok, wp_bad, wp_bind, wp_nox, wp_def, wps_then, wps_seq, wps_nx, wps_ret, wp_ite, wps_ite, wps_store, decide_eq_true z, p0, intD_i, modD_ii h0, divD_ii (okDiv_small (i := c) h0 (by omega)), st]
    have lg : 2 ≤ g.length := (List.getElem?_eq_some_iff.mp g1).1
    have f1 : (g.set 0 (.lst (D.int (c / sides) :: cs.map D.int)))[1]? = some (.lst [.int s, .int (n + 1), .obj 0]) := by rw [List.getElem?_set_ne (by decide)]; exact g1
    have f0 : (g.set 0 (.lst (D.int (c / sides) :: cs.map D.int)))[0]? = some (.lst (D.int (c / sides) :: cs.map D.int)) := List.getElem?_set_self (by omega)
    have ff : Ge h (g.set 0 (.lst (D.int (c / sides) :: cs.map D.int))) := gg.trans (.set (by decide))
    generalize g.set 0 (.lst (D.int (c / sides) :: cs.map D.int)) = f at f1 f0 ff ⊢
    have q0 : itemD (.obj 0) (.int 0) f = .ok (.int (c / sides)) f := item_obj (i := 0) f0 rfl
    have r0 := Int.emod_nonneg c (show sides ≠ 0 by omega)
    have r1 := Int.emod_lt_of_pos c h0
    have lf : 2 ≤ f.length := (List.getElem?_eq_some_iff.mp f1).1
    simp only [eV0, eVs, bind_ok', then_ok, q_e2, q_e1, q_eC, q_aC, q_aN, q_sPar2, q_sPar3, q_sSet, q_sRet, q_eBf, q_nBf, q_eCall, q_tst, q_tru, q_ifV, q_sIf, q_eTup, q_sPass, q_sExp, q_eLm, q_nLst, q_frz, q_thaw, q_iSeq, q_iR2, q_iR3, q_iEnumD, q_iZip, q_andX, q_andT, q_orT, q_notT, q_eCh, q_sPat, q_eSl, q_nSl, q_pS, q_pN, q_sRetN, q_tYes, q_eDct0, okL0, okL1, okL2, okL3, okL4, okL5, okL6, ent, List.map_cons, List.map_nil, List.length_cons, List.length_nil, List.set_cons_zero, List.set_cons_succ, List.replicate, List.cons_append, List.nil_append, Nat.reduceAdd, Nat.reduceSub, Nat.sub_self, Nat.sub_zero, zero_add', ↓reduceIte, Bool.false_eq_true, item0, item1, addD_ii, subD_ii, negD_i, absD_i, ltD_ii, leD_ii, gtD_ii, geD_ii, truD_bl, decide_true, decide_false, wp_ok, wp_bad, wp_bind, wp_nox, wp_def, wps_then, wps_seq, wps_nx, wps_ret, wp_ite, wps_ite, q0, eqD_ii]
    by_cases e : c / sides = 0
    · have pp := pop0_obj (n := 0) (h := f) f0
      simp only [eV0, eVs, bind_ok', then_ok, q_e2, q_e1, q_eC, q_aC, q_aN, q_sPar2, q_sPar3, q_sSet, q_sRet, q_eBf, q_nBf, q_eCall, q_tst, q_tru, q_ifV, q_sIf, q_eTup, q_sPass, q_sExp, q_eLm, q_nLst, q_frz, q_thaw, q_iSeq, q_iR2, q_iR3, q_iEnumD, q_iZip, q_andX, q_andT, q_orT, q_notT, q_eCh, q_sPat, q_eSl, q_nSl, q_pS, q_pN, q_sRetN, q_tYes, q_eDct0, okL0, okL1, okL2, okL3, okL4, okL5, okL6, ent, List.map_cons, List.map_nil, List.length_cons, List.length_nil, List.set_cons_zero, List.set_cons_succ, List.replicate, List.cons_append, List.nil_append, Nat.reduceAdd, Nat.reduceSub, Nat.sub_self, Nat.sub_zero, zero_add', ↓reduceIte, Bool.false_eq_true, item0, item1, addD_ii, subD_ii, negD_i, absD_i, ltD_ii, leD_ii, gtD_ii, geD_ii, truD_bl, decide_true, decide_false, wp_ok, wp_bad, wp_bind, wp_nox, wp_def, wps_then, wps_seq, wps_nx, wps_ret, wp_ite, wps_ite, sExp, eLm, decide_eq_true e, lstAt, f0, pp]
      refine k _ _ r0 r1 ⟨s, n + 1, cs, by rw [List.getElem?_set_ne (by decide)]; exact f1, List.getElem?_set_self (by omega), s0, s1, by omega, by omega⟩ (ff.trans (.set (by decide)))
    · simp only [eV0, eVs, bind_ok', then_ok, q_e2, q_e1, q_eC, q_aC, q_aN, q_sPar2, q_sPar3, q_sSet, q_sRet, q_eBf, q_nBf, q_eCall, q_tst, q_tru, q_ifV, q_sIf, q_eTup, q_sPass, q_sExp, q_eLm, q_nLst, q_frz, q_thaw, q_iSeq, q_iR2, q_iR3, q_iEnumD, q_iZip, q_andX, q_andT, q_orT, q_notT, q_eCh, q_sPat, q_eSl, q_nSl, q_pS, q_pN, q_sRetN, q_tYes, q_eDct0, okL0, okL1, okL2, okL3, okL4, okL5, okL6, ent, List.map_cons, List.map_nil, List.length_cons, List.length_nil, List.set_cons_zero, List.set_cons_succ, List.replicate, List.cons_append, List.nil_append, Nat.reduceAdd, Nat.reduceSub, Nat.sub_self, Nat.sub_zero, zero_add', ↓reduceIte, Bool.false_eq_true, item0, item1, addD_ii, subD_ii, negD_i, absD_i, ltD_ii, leD_ii, gtD_ii, geD_ii, truD_bl, decide_true, decide_false, wp_ok, wp_bad, wp_bind, wp_nox, wp_def, wps_then, wps_seq, wps_nx, wps_ret, wp_ite, wps_ite, sPass, decide_eq_false e]
      exact k _ _ r0 r1 ⟨s, n + 1, _ :: cs, f1, f0, s0, s1, by omega, by omega⟩ ff
end Pl

/-! Plain laws, 4: loops, comprehensions, small equations. -/
namespace Pl
open Dl Sh

theorem okG_nil {h : Hs} : okG [] h = true := rfl
/-- a for: I by the turn -/
theorem wps_loop {p : Pat} {body : SM} {gs : List (Nat × List D)} {N : Env → Hs → Prop} {T : D → Hs → Prop} (I : Nat → Env → Hs → Prop) : ∀ (xs : List D) (i : Nat) (ρ : Env) (h : Hs),
    (∀ j x ρ h, xs[j]? = some x → I (i + j) ρ h → okG gs h = true ∧ ∃ ρ1, patD p x ρ = some ρ1 ∧ WpS (body ρ1 h) (fun ρ' h' => I (i + j + 1) ρ' h') T) →
    (∀ ρ h, I (i + xs.length) ρ h → okG gs h = true ∧ N ρ h) → I i ρ h → WpS (loopF p body gs xs ρ h) N T
  | [], i, ρ, h, _, fin, st => by
    obtain ⟨g, n⟩ := fin ρ h st
    unfold loopF
    rw [if_pos g]
    exact n
  | x :: xs, i, ρ, h, step, fin, st => by
    obtain ⟨g, ρ1, e, b⟩ := step 0 x ρ h rfl st
    unfold loopF
    rw [if_pos g, e]
    have ih := fun ρ' h' => wps_loop I xs (i + 1) ρ' h' (fun j x ρ h hx hI => by
      have z := step (j + 1) x ρ h (by simpa using hx) (by rw [show i + (j + 1) = i + 1 + j by omega]; exact hI)
      rw [show i + (j + 1) + 1 = i + 1 + j + 1 by omega] at z
      exact z) (fun ρ h hI => fin ρ h (by rw [List.length_cons, show i + (xs.length + 1) = i + 1 + xs.length by omega]; exact hI)) 
    cases q : body ρ1 h with
    | nx ρ2 h2 =>
      rw [q] at b
      simp only [q]
      exact ih ρ2 h2 b
    | ret d h2 => rw [q] at b; simp only [q]; exact b
    | bk ρ2 h2 => rw [q] at b; exact b.elim
    | ct ρ2 h2 => rw [q] at b; exact b.elim
    | exc ρ2 C fs h2 => rw [q] at b; exact b.elim
    | bad => rw [q] at b; exact b.elim
theorem wps_for {ci : Env → M ItD} {p : Pat} {body : SM} {ρ : Env} {h : Hs} {N : Env → Hs → Prop} {T : D → Hs → Prop} : WpS (sFor ci p body ρ h) N T = Wp (ci ρ h) fun it h1 => WpS (loopF p body it.gs it.items ρ h1) N T := by
  unfold sFor
  rw [wps_then]
/-- a comprehension without effects -/
theorem lcF_pure {p : Pat} {ce : Env → M D} {gs : List (Nat × List D)} {ρ : Env} {h : Hs} {f : D → D} (g : okG gs h = true) : ∀ {xs : List D}, (∀ x ∈ xs, ∃ ρ1, patD p x ρ = some ρ1 ∧ ce ρ1 h = .ok (f x) h) → lcF p tYes' ce gs ρ xs h = .ok (xs.map f) h
  | [], _ => by
    unfold lcF
    rw [if_pos g]
    rfl
  | x :: xs, k => by
    obtain ⟨ρ1, e, c⟩ := k x List.mem_cons_self
    unfold lcF
    rw [if_pos g, e]
    show ((ce ρ1 h).nox.bind fun d h2 => (lcF p tYes' ce gs ρ xs h2).bind fun ds h3 => .ok (d :: ds) h3) = _
    rw [c]
    show ((lcF p tYes' ce gs ρ xs h).bind fun ds h3 => .ok (f x :: ds) h3) = _
    rw [lcF_pure g fun y hy => k y (List.mem_cons_of_mem _ hy)]
    rfl
/-- with a test -/
theorem lcF_test {p : Pat} {ct : Env → M Bool} {ce : Env → M D} {gs : List (Nat × List D)} {ρ : Env} {h : Hs} {t : D → Bool} {f : D → D} (g : okG gs h = true) : ∀ {xs : List D}, (∀ x ∈ xs, ∃ ρ1, patD p x ρ = some ρ1 ∧ ct ρ1 h = .ok (t x) h ∧ (t x = true → ce ρ1 h = .ok (f x) h)) → lcF p ct ce gs ρ xs h = .ok ((xs.filter t).map f) h
  | [], _ => by
    unfold lcF
    rw [if_pos g]
    rfl
  | x :: xs, k => by
    obtain ⟨ρ1, e, c1, c2⟩ := k x List.mem_cons_self
    unfold lcF
    rw [if_pos g, e]
    show ((ct ρ1 h).nox.bind fun b h1 => if b = true then (ce ρ1 h1).nox.bind fun d h2 => (lcF p ct ce gs ρ xs h2).bind fun ds h3 => .ok (d :: ds) h3 else lcF p ct ce gs ρ xs h1) = _
    rw [c1]
    show (if t x = true then (ce ρ1 h).nox.bind fun d h2 => (lcF p ct ce gs ρ xs h2).bind fun ds h3 => .ok (d :: ds) h3 else lcF p ct ce gs ρ xs h) = _
    have ih := lcF_test (ct := ct) (ce := ce) (p := p) (ρ := ρ) g (xs := xs) fun y hy => k y (List.mem_cons_of_mem _ hy)
    by_cases z : t x = true
    · rw [if_pos z, c2 z, List.filter_cons_of_pos z]
      show ((lcF p ct ce gs ρ xs h).bind fun ds h3 => .ok (f x :: ds) h3) = _
      rw [ih]
      rfl
    · rw [if_neg z, List.filter_cons_of_neg z]
      exact ih
/-- with effects: I by the turn, P of each item made -/
theorem wp_lc {p : Pat} {ce : Env → M D} {gs : List (Nat × List D)} {ρ : Env} (I : Nat → Hs → Prop) (P : D → Prop) : ∀ (xs : List D) (i : Nat) (h : Hs) {Q : List D → Hs → Prop},
    (∀ j x h, xs[j]? = some x → I (i + j) h → okG gs h = true ∧ ∃ ρ1, patD p x ρ = some ρ1 ∧ Wp (ce ρ1 h) fun d h' => P d ∧ I (i + j + 1) h') →
    (∀ h, I (i + xs.length) h → okG gs h = true) → I i h → (∀ ds h', ds.length = xs.length → (∀ d ∈ ds, P d) → I (i + xs.length) h' → Q ds h') → Wp (lcF p tYes' ce gs ρ xs h) Q
  | [], i, h, Q, _, fin, st, k => by
    unfold lcF
    rw [if_pos (fin h st)]
    exact k [] h rfl (by simp) st
  | x :: xs, i, h, Q, step, fin, st, k => by
    obtain ⟨g, ρ1, e, b⟩ := step 0 x h rfl st
    unfold lcF
    rw [if_pos g, e]
    show Wp ((ce ρ1 h).nox.bind fun d h2 => (lcF p tYes' ce gs ρ xs h2).bind fun ds h3 => .ok (d :: ds) h3) Q
    rw [wp_bind, wp_nox]
    refine wp_mono b fun d h2 ⟨pd, i2⟩ => ?_
    rw [wp_bind]
    refine wp_lc I P xs (i + 1) h2 (fun j x h hx hI => ?_) (fun h hI => fin h (by rw [List.length_cons, show i + (xs.length + 1) = i + 1 + xs.length by omega]; exact hI)) i2 fun ds h3 hl hp hI => ?_
    · have z := step (j + 1) x h (by simpa using hx) (by rw [show i + (j + 1) = i + 1 + j by omega]; exact hI)
      rw [show i + (j + 1) + 1 = i + 1 + j + 1 by omega] at z
      exact z
    · rw [wp_ok]
      refine k _ _ (by rw [List.length_cons, List.length_cons, hl]) (fun d' hd => ?_) (by rw [List.length_cons, show i + (xs.length + 1) = i + 1 + xs.length by omega]; exact hI)
      rcases List.mem_cons.mp hd with z | z
      · rw [z]; exact pd
      · exact hp d' z
theorem nLc_eq {ci : Env → M ItD} {p : Pat} {own : List Nat} {ct : Env → M Bool} {ce : Env → M D} {ρ : Env} {h : Hs} : nLc ci p own ct ce ρ h = (ci ρ h).bind fun it h1 => if okLen it.items.length then lcF p ct ce it.gs (wipeD ρ own) it.items h1 else .bad := nr rfl
theorem okLen_of {n : Nat} (h : n ≤ 16777216) : okLen n = true := decide_eq_true h
theorem okI_of {i : Int} (h : -4611686018427387904 ≤ i) (h2 : i < 4611686018427387904) : okI i = true := decide_eq_true ⟨h, h2⟩
/-! ### small equations -/
theorem lenD_tup {xs : List D} {h : Hs} : lenD [.tup xs] h = .ok (.int xs.length) h := nr rfl
theorem lenD_lst {xs : List D} {h : Hs} : lenD [.lst xs] h = .ok (.int xs.length) h := nr rfl
theorem lenD_scr {xs : List Int} {h : Hs} : lenD [.scr xs] h = .ok (.int xs.length) h := nr rfl
theorem tupD_lst {xs : List D} {h : Hs} : tupD [.lst xs] h = .ok (.tup xs) h := nr rfl
theorem tupD_obj {n : Nat} {xs : List D} {h : Hs} (e : h[n]? = some (.lst xs)) : tupD [.obj n] h = .ok (.tup xs) h := by
  show (match items h (.obj n) with
    | some ys => Dl.R.ok (D.tup ys) h
    | none => .bad) = _
  rw [items_obj e]
theorem item_lst {xs : List D} {i : Nat} {d : D} {h : Hs} (e : xs[i]? = some d) : itemD (.lst xs) (.int i) h = .ok d h := by
  have hl := (List.getElem?_eq_some_iff.mp e).1
  have z : L2.atI xs i = some d := by
    unfold L2.atI L2.ixN
    rw [if_pos (by omega), if_pos (by omega)]
    exact e
  show (match L2.atI xs i with
      | some d => Dl.R.ok d h
      | none => .bad) = _
  rw [z]
theorem app_obj {h : Hs} {n : Nat} {xs : List D} {y : D} (e : h[n]? = some (.lst xs)) (hl : xs.length < 16777216) : appD (.obj n) [y] h = .ok .non (h.set n (.lst (xs ++ [y]))) := by
  unfold appD
  have l : lstAt h (.obj n) = some (n, xs) := by
    show (match h[n]? with
    | some (.lst xs) => some (n, xs)
    | _ => none) = _
    rw [e]
  rw [l]
  exact if_pos (decide_eq_true hl)
theorem lstAt_obj {h : Hs} {n : Nat} {xs : List D} (e : h[n]? = some (.lst xs)) : lstAt h (.obj n) = some (n, xs) := by
  show (match h[n]? with
    | some (.lst xs) => some (n, xs)
    | _ => none) = _
  rw [e]
theorem itOf_tup {xs : List D} {h : Hs} : itOf h (.tup xs) = some ⟨xs, []⟩ := nr rfl
theorem itOf_lst {xs : List D} {h : Hs} : itOf h (.lst xs) = some ⟨xs, []⟩ := nr rfl
theorem itOf_scr {xs : List Int} {h : Hs} : itOf h (.scr xs) = some ⟨xs.map D.int, []⟩ := nr rfl
theorem addD_tt {xs ys : List D} {h : Hs} (l : xs.length + ys.length ≤ 16777216) : addD (.tup xs) (.tup ys) h = .ok (.tup (xs ++ ys)) h := if_pos (okLen_of l)
theorem addD_ll {xs ys : List D} {h : Hs} (l : xs.length + ys.length ≤ 16777216) : addD (.lst xs) (.lst ys) h = .ok (.lst (xs ++ ys)) h := if_pos (okLen_of l)
theorem mulD_l {x : D} {k : Nat} {h : Hs} (l : k ≤ 1000000) : mulD (.lst [x]) (.int k) h = .ok (.lst (List.replicate k x)) h := by
  have e : (List.replicate k [x]).flatten = List.replicate k x := by
    induction k with
    | zero => rfl
    | succ k ih => rw [List.replicate_succ, List.flatten_cons, ih (by omega), List.replicate_succ]; rfl
  show (if okRep [x].length k = true then Dl.R.ok (D.lst (List.replicate ((k : Int)).toNat [x]).flatten) h else .bad) = _
  rw [if_pos (show okRep [x].length k = true from decide_eq_true ⟨by omega, by omega, by simp; omega⟩), Int.toNat_natCast, e]
theorem rng_succ {n : Nat} {a c : Int} : rng a c (n + 1) = .int a :: rng (a + c) c n := rfl
/-! ### any of some things -/
theorem any_spec {h : Hs} {N : Nat} {xs : List D} {Q : D → Hs → Prop} (t : Tp h N) (hx : xs ≠ []) (hl : xs.length ≤ 1000) (hN : N < 1000000) (k : ∀ d h', d ∈ xs → Tp h' (N + 1) → Ge h h' → Q d h') : Wp (m__law_any [.obj 1, .lst xs] h) Q := by
  have hp : 0 < xs.length := List.length_pos_iff.mpr hx
  unfold m__law_any c__law_any
  simp only [eV0, eVs, bind_ok', then_ok, q_e2, q_e1, q_eC, q_aC, q_aN, q_sPar2, q_sPar3, q_sSet, q_sRet, q_eBf, q_nBf, q_eCall, q_tst, q_tru, q_ifV, q_sIf, q_eTup, q_sPass, q_sExp, q_eLm, q_nLst, q_frz, q_thaw, q_iSeq, q_iR2, q_iR3, q_iEnumD, q_iZip, q_andX, q_andT, q_orT, q_notT, q_eCh, q_sPat, q_eSl, q_nSl, q_pS, q_pN, q_sRetN, q_tYes, q_eDct0, okL0, okL1, okL2, okL3, okL4, okL5, okL6, ent, List.map_cons, List.map_nil, List.length_cons, List.length_nil, List.set_cons_zero, List.set_cons_succ, List.replicate, List.cons_append, List.nil_append, Nat.reduceAdd, Nat.reduceSub, Nat.sub_self, Nat.sub_zero, zero_add', ↓reduceIte, Bool.false_eq_true, item0, item1, addD_ii, subD_ii, negD_i, absD_i, ltD_ii, leD_ii, gtD_ii, geD_ii, truD_bl, decide_true, decide_false, wp_ok, wp_bad, wp_bind, wp_nox, wp_def, wps_then, wps_seq, wps_nx, wps_ret, wp_ite, wps_ite, lenD_lst]
  refine draw_spec t (sides := xs.length) (by omega) (by omega) hN fun d h' d0 d1 t' g => ?_
  obtain ⟨i, rfl⟩ : ∃ i : Nat, d = i := ⟨d.toNat, by omega⟩
  have hi : i < xs.length := by omega
  rw [item_lst (List.getElem?_eq_getElem hi), wp_ok]
  exact k _ _ (List.getElem_mem hi) t' g
end Pl

/-! Plain laws, 5: shares, trials. -/
namespace Pl
open Dl Sh

theorem comp_eq {ci : Env → M ItD} {p : Pat} {own : List Nat} {ce : Env → M D} {ρ : Env} {h : Hs} {xs : List D} {f : D → D} (e : ci ρ h = .ok ⟨xs, []⟩ h) (l : xs.length ≤ 16777216) (k : ∀ x ∈ xs, ∃ ρ1, patD p x (wipeD ρ own) = some ρ1 ∧ ce ρ1 h = .ok (f x) h) :
    nLc ci p own tYes' ce ρ h = .ok (xs.map f) h := by
  rw [nLc_eq, e]
  show (if okLen xs.length = true then _ else _) = _
  rw [if_pos (okLen_of l)]
  exact lcF_pure rfl k
theorem allBl_map {α : Type} (t : α → Bool) : ∀ xs : List α, allBl (xs.map fun x => D.bl (t x)) = some (xs.map t)
  | [] => rfl
  | x :: xs => by
    show (allBl (xs.map fun x => D.bl (t x))).map (t x :: ·) = _
    rw [allBl_map t xs]
    rfl
theorem allInt_map : ∀ xs : List Int, allInt (xs.map D.int) = some xs
  | [] => rfl
  | x :: xs => by
    show (allInt (xs.map D.int)).map (x :: ·) = _
    rw [allInt_map xs]
    rfl
theorem allD_map {α : Type} (t : α → Bool) (xs : List α) (h : Hs) : allD [.lst (xs.map fun x => D.bl (t x))] h = .ok (.bl (xs.all t)) h := by
  show (match (some (xs.map fun x => D.bl (t x))).bind allBl with
    | some bs => Dl.R.ok (D.bl (bs.all id)) h
    | none => .bad) = _
  rw [Option.bind_some, allBl_map]
  show Dl.R.ok (D.bl ((xs.map t).all id)) h = _
  rw [List.all_map]
  rfl
theorem sumD_ints (xs : List Int) (h : Hs) : sumD [.lst (xs.map D.int)] h = .ok (.int xs.sum) h := by
  show (match (some (xs.map D.int)).bind allInt with
    | some ns => Dl.R.ok (D.int ns.sum) h
    | none => .bad) = _
  rw [Option.bind_some, allInt_map]
theorem isi_int {i : Int} {h : Hs} : isiD [] [.int i, .ty "int"] h = .ok (.bl true) h := nr rfl
theorem isi_bool {i : Int} {h : Hs} : isiD [] [.int i, .ty "bool"] h = .ok (.bl false) h := nr rfl
theorem isi_tup {xs : List D} {h : Hs} : isiD [] [.tup xs, .ty "tuple"] h = .ok (.bl true) h := nr rfl
theorem notX_b {b : Bool} {h : Hs} : notX (.bl b) h = .ok (.bl (!b)) h := nr rfl
theorem isint_eq {i : Int} {h : Hs} : m_is_integer [.int i] h = .ok (.bl true) h := by
  refine mdef_ret (h' := h) ?_
  unfold c_is_integer
  simp only [eV0, eVs, bind_ok', then_ok, q_e2, q_e1, q_eC, q_aC, q_aN, q_sPar2, q_sPar3, q_sSet, q_sRet, q_eBf, q_nBf, q_eCall, q_tst, q_tru, q_ifV, q_sIf, q_eTup, q_sPass, q_sExp, q_eLm, q_nLst, q_frz, q_thaw, q_iSeq, q_iR2, q_iR3, q_iEnumD, q_iZip, q_andX, q_andT, q_orT, q_notT, q_eCh, q_sPat, q_eSl, q_nSl, q_pS, q_pN, q_sRetN, q_tYes, q_eDct0, okL0, okL1, okL2, okL3, okL4, okL5, okL6, ent, List.map_cons, List.map_nil, List.length_cons, List.length_nil, List.set_cons_zero, List.set_cons_succ, List.replicate, List.cons_append, List.nil_append, Nat.reduceAdd, Nat.reduceSub, Nat.sub_self, Nat.sub_zero, zero_add', ↓reduceIte, Bool.false_eq_true, item0, item1, addD_ii, subD_ii, negD_i, absD_i, ltD_ii, leD_ii, gtD_ii, geD_ii, truD_bl, decide_true, decide_false, isi_int, isi_bool, notX_b, Bool.not_false]
theorem istup_eq {xs : List D} {lo hi : Int} {h : Hs} (h1 : lo ≤ xs.length) (h2 : (xs.length : Int) ≤ hi) : m_is_tuple [.tup xs, .int lo, .int hi] h = .ok (.bl true) h := by
  refine mdef_ret (h' := h) ?_
  unfold c_is_tuple
  simp only [eV0, eVs, bind_ok', then_ok, q_e2, q_e1, q_eC, q_aC, q_aN, q_sPar2, q_sPar3, q_sSet, q_sRet, q_eBf, q_nBf, q_eCall, q_tst, q_tru, q_ifV, q_sIf, q_eTup, q_sPass, q_sExp, q_eLm, q_nLst, q_frz, q_thaw, q_iSeq, q_iR2, q_iR3, q_iEnumD, q_iZip, q_andX, q_andT, q_orT, q_notT, q_eCh, q_sPat, q_eSl, q_nSl, q_pS, q_pN, q_sRetN, q_tYes, q_eDct0, okL0, okL1, okL2, okL3, okL4, okL5, okL6, ent, List.map_cons, List.map_nil, List.length_cons, List.length_nil, List.set_cons_zero, List.set_cons_succ, List.replicate, List.cons_append, List.nil_append, Nat.reduceAdd, Nat.reduceSub, Nat.sub_self, Nat.sub_zero, zero_add', ↓reduceIte, Bool.false_eq_true, item0, item1, addD_ii, subD_ii, negD_i, absD_i, ltD_ii, leD_ii, gtD_ii, geD_ii, truD_bl, decide_true, decide_false, isi_tup, lenD_tup, decide_eq_true h1, decide_eq_true h2]
theorem iswithin_eq {i lo hi : Int} {h : Hs} (h1 : lo ≤ i) (h2 : i ≤ hi) : m_is_within [.int i, .int lo, .int hi] h = .ok (.bl true) h := by
  refine mdef_ret (h' := h) ?_
  unfold c_is_within
  simp only [eV0, eVs, bind_ok', then_ok, q_e2, q_e1, q_eC, q_aC, q_aN, q_sPar2, q_sPar3, q_sSet, q_sRet, q_eBf, q_nBf, q_eCall, q_tst, q_tru, q_ifV, q_sIf, q_eTup, q_sPass, q_sExp, q_eLm, q_nLst, q_frz, q_thaw, q_iSeq, q_iR2, q_iR3, q_iEnumD, q_iZip, q_andX, q_andT, q_orT, q_notT, q_eCh, q_sPat, q_eSl, q_nSl, q_pS, q_pN, q_sRetN, q_tYes, q_eDct0, okL0, okL1, okL2, okL3, okL4, okL5, okL6, ent, List.map_cons, List.map_nil, List.length_cons, List.length_nil, List.set_cons_zero, List.set_cons_succ, List.replicate, List.cons_append, List.nil_append, Nat.reduceAdd, Nat.reduceSub, Nat.sub_self, Nat.sub_zero, zero_add', ↓reduceIte, Bool.false_eq_true, item0, item1, addD_ii, subD_ii, negD_i, absD_i, ltD_ii, leD_ii, gtD_ii, geD_ii, truD_bl, decide_true, decide_false, isint_eq, decide_eq_true h1, decide_eq_true h2]
theorem seq_tup {ce : Env → M D} {ρ : Env} {h : Hs} {xs : List D} (e : ce ρ h = .ok (.tup xs) h) : iSeq ce ρ h = .ok ⟨xs, []⟩ h := by
  rw [q_iSeq, e]
  rfl
theorem seq_lst {ce : Env → M D} {ρ : Env} {h : Hs} {xs : List D} (e : ce ρ h = .ok (.lst xs) h) : iSeq ce ρ h = .ok ⟨xs, []⟩ h := by
  rw [q_iSeq, e]
  rfl
theorem isfrac_eq {q : Rat} {h : Hs} : m_is_fraction [fr q] h = .ok (.bl true) h := by
  refine mdef_ret (h' := h) ?_
  unfold c_is_fraction
  have c := comp_eq (ci := iSeq (eV 0)) (p := .nm 1) (own := [1]) (ce := eCall 1 m_is_integer (aC (eV 1) aN)) (ρ := [some (fr q), none]) (h := h) (xs := [.int q.num, .int q.den]) (f := fun _ => .bl true)
    (seq_tup eV0) (by simp) fun x hx => ⟨[some (fr q), some x], rfl, by
      obtain ⟨i, rfl⟩ : ∃ i, x = .int i := by
        rcases List.mem_cons.mp hx with e | hx
        · exact ⟨_, e⟩
        · exact ⟨_, List.mem_singleton.mp hx⟩
      simp only [eV0, eVs, bind_ok', then_ok, q_e2, q_e1, q_eC, q_aC, q_aN, q_sPar2, q_sPar3, q_sSet, q_sRet, q_eBf, q_nBf, q_eCall, q_tst, q_tru, q_ifV, q_sIf, q_eTup, q_sPass, q_sExp, q_eLm, q_nLst, q_frz, q_thaw, q_iSeq, q_iR2, q_iR3, q_iEnumD, q_iZip, q_andX, q_andT, q_orT, q_notT, q_eCh, q_sPat, q_eSl, q_nSl, q_pS, q_pN, q_sRetN, q_tYes, q_eDct0, okL0, okL1, okL2, okL3, okL4, okL5, okL6, ent, List.map_cons, List.map_nil, List.length_cons, List.length_nil, List.set_cons_zero, List.set_cons_succ, List.replicate, List.cons_append, List.nil_append, Nat.reduceAdd, Nat.reduceSub, Nat.sub_self, Nat.sub_zero, zero_add', ↓reduceIte, Bool.false_eq_true, item0, item1, addD_ii, subD_ii, negD_i, absD_i, ltD_ii, leD_ii, gtD_ii, geD_ii, truD_bl, decide_true, decide_false, isint_eq]⟩
  have a : allD [.lst [.bl true, .bl true]] h = .ok (.bl true) h := nr rfl
  have d0 : ¬ ((q.den : Int) < 1) := by have := den_pos q; omega
  have t2 : m_is_tuple [fr q, .int 2, .int 2] h = .ok (.bl true) h := istup_eq (by simp) (by simp)
  have g1 : ((Int.gcd q.num q.den : Nat) : Int) = 1 := by
    have z := q.reduced
    have e : Int.gcd q.num q.den = q.num.natAbs.gcd q.den := rfl
    rw [e, z]
    rfl
  simp only [eV0, eVs, bind_ok', then_ok, q_e2, q_e1, q_eC, q_aC, q_aN, q_sPar2, q_sPar3, q_sSet, q_sRet, q_eBf, q_nBf, q_eCall, q_tst, q_tru, q_ifV, q_sIf, q_eTup, q_sPass, q_sExp, q_eLm, q_nLst, q_frz, q_thaw, q_iSeq, q_iR2, q_iR3, q_iEnumD, q_iZip, q_andX, q_andT, q_orT, q_notT, q_eCh, q_sPat, q_eSl, q_nSl, q_pS, q_pN, q_sRetN, q_tYes, q_eDct0, okL0, okL1, okL2, okL3, okL4, okL5, okL6, ent, List.map_cons, List.map_nil, List.length_cons, List.length_nil, List.set_cons_zero, List.set_cons_succ, List.replicate, List.cons_append, List.nil_append, Nat.reduceAdd, Nat.reduceSub, Nat.sub_self, Nat.sub_zero, zero_add', ↓reduceIte, Bool.false_eq_true, item0, item1, addD_ii, subD_ii, negD_i, absD_i, ltD_ii, leD_ii, gtD_ii, geD_ii, truD_bl, decide_true, decide_false, t2, c, a, fr_num, fr_den, decide_eq_false d0, Bool.not_true, wps_ite, sPass, common_eq, g1, eqD_ii, List.all_cons, List.all_nil, Bool.and_true, sSeq]
theorem isshare_eq {q : Rat} {h : Hs} (h0 : 0 ≤ q) (h1 : q ≤ 1) : m_is_share [fr q] h = .ok (.bl true) h := by
  have n0 : (0 : Int) ≤ q.num := Rat.num_nonneg.mpr h0
  have n1 : q.num ≤ q.den := by
    have z := (Rat.le_iff q 1).mp h1
    simpa using z
  refine mdef_ret (h' := h) ?_
  unfold c_is_share
  simp only [eV0, eVs, bind_ok', then_ok, q_e2, q_e1, q_eC, q_aC, q_aN, q_sPar2, q_sPar3, q_sSet, q_sRet, q_eBf, q_nBf, q_eCall, q_tst, q_tru, q_ifV, q_sIf, q_eTup, q_sPass, q_sExp, q_eLm, q_nLst, q_frz, q_thaw, q_iSeq, q_iR2, q_iR3, q_iEnumD, q_iZip, q_andX, q_andT, q_orT, q_notT, q_eCh, q_sPat, q_eSl, q_nSl, q_pS, q_pN, q_sRetN, q_tYes, q_eDct0, okL0, okL1, okL2, okL3, okL4, okL5, okL6, ent, List.map_cons, List.map_nil, List.length_cons, List.length_nil, List.set_cons_zero, List.set_cons_succ, List.replicate, List.cons_append, List.nil_append, Nat.reduceAdd, Nat.reduceSub, Nat.sub_self, Nat.sub_zero, zero_add', ↓reduceIte, Bool.false_eq_true, item0, item1, addD_ii, subD_ii, negD_i, absD_i, ltD_ii, leD_ii, gtD_ii, geD_ii, truD_bl, decide_true, decide_false, isfrac_eq, fr_num, fr_den, decide_eq_true n0, decide_eq_true n1]
theorem low_eq (n d : Int) (h : Hs) (hd : 0 < d) (hs : d.natAbs < 2 ^ 9000) : m__law_low [.int n, .int d] h = .ok (fr (Rat.divInt n d)) h := by
  have g1 : (0 : Int) < (Int.gcd n d : Int) := by
    have := Int.gcd_pos_of_ne_zero_right n (show d ≠ 0 by omega)
    omega
  have g2 : Int.gcd n d ≤ d.natAbs := Nat.le_of_dvd (by omega) (Int.gcd_dvd_natAbs_right n d)
  have g3 : ((Int.gcd n d : Int)).natAbs < 2 ^ 9000 := by rw [Int.natAbs_natCast]; exact Nat.lt_of_le_of_lt g2 hs
  have k3 : (Rat.divInt n d).num = n / (Int.gcd n d : Int) := by rw [Rat.num_divInt, Int.sign_eq_one_of_pos hd, Int.one_mul, Int.gcd_comm]
  have k4 : ((Rat.divInt n d).den : Int) = d / (Int.gcd n d : Int) := by
    rw [Rat.den_divInt, if_neg (by omega), Int.gcd_comm]
    have e : (d.natAbs : Int) = d := by omega
    rw [Int.natCast_ediv, e]
  refine mdef_ret (h' := h) ?_
  have w := gcd_while (ct := tst (e2 gtD (eV 3) (eC (.int 0)))) (body := sPar2 2 3 (aC (eV 3) (aC (e2 modD (eBf intD (aC (eV 2) aN)) (eV 3)) aN))) (mk := fun a b => [some (.int n), some (.int d), some (.int a), some (.int b)]) (fun a b h => rfl) (fun a b h _ hb => ?_) h
    (d.natAbs + 2) n.natAbs d (by omega) (by omega) (by omega)
  · unfold c__law_low
    rw [seq_nx (ρ1 := [some (.int n), some (.int d), some (.int n.natAbs), some (.int d)]) (h1 := h), seq_nx (ρ1 := [some (.int n), some (.int d), some (.int (Int.gcd n d)), some (.int 0)]) (h1 := h)]
    · simp only [eV0, eVs, bind_ok', then_ok, q_e2, q_e1, q_eC, q_aC, q_aN, q_sPar2, q_sPar3, q_sSet, q_sRet, q_eBf, q_nBf, q_eCall, q_tst, q_tru, q_ifV, q_sIf, q_eTup, q_sPass, q_sExp, q_eLm, q_nLst, q_frz, q_thaw, q_iSeq, q_iR2, q_iR3, q_iEnumD, q_iZip, q_andX, q_andT, q_orT, q_notT, q_eCh, q_sPat, q_eSl, q_nSl, q_pS, q_pN, q_sRetN, q_tYes, q_eDct0, okL0, okL1, okL2, okL3, okL4, okL5, okL6, ent, List.map_cons, List.map_nil, List.length_cons, List.length_nil, List.set_cons_zero, List.set_cons_succ, List.replicate, List.cons_append, List.nil_append, Nat.reduceAdd, Nat.reduceSub, Nat.sub_self, Nat.sub_zero, zero_add', ↓reduceIte, Bool.false_eq_true, item0, item1, addD_ii, subD_ii, negD_i, absD_i, ltD_ii, leD_ii, gtD_ii, geD_ii, truD_bl, decide_true, decide_false, divD_ii (okDiv_of (i := n) g1 g3), divD_ii (okDiv_of (i := d) g1 g3)]
      unfold fr
      rw [k3, k4]
    · rw [show Int.gcd n d = Int.gcd (n.natAbs : Int) d by simp [Int.gcd]]
      exact w
    · simp only [eV0, eVs, bind_ok', then_ok, q_e2, q_e1, q_eC, q_aC, q_aN, q_sPar2, q_sPar3, q_sSet, q_sRet, q_eBf, q_nBf, q_eCall, q_tst, q_tru, q_ifV, q_sIf, q_eTup, q_sPass, q_sExp, q_eLm, q_nLst, q_frz, q_thaw, q_iSeq, q_iR2, q_iR3, q_iEnumD, q_iZip, q_andX, q_andT, q_orT, q_notT, q_eCh, q_sPat, q_eSl, q_nSl, q_pS, q_pN, q_sRetN, q_tYes, q_eDct0, okL0, okL1, okL2, okL3, okL4, okL5, okL6, ent, List.map_cons, List.map_nil, List.length_cons, List.length_nil, List.set_cons_zero, List.set_cons_succ, List.replicate, List.cons_append, List.nil_append, Nat.reduceAdd, Nat.reduceSub, Nat.sub_self, Nat.sub_zero, zero_add', ↓reduceIte, Bool.false_eq_true, item0, item1, addD_ii, subD_ii, negD_i, absD_i, ltD_ii, leD_ii, gtD_ii, geD_ii, truD_bl, decide_true, decide_false]
  · simp only [eV0, eVs, bind_ok', then_ok, q_e2, q_e1, q_eC, q_aC, q_aN, q_sPar2, q_sPar3, q_sSet, q_sRet, q_eBf, q_nBf, q_eCall, q_tst, q_tru, q_ifV, q_sIf, q_eTup, q_sPass, q_sExp, q_eLm, q_nLst, q_frz, q_thaw, q_iSeq, q_iR2, q_iR3, q_iEnumD, q_iZip, q_andX, q_andT, q_orT, q_notT, q_eCh, q_sPat, q_eSl, q_nSl, q_pS, q_pN, q_sRetN, q_tYes, q_eDct0, okL0, okL1, okL2, okL3, okL4, okL5, okL6, ent, List.map_cons, List.map_nil, List.length_cons, List.length_nil, List.set_cons_zero, List.set_cons_succ, List.replicate, List.cons_append, List.nil_append, Nat.reduceAdd, Nat.reduceSub, Nat.sub_self, Nat.sub_zero, zero_add', ↓reduceIte, Bool.false_eq_true, item0, item1, addD_ii, subD_ii, negD_i, absD_i, ltD_ii, leD_ii, gtD_ii, geD_ii, truD_bl, decide_true, decide_false, intD_i, modD_ii hb]
theorem lplus_eq {p q : Rat} {a b : Nat} (hp : Sz a p) (hq : Sz b q) (hab : a + b ≤ 8000) (h : Hs) : m__law_plus [fr p, fr q] h = .ok (fr (p + q)) h := by
  have d0 : (0 : Int) < (p.den : Int) * (q.den : Int) := by
    have := Nat.mul_pos (den_pos p) (den_pos q)
    have e : ((p.den * q.den : Nat) : Int) = (p.den : Int) * (q.den : Int) := Int.natCast_mul ..
    omega
  refine mdef_ret (h' := h) ?_
  unfold c__law_plus
  simp only [eV0, eVs, bind_ok', then_ok, q_e2, q_e1, q_eC, q_aC, q_aN, q_sPar2, q_sPar3, q_sSet, q_sRet, q_eBf, q_nBf, q_eCall, q_tst, q_tru, q_ifV, q_sIf, q_eTup, q_sPass, q_sExp, q_eLm, q_nLst, q_frz, q_thaw, q_iSeq, q_iR2, q_iR3, q_iEnumD, q_iZip, q_andX, q_andT, q_orT, q_notT, q_eCh, q_sPat, q_eSl, q_nSl, q_pS, q_pN, q_sRetN, q_tYes, q_eDct0, okL0, okL1, okL2, okL3, okL4, okL5, okL6, ent, List.map_cons, List.map_nil, List.length_cons, List.length_nil, List.set_cons_zero, List.set_cons_succ, List.replicate, List.cons_append, List.nil_append, Nat.reduceAdd, Nat.reduceSub, Nat.sub_self, Nat.sub_zero, zero_add', ↓reduceIte, Bool.false_eq_true, item0, item1, addD_ii, subD_ii, negD_i, absD_i, ltD_ii, leD_ii, gtD_ii, geD_ii, truD_bl, decide_true, decide_false, fr_num, fr_den, mulD_ii (ok_nd hp hq hab), mulD_ii (ok_dn hp hq hab), mulD_ii (ok_dd hp hq hab), low_eq _ _ h d0 (lt9000 hp hq hab (mul_dd hp hq))]
  rw [Rat.add_def', ← Int.natCast_mul, Rat.divInt_ofNat]
/-! ### odds -/
def od (q : Rat) : Option Rat := if q = 1 then none else some (q / (1 - q))
def fo : Option Rat → D
  | none => .non
  | some q => fr q
theorem odds_eq {q : Rat} {a : Nat} (hq : Sz a q) (ha : a ≤ 2000) (h : Hs) : m_odds_of [fr q] h = .ok (fo (od q)) h := by
  refine mdef_ret (h' := h) ?_
  unfold c_odds_of
  have e1 : (.tup [.int 1, .int 1] : D) = fr 1 := fr1.symm
  rw [e1]
  have m := minus_eq sz1 hq (by omega) h
  have s := Sz.sub sz1 hq
  simp only [eV0, eVs, bind_ok', then_ok, q_e2, q_e1, q_eC, q_aC, q_aN, q_sPar2, q_sPar3, q_sSet, q_sRet, q_eBf, q_nBf, q_eCall, q_tst, q_tru, q_ifV, q_sIf, q_eTup, q_sPass, q_sExp, q_eLm, q_nLst, q_frz, q_thaw, q_iSeq, q_iR2, q_iR3, q_iEnumD, q_iZip, q_andX, q_andT, q_orT, q_notT, q_eCh, q_sPat, q_eSl, q_nSl, q_pS, q_pN, q_sRetN, q_tYes, q_eDct0, okL0, okL1, okL2, okL3, okL4, okL5, okL6, ent, List.map_cons, List.map_nil, List.length_cons, List.length_nil, List.set_cons_zero, List.set_cons_succ, List.replicate, List.cons_append, List.nil_append, Nat.reduceAdd, Nat.reduceSub, Nat.sub_self, Nat.sub_zero, zero_add', ↓reduceIte, Bool.false_eq_true, item0, item1, addD_ii, subD_ii, negD_i, absD_i, ltD_ii, leD_ii, gtD_ii, geD_ii, truD_bl, decide_true, decide_false, eqD_fz ((fz_fr q).mono (by decide)) ((fz_fr 1).mono (by decide)), fr_inj]
  by_cases z : q = 1
  · simp only [decide_eq_true z, eV0, eVs, bind_ok', then_ok, q_e2, q_e1, q_eC, q_aC, q_aN, q_sPar2, q_sPar3, q_sSet, q_sRet, q_eBf, q_nBf, q_eCall, q_tst, q_tru, q_ifV, q_sIf, q_eTup, q_sPass, q_sExp, q_eLm, q_nLst, q_frz, q_thaw, q_iSeq, q_iR2, q_iR3, q_iEnumD, q_iZip, q_andX, q_andT, q_orT, q_notT, q_eCh, q_sPat, q_eSl, q_nSl, q_pS, q_pN, q_sRetN, q_tYes, q_eDct0, okL0, okL1, okL2, okL3, okL4, okL5, okL6, ent, List.map_cons, List.map_nil, List.length_cons, List.length_nil, List.set_cons_zero, List.set_cons_succ, List.replicate, List.cons_append, List.nil_append, Nat.reduceAdd, Nat.reduceSub, Nat.sub_self, Nat.sub_zero, zero_add', ↓reduceIte, Bool.false_eq_true, item0, item1, addD_ii, subD_ii, negD_i, absD_i, ltD_ii, leD_ii, gtD_ii, geD_ii, truD_bl, decide_true, decide_false]
    unfold od
    rw [if_pos z]
    rfl
  · have n0 : 1 - q ≠ 0 := by grind
    simp only [decide_eq_false z, eV0, eVs, bind_ok', then_ok, q_e2, q_e1, q_eC, q_aC, q_aN, q_sPar2, q_sPar3, q_sSet, q_sRet, q_eBf, q_nBf, q_eCall, q_tst, q_tru, q_ifV, q_sIf, q_eTup, q_sPass, q_sExp, q_eLm, q_nLst, q_frz, q_thaw, q_iSeq, q_iR2, q_iR3, q_iEnumD, q_iZip, q_andX, q_andT, q_orT, q_notT, q_eCh, q_sPat, q_eSl, q_nSl, q_pS, q_pN, q_sRetN, q_tYes, q_eDct0, okL0, okL1, okL2, okL3, okL4, okL5, okL6, ent, List.map_cons, List.map_nil, List.length_cons, List.length_nil, List.set_cons_zero, List.set_cons_succ, List.replicate, List.cons_append, List.nil_append, Nat.reduceAdd, Nat.reduceSub, Nat.sub_self, Nat.sub_zero, zero_add', ↓reduceIte, Bool.false_eq_true, item0, item1, addD_ii, subD_ii, negD_i, absD_i, ltD_ii, leD_ii, gtD_ii, geD_ii, truD_bl, decide_true, decide_false, m, quot_eq hq s (by omega) h n0]
    unfold od
    rw [if_neg z]
    rfl
theorem Sz.od {q r : Rat} {a : Nat} (hq : Sz a q) (e : od q = some r) : Sz (2 * a + 2) r := by
  unfold Pl.od at e
  split at e
  · cases e
  · cases e
    exact (hq.div (sz1.sub hq)).mono (by omega)
theorem lodds_eq {q : Rat} {a : Nat} (hq : Sz a q) (ha : a ≤ 2000) (h0 : 0 ≤ q) (h1 : q ≤ 1) (h : Hs) : m__law_odds [fr q] h = .ok (fo (od q)) h := by
  refine mdef_ret (h' := h) ?_
  unfold c__law_odds
  simp only [eV0, eVs, bind_ok', then_ok, q_e2, q_e1, q_eC, q_aC, q_aN, q_sPar2, q_sPar3, q_sSet, q_sRet, q_eBf, q_nBf, q_eCall, q_tst, q_tru, q_ifV, q_sIf, q_eTup, q_sPass, q_sExp, q_eLm, q_nLst, q_frz, q_thaw, q_iSeq, q_iR2, q_iR3, q_iEnumD, q_iZip, q_andX, q_andT, q_orT, q_notT, q_eCh, q_sPat, q_eSl, q_nSl, q_pS, q_pN, q_sRetN, q_tYes, q_eDct0, okL0, okL1, okL2, okL3, okL4, okL5, okL6, ent, List.map_cons, List.map_nil, List.length_cons, List.length_nil, List.set_cons_zero, List.set_cons_succ, List.replicate, List.cons_append, List.nil_append, Nat.reduceAdd, Nat.reduceSub, Nat.sub_self, Nat.sub_zero, zero_add', ↓reduceIte, Bool.false_eq_true, item0, item1, addD_ii, subD_ii, negD_i, absD_i, ltD_ii, leD_ii, gtD_ii, geD_ii, truD_bl, decide_true, decide_false, fr_num, fr_den, eqD_ii]
  have n1 : q.num ≤ q.den := by
    have z := (Rat.le_iff q 1).mp h1
    simpa using z
  have n0 : (0 : Int) ≤ q.num := Rat.num_nonneg.mpr h0
  have e1 : q.num = q.den ↔ q = 1 := by
    rw [Rat.eq_iff_mul_eq_mul (q := 1)]
    simp
  by_cases z : q = 1
  · simp only [decide_eq_true (e1.mpr z), eV0, eVs, bind_ok', then_ok, q_e2, q_e1, q_eC, q_aC, q_aN, q_sPar2, q_sPar3, q_sSet, q_sRet, q_eBf, q_nBf, q_eCall, q_tst, q_tru, q_ifV, q_sIf, q_eTup, q_sPass, q_sExp, q_eLm, q_nLst, q_frz, q_thaw, q_iSeq, q_iR2, q_iR3, q_iEnumD, q_iZip, q_andX, q_andT, q_orT, q_notT, q_eCh, q_sPat, q_eSl, q_nSl, q_pS, q_pN, q_sRetN, q_tYes, q_eDct0, okL0, okL1, okL2, okL3, okL4, okL5, okL6, ent, List.map_cons, List.map_nil, List.length_cons, List.length_nil, List.set_cons_zero, List.set_cons_succ, List.replicate, List.cons_append, List.nil_append, Nat.reduceAdd, Nat.reduceSub, Nat.sub_self, Nat.sub_zero, zero_add', ↓reduceIte, Bool.false_eq_true, item0, item1, addD_ii, subD_ii, negD_i, absD_i, ltD_ii, leD_ii, gtD_ii, geD_ii, truD_bl, decide_true, decide_false]
    unfold od
    rw [if_pos z]
    rfl
  · have z1 : ¬ q.num = q.den := fun y => z (e1.mp y)
    have d0 : (0 : Int) < (q.den : Int) - q.num := by omega
    have dq := hq.2
    simp only [decide_eq_false z1, eV0, eVs, bind_ok', then_ok, q_e2, q_e1, q_eC, q_aC, q_aN, q_sPar2, q_sPar3, q_sSet, q_sRet, q_eBf, q_nBf, q_eCall, q_tst, q_tru, q_ifV, q_sIf, q_eTup, q_sPass, q_sExp, q_eLm, q_nLst, q_frz, q_thaw, q_iSeq, q_iR2, q_iR3, q_iEnumD, q_iZip, q_andX, q_andT, q_orT, q_notT, q_eCh, q_sPat, q_eSl, q_nSl, q_pS, q_pN, q_sRetN, q_tYes, q_eDct0, okL0, okL1, okL2, okL3, okL4, okL5, okL6, ent, List.map_cons, List.map_nil, List.length_cons, List.length_nil, List.set_cons_zero, List.set_cons_succ, List.replicate, List.cons_append, List.nil_append, Nat.reduceAdd, Nat.reduceSub, Nat.sub_self, Nat.sub_zero, zero_add', ↓reduceIte, Bool.false_eq_true, item0, item1, addD_ii, subD_ii, negD_i, absD_i, ltD_ii, leD_ii, gtD_ii, geD_ii, truD_bl, decide_true, decide_false, low_eq _ _ h d0 (Nat.lt_of_le_of_lt (show ((q.den : Int) - q.num).natAbs ≤ q.den by omega) (Nat.lt_of_lt_of_le dq (Nat.pow_le_pow_right (by decide) (by omega))))]
    unfold od
    rw [if_neg z]
    show SR.ret (fr _) h = SR.ret (fr _) h
    congr 2
    have qe : q = Rat.divInt q.num q.den := (Rat.num_divInt_den q).symm
    have dn : (q.den : Int) ≠ 0 := by have := den_pos q; omega
    have e2 : 1 - q = Rat.divInt (q.den - q.num) q.den := by
      conv => lhs; rw [qe]
      rw [Rat.divInt_eq_div, Rat.divInt_eq_div]
      have dn' : ((q.den : Int) : Rat) ≠ 0 := by
        intro y
        exact dn (by simpa using y)
      rw [Rat.intCast_sub]
      grind
    rw [e2]
    conv => rhs; lhs; rw [qe]
    rw [Rat.div_def, Rat.inv_divInt, Rat.divInt_mul_divInt, Int.mul_comm q.num, Rat.divInt_mul_left dn]
end Pl

/-! Plain laws, 6: a Trials object; from which trial on. -/
namespace Pl
open Dl Sh

theorem eq_of_wp {α : Type} {r : Dl.R α} {a : α} {h : Hs} (w : Wp r fun d h' => d = a ∧ h' = h) : r = .ok a h := by
  obtain ⟨d, h', e, rfl, rfl⟩ := wp_ex w
  exact e
theorem fields_at {h : Hs} {n : Nat} {C : PySem.Str} {fs : List (PySem.Str × D)} (e : h[n]? = some (.ins C fs)) : fieldsAt C h (.obj n) = some fs := by
  show (match h[n]? with
    | some (.ins C' fs) => if decide (C' = C) then some fs else none
    | _ => none) = _
  rw [e]
  exact if_pos (decide_eq_true rfl)
theorem wps_fld {C f : PySem.Str} {ce co : Env → M D} {ρ : Env} {h : Hs} {N : Env → Hs → Prop} {T : D → Hs → Prop} {v : D} {n : Nat} {fs : List (PySem.Str × D)} {h1 : Hs} (e1 : ce ρ h = .ok v h1) (e2 : co ρ h1 = .ok (.obj n) h1) (e : h1[n]? = some (.ins C fs)) (hl : fs.length < 1000) (k : N ρ (h1.set n (.ins C (putFD f v fs)))) : WpS (sFldD C f ce co ρ h) N T := by
  rw [q_sFldD, e1, then_ok, e2, then_ok, fields_at e]
  show WpS (if decide (fs.length < 1000) = true then _ else _) N T
  rw [if_pos (decide_eq_true hl)]
  exact k
theorem set_last {α : Type} {l : List α} {x y : α} : (l ++ [x]).set l.length y = l ++ [y] := by
  rw [List.set_append_right _ _ (Nat.le_refl _)]
  simp
theorem get_last {α : Type} {l t : List α} {x : α} : (l ++ x :: t)[l.length]? = some x := by
  rw [List.getElem?_append_right (Nat.le_refl _)]
  simp
/-- chances, each of 0 to 1 -/
def Okc (cs : List Rat) : Prop := 1 ≤ cs.length ∧ cs.length ≤ 12 ∧ ∀ q ∈ cs, 0 ≤ q ∧ q ≤ 1
/-- a Trials object -/
def TrAt (h : Hs) (i : Nat) (cs : List Rat) : Prop := ∃ fs, h[i]? = some (.ins "Trials" fs) ∧ fs.lookup ("chances" : PySem.Str) = some (.tup (cs.map fr)) ∧ fs.lookup ("looked" : PySem.Str) = some (.obj (i + 1)) ∧ fs.length < 10
theorem init_eq {cs : List Rat} {h : Hs} (o : Okc cs) : m_Trials___init__ [.obj h.length, .tup (cs.map fr)] (h ++ [.ins "Trials" []]) = .ok .non (h ++ [.ins "Trials" [("chances", .tup (cs.map fr)), ("looked", .obj (h.length + 1))], .dI []]) := by
  obtain ⟨o1, o2, o3⟩ := o
  generalize hg : (h ++ [DO.ins "Trials" []]) = g
  have c := comp_eq (ci := iSeq (eV 1)) (p := .nm 2) (own := [2]) (ce := eCall 1 m_is_share (aC (eV 2) aN)) (ρ := [some (.obj h.length), some (.tup (cs.map fr)), none]) (h := g) (xs := cs.map fr) (f := fun _ => .bl true)
    (seq_tup (by simp only [eV0, eVs, bind_ok', then_ok, q_e2, q_e1, q_eC, q_aC, q_aN, q_sPar2, q_sPar3, q_sSet, q_sRet, q_eBf, q_nBf, q_eCall, q_tst, q_tru, q_ifV, q_sIf, q_eTup, q_sPass, q_sExp, q_eLm, q_nLst, q_frz, q_thaw, q_iSeq, q_iR2, q_iR3, q_iEnumD, q_iZip, q_andX, q_andT, q_orT, q_notT, q_eCh, q_sPat, q_eSl, q_nSl, q_pS, q_pN, q_sRetN, q_tYes, q_eDct0, okL0, okL1, okL2, okL3, okL4, okL5, okL6, ent, List.map_cons, List.map_nil, List.length_cons, List.length_nil, List.set_cons_zero, List.set_cons_succ, List.replicate, List.cons_append, List.nil_append, Nat.reduceAdd, Nat.reduceSub, Nat.sub_self, Nat.sub_zero, zero_add', ↓reduceIte, Bool.false_eq_true, item0, item1, addD_ii, subD_ii, negD_i, absD_i, ltD_ii, leD_ii, gtD_ii, geD_ii, truD_bl, decide_true, decide_false])) (by rw [List.length_map]; omega) fun x hx => ⟨[some (.obj h.length), some (.tup (cs.map fr)), some x], rfl, by
      obtain ⟨q, hq, rfl⟩ := List.mem_map.mp hx
      simp only [eV0, eVs, bind_ok', then_ok, q_e2, q_e1, q_eC, q_aC, q_aN, q_sPar2, q_sPar3, q_sSet, q_sRet, q_eBf, q_nBf, q_eCall, q_tst, q_tru, q_ifV, q_sIf, q_eTup, q_sPass, q_sExp, q_eLm, q_nLst, q_frz, q_thaw, q_iSeq, q_iR2, q_iR3, q_iEnumD, q_iZip, q_andX, q_andT, q_orT, q_notT, q_eCh, q_sPat, q_eSl, q_nSl, q_pS, q_pN, q_sRetN, q_tYes, q_eDct0, okL0, okL1, okL2, okL3, okL4, okL5, okL6, ent, List.map_cons, List.map_nil, List.length_cons, List.length_nil, List.set_cons_zero, List.set_cons_succ, List.replicate, List.cons_append, List.nil_append, Nat.reduceAdd, Nat.reduceSub, Nat.sub_self, Nat.sub_zero, zero_add', ↓reduceIte, Bool.false_eq_true, item0, item1, addD_ii, subD_ii, negD_i, absD_i, ltD_ii, leD_ii, gtD_ii, geD_ii, truD_bl, decide_true, decide_false, isshare_eq (o3 q hq).1 (o3 q hq).2]⟩
  have a : allD [.lst ((cs.map fr).map fun _ => D.bl true)] g = .ok (.bl true) g := by
    rw [allD_map (fun _ => true) (cs.map fr) g]
    simp
  have t := istup_eq (xs := cs.map fr) (lo := 1) (hi := 12) (h := g) (by rw [List.length_map]; omega) (by rw [List.length_map]; omega)
  have w : Wp (m_Trials___init__ [.obj h.length, .tup (cs.map fr)] g) fun d h' => d = .non ∧ h' = h ++ [.ins "Trials" [("chances", .tup (cs.map fr)), ("looked", .obj (h.length + 1))], .dI []] := by
    unfold m_Trials___init__ c_Trials___init__
    simp only [eV0, eVs, bind_ok', then_ok, q_e2, q_e1, q_eC, q_aC, q_aN, q_sPar2, q_sPar3, q_sSet, q_sRet, q_eBf, q_nBf, q_eCall, q_tst, q_tru, q_ifV, q_sIf, q_eTup, q_sPass, q_sExp, q_eLm, q_nLst, q_frz, q_thaw, q_iSeq, q_iR2, q_iR3, q_iEnumD, q_iZip, q_andX, q_andT, q_orT, q_notT, q_eCh, q_sPat, q_eSl, q_nSl, q_pS, q_pN, q_sRetN, q_tYes, q_eDct0, okL0, okL1, okL2, okL3, okL4, okL5, okL6, ent, List.map_cons, List.map_nil, List.length_cons, List.length_nil, List.set_cons_zero, List.set_cons_succ, List.replicate, List.cons_append, List.nil_append, Nat.reduceAdd, Nat.reduceSub, Nat.sub_self, Nat.sub_zero, zero_add', ↓reduceIte, Bool.false_eq_true, item0, item1, addD_ii, subD_ii, negD_i, absD_i, ltD_ii, leD_ii, gtD_ii, geD_ii, truD_bl, decide_true, decide_false, wp_ok, wp_bad, wp_bind, wp_nox, wp_def, wps_then, wps_seq, wps_nx, wps_ret, wp_ite, wps_ite, t, c, a, Bool.not_true, sPass]
    refine wps_fld (v := .tup (cs.map fr)) (n := h.length) (fs := []) (h1 := g) (by simp only [eV0, eVs, bind_ok', then_ok, q_e2, q_e1, q_eC, q_aC, q_aN, q_sPar2, q_sPar3, q_sSet, q_sRet, q_eBf, q_nBf, q_eCall, q_tst, q_tru, q_ifV, q_sIf, q_eTup, q_sPass, q_sExp, q_eLm, q_nLst, q_frz, q_thaw, q_iSeq, q_iR2, q_iR3, q_iEnumD, q_iZip, q_andX, q_andT, q_orT, q_notT, q_eCh, q_sPat, q_eSl, q_nSl, q_pS, q_pN, q_sRetN, q_tYes, q_eDct0, okL0, okL1, okL2, okL3, okL4, okL5, okL6, ent, List.map_cons, List.map_nil, List.length_cons, List.length_nil, List.set_cons_zero, List.set_cons_succ, List.replicate, List.cons_append, List.nil_append, Nat.reduceAdd, Nat.reduceSub, Nat.sub_self, Nat.sub_zero, zero_add', ↓reduceIte, Bool.false_eq_true, item0, item1, addD_ii, subD_ii, negD_i, absD_i, ltD_ii, leD_ii, gtD_ii, geD_ii, truD_bl, decide_true, decide_false]) (by simp only [eV0, eVs, bind_ok', then_ok, q_e2, q_e1, q_eC, q_aC, q_aN, q_sPar2, q_sPar3, q_sSet, q_sRet, q_eBf, q_nBf, q_eCall, q_tst, q_tru, q_ifV, q_sIf, q_eTup, q_sPass, q_sExp, q_eLm, q_nLst, q_frz, q_thaw, q_iSeq, q_iR2, q_iR3, q_iEnumD, q_iZip, q_andX, q_andT, q_orT, q_notT, q_eCh, q_sPat, q_eSl, q_nSl, q_pS, q_pN, q_sRetN, q_tYes, q_eDct0, okL0, okL1, okL2, okL3, okL4, okL5, okL6, ent, List.map_cons, List.map_nil, List.length_cons, List.length_nil, List.set_cons_zero, List.set_cons_succ, List.replicate, List.cons_append, List.nil_append, Nat.reduceAdd, Nat.reduceSub, Nat.sub_self, Nat.sub_zero, zero_add', ↓reduceIte, Bool.false_eq_true, item0, item1, addD_ii, subD_ii, negD_i, absD_i, ltD_ii, leD_ii, gtD_ii, geD_ii, truD_bl, decide_true, decide_false]) (by rw [← hg]; exact get_last) (by decide) ?_
    rw [← hg, set_last]
    refine wps_fld (v := .obj (h.length + 1)) (n := h.length) (fs := [("chances", .tup (cs.map fr))]) (h1 := (h ++ [.ins "Trials" (putFD "chances" (.tup (cs.map fr)) [])]) ++ [.dI []]) (by simp only [eV0, eVs, bind_ok', then_ok, q_e2, q_e1, q_eC, q_aC, q_aN, q_sPar2, q_sPar3, q_sSet, q_sRet, q_eBf, q_nBf, q_eCall, q_tst, q_tru, q_ifV, q_sIf, q_eTup, q_sPass, q_sExp, q_eLm, q_nLst, q_frz, q_thaw, q_iSeq, q_iR2, q_iR3, q_iEnumD, q_iZip, q_andX, q_andT, q_orT, q_notT, q_eCh, q_sPat, q_eSl, q_nSl, q_pS, q_pN, q_sRetN, q_tYes, q_eDct0, okL0, okL1, okL2, okL3, okL4, okL5, okL6, ent, List.map_cons, List.map_nil, List.length_cons, List.length_nil, List.set_cons_zero, List.set_cons_succ, List.replicate, List.cons_append, List.nil_append, Nat.reduceAdd, Nat.reduceSub, Nat.sub_self, Nat.sub_zero, zero_add', ↓reduceIte, Bool.false_eq_true, item0, item1, addD_ii, subD_ii, negD_i, absD_i, ltD_ii, leD_ii, gtD_ii, geD_ii, truD_bl, decide_true, decide_false, List.length_append]) (by simp only [eV0, eVs, bind_ok', then_ok, q_e2, q_e1, q_eC, q_aC, q_aN, q_sPar2, q_sPar3, q_sSet, q_sRet, q_eBf, q_nBf, q_eCall, q_tst, q_tru, q_ifV, q_sIf, q_eTup, q_sPass, q_sExp, q_eLm, q_nLst, q_frz, q_thaw, q_iSeq, q_iR2, q_iR3, q_iEnumD, q_iZip, q_andX, q_andT, q_orT, q_notT, q_eCh, q_sPat, q_eSl, q_nSl, q_pS, q_pN, q_sRetN, q_tYes, q_eDct0, okL0, okL1, okL2, okL3, okL4, okL5, okL6, ent, List.map_cons, List.map_nil, List.length_cons, List.length_nil, List.set_cons_zero, List.set_cons_succ, List.replicate, List.cons_append, List.nil_append, Nat.reduceAdd, Nat.reduceSub, Nat.sub_self, Nat.sub_zero, zero_add', ↓reduceIte, Bool.false_eq_true, item0, item1, addD_ii, subD_ii, negD_i, absD_i, ltD_ii, leD_ii, gtD_ii, geD_ii, truD_bl, decide_true, decide_false]) (by rw [List.append_assoc]; exact get_last) (by simp) ?_
    refine ⟨trivial, ?_⟩
    rw [List.append_assoc, List.set_append_right _ _ (Nat.le_refl _)]
    simp
    rfl
  obtain ⟨d, h', e, rfl, rfl⟩ := wp_ex w
  exact e
/-- Trials(..) -/
theorem make_eq {cs : List Rat} {ca : Env → M (List D)} {ρ : Env} {h h0 : Hs} (o : Okc cs) (e : ca ρ h0 = .ok [.tup (cs.map fr)] h) : eMake "Trials" 2 m_Trials___init__ ca ρ h0 = .ok (.obj h.length) (h ++ [.ins "Trials" [("chances", .tup (cs.map fr)), ("looked", .obj (h.length + 1))], .dI []]) := by
  rw [q_eMake, e, bind_ok']
  show (if decide (1 + 1 = 2) = true then _ else _) = _
  rw [if_pos (show decide (1 + 1 = 2) = true from rfl), init_eq o, bind_ok']
theorem tr_new {cs : List Rat} {h : Hs} : TrAt (h ++ [.ins "Trials" [("chances", .tup (cs.map fr)), ("looked", .obj (h.length + 1))], .dI []]) h.length cs := by
  exact ⟨[("chances", .tup (cs.map fr)), ("looked", .obj (h.length + 1))], get_last, rfl, rfl, by simp⟩
theorem fld_ch {h : Hs} {i : Nat} {cs : List Rat} (t : TrAt h i cs) {ca : Env → M D} {ρ : Env} (e : ca ρ h = .ok (.obj i) h) : eFld "Trials" "chances" ca ρ h = .ok (.tup (cs.map fr)) h := by
  obtain ⟨fs, h1, h2, _⟩ := t
  rw [q_eFld, e, bind_ok', fields_at h1, Option.bind_some, h2]
theorem odds_of_eq {h : Hs} {i : Nat} {cs : List Rat} {k : Nat} {q : Rat} (t : TrAt h i cs) (e : cs[k]? = some q) {a : Nat} (hq : Sz a q) (ha : a ≤ 2000) : m_odds [.obj i, .int k] h = .ok (fo (od q)) h := by
  have hk := (List.getElem?_eq_some_iff.mp e).1
  have f : ∀ ρ : Env, eFld "Trials" "chances" (eV 0) (some (.obj i) :: ρ) h = .ok (.tup (cs.map fr)) h := fun ρ => fld_ch t eV0
  have w := iswithin_eq (i := k) (lo := 0) (hi := (cs.length : Int) - 1) (h := h) (by omega) (by omega)
  have it : itemD (.tup (cs.map fr)) (.int k) h = .ok (fr q) h := item_at (by rw [List.getElem?_map, e]; rfl)
  refine eq_of_wp ?_
  unfold m_odds c_odds
  simp only [eV0, eVs, bind_ok', then_ok, q_e2, q_e1, q_eC, q_aC, q_aN, q_sPar2, q_sPar3, q_sSet, q_sRet, q_eBf, q_nBf, q_eCall, q_tst, q_tru, q_ifV, q_sIf, q_eTup, q_sPass, q_sExp, q_eLm, q_nLst, q_frz, q_thaw, q_iSeq, q_iR2, q_iR3, q_iEnumD, q_iZip, q_andX, q_andT, q_orT, q_notT, q_eCh, q_sPat, q_eSl, q_nSl, q_pS, q_pN, q_sRetN, q_tYes, q_eDct0, okL0, okL1, okL2, okL3, okL4, okL5, okL6, ent, List.map_cons, List.map_nil, List.length_cons, List.length_nil, List.set_cons_zero, List.set_cons_succ, List.replicate, List.cons_append, List.nil_append, Nat.reduceAdd, Nat.reduceSub, Nat.sub_self, Nat.sub_zero, zero_add', ↓reduceIte, Bool.false_eq_true, item0, item1, addD_ii, subD_ii, negD_i, absD_i, ltD_ii, leD_ii, gtD_ii, geD_ii, truD_bl, decide_true, decide_false, wp_ok, wp_bad, wp_bind, wp_nox, wp_def, wps_then, wps_seq, wps_nx, wps_ret, wp_ite, wps_ite, f, w, it, lenD_tup, List.length_map, odds_eq hq ha, Bool.not_true, sPass]
  exact ⟨trivial, trivial⟩
end Pl

/-! Plain laws, 7: the trial from which to take, the program's way and the law's. -/
namespace Pl
open Dl Sh

theorem cutL_from {α : Type} (xs : List α) (m : Nat) : cutL xs (some (m : Int)) none = xs.drop m := by
  unfold cutL
  rw [HT.sIx_nat, HT.sIx_none]
  by_cases h : m ≤ xs.length
  · rw [Nat.min_eq_left h]
    exact List.take_of_length_le (by rw [List.length_drop]; omega)
  · rw [Nat.min_eq_right (by omega), List.drop_of_length_le (Nat.le_refl _), List.drop_of_length_le (by omega)]
    simp
theorem cutL_to {α : Type} (xs : List α) (m : Nat) : cutL xs none (some (m : Int)) = xs.take m := by
  unfold cutL
  rw [HT.sIx_nat, HT.sIx_none, List.drop_zero]
  by_cases h : m ≤ xs.length
  · rw [Nat.min_eq_left h, Nat.sub_zero]
  · rw [Nat.min_eq_right (by omega), Nat.sub_zero, List.take_of_length_le (Nat.le_refl _), List.take_of_length_le (by omega)]
theorem slD_tup_from {xs : List D} {m : Nat} {h : Hs} : sliceD (.tup xs) (some (m : Int)) none h = .ok (.tup (xs.drop m)) h := by
  show Dl.R.ok (D.tup (cutL xs (some (m : Int)) none)) h = _
  rw [cutL_from]
def so : List Rat → Rat
  | [] => 0
  | q :: cs => q / (1 - q) + so cs
def good (cs : List Rat) : Bool := decide ((1 : Rat) ∉ cs ∧ so cs < 1)
def Ff : List Rat → Option Nat
  | [] => none
  | c :: cs => match Ff cs with
    | some k => some (k + 1)
    | none => if good (c :: cs) then none else some 0
/-! ### a sum of fractions -/
theorem sum_loop {a : Nat} {h : Hs} {N : Env → Hs → Prop} {T : D → Hs → Prop} {d0 : D} : ∀ (rs : List Rat) (x : Rat) (b : Nat) (d2 : Option D), (∀ r ∈ rs, Sz a r) → Sz b x → b + rs.length * (a + 1) ≤ 4000 → a ≤ 2000 → (∀ d2, N [some d0, some (fr (rs.foldl (· + ·) x)), d2] h) →
    WpS (loopF (.nm 2) (sSet 1 (eCall 2 m_plus (aC (eV 1) (aC (eV 2) aN)))) [] (rs.map fr) [some d0, some (fr x), d2] h) N T
  | [], x, b, d2, _, _, _, _, k => by
    unfold loopF
    exact k d2
  | r :: rs, x, b, d2, hr, hx, hb, ha, k => by
    rw [List.map_cons]
    unfold loopF
    rw [if_pos okG_nil]
    have hl : b + (rs.length + 1) * (a + 1) ≤ 4000 := hb
    rw [Nat.succ_mul] at hl
    have r1 := hr r List.mem_cons_self
    have e : sSet 1 (eCall 2 m_plus (aC (eV 1) (aC (eV 2) aN))) [some d0, some (fr x), some (fr r)] h = .nx [some d0, some (fr (x + r)), some (fr r)] h := by
      simp only [eV0, eVs, bind_ok', then_ok, q_e2, q_e1, q_eC, q_aC, q_aN, q_sPar2, q_sPar3, q_sSet, q_sRet, q_eBf, q_nBf, q_eCall, q_tst, q_tru, q_ifV, q_sIf, q_eTup, q_sPass, q_sExp, q_eLm, q_nLst, q_frz, q_thaw, q_iSeq, q_iR2, q_iR3, q_iEnumD, q_iZip, q_andX, q_andT, q_orT, q_notT, q_eCh, q_sPat, q_eSl, q_nSl, q_pS, q_pN, q_sRetN, q_tYes, q_eDct0, okL0, okL1, okL2, okL3, okL4, okL5, okL6, ent, List.map_cons, List.map_nil, List.length_cons, List.length_nil, List.set_cons_zero, List.set_cons_succ, List.replicate, List.cons_append, List.nil_append, Nat.reduceAdd, Nat.reduceSub, Nat.sub_self, Nat.sub_zero, zero_add', ↓reduceIte, Bool.false_eq_true, item0, item1, addD_ii, subD_ii, negD_i, absD_i, ltD_ii, leD_ii, gtD_ii, geD_ii, truD_bl, decide_true, decide_false, plus_eq hx r1 (by omega)]
    show WpS (match sSet 1 (eCall 2 m_plus (aC (eV 1) (aC (eV 2) aN))) [some d0, some (fr x), some (fr r)] h with
      | .nx ρ2 h2 => loopF _ _ _ _ ρ2 h2
      | .ct ρ2 h2 => loopF _ _ _ _ ρ2 h2
      | .bk ρ2 h2 => .nx ρ2 h2
      | r => r) N T
    rw [e]
    exact sum_loop rs (x + r) (b + a + 1) _ (fun r hr' => hr r (List.mem_cons_of_mem _ hr')) (Sz.add hx r1) (by omega) ha k
theorem sum_eq {a : Nat} {rs : List Rat} (hr : ∀ r ∈ rs, Sz a r) (hl : 1 + rs.length * (a + 1) ≤ 4000) (ha : a ≤ 2000) (h : Hs) : m_whole_sum [.lst (rs.map fr)] h = .ok (fr (rs.foldl (· + ·) 0)) h := by
  refine eq_of_wp ?_
  unfold m_whole_sum c_whole_sum
  simp only [eV0, eVs, bind_ok', then_ok, q_e2, q_e1, q_eC, q_aC, q_aN, q_sPar2, q_sPar3, q_sSet, q_sRet, q_eBf, q_nBf, q_eCall, q_tst, q_tru, q_ifV, q_sIf, q_eTup, q_sPass, q_sExp, q_eLm, q_nLst, q_frz, q_thaw, q_iSeq, q_iR2, q_iR3, q_iEnumD, q_iZip, q_andX, q_andT, q_orT, q_notT, q_eCh, q_sPat, q_eSl, q_nSl, q_pS, q_pN, q_sRetN, q_tYes, q_eDct0, okL0, okL1, okL2, okL3, okL4, okL5, okL6, ent, List.map_cons, List.map_nil, List.length_cons, List.length_nil, List.set_cons_zero, List.set_cons_succ, List.replicate, List.cons_append, List.nil_append, Nat.reduceAdd, Nat.reduceSub, Nat.sub_self, Nat.sub_zero, zero_add', ↓reduceIte, Bool.false_eq_true, item0, item1, addD_ii, subD_ii, negD_i, absD_i, ltD_ii, leD_ii, gtD_ii, geD_ii, truD_bl, decide_true, decide_false, wp_ok, wp_bad, wp_bind, wp_nox, wp_def, wps_then, wps_seq, wps_nx, wps_ret, wp_ite, wps_ite, wps_for, itOf_lst, okG_nil, ← fr0]
  exact sum_loop rs 0 1 none hr sz0 hl ha fun d2 => by simp only [eV0, eVs, bind_ok', then_ok, q_e2, q_e1, q_eC, q_aC, q_aN, q_sPar2, q_sPar3, q_sSet, q_sRet, q_eBf, q_nBf, q_eCall, q_tst, q_tru, q_ifV, q_sIf, q_eTup, q_sPass, q_sExp, q_eLm, q_nLst, q_frz, q_thaw, q_iSeq, q_iR2, q_iR3, q_iEnumD, q_iZip, q_andX, q_andT, q_orT, q_notT, q_eCh, q_sPat, q_eSl, q_nSl, q_pS, q_pN, q_sRetN, q_tYes, q_eDct0, okL0, okL1, okL2, okL3, okL4, okL5, okL6, ent, List.map_cons, List.map_nil, List.length_cons, List.length_nil, List.set_cons_zero, List.set_cons_succ, List.replicate, List.cons_append, List.nil_append, Nat.reduceAdd, Nat.reduceSub, Nat.sub_self, Nat.sub_zero, zero_add', ↓reduceIte, Bool.false_eq_true, item0, item1, addD_ii, subD_ii, negD_i, absD_i, ltD_ii, leD_ii, gtD_ii, geD_ii, truD_bl, decide_true, decide_false, wp_ok, wp_bad, wp_bind, wp_nox, wp_def, wps_then, wps_seq, wps_nx, wps_ret, wp_ite, wps_ite]; exact ⟨trivial, trivial⟩
theorem foldl_so : ∀ (cs : List Rat) (x : Rat), (cs.map fun q => q / (1 - q)).foldl (· + ·) x = x + so cs
  | [], x => by
    show x = x + 0
    grind
  | q :: cs, x => by
    show (cs.map fun q => q / (1 - q)).foldl (· + ·) (x + q / (1 - q)) = x + (q / (1 - q) + so cs)
    rw [foldl_so cs]
    grind
theorem fz_fo (o : Option Rat) : Fz 8 (fo o) := by
  cases o with
  | none => exact .non
  | some q => exact (fz_fr q).mono (by decide)
/-- the program's test at one trial -/
theorem test_eq {cs : List Rat} {a : Nat} (hs : ∀ q ∈ cs, Sz a q) (hl : 1 + cs.length * (2 * a + 3) ≤ 4000) (ha : a ≤ 900) {ρ : Env} {h : Hs} {x y z : Option D} :
    orT (tst (e2 inD (eC .non) (eV 2))) (notT (tru (eCall 2 m_is_less (aC (eCall 1 m_whole_sum (aC (eV 2) aN)) (aC (eC (.tup [.int 1, .int 1])) aN))))) [x, y, some (.lst (cs.map fun q => fo (od q))), z] h = .ok (!good cs) h := by
  have i := (inD_fz (x := .non) (ys := cs.map fun q => fo (od q)) (h := h) .non fun d hd => by
    obtain ⟨q, _, rfl⟩ := List.mem_map.mp hd
    exact fz_fo _).2
  simp only [eV0, eVs, bind_ok', then_ok, q_e2, q_e1, q_eC, q_aC, q_aN, q_sPar2, q_sPar3, q_sSet, q_sRet, q_eBf, q_nBf, q_eCall, q_tst, q_tru, q_ifV, q_sIf, q_eTup, q_sPass, q_sExp, q_eLm, q_nLst, q_frz, q_thaw, q_iSeq, q_iR2, q_iR3, q_iEnumD, q_iZip, q_andX, q_andT, q_orT, q_notT, q_eCh, q_sPat, q_eSl, q_nSl, q_pS, q_pN, q_sRetN, q_tYes, q_eDct0, okL0, okL1, okL2, okL3, okL4, okL5, okL6, ent, List.map_cons, List.map_nil, List.length_cons, List.length_nil, List.set_cons_zero, List.set_cons_succ, List.replicate, List.cons_append, List.nil_append, Nat.reduceAdd, Nat.reduceSub, Nat.sub_self, Nat.sub_zero, zero_add', ↓reduceIte, Bool.false_eq_true, item0, item1, addD_ii, subD_ii, negD_i, absD_i, ltD_ii, leD_ii, gtD_ii, geD_ii, truD_bl, decide_true, decide_false, i]
  by_cases one : (1 : Rat) ∈ cs
  · have m : (D.non) ∈ cs.map fun q => fo (od q) := List.mem_map.mpr ⟨1, one, rfl⟩
    have g : good cs = false := decide_eq_false fun z => z.1 one
    simp only [decide_eq_true m, eV0, eVs, bind_ok', then_ok, q_e2, q_e1, q_eC, q_aC, q_aN, q_sPar2, q_sPar3, q_sSet, q_sRet, q_eBf, q_nBf, q_eCall, q_tst, q_tru, q_ifV, q_sIf, q_eTup, q_sPass, q_sExp, q_eLm, q_nLst, q_frz, q_thaw, q_iSeq, q_iR2, q_iR3, q_iEnumD, q_iZip, q_andX, q_andT, q_orT, q_notT, q_eCh, q_sPat, q_eSl, q_nSl, q_pS, q_pN, q_sRetN, q_tYes, q_eDct0, okL0, okL1, okL2, okL3, okL4, okL5, okL6, ent, List.map_cons, List.map_nil, List.length_cons, List.length_nil, List.set_cons_zero, List.set_cons_succ, List.replicate, List.cons_append, List.nil_append, Nat.reduceAdd, Nat.reduceSub, Nat.sub_self, Nat.sub_zero, zero_add', ↓reduceIte, Bool.false_eq_true, item0, item1, addD_ii, subD_ii, negD_i, absD_i, ltD_ii, leD_ii, gtD_ii, geD_ii, truD_bl, decide_true, decide_false, g, Bool.not_false]
  · have m : ¬ (D.non) ∈ cs.map fun q => fo (od q) := fun z => by
      obtain ⟨q, hq, e⟩ := List.mem_map.mp z
      unfold od at e
      split at e
      · rename_i q1
        rw [q1] at hq
        exact one hq
      · cases e
    have e : (cs.map fun q => fo (od q)) = (cs.map fun q => q / (1 - q)).map fr := by
      rw [List.map_map]
      refine List.map_congr_left fun q hq => ?_
      have n1 : ¬ q = 1 := fun y => one (y ▸ hq)
      show fo (od q) = fr (q / (1 - q))
      unfold od
      rw [if_neg n1]
      rfl
    have sz : ∀ r ∈ (cs.map fun q => q / (1 - q)), Sz (2 * a + 2) r := fun r hr => by
      obtain ⟨q, hq, rfl⟩ := List.mem_map.mp hr
      have n1 : ¬ q = 1 := fun y => one (y ▸ hq)
      exact (hs q hq).od (by unfold od; rw [if_neg n1])
    have s := sum_eq sz (by rw [List.length_map]; exact hl) (by omega) h
    rw [← e, foldl_so] at s
    have s0 : (0 : Rat) + so cs = so cs := by grind
    rw [s0] at s
    have big : Sz 4000 (so cs) := by
      have f : ∀ (rs : List Rat) (x : Rat) (b : Nat), (∀ r ∈ rs, Sz (2 * a + 2) r) → Sz b x → Sz (b + rs.length * (2 * a + 3)) (rs.foldl (· + ·) x) := by
        intro rs
        induction rs with
        | nil => intro x b _ hx; simpa using hx
        | cons r rs ih =>
          intro x b hr hx
          have z := ih (x + r) (b + (2 * a + 2) + 1) (fun r hr' => hr r (List.mem_cons_of_mem _ hr')) (Sz.add hx (hr r List.mem_cons_self))
          refine z.mono ?_
          rw [List.length_cons, Nat.add_mul, Nat.one_mul]
          omega
      have z := f _ 0 1 sz sz0
      rw [foldl_so, s0, List.length_map] at z
      exact z.mono hl
    have l := less_eq big sz1 (by omega) h
    rw [fr1] at l
    simp only [decide_eq_false m, eV0, eVs, bind_ok', then_ok, q_e2, q_e1, q_eC, q_aC, q_aN, q_sPar2, q_sPar3, q_sSet, q_sRet, q_eBf, q_nBf, q_eCall, q_tst, q_tru, q_ifV, q_sIf, q_eTup, q_sPass, q_sExp, q_eLm, q_nLst, q_frz, q_thaw, q_iSeq, q_iR2, q_iR3, q_iEnumD, q_iZip, q_andX, q_andT, q_orT, q_notT, q_eCh, q_sPat, q_eSl, q_nSl, q_pS, q_pN, q_sRetN, q_tYes, q_eDct0, okL0, okL1, okL2, okL3, okL4, okL5, okL6, ent, List.map_cons, List.map_nil, List.length_cons, List.length_nil, List.set_cons_zero, List.set_cons_succ, List.replicate, List.cons_append, List.nil_append, Nat.reduceAdd, Nat.reduceSub, Nat.sub_self, Nat.sub_zero, zero_add', ↓reduceIte, Bool.false_eq_true, item0, item1, addD_ii, subD_ii, negD_i, absD_i, ltD_ii, leD_ii, gtD_ii, geD_ii, truD_bl, decide_true, decide_false, s, l]
    unfold good
    by_cases lt : so cs < 1
    · rw [decide_eq_true lt, decide_eq_true ⟨one, lt⟩]
    · rw [decide_eq_false lt, decide_eq_false fun z => lt z.2]
theorem Ff_drop {cs : List Rat} : ∀ (m : Nat), m ≤ cs.length → (∀ j, Ff (cs.drop m) = some j → Ff cs = some (m + j)) := by
  induction cs with
  | nil =>
    intro m hm j e
    rw [show m = 0 by simpa using hm] at e ⊢
    simpa using e
  | cons c cs ih =>
    intro m hm j e
    cases m with
    | zero => simpa using e
    | succ m =>
      have z := ih m (by simpa using hm) j (by simpa using e)
      unfold Ff
      rw [z]
      show some (m + j + 1) = some (m + 1 + j)
      congr 1
      omega
theorem Ff_at {cs : List Rat} {m : Nat} (hm : m < cs.length) (h1 : Ff (cs.drop (m + 1)) = none) : Ff (cs.drop m) = if good (cs.drop m) then none else some 0 := by
  rw [List.drop_eq_getElem_cons hm] at *
  unfold Ff
  rw [h1]
theorem first_loop {cs : List Rat} {a i : Nat} {h : Hs} (t : TrAt h i cs) (hs : ∀ q ∈ cs, Sz a q) (hl : 1 + cs.length * (2 * a + 3) ≤ 4000) (ha : a ≤ 900) : ∀ (m : Nat) (x y z : Option D), m ≤ cs.length → Ff (cs.drop m) = none →
    WpS (loopF (.nm 1) (sSeq (sSet 2 (frz (nLc (iSeq (eSl (eFld "Trials" "chances" (eV 0)) (pS (eV 1)) pN)) (.nm 3) [3] (tYes') (eCall 1 m_odds_of (aC (eV 3) aN))))) (sIf (orT (tst (e2 inD (eC .non) (eV 2))) (notT (tru (eCall 2 m_is_less (aC (eCall 1 m_whole_sum (aC (eV 2) aN)) (aC (eC (.tup [.int 1, .int 1])) aN)))))) (sRet (eV 1)) (sPass))) [] (rng ((m : Int) - 1) (-1) m) [some (.obj i), x, y, z] h)
      (fun _ h' => Ff cs = none ∧ h' = h) (fun d h' => ∃ k, Ff cs = some k ∧ d = .int k ∧ h' = h)
  | 0, x, y, z, _, e => by
    unfold rng loopF
    rw [List.drop_zero] at e
    exact ⟨e, rfl⟩
  | m + 1, x, y, z, hm, e => by
    unfold rng loopF
    rw [if_pos okG_nil]
    have e0 : (((m + 1 : Nat) : Int) - 1) = m := by omega
    rw [e0]
    have hm' : m < cs.length := hm
    have sl : ∀ ρ : Env, eSl (eFld "Trials" "chances" (eV 0)) (pS (eV 1)) pN (some (.obj i) :: some (.int m) :: ρ) h = .ok (.tup ((cs.drop m).map fr)) h := fun ρ => by
      have f : eFld "Trials" "chances" (eV 0) (some (.obj i) :: some (.int m) :: ρ) h = .ok (.tup (cs.map fr)) h := fld_ch t eV0
      simp only [eV0, eVs, bind_ok', then_ok, q_e2, q_e1, q_eC, q_aC, q_aN, q_sPar2, q_sPar3, q_sSet, q_sRet, q_eBf, q_nBf, q_eCall, q_tst, q_tru, q_ifV, q_sIf, q_eTup, q_sPass, q_sExp, q_eLm, q_nLst, q_frz, q_thaw, q_iSeq, q_iR2, q_iR3, q_iEnumD, q_iZip, q_andX, q_andT, q_orT, q_notT, q_eCh, q_sPat, q_eSl, q_nSl, q_pS, q_pN, q_sRetN, q_tYes, q_eDct0, okL0, okL1, okL2, okL3, okL4, okL5, okL6, ent, List.map_cons, List.map_nil, List.length_cons, List.length_nil, List.set_cons_zero, List.set_cons_succ, List.replicate, List.cons_append, List.nil_append, Nat.reduceAdd, Nat.reduceSub, Nat.sub_self, Nat.sub_zero, zero_add', ↓reduceIte, Bool.false_eq_true, item0, item1, addD_ii, subD_ii, negD_i, absD_i, ltD_ii, leD_ii, gtD_ii, geD_ii, truD_bl, decide_true, decide_false, f, slD_tup_from, List.map_drop]
    have c := comp_eq (ci := iSeq (eSl (eFld "Trials" "chances" (eV 0)) (pS (eV 1)) pN)) (p := .nm 3) (own := [3]) (ce := eCall 1 m_odds_of (aC (eV 3) aN)) (ρ := [some (.obj i), some (.int m), y, z]) (h := h) (xs := (cs.drop m).map fr) (f := fun d => match d with
      | .tup [.int n, .int k] => fo (od (Rat.divInt n k))
      | _ => .non) (seq_tup (sl _)) (by rw [List.length_map, List.length_drop]; have : cs.length * 1 ≤ cs.length * (2 * a + 3) := Nat.mul_le_mul_left _ (by omega); omega) fun d hd => ⟨[some (.obj i), some (.int m), y, some d], rfl, by
        obtain ⟨q, hq, rfl⟩ := List.mem_map.mp hd
        have hq' := List.mem_of_mem_drop hq
        simp only [eV0, eVs, bind_ok', then_ok, q_e2, q_e1, q_eC, q_aC, q_aN, q_sPar2, q_sPar3, q_sSet, q_sRet, q_eBf, q_nBf, q_eCall, q_tst, q_tru, q_ifV, q_sIf, q_eTup, q_sPass, q_sExp, q_eLm, q_nLst, q_frz, q_thaw, q_iSeq, q_iR2, q_iR3, q_iEnumD, q_iZip, q_andX, q_andT, q_orT, q_notT, q_eCh, q_sPat, q_eSl, q_nSl, q_pS, q_pN, q_sRetN, q_tYes, q_eDct0, okL0, okL1, okL2, okL3, okL4, okL5, okL6, ent, List.map_cons, List.map_nil, List.length_cons, List.length_nil, List.set_cons_zero, List.set_cons_succ, List.replicate, List.cons_append, List.nil_append, Nat.reduceAdd, Nat.reduceSub, Nat.sub_self, Nat.sub_zero, zero_add', ↓reduceIte, Bool.false_eq_true, item0, item1, addD_ii, subD_ii, negD_i, absD_i, ltD_ii, leD_ii, gtD_ii, geD_ii, truD_bl, decide_true, decide_false, odds_eq (hs q hq') (by omega)]
        show Dl.R.ok (fo (od q)) h = Dl.R.ok (fo (od (Rat.divInt q.num q.den))) h
        rw [Rat.num_divInt_den]⟩
    have mm : ((cs.drop m).map fr).map (fun d => match d with
      | .tup [.int n, .int k] => fo (od (Rat.divInt n k))
      | _ => .non) = (cs.drop m).map fun q => fo (od q) := by
      rw [List.map_map]
      refine List.map_congr_left fun q _ => ?_
      show fo (od (Rat.divInt q.num q.den)) = _
      rw [Rat.num_divInt_den]
    rw [mm] at c
    have tq := test_eq (cs := cs.drop m) (a := a) (fun q hq => hs q (List.mem_of_mem_drop hq)) (by
      have : (cs.drop m).length * (2 * a + 3) ≤ cs.length * (2 * a + 3) := Nat.mul_le_mul_right _ (by rw [List.length_drop]; omega)
      omega) ha (ρ := []) (h := h) (x := some (.obj i)) (y := some (.int m)) (z := z)
    have fa := Ff_at hm' e
    show WpS (match (sSeq _ _) [some (.obj i), some (.int m), y, z] h with
      | .nx ρ2 h2 => loopF _ _ _ _ ρ2 h2
      | .ct ρ2 h2 => loopF _ _ _ _ ρ2 h2
      | .bk ρ2 h2 => .nx ρ2 h2
      | r => r) _ _
    rw [seq_nx (ρ1 := [some (.obj i), some (.int m), some (.lst ((cs.drop m).map fun q => fo (od q))), z]) (h1 := h) (by simp only [eV0, eVs, bind_ok', then_ok, q_e2, q_e1, q_eC, q_aC, q_aN, q_sPar2, q_sPar3, q_sSet, q_sRet, q_eBf, q_nBf, q_eCall, q_tst, q_tru, q_ifV, q_sIf, q_eTup, q_sPass, q_sExp, q_eLm, q_nLst, q_frz, q_thaw, q_iSeq, q_iR2, q_iR3, q_iEnumD, q_iZip, q_andX, q_andT, q_orT, q_notT, q_eCh, q_sPat, q_eSl, q_nSl, q_pS, q_pN, q_sRetN, q_tYes, q_eDct0, okL0, okL1, okL2, okL3, okL4, okL5, okL6, ent, List.map_cons, List.map_nil, List.length_cons, List.length_nil, List.set_cons_zero, List.set_cons_succ, List.replicate, List.cons_append, List.nil_append, Nat.reduceAdd, Nat.reduceSub, Nat.sub_self, Nat.sub_zero, zero_add', ↓reduceIte, Bool.false_eq_true, item0, item1, addD_ii, subD_ii, negD_i, absD_i, ltD_ii, leD_ii, gtD_ii, geD_ii, truD_bl, decide_true, decide_false, c])]
    rw [q_sIf, tq, then_ok]
    by_cases g : good (cs.drop m) = true
    · rw [g, Bool.not_true, if_neg Bool.false_ne_true]
      rw [if_pos g] at fa
      exact first_loop t hs hl ha m _ _ _ (by omega) fa
    · have g' : good (cs.drop m) = false := by simpa using g
      rw [g', Bool.not_false, if_pos rfl]
      rw [if_neg g] at fa
      exact ⟨m, Ff_drop m (by omega) 0 fa, rfl, rfl⟩
def dueD : Option Nat → D
  | none => .int 0
  | some k => .int k
theorem from_eq {cs : List Rat} {a i : Nat} {h : Hs} (t : TrAt h i cs) (hs : ∀ q ∈ cs, Sz a q) (h1 : 1 ≤ cs.length) (hl : 1 + cs.length * (2 * a + 3) ≤ 4000) (ha : a ≤ 900) : m_from_which [.obj i] h = .ok (dueD (Ff cs)) h := by
  refine eq_of_wp ?_
  unfold m_from_which c_from_which
  simp only [eV0, eVs, bind_ok', then_ok, q_e2, q_e1, q_eC, q_aC, q_aN, q_sPar2, q_sPar3, q_sSet, q_sRet, q_eBf, q_nBf, q_eCall, q_tst, q_tru, q_ifV, q_sIf, q_eTup, q_sPass, q_sExp, q_eLm, q_nLst, q_frz, q_thaw, q_iSeq, q_iR2, q_iR3, q_iEnumD, q_iZip, q_andX, q_andT, q_orT, q_notT, q_eCh, q_sPat, q_eSl, q_nSl, q_pS, q_pN, q_sRetN, q_tYes, q_eDct0, okL0, okL1, okL2, okL3, okL4, okL5, okL6, ent, List.map_cons, List.map_nil, List.length_cons, List.length_nil, List.set_cons_zero, List.set_cons_succ, List.replicate, List.cons_append, List.nil_append, Nat.reduceAdd, Nat.reduceSub, Nat.sub_self, Nat.sub_zero, zero_add', ↓reduceIte, Bool.false_eq_true, item0, item1, addD_ii, subD_ii, negD_i, absD_i, ltD_ii, leD_ii, gtD_ii, geD_ii, truD_bl, decide_true, decide_false, wp_ok, wp_bad, wp_bind, wp_nox, wp_def, wps_then, wps_seq, wps_nx, wps_ret, wp_ite, wps_ite]
  unfold m_first_from c_first_from
  have f : ∀ ρ : Env, eFld "Trials" "chances" (eV 0) (some (.obj i) :: ρ) h = .ok (.tup (cs.map fr)) h := fun ρ => fld_ch t eV0
  have ok : (okI ((cs.length : Int) - 1) && okI (-1) && true) = true := by
    have hc : cs.length ≤ 4000 := by
      have : cs.length * 1 ≤ cs.length * (2 * a + 3) := Nat.mul_le_mul_left _ (by omega)
      omega
    rw [okI_of (by omega) (by omega), okI_of (by omega) (by omega)]
    rfl
  have tn : (((cs.length : Int) - 1) - -1).toNat = cs.length := by omega
  simp only [eV0, eVs, bind_ok', then_ok, q_e2, q_e1, q_eC, q_aC, q_aN, q_sPar2, q_sPar3, q_sSet, q_sRet, q_eBf, q_nBf, q_eCall, q_tst, q_tru, q_ifV, q_sIf, q_eTup, q_sPass, q_sExp, q_eLm, q_nLst, q_frz, q_thaw, q_iSeq, q_iR2, q_iR3, q_iEnumD, q_iZip, q_andX, q_andT, q_orT, q_notT, q_eCh, q_sPat, q_eSl, q_nSl, q_pS, q_pN, q_sRetN, q_tYes, q_eDct0, okL0, okL1, okL2, okL3, okL4, okL5, okL6, ent, List.map_cons, List.map_nil, List.length_cons, List.length_nil, List.set_cons_zero, List.set_cons_succ, List.replicate, List.cons_append, List.nil_append, Nat.reduceAdd, Nat.reduceSub, Nat.sub_self, Nat.sub_zero, zero_add', ↓reduceIte, Bool.false_eq_true, item0, item1, addD_ii, subD_ii, negD_i, absD_i, ltD_ii, leD_ii, gtD_ii, geD_ii, truD_bl, decide_true, decide_false, wp_ok, wp_bad, wp_bind, wp_nox, wp_def, wps_then, wps_seq, wps_nx, wps_ret, wp_ite, wps_ite, wps_for, f, lenD_tup, List.length_map, ok, tn]
  refine wps_mono (first_loop t hs hl ha cs.length none none none (Nat.le_refl _) (by rw [List.drop_length]; rfl)) (fun ρ h' ⟨e, eh⟩ => ?_) fun d h' ⟨k, e, ed, eh⟩ => ?_
  · rw [e]
    exact ⟨rfl, eh⟩
  · rw [e]
    exact ⟨ed, eh⟩
end Pl

/-! Plain laws, 8: the law's own way to it; its facts. -/
namespace Pl
open Dl Sh

theorem inv_nn {x : Rat} (h : 0 ≤ x) : 0 ≤ x⁻¹ := by
  by_cases z : x = 0
  · rw [z, Rat.inv_zero]
    exact Rat.le_refl
  · exact Rat.le_of_lt (Rat.inv_pos.mpr (Rat.lt_of_le_of_ne h fun e => z e.symm))
theorem od_nn {q : Rat} (h0 : 0 ≤ q) (h1 : q ≤ 1) : 0 ≤ q / (1 - q) := by
  rw [Rat.div_def]
  exact Rat.mul_nonneg h0 (inv_nn (by grind))
theorem so_nn : ∀ {cs : List Rat}, (∀ q ∈ cs, 0 ≤ q ∧ q ≤ 1) → 0 ≤ so cs
  | [], _ => Rat.le_refl
  | q :: cs, h => by
    have h1 := od_nn (h q List.mem_cons_self).1 (h q List.mem_cons_self).2
    have h2 := so_nn fun x hx => h x (List.mem_cons_of_mem _ hx)
    show 0 ≤ q / (1 - q) + so cs
    grind
theorem Ff_none : ∀ {cs : List Rat}, Ff cs = none → (1 : Rat) ∉ cs ∧ so cs < 1
  | [], _ => ⟨by simp, by decide +kernel⟩
  | c :: cs, e => by
    unfold Ff at e
    split at e
    · cases e
    · split at e
      · rename_i g
        exact of_decide_eq_true g
      · cases e
theorem isD_non {x : D} {h : Hs} : isD x .non h = .ok (.bl (isNone x)) h := nr rfl
theorem ge_one {x : Rat} : ((x.den : Int) ≤ x.num) ↔ 1 ≤ x := by
  rw [Rat.le_iff]
  simp
def optD : Option Nat → D
  | none => .non
  | some k => .int k
theorem lfrom_loop {cs : List Rat} {a : Nat} {h : Hs} (hr : ∀ q ∈ cs, 0 ≤ q ∧ q ≤ 1) (hs : ∀ q ∈ cs, Sz a q) (ha : a ≤ 900) : ∀ (m b : Nat) (y z : Option D), m ≤ cs.length → Ff (cs.drop m) = none → Sz b (so (cs.drop m)) → b + m * (2 * a + 3) ≤ 4000 →
    WpS (loopF (.nm 2) (sSeq (sSet 3 (eCall 1 m__law_odds (aC (e2 itemD (eV 0) (eV 2)) aN))) (sSeq (sSet 1 (eCall 2 m__law_plus (aC (eV 1) (aC (ifV (tst (e2 isD (eV 3) (eC .non))) (eTup (aC (eC (.int 1)) (aC (eC (.int 1)) aN))) (eV 3)) aN)))) (sIf (tst (e2 geD (e2 itemD (eV 1) (eC (.int 0))) (e2 itemD (eV 1) (eC (.int 1))))) (sRet (eV 2)) (sPass)))) [] (rng ((m : Int) - 1) (-1) m) [some (.tup (cs.map fr)), some (fr (so (cs.drop m))), y, z] h)
      (fun _ h' => Ff cs = none ∧ h' = h) (fun d h' => ∃ k, Ff cs = some k ∧ d = .int k ∧ h' = h)
  | 0, b, y, z, _, e, _, _ => by
    unfold rng loopF
    rw [List.drop_zero] at e
    exact ⟨e, rfl⟩
  | m + 1, b, y, z, hm, e, sb, hb => by
    unfold rng loopF
    rw [if_pos okG_nil]
    have e0 : (((m + 1 : Nat) : Int) - 1) = m := by omega
    rw [e0]
    have hm' : m < cs.length := hm
    have fa := Ff_at hm' e
    have dc : cs.drop m = cs[m] :: cs.drop (m + 1) := List.drop_eq_getElem_cons hm'
    have cm : cs[m] ∈ cs := List.getElem_mem hm'
    generalize hc : cs[m] = c at dc cm
    obtain ⟨c0, c1⟩ := hr c cm
    have cz := hs c cm
    have it : itemD (.tup (cs.map fr)) (.int m) h = .ok (fr c) h := item_at (by rw [List.getElem?_map, List.getElem?_eq_getElem hm', hc]; rfl)
    have nn := so_nn (cs := cs.drop (m + 1)) fun q hq => hr q (List.mem_of_mem_drop hq)
    have no := Ff_none e
    rw [Nat.add_mul, Nat.one_mul] at hb
    have xe : so (cs.drop m) = c / (1 - c) + so (cs.drop (m + 1)) := by rw [dc]; rfl
    have lo := lodds_eq cz (by omega) c0 c1 h
    show WpS (match (sSeq _ _) [some (.tup (cs.map fr)), some (fr (so (cs.drop (m + 1)))), some (.int m), z] h with
      | .nx ρ2 h2 => loopF _ _ _ _ ρ2 h2
      | .ct ρ2 h2 => loopF _ _ _ _ ρ2 h2
      | .bk ρ2 h2 => .nx ρ2 h2
      | r => r) _ _
    rw [seq_nx (ρ1 := [some (.tup (cs.map fr)), some (fr (so (cs.drop (m + 1)))), some (.int m), some (fo (od c))]) (h1 := h) (by simp only [eV0, eVs, bind_ok', then_ok, q_e2, q_e1, q_eC, q_aC, q_aN, q_sPar2, q_sPar3, q_sSet, q_sRet, q_eBf, q_nBf, q_eCall, q_tst, q_tru, q_ifV, q_sIf, q_eTup, q_sPass, q_sExp, q_eLm, q_nLst, q_frz, q_thaw, q_iSeq, q_iR2, q_iR3, q_iEnumD, q_iZip, q_andX, q_andT, q_orT, q_notT, q_eCh, q_sPat, q_eSl, q_nSl, q_pS, q_pN, q_sRetN, q_tYes, q_eDct0, okL0, okL1, okL2, okL3, okL4, okL5, okL6, ent, List.map_cons, List.map_nil, List.length_cons, List.length_nil, List.set_cons_zero, List.set_cons_succ, List.replicate, List.cons_append, List.nil_append, Nat.reduceAdd, Nat.reduceSub, Nat.sub_self, Nat.sub_zero, zero_add', ↓reduceIte, Bool.false_eq_true, item0, item1, addD_ii, subD_ii, negD_i, absD_i, ltD_ii, leD_ii, gtD_ii, geD_ii, truD_bl, decide_true, decide_false, it, lo])]
    by_cases one : c = 1
    · have oc : fo (od c) = .non := by unfold od; rw [if_pos one]; rfl
      have g : good (cs.drop m) = false := decide_eq_false fun w => w.1 (by rw [dc, one]; exact List.mem_cons_self)
      rw [g, if_neg Bool.false_ne_true] at fa
      have p := lplus_eq sb sz1 (by omega) h
      have ge : ((so (cs.drop (m + 1)) + 1).den : Int) ≤ (so (cs.drop (m + 1)) + 1).num := ge_one.mpr (by grind)
      rw [oc, seq_nx (ρ1 := [some (.tup (cs.map fr)), some (fr (so (cs.drop (m + 1)) + 1)), some (.int m), some .non]) (h1 := h) (by simp only [eV0, eVs, bind_ok', then_ok, q_e2, q_e1, q_eC, q_aC, q_aN, q_sPar2, q_sPar3, q_sSet, q_sRet, q_eBf, q_nBf, q_eCall, q_tst, q_tru, q_ifV, q_sIf, q_eTup, q_sPass, q_sExp, q_eLm, q_nLst, q_frz, q_thaw, q_iSeq, q_iR2, q_iR3, q_iEnumD, q_iZip, q_andX, q_andT, q_orT, q_notT, q_eCh, q_sPat, q_eSl, q_nSl, q_pS, q_pN, q_sRetN, q_tYes, q_eDct0, okL0, okL1, okL2, okL3, okL4, okL5, okL6, ent, List.map_cons, List.map_nil, List.length_cons, List.length_nil, List.set_cons_zero, List.set_cons_succ, List.replicate, List.cons_append, List.nil_append, Nat.reduceAdd, Nat.reduceSub, Nat.sub_self, Nat.sub_zero, zero_add', ↓reduceIte, Bool.false_eq_true, item0, item1, addD_ii, subD_ii, negD_i, absD_i, ltD_ii, leD_ii, gtD_ii, geD_ii, truD_bl, decide_true, decide_false, isD_non, isNone, ← fr1, p])]
      simp only [eV0, eVs, bind_ok', then_ok, q_e2, q_e1, q_eC, q_aC, q_aN, q_sPar2, q_sPar3, q_sSet, q_sRet, q_eBf, q_nBf, q_eCall, q_tst, q_tru, q_ifV, q_sIf, q_eTup, q_sPass, q_sExp, q_eLm, q_nLst, q_frz, q_thaw, q_iSeq, q_iR2, q_iR3, q_iEnumD, q_iZip, q_andX, q_andT, q_orT, q_notT, q_eCh, q_sPat, q_eSl, q_nSl, q_pS, q_pN, q_sRetN, q_tYes, q_eDct0, okL0, okL1, okL2, okL3, okL4, okL5, okL6, ent, List.map_cons, List.map_nil, List.length_cons, List.length_nil, List.set_cons_zero, List.set_cons_succ, List.replicate, List.cons_append, List.nil_append, Nat.reduceAdd, Nat.reduceSub, Nat.sub_self, Nat.sub_zero, zero_add', ↓reduceIte, Bool.false_eq_true, item0, item1, addD_ii, subD_ii, negD_i, absD_i, ltD_ii, leD_ii, gtD_ii, geD_ii, truD_bl, decide_true, decide_false, fr_num, fr_den, decide_eq_true ge]
      exact ⟨m, Ff_drop m (by omega) 0 fa, rfl, rfl⟩
    · have oc : od c = some (c / (1 - c)) := by unfold od; rw [if_neg one]
      have rz := cz.od oc
      have p := lplus_eq sb rz (by omega) h
      have cx : so (cs.drop (m + 1)) + c / (1 - c) = so (cs.drop m) := by rw [xe]; grind
      rw [cx] at p
      have sn : Sz (b + (2 * a + 2) + 1) (so (cs.drop m)) := by rw [← cx]; exact Sz.add sb rz
      have f1 : fo (od c) = fr (c / (1 - c)) := by rw [oc]; rfl
      rw [f1, seq_nx (ρ1 := [some (.tup (cs.map fr)), some (fr (so (cs.drop m))), some (.int m), some (fr (c / (1 - c)))]) (h1 := h) (by
        have i0 : isNone (fr (c / (1 - c))) = false := rfl
        simp only [eV0, eVs, bind_ok', then_ok, q_e2, q_e1, q_eC, q_aC, q_aN, q_sPar2, q_sPar3, q_sSet, q_sRet, q_eBf, q_nBf, q_eCall, q_tst, q_tru, q_ifV, q_sIf, q_eTup, q_sPass, q_sExp, q_eLm, q_nLst, q_frz, q_thaw, q_iSeq, q_iR2, q_iR3, q_iEnumD, q_iZip, q_andX, q_andT, q_orT, q_notT, q_eCh, q_sPat, q_eSl, q_nSl, q_pS, q_pN, q_sRetN, q_tYes, q_eDct0, okL0, okL1, okL2, okL3, okL4, okL5, okL6, ent, List.map_cons, List.map_nil, List.length_cons, List.length_nil, List.set_cons_zero, List.set_cons_succ, List.replicate, List.cons_append, List.nil_append, Nat.reduceAdd, Nat.reduceSub, Nat.sub_self, Nat.sub_zero, zero_add', ↓reduceIte, Bool.false_eq_true, item0, item1, addD_ii, subD_ii, negD_i, absD_i, ltD_ii, leD_ii, gtD_ii, geD_ii, truD_bl, decide_true, decide_false, isD_non, i0, p])]
      by_cases lt : so (cs.drop m) < 1
      · have g : good (cs.drop m) = true := decide_eq_true ⟨by rw [dc]; intro w; rcases List.mem_cons.mp w with w | w; exact one w.symm; exact no.1 w, lt⟩
        rw [g, if_pos rfl] at fa
        have ge : ¬ (((so (cs.drop m)).den : Int) ≤ (so (cs.drop m)).num) := fun w => by have := ge_one.mp w; grind
        simp only [eV0, eVs, bind_ok', then_ok, q_e2, q_e1, q_eC, q_aC, q_aN, q_sPar2, q_sPar3, q_sSet, q_sRet, q_eBf, q_nBf, q_eCall, q_tst, q_tru, q_ifV, q_sIf, q_eTup, q_sPass, q_sExp, q_eLm, q_nLst, q_frz, q_thaw, q_iSeq, q_iR2, q_iR3, q_iEnumD, q_iZip, q_andX, q_andT, q_orT, q_notT, q_eCh, q_sPat, q_eSl, q_nSl, q_pS, q_pN, q_sRetN, q_tYes, q_eDct0, okL0, okL1, okL2, okL3, okL4, okL5, okL6, ent, List.map_cons, List.map_nil, List.length_cons, List.length_nil, List.set_cons_zero, List.set_cons_succ, List.replicate, List.cons_append, List.nil_append, Nat.reduceAdd, Nat.reduceSub, Nat.sub_self, Nat.sub_zero, zero_add', ↓reduceIte, Bool.false_eq_true, item0, item1, addD_ii, subD_ii, negD_i, absD_i, ltD_ii, leD_ii, gtD_ii, geD_ii, truD_bl, decide_true, decide_false, fr_num, fr_den, decide_eq_false ge, sPass]
        exact lfrom_loop hr hs ha m (b + (2 * a + 2) + 1) _ _ (by omega) fa sn (by omega)
      · have g : good (cs.drop m) = false := decide_eq_false fun w => lt w.2
        rw [g, if_neg Bool.false_ne_true] at fa
        have ge : (((so (cs.drop m)).den : Int) ≤ (so (cs.drop m)).num) := ge_one.mpr (by grind)
        simp only [eV0, eVs, bind_ok', then_ok, q_e2, q_e1, q_eC, q_aC, q_aN, q_sPar2, q_sPar3, q_sSet, q_sRet, q_eBf, q_nBf, q_eCall, q_tst, q_tru, q_ifV, q_sIf, q_eTup, q_sPass, q_sExp, q_eLm, q_nLst, q_frz, q_thaw, q_iSeq, q_iR2, q_iR3, q_iEnumD, q_iZip, q_andX, q_andT, q_orT, q_notT, q_eCh, q_sPat, q_eSl, q_nSl, q_pS, q_pN, q_sRetN, q_tYes, q_eDct0, okL0, okL1, okL2, okL3, okL4, okL5, okL6, ent, List.map_cons, List.map_nil, List.length_cons, List.length_nil, List.set_cons_zero, List.set_cons_succ, List.replicate, List.cons_append, List.nil_append, Nat.reduceAdd, Nat.reduceSub, Nat.sub_self, Nat.sub_zero, zero_add', ↓reduceIte, Bool.false_eq_true, item0, item1, addD_ii, subD_ii, negD_i, absD_i, ltD_ii, leD_ii, gtD_ii, geD_ii, truD_bl, decide_true, decide_false, fr_num, fr_den, decide_eq_true ge]
        exact ⟨m, Ff_drop m (by omega) 0 fa, rfl, rfl⟩
theorem lfrom_eq {cs : List Rat} {a : Nat} {h : Hs} (hr : ∀ q ∈ cs, 0 ≤ q ∧ q ≤ 1) (hs : ∀ q ∈ cs, Sz a q) (hl : 1 + cs.length * (2 * a + 3) ≤ 4000) (ha : a ≤ 900) : m__law_from [.tup (cs.map fr)] h = .ok (optD (Ff cs)) h := by
  refine eq_of_wp ?_
  unfold m__law_from c__law_from
  have hc : cs.length ≤ 4000 := by
    have : cs.length * 1 ≤ cs.length * (2 * a + 3) := Nat.mul_le_mul_left _ (by omega)
    omega
  have ok : (okI ((cs.length : Int) - 1) && okI (-1) && true) = true := by
    rw [okI_of (by omega) (by omega), okI_of (by omega) (by omega)]
    rfl
  have tn : (((cs.length : Int) - 1) - -1).toNat = cs.length := by omega
  simp only [eV0, eVs, bind_ok', then_ok, q_e2, q_e1, q_eC, q_aC, q_aN, q_sPar2, q_sPar3, q_sSet, q_sRet, q_eBf, q_nBf, q_eCall, q_tst, q_tru, q_ifV, q_sIf, q_eTup, q_sPass, q_sExp, q_eLm, q_nLst, q_frz, q_thaw, q_iSeq, q_iR2, q_iR3, q_iEnumD, q_iZip, q_andX, q_andT, q_orT, q_notT, q_eCh, q_sPat, q_eSl, q_nSl, q_pS, q_pN, q_sRetN, q_tYes, q_eDct0, okL0, okL1, okL2, okL3, okL4, okL5, okL6, ent, List.map_cons, List.map_nil, List.length_cons, List.length_nil, List.set_cons_zero, List.set_cons_succ, List.replicate, List.cons_append, List.nil_append, Nat.reduceAdd, Nat.reduceSub, Nat.sub_self, Nat.sub_zero, zero_add', ↓reduceIte, Bool.false_eq_true, item0, item1, addD_ii, subD_ii, negD_i, absD_i, ltD_ii, leD_ii, gtD_ii, geD_ii, truD_bl, decide_true, decide_false, wp_ok, wp_bad, wp_bind, wp_nox, wp_def, wps_then, wps_seq, wps_nx, wps_ret, wp_ite, wps_ite, wps_for, lenD_tup, List.length_map, ok, tn, ← fr0]
  have z := lfrom_loop (h := h) hr hs ha cs.length 1 none none (Nat.le_refl _) (by rw [List.drop_length]; rfl) (by rw [List.drop_length]; exact sz0) hl
  rw [List.drop_length] at z
  refine wps_mono z (fun ρ h' ⟨e, eh⟩ => ?_) fun d h' ⟨k, e, ed, eh⟩ => ?_
  · rw [e]
    exact ⟨rfl, eh⟩
  · rw [e]
    exact ⟨ed, eh⟩
/-! ### a trial ahead, a trial behind -/
theorem Ff_cons {c : Rat} {cs : List Rat} : (∀ k, Ff cs = some k → Ff (c :: cs) = some (k + 1)) ∧ (Ff cs = none → dueD (Ff (c :: cs)) = .int 0) := by
  refine ⟨fun k e => ?_, fun e => ?_⟩
  · unfold Ff
    rw [e]
  · unfold Ff
    rw [e]
    show dueD (if good (c :: cs) then none else some 0) = _
    split <;> rfl
theorem so_app : ∀ (cs : List Rat) (s : Rat), so (cs ++ [s]) = so cs + s / (1 - s)
  | [], s => by
    show s / (1 - s) + 0 = 0 + s / (1 - s)
    grind
  | c :: cs, s => by
    show c / (1 - c) + so (cs ++ [s]) = c / (1 - c) + so cs + s / (1 - s)
    rw [so_app]
    grind
/-- one more behind: not before -/
theorem Ff_app {s : Rat} (h0 : 0 ≤ s) (h1 : s ≤ 1) : ∀ {cs : List Rat} {k : Nat}, Ff cs = some k → ∃ j, Ff (cs ++ [s]) = some j ∧ k ≤ j
  | [], k, e => by cases e
  | c :: cs, k, e => by
    unfold Ff at e
    cases q : Ff cs with
    | some i =>
      rw [q] at e
      cases e
      obtain ⟨j, e1, e2⟩ := Ff_app h0 h1 q
      exact ⟨j + 1, Ff_cons.1 j e1, by omega⟩
    | none =>
      rw [q] at e
      have e : (if good (c :: cs) then none else some 0) = some k := e
      split at e
      · cases e
      · rename_i g
        cases e
        cases q2 : Ff (cs ++ [s]) with
        | some j => exact ⟨j + 1, Ff_cons.1 j q2, Nat.zero_le _⟩
        | none =>
          have g2 : good (c :: (cs ++ [s])) = false := by
            refine decide_eq_false fun w => g (decide_eq_true ⟨fun m => w.1 ?_, ?_⟩)
            · rcases List.mem_cons.mp m with m | m
              · rw [m]; exact List.mem_cons_self
              · exact List.mem_cons_of_mem _ (List.mem_append_left _ m)
            · have z := w.2
              have n := od_nn h0 h1
              have e1 : so (c :: (cs ++ [s])) = so (c :: cs) + s / (1 - s) := so_app (c :: cs) s
              rw [e1] at z
              grind
          refine ⟨0, ?_, Nat.le_refl _⟩
          show (match Ff (cs ++ [s]) with
            | some k => some (k + 1)
            | none => if good (c :: (cs ++ [s])) then none else some 0) = _
          rw [q2, g2]
          rfl
end Pl

/-! Plain laws, 9: texts that are shown, compared; the tape made; draws of chances. -/
namespace Pl
open Dl Sh

theorem strOk_app (a b : PySem.Str) : PySem.PyData.strOk (a ++ b) = (PySem.PyData.strOk a && PySem.PyData.strOk b) := by
  show (a.cps ++ b.cps).all _ = _
  rw [Array.all_append]
  rfl
theorem strOk_of (s : String) : PySem.PyData.strOk (PySem.Str.ofString s) = true := by
  unfold PySem.PyData.strOk
  rw [PySem.Str.ofString_eq_toList]
  simp only [List.all_toArray, List.all_map, List.all_eq_true, Function.comp_apply, decide_eq_true_eq]
  intro c _
  have := c.valid
  have h : c.val.toNat < 1114112 := by
    rcases this with h | h
    · have : c.val.toNat < 0xd800 := h
      omega
    · exact h.2
  exact h
theorem strOk_join (sep : PySem.Str) (hs : PySem.PyData.strOk sep = true) : ∀ ts : List PySem.Str, (∀ t ∈ ts, PySem.PyData.strOk t = true) → PySem.PyData.strOk (PySem.Str.join sep ts) = true
  | [], _ => by
    show (PySem.Str.empty.cps.all _) = true
    decide +kernel
  | [x], h => h x List.mem_cons_self
  | x :: y :: r, h => by
    show PySem.PyData.strOk (x ++ sep ++ PySem.Str.join sep (y :: r)) = true
    rw [strOk_app, strOk_app, h x List.mem_cons_self, hs, strOk_join sep hs (y :: r) fun t ht => h t (List.mem_cons_of_mem _ ht)]
    rfl
theorem strOk_text : ∀ (ts : List PySem.Str) (k : Nat) (acc : PySem.Str), PySem.PyData.strOk acc = true → (∀ t ∈ ts, PySem.PyData.strOk t = true) → PySem.PyData.strOk (PySem.textFrom k acc ts) = true
  | [], _, _, h, _ => h
  | t :: ts, k, acc, h, ht => by
    show PySem.PyData.strOk (PySem.textFrom (k + 1) (acc ++ (if k > 0 then ", " else "" : String) ++ t) ts) = true
    refine strOk_text ts (k + 1) _ ?_ fun x hx => ht x (List.mem_cons_of_mem _ hx)
    rw [strOk_app, strOk_app, h, ht t List.mem_cons_self, strOk_of]
    rfl
theorem shownAll_ok : ∀ {xs : List D}, (∀ x ∈ xs, PySem.PyData.strOk (pyF x).shown = true) → ∀ t ∈ PySem.PyData.shownAll (pyFs xs), PySem.PyData.strOk t = true
  | [], _, t, ht => by simp [pyFs, PySem.PyData.shownAll] at ht
  | x :: xs, h, t, ht => by
    simp only [pyFs, PySem.PyData.shownAll] at ht
    rcases List.mem_cons.mp ht with e | e
    · rw [e]; exact h x List.mem_cons_self
    · exact shownAll_ok (fun y hy => h y (List.mem_cons_of_mem _ hy)) t e
theorem shown_ok {n : Nat} {d : D} (f : Fz n d) : PySem.PyData.strOk (pyF d).shown = true := by
  induction f with
  | non => simp only [pyF, PySem.PyData.shown]; exact strOk_of _
  | int i => simp only [pyF, PySem.PyData.shown]; exact strOk_of _
  | @tup n xs _ ih =>
    simp only [pyF, PySem.PyData.shown]
    unfold PySem.tupleText
    rw [strOk_app, strOk_app, strOk_of, strOk_join _ (strOk_of _) _ (shownAll_ok ih), strOk_of]
    rfl
  | @lst n xs _ ih =>
    simp only [pyF, PySem.PyData.shown]
    unfold PySem.listText
    rw [strOk_app, strOk_text _ 0 _ (strOk_of _) (shownAll_ok ih), strOk_of]
    rfl
theorem str_shaped {s : PySem.Str} (h : PySem.PyData.strOk s = true) : PySem.SeqAt.shaped (.str s) = true := by
  unfold PySem.SeqAt.shaped
  simp only [PySem.PyData.canLay0, PySem.PyData.depth, h]
  rfl
theorem neD_str {s : PySem.Str} {h : Hs} (o : PySem.PyData.strOk s = true) : neD (.str s) (.str s) h = .ok (.bl false) h := by
  show (if (PySem.SeqAt.shaped (.str s) && PySem.SeqAt.shaped (.str s)) = true then _ else _) = _
  rw [str_shaped o]
  simp [PySem.PyData.eqv]
theorem strs_py {h : Hs} {n : Nat} : ∀ (ss : List PySem.Str), optAll (toPy h n) (ss.map D.str) = some (ss.map PySem.PyData.str)
  | [] => rfl
  | s :: ss => by
    have e : toPy h n (.str s) = some (.str s) := by cases n <;> rfl
    rw [List.map_cons]
    unfold optAll
    rw [e, strs_py ss]
    rfl
theorem strs_lay : ∀ {ss : List PySem.Str}, (∀ s ∈ ss, PySem.PyData.strOk s = true) → PySem.PyData.canLayAll0 (ss.map PySem.PyData.str) = true ∧ PySem.PyData.depthAll (ss.map PySem.PyData.str) = 0 ∧ PySem.PyData.eqvAll (ss.map PySem.PyData.str) (ss.map PySem.PyData.str) = true
  | [], _ => by simp [PySem.PyData.canLayAll0, PySem.PyData.depthAll, PySem.PyData.eqvAll]
  | s :: ss, h => by
    obtain ⟨h1, h2, h3⟩ := strs_lay (ss := ss) fun t ht => h t (List.mem_cons_of_mem _ ht)
    simp only [List.map_cons, PySem.PyData.canLayAll0, PySem.PyData.depthAll, PySem.PyData.eqvAll, PySem.PyData.canLay0, PySem.PyData.depth, PySem.PyData.eqv, h1, h2, h3, h s List.mem_cons_self, beq_self_eq_true, Bool.and_self, Nat.max_self, and_self]
theorem neD_strs {ss : List PySem.Str} {h : Hs} (o : ∀ s ∈ ss, PySem.PyData.strOk s = true) : neD (.lst (ss.map D.str)) (.lst (ss.map D.str)) h = .ok (.bl false) h := by
  obtain ⟨h1, h2, h3⟩ := strs_lay o
  have e : toPy h pyDepth (.lst (ss.map D.str)) = some (.list (ss.map PySem.PyData.str)) := by
    show (optAll (toPy h _) (ss.map D.str)).map PySem.PyData.list = _
    rw [strs_py]
    rfl
  have s : PySem.SeqAt.shaped (.list (ss.map PySem.PyData.str)) = true := by
    unfold PySem.SeqAt.shaped
    simp only [PySem.PyData.canLay0, PySem.PyData.depth, h1, h2]
    rfl
  unfold neD eqPy
  rw [e]
  show (if (PySem.SeqAt.shaped (.list (ss.map PySem.PyData.str)) && PySem.SeqAt.shaped (.list (ss.map PySem.PyData.str))) = true then Dl.R.ok (D.bl (if true = true then !PySem.PyData.eqv (.list (ss.map PySem.PyData.str)) (.list (ss.map PySem.PyData.str)) else _)) h else .bad) = _
  rw [s]
  simp only [PySem.PyData.eqv, h3]
  rfl
/-! ### the tape is made -/
theorem slD_scr_to {ns : List Int} {m : Nat} {h : Hs} : sliceD (.scr ns) none (some (m : Int)) h = .ok (.lst ((ns.take m).map D.int)) h := by
  rw [show sliceD (.scr ns) none (some (m : Int)) h = ((Dl.R.ok ((cutL ns none (some (m : Int))).map D.int) h : Dl.R (List D)).bind fun xs h1 => .ok (.lst xs) h1) from rfl, cutL_to]
  rfl
theorem pow_1018 {h : Hs} : powD (.int 10) (.int 18) h = .ok (.int 1000000000000000000) h := nr rfl
theorem pow_109 {h : Hs} : powD (.int 10) (.int 9) h = .ok (.int 1000000000) h := nr rfl
theorem all_ints : ∀ {l : List D}, (∀ d ∈ l, ∃ i, d = .int i) → ∃ cs : List Int, l = cs.map D.int
  | [], _ => ⟨[], rfl⟩
  | d :: l, h => by
    obtain ⟨i, rfl⟩ := h d List.mem_cons_self
    obtain ⟨cs, e⟩ := all_ints fun x hx => h x (List.mem_cons_of_mem _ hx)
    exact ⟨i :: cs, by rw [e]; rfl⟩
theorem tape_spec {ns : List Int} {Q : D → Hs → Prop} (hl : ns.length ≤ 63) (k : ∀ h, Tp h 0 → h.length = 2 → Q (.obj 1) h) : Wp (m__law_tape [.scr ns] []) Q := by
  unfold m__law_tape c__law_tape
  have s1 : ∀ ρ : Env, eSl (eV 0) pN (pS (eC (.int 1))) (some (.scr ns) :: ρ) [] = .ok (.lst ((ns.take 1).map D.int)) [] := fun ρ => by
    have z : sliceD (.scr ns) none (some 1) [] = .ok (.lst ((ns.take 1).map D.int)) [] := slD_scr_to (m := 1)
    simp only [eV0, eVs, bind_ok', then_ok, q_e2, q_e1, q_eC, q_aC, q_aN, q_sPar2, q_sPar3, q_sSet, q_sRet, q_eBf, q_nBf, q_eCall, q_tst, q_tru, q_ifV, q_sIf, q_eTup, q_sPass, q_sExp, q_eLm, q_nLst, q_frz, q_thaw, q_iSeq, q_iR2, q_iR3, q_iEnumD, q_iZip, q_andX, q_andT, q_orT, q_notT, q_eCh, q_sPat, q_eSl, q_nSl, q_pS, q_pN, q_sRetN, q_tYes, q_eDct0, okL0, okL1, okL2, okL3, okL4, okL5, okL6, ent, List.map_cons, List.map_nil, List.length_cons, List.length_nil, List.set_cons_zero, List.set_cons_succ, List.replicate, List.cons_append, List.nil_append, Nat.reduceAdd, Nat.reduceSub, Nat.sub_self, Nat.sub_zero, zero_add', ↓reduceIte, Bool.false_eq_true, item0, item1, addD_ii, subD_ii, negD_i, absD_i, ltD_ii, leD_ii, gtD_ii, geD_ii, truD_bl, decide_true, decide_false, z]
  have s63 : ∀ ρ : Env, eSl (eV 0) pN (pS (eC (.int 63))) (some (.scr ns) :: ρ) [] = .ok (.lst ((ns.take 63).map D.int)) [] := fun ρ => by
    have z : sliceD (.scr ns) none (some 63) [] = .ok (.lst ((ns.take 63).map D.int)) [] := slD_scr_to (m := 63)
    simp only [eV0, eVs, bind_ok', then_ok, q_e2, q_e1, q_eC, q_aC, q_aN, q_sPar2, q_sPar3, q_sSet, q_sRet, q_eBf, q_nBf, q_eCall, q_tst, q_tru, q_ifV, q_sIf, q_eTup, q_sPass, q_sExp, q_eLm, q_nLst, q_frz, q_thaw, q_iSeq, q_iR2, q_iR3, q_iEnumD, q_iZip, q_andX, q_andT, q_orT, q_notT, q_eCh, q_sPat, q_eSl, q_nSl, q_pS, q_pN, q_sRetN, q_tYes, q_eDct0, okL0, okL1, okL2, okL3, okL4, okL5, okL6, ent, List.map_cons, List.map_nil, List.length_cons, List.length_nil, List.set_cons_zero, List.set_cons_succ, List.replicate, List.cons_append, List.nil_append, Nat.reduceAdd, Nat.reduceSub, Nat.sub_self, Nat.sub_zero, zero_add', ↓reduceIte, Bool.false_eq_true, item0, item1, addD_ii, subD_ii, negD_i, absD_i, ltD_ii, leD_ii, gtD_ii, geD_ii, truD_bl, decide_true, decide_false, z]
  have m0 := Int.emod_nonneg (ns.take 1).sum (show (1000003 : Int) ≠ 0 by decide)
  have m1 := Int.emod_lt_of_pos (ns.take 1).sum (show (0 : Int) < 1000003 by decide)
  have p1 : ((0 : Int) < 1000003) := by decide
  rw [wp_def, wps_seq]
  have e1 : ent 3 [D.scr ns] = [some (.scr ns), none, none] := rfl
  rw [e1, q_sSet, wps_then, q_e2]
  simp only [q_e2, q_eBf, q_aC, q_aN, q_eC, s1, eV0, eVs, bind_ok', sumD_ints, intD_i, modD_ii p1, lenD_scr, addD_ii, wp_ok, wp_bad, wp_bind, wp_nox, wp_def, wps_then, wps_seq, wps_nx, wps_ret, wp_ite, wps_ite, List.set_cons_zero, List.set_cons_succ]
  generalize hs0 : (ns.take 1).sum % 1000003 + (ns.length : Int) + 1 = s0
  have b0 : 0 ≤ s0 ∧ s0 < 4294967296 := by omega
  rw [wps_for, seq_lst (s63 _), wp_ok]
  refine wps_loop (fun _ ρ h => ∃ (s : Int) (z : Option D), ρ = [some (.scr ns), some (.int s), z] ∧ 0 ≤ s ∧ s < 4294967296 ∧ h = []) _ 0 _ _ ?_ ?_ ⟨s0, none, rfl, b0.1, b0.2, rfl⟩
  · rintro j x ρ h hx ⟨s, z, rfl, a0, a1, rfl⟩
    refine ⟨rfl, [some (.scr ns), some (.int s), some x], rfl, ?_⟩
    obtain ⟨i, hi, rfl⟩ := List.mem_map.mp (List.mem_of_getElem? hx)
    have c0 := Int.emod_nonneg i (show (2147483629 : Int) ≠ 0 by decide)
    have c1 := Int.emod_lt_of_pos i (show (0 : Int) < 2147483629 by decide)
    have mm : okMul s 48271 = true := okMul_small (small_lt (by omega)) (by decide +kernel)
    simp only [eV0, eVs, bind_ok', then_ok, q_e2, q_e1, q_eC, q_aC, q_aN, q_sPar2, q_sPar3, q_sSet, q_sRet, q_eBf, q_nBf, q_eCall, q_tst, q_tru, q_ifV, q_sIf, q_eTup, q_sPass, q_sExp, q_eLm, q_nLst, q_frz, q_thaw, q_iSeq, q_iR2, q_iR3, q_iEnumD, q_iZip, q_andX, q_andT, q_orT, q_notT, q_eCh, q_sPat, q_eSl, q_nSl, q_pS, q_pN, q_sRetN, q_tYes, q_eDct0, okL0, okL1, okL2, okL3, okL4, okL5, okL6, ent, List.map_cons, List.map_nil, List.length_cons, List.length_nil, List.set_cons_zero, List.set_cons_succ, List.replicate, List.cons_append, List.nil_append, Nat.reduceAdd, Nat.reduceSub, Nat.sub_self, Nat.sub_zero, zero_add', ↓reduceIte, Bool.false_eq_true, item0, item1, addD_ii, subD_ii, negD_i, absD_i, ltD_ii, leD_ii, gtD_ii, geD_ii, truD_bl, decide_true, decide_false, wp_ok, wp_bad, wp_bind, wp_nox, wp_def, wps_then, wps_seq, wps_nx, wps_ret, wp_ite, wps_ite, mulD_ii mm, intD_i, modD_ii (show (0 : Int) < 2147483629 by decide), modD_ii (show (0 : Int) < 2147483647 by decide)]
    have d0 := Int.emod_nonneg (s * 48271 + i % 2147483629 + 11) (show (2147483647 : Int) ≠ 0 by decide)
    have d1 := Int.emod_lt_of_pos (s * 48271 + i % 2147483629 + 11) (show (0 : Int) < 2147483647 by decide)
    exact ⟨_, _, rfl, d0, by omega, trivial⟩
  · rintro ρ h ⟨s, z, rfl, a0, a1, rfl⟩
    refine ⟨rfl, ?_⟩
    have c : nLc (iSeq (eSl (eV 0) pN (pS (eC (.int 63))))) (.nm 2) [2] (tst (e2 geD (eBf absD (aC (eV 2) aN)) (e2 powD (eC (.int 10)) (eC (.int 18))))) (eBf absD (aC (eV 2) aN)) [some (.scr ns), some (.int s), z] [] =
        .ok ((((ns.take 63).map D.int).filter fun d => match d with | .int i => decide ((1000000000000000000 : Int) ≤ i.natAbs) | _ => false).map fun d => match d with | .int i => .int i.natAbs | _ => .non) [] := by
      rw [nLc_eq, seq_lst (s63 _), bind_ok']
      show (if okLen ((ns.take 63).map D.int).length = true then _ else _) = _
      rw [if_pos (okLen_of (by rw [List.length_map, List.length_take]; omega))]
      refine lcF_test rfl fun x hx => ⟨[some (.scr ns), some (.int s), some x], rfl, ?_⟩
      obtain ⟨i, hi, rfl⟩ := List.mem_map.mp hx
      refine ⟨?_, fun _ => ?_⟩
      · simp only [eV0, eVs, bind_ok', then_ok, q_e2, q_e1, q_eC, q_aC, q_aN, q_sPar2, q_sPar3, q_sSet, q_sRet, q_eBf, q_nBf, q_eCall, q_tst, q_tru, q_ifV, q_sIf, q_eTup, q_sPass, q_sExp, q_eLm, q_nLst, q_frz, q_thaw, q_iSeq, q_iR2, q_iR3, q_iEnumD, q_iZip, q_andX, q_andT, q_orT, q_notT, q_eCh, q_sPat, q_eSl, q_nSl, q_pS, q_pN, q_sRetN, q_tYes, q_eDct0, okL0, okL1, okL2, okL3, okL4, okL5, okL6, ent, List.map_cons, List.map_nil, List.length_cons, List.length_nil, List.set_cons_zero, List.set_cons_succ, List.replicate, List.cons_append, List.nil_append, Nat.reduceAdd, Nat.reduceSub, Nat.sub_self, Nat.sub_zero, zero_add', ↓reduceIte, Bool.false_eq_true, item0, item1, addD_ii, subD_ii, negD_i, absD_i, ltD_ii, leD_ii, gtD_ii, geD_ii, truD_bl, decide_true, decide_false, pow_1018]
      · simp only [eV0, eVs, bind_ok', then_ok, q_e2, q_e1, q_eC, q_aC, q_aN, q_sPar2, q_sPar3, q_sSet, q_sRet, q_eBf, q_nBf, q_eCall, q_tst, q_tru, q_ifV, q_sIf, q_eTup, q_sPass, q_sExp, q_eLm, q_nLst, q_frz, q_thaw, q_iSeq, q_iR2, q_iR3, q_iEnumD, q_iZip, q_andX, q_andT, q_orT, q_notT, q_eCh, q_sPat, q_eSl, q_nSl, q_pS, q_pN, q_sRetN, q_tYes, q_eDct0, okL0, okL1, okL2, okL3, okL4, okL5, okL6, ent, List.map_cons, List.map_nil, List.length_cons, List.length_nil, List.set_cons_zero, List.set_cons_succ, List.replicate, List.cons_append, List.nil_append, Nat.reduceAdd, Nat.reduceSub, Nat.sub_self, Nat.sub_zero, zero_add', ↓reduceIte, Bool.false_eq_true, item0, item1, addD_ii, subD_ii, negD_i, absD_i, ltD_ii, leD_ii, gtD_ii, geD_ii, truD_bl, decide_true, decide_false]
    obtain ⟨cs, hc⟩ := all_ints (l := (((ns.take 63).map D.int).filter fun d => match d with | .int i => decide ((1000000000000000000 : Int) ≤ i.natAbs) | _ => false).map fun d => match d with | .int i => .int i.natAbs | _ => .non) fun d hd => by
      obtain ⟨x, hx, rfl⟩ := List.mem_map.mp hd
      obtain ⟨i, hi, rfl⟩ := List.mem_map.mp (List.mem_filter.mp hx).1
      exact ⟨_, rfl⟩
    rw [hc] at c
    simp only [eV0, eVs, bind_ok', then_ok, q_e2, q_e1, q_eC, q_aC, q_aN, q_sPar2, q_sPar3, q_sSet, q_sRet, q_eBf, q_nBf, q_eCall, q_tst, q_tru, q_ifV, q_sIf, q_eTup, q_sPass, q_sExp, q_eLm, q_nLst, q_frz, q_thaw, q_iSeq, q_iR2, q_iR3, q_iEnumD, q_iZip, q_andX, q_andT, q_orT, q_notT, q_eCh, q_sPat, q_eSl, q_nSl, q_pS, q_pN, q_sRetN, q_tYes, q_eDct0, okL0, okL1, okL2, okL3, okL4, okL5, okL6, ent, List.map_cons, List.map_nil, List.length_cons, List.length_nil, List.set_cons_zero, List.set_cons_succ, List.replicate, List.cons_append, List.nil_append, Nat.reduceAdd, Nat.reduceSub, Nat.sub_self, Nat.sub_zero, zero_add', ↓reduceIte, Bool.false_eq_true, item0, item1, addD_ii, subD_ii, negD_i, absD_i, ltD_ii, leD_ii, gtD_ii, geD_ii, truD_bl, decide_true, decide_false, wp_ok, wp_bad, wp_bind, wp_nox, wp_def, wps_then, wps_seq, wps_nx, wps_ret, wp_ite, wps_ite, c]
    exact k _ ⟨s, 0, cs, rfl, rfl, a0, a1, Int.le_refl _, Int.le_refl _⟩ rfl
end Pl

/-! Plain laws, 10: chances that are drawn. -/
namespace Pl
open Dl Sh

/-- a share of a small size -/
def Sh1 (q : Rat) : Prop := 0 ≤ q ∧ q ≤ 1 ∧ Sz 40 q
theorem div_sh {n d : Int} (h0 : 0 ≤ n) (h1 : n ≤ d) (h2 : 0 < d) (h3 : d < 1099511627776) : Sh1 (Rat.divInt n d) := by
  have dp : (0 : Rat) < (d : Rat) := Rat.intCast_pos.mpr h2
  have e : Rat.divInt n d = (n : Rat) / (d : Rat) := Rat.divInt_eq_div n d
  refine ⟨?_, ?_, ?_⟩
  · exact Rat.divInt_nonneg h0 (by omega)
  · rw [e]
    have c : (n : Rat) ≤ (d : Rat) := Rat.intCast_le_intCast.mpr h1
    have m : (n : Rat) / d * d = n := Rat.div_mul_cancel (by grind)
    rcases Rat.le_total (a := (n : Rat) / d) (b := 1) with z | z
    · exact z
    · have k := Rat.mul_le_mul_of_nonneg_right z (Rat.le_of_lt dp)
      rw [m, Rat.one_mul] at k
      have eq : (n : Rat) = d := Rat.le_antisymm c k
      rw [eq, Rat.div_def, Rat.mul_inv_cancel _ (by grind)]
      exact Rat.le_refl
  · have p : (2 : Nat) ^ 40 = 1099511627776 := by decide
    exact sz_divInt (by rw [p]; omega) (by rw [p]; omega) (by omega)
theorem one_over (k : Nat) (hk : k < 1000000) : ∃ q, D.tup [.int 1, .int ((k : Int) + 1)] = fr q ∧ Sh1 q := by
  have z := div_sh (n := 1) (d := (k : Int) + 1) (by decide) (by omega) (by omega) (by omega)
  refine ⟨_, ?_, z⟩
  unfold fr
  rw [Rat.num_divInt, Rat.den_divInt, if_neg (by omega), Int.sign_eq_one_of_pos (by omega)]
  have g : Int.gcd ((k : Int) + 1) 1 = 1 := by simp
  rw [g]
  simp
  omega
theorem zero_sh : D.tup [.int 0, .int 1] = fr 0 ∧ Sh1 0 := ⟨rfl, Rat.le_refl, by decide +kernel, sz0.mono (by decide)⟩
theorem one_sh : D.tup [.int 1, .int 1] = fr 1 ∧ Sh1 1 := ⟨rfl, by decide +kernel, Rat.le_refl, sz1.mono (by decide)⟩
def DSh (d : D) : Prop := ∃ q, d = fr q ∧ Sh1 q
theorem fr_list : ∀ {ds : List D}, (∀ d ∈ ds, DSh d) → ∃ qs : List Rat, ds = qs.map fr ∧ ∀ q ∈ qs, Sh1 q
  | [], _ => ⟨[], rfl, by simp⟩
  | d :: ds, h => by
    obtain ⟨q, rfl, s⟩ := h d List.mem_cons_self
    obtain ⟨qs, rfl, k⟩ := fr_list fun x hx => h x (List.mem_cons_of_mem _ hx)
    exact ⟨q :: qs, rfl, fun x hx => by
      rcases List.mem_cons.mp hx with e | e
      · rw [e]; exact s
      · exact k x e⟩
/-- what chances that are drawn are -/
def Drawn (qs : List Rat) : Prop := 1 ≤ qs.length ∧ qs.length ≤ 12 ∧ ∀ q ∈ qs, Sh1 q
theorem iR1_eq {cs : Env → M (List D)} {ρ : Env} {h h' : Hs} {n : Nat} (e : cs ρ h = .ok [.int n] h') (l : n ≤ 1000000) : iR1 cs ρ h = .ok ⟨rng 0 1 n, []⟩ h' := by
  rw [q_iR1, e, bind_ok']
  show (if okI n = true then Dl.R.ok (ItD.mk (rng 0 1 ((n : Int)).toNat) []) h' else .bad) = _
  rw [if_pos (okI_of (by omega) (by omega)), Int.toNat_natCast]
theorem Ge.set' {h h' : Hs} {i : Nat} {o : DO} (g : Ge h h') (hi : h.length ≤ i) : Ge h (h'.set i o) := ⟨by rw [List.length_set]; exact g.len, fun j h1 h2 => by rw [List.getElem?_set_ne (by omega)]; exact g.keep j h1 h2⟩
theorem chances_spec {h : Hs} {N : Nat} {most : Int} {Q : D → Hs → Prop} (t : Tp h N) (m1 : 1 ≤ most) (m2 : most ≤ 12) (hN : N + 50 ≤ 1000000) (k : ∀ qs h', Drawn qs → (qs.length : Int) ≤ most → Tp h' (N + 50) → Ge h h' → Q (.tup (qs.map fr)) h') : Wp (m__law_chances [.obj 1, .int most] h) Q := by
  have two := t.two
  unfold m__law_chances c__law_chances
  rw [wp_def, wps_seq]
  have e1 : ent 6 [D.obj 1, .int most] = [some (.obj 1), some (.int most), none, none, none, none] := rfl
  rw [e1]
  simp only [eV0, eVs, bind_ok', then_ok, q_e2, q_e1, q_eC, q_aC, q_aN, q_sPar2, q_sPar3, q_sSet, q_sRet, q_eBf, q_nBf, q_eCall, q_tst, q_tru, q_ifV, q_sIf, q_eTup, q_sPass, q_sExp, q_eLm, q_nLst, q_frz, q_thaw, q_iSeq, q_iR2, q_iR3, q_iEnumD, q_iZip, q_andX, q_andT, q_orT, q_notT, q_eCh, q_sPat, q_eSl, q_nSl, q_pS, q_pN, q_sRetN, q_tYes, q_eDct0, okL0, okL1, okL2, okL3, okL4, okL5, okL6, ent, List.map_cons, List.map_nil, List.length_cons, List.length_nil, List.set_cons_zero, List.set_cons_succ, List.replicate, List.cons_append, List.nil_append, Nat.reduceAdd, Nat.reduceSub, Nat.sub_self, Nat.sub_zero, zero_add', ↓reduceIte, Bool.false_eq_true, item0, item1, addD_ii, subD_ii, negD_i, absD_i, ltD_ii, leD_ii, gtD_ii, geD_ii, truD_bl, decide_true, decide_false, wp_ok, wp_bad, wp_bind, wp_nox, wp_def, wps_then, wps_seq, wps_nx, wps_ret, wp_ite, wps_ite]
  refine draw_spec (t.app (l := [.lst []])) (sides := most) (by omega) (by omega) (by omega) fun d h1 d0 d1 t1 g1 => ?_
  obtain ⟨n, rfl⟩ : ∃ n : Nat, d = n := ⟨d.toNat, by omega⟩
  have f0 : h1[h.length]? = some (.lst []) := g1.at two get_last
  have gg : Ge h h1 := (Ge.app (l := [.lst []]) two).trans g1
  have ir : iR1 (aC (eV 3) aN) [some (.obj 1), some (.int most), some (.obj h.length), some (.int (1 + (n : Int))), none, none] h1 = .ok ⟨rng 0 1 (n + 1), []⟩ h1 := iR1_eq (n := n + 1) (by simp only [eV0, eVs, bind_ok', then_ok, q_e2, q_e1, q_eC, q_aC, q_aN, q_sPar2, q_sPar3, q_sSet, q_sRet, q_eBf, q_nBf, q_eCall, q_tst, q_tru, q_ifV, q_sIf, q_eTup, q_sPass, q_sExp, q_eLm, q_nLst, q_frz, q_thaw, q_iSeq, q_iR2, q_iR3, q_iEnumD, q_iZip, q_andX, q_andT, q_orT, q_notT, q_eCh, q_sPat, q_eSl, q_nSl, q_pS, q_pN, q_sRetN, q_tYes, q_eDct0, okL0, okL1, okL2, okL3, okL4, okL5, okL6, ent, List.map_cons, List.map_nil, List.length_cons, List.length_nil, List.set_cons_zero, List.set_cons_succ, List.replicate, List.cons_append, List.nil_append, Nat.reduceAdd, Nat.reduceSub, Nat.sub_self, Nat.sub_zero, zero_add', ↓reduceIte, Bool.false_eq_true, item0, item1, addD_ii, subD_ii, negD_i, absD_i, ltD_ii, leD_ii, gtD_ii, geD_ii, truD_bl, decide_true, decide_false]; congr 2; simp; omega) (by omega)
  simp only [addD_ii, wp_ok]
  rw [wps_for, ir, wp_ok]
  refine wps_loop (fun j ρ h' => Tp h' (N + 1 + 3 * j) ∧ Ge h h' ∧ ∃ (qs : List Rat) (y z : Option D), ρ = [some (.obj 1), some (.int most), some (.obj h.length), some (.int (1 + (n : Int))), y, z] ∧ h'[h.length]? = some (.lst (qs.map fr)) ∧ qs.length = j ∧ ∀ q ∈ qs, Sh1 q) _ 0 _ _ ?_ ?_ ⟨t1, gg, [], none, none, rfl, f0, rfl, by simp⟩
  · rintro j x ρ h2 hx ⟨t2, g2, qs, y, z, rfl, fq, lq, sq⟩
    rw [Nat.zero_add] at t2 lq ⊢
    have hj : j < n + 1 := by
      have := (List.getElem?_eq_some_iff.mp hx).1
      rwa [rng_len] at this
    rw [rng_at _ _ _ _ hj] at hx
    cases hx
    refine ⟨rfl, [some (.obj 1), some (.int most), some (.obj h.length), some (.int (1 + (n : Int))), some (.int (0 + (j : Int) * 1)), z], rfl, ?_⟩
    simp only [eV0, eVs, bind_ok', then_ok, q_e2, q_e1, q_eC, q_aC, q_aN, q_sPar2, q_sPar3, q_sSet, q_sRet, q_eBf, q_nBf, q_eCall, q_tst, q_tru, q_ifV, q_sIf, q_eTup, q_sPass, q_sExp, q_eLm, q_nLst, q_frz, q_thaw, q_iSeq, q_iR2, q_iR3, q_iEnumD, q_iZip, q_andX, q_andT, q_orT, q_notT, q_eCh, q_sPat, q_eSl, q_nSl, q_pS, q_pN, q_sRetN, q_tYes, q_eDct0, okL0, okL1, okL2, okL3, okL4, okL5, okL6, ent, List.map_cons, List.map_nil, List.length_cons, List.length_nil, List.set_cons_zero, List.set_cons_succ, List.replicate, List.cons_append, List.nil_append, Nat.reduceAdd, Nat.reduceSub, Nat.sub_self, Nat.sub_zero, zero_add', ↓reduceIte, Bool.false_eq_true, item0, item1, addD_ii, subD_ii, negD_i, absD_i, ltD_ii, leD_ii, gtD_ii, geD_ii, truD_bl, decide_true, decide_false, wp_ok, wp_bad, wp_bind, wp_nox, wp_def, wps_then, wps_seq, wps_nx, wps_ret, wp_ite, wps_ite, pow_109, Int.zero_add, Int.mul_one]
    refine any_spec t2 (by simp) (by simp) (by omega) fun b h3 hb t3 g3 => ?_
    obtain ⟨v, rfl, v1, v2⟩ : ∃ v : Int, b = .int v ∧ 1 ≤ v ∧ v ≤ 1000000000 := by
      simp only [List.mem_cons, List.not_mem_nil, or_false] at hb
      rcases hb with e | e | e | e | e | e | e <;> exact ⟨_, e, by omega, by omega⟩
    simp only [eV0, eVs, bind_ok', then_ok, q_e2, q_e1, q_eC, q_aC, q_aN, q_sPar2, q_sPar3, q_sSet, q_sRet, q_eBf, q_nBf, q_eCall, q_tst, q_tru, q_ifV, q_sIf, q_eTup, q_sPass, q_sExp, q_eLm, q_nLst, q_frz, q_thaw, q_iSeq, q_iR2, q_iR3, q_iEnumD, q_iZip, q_andX, q_andT, q_orT, q_notT, q_eCh, q_sPat, q_eSl, q_nSl, q_pS, q_pN, q_sRetN, q_tYes, q_eDct0, okL0, okL1, okL2, okL3, okL4, okL5, okL6, ent, List.map_cons, List.map_nil, List.length_cons, List.length_nil, List.set_cons_zero, List.set_cons_succ, List.replicate, List.cons_append, List.nil_append, Nat.reduceAdd, Nat.reduceSub, Nat.sub_self, Nat.sub_zero, zero_add', ↓reduceIte, Bool.false_eq_true, item0, item1, addD_ii, subD_ii, negD_i, absD_i, ltD_ii, leD_ii, gtD_ii, geD_ii, truD_bl, decide_true, decide_false, wp_ok, wp_bad, wp_bind, wp_nox, wp_def, wps_then, wps_seq, wps_nx, wps_ret, wp_ite, wps_ite]
    have g23 := g2.trans g3
    have fq3 : h3[h.length]? = some (.lst (qs.map fr)) := g3.at two fq
    rw [lstAt_obj fq3]
    simp only [eV0, eVs, bind_ok', then_ok, q_e2, q_e1, q_eC, q_aC, q_aN, q_sPar2, q_sPar3, q_sSet, q_sRet, q_eBf, q_nBf, q_eCall, q_tst, q_tru, q_ifV, q_sIf, q_eTup, q_sPass, q_sExp, q_eLm, q_nLst, q_frz, q_thaw, q_iSeq, q_iR2, q_iR3, q_iEnumD, q_iZip, q_andX, q_andT, q_orT, q_notT, q_eCh, q_sPat, q_eSl, q_nSl, q_pS, q_pN, q_sRetN, q_tYes, q_eDct0, okL0, okL1, okL2, okL3, okL4, okL5, okL6, ent, List.map_cons, List.map_nil, List.length_cons, List.length_nil, List.set_cons_zero, List.set_cons_succ, List.replicate, List.cons_append, List.nil_append, Nat.reduceAdd, Nat.reduceSub, Nat.sub_self, Nat.sub_zero, zero_add', ↓reduceIte, Bool.false_eq_true, item0, item1, addD_ii, subD_ii, negD_i, absD_i, ltD_ii, leD_ii, gtD_ii, geD_ii, truD_bl, decide_true, decide_false, wp_ok, wp_bad, wp_bind, wp_nox, wp_def, wps_then, wps_seq, wps_nx, wps_ret, wp_ite, wps_ite]
    refine draw_spec t3 (sides := v + 1) (by omega) (by omega) (by omega) fun d h4 d0 d1 t4 g4 => ?_
    have low := low_eq d v h4 (by omega) (Nat.lt_of_lt_of_le (show v.natAbs < 2 ^ 64 by omega) pow18)
    have m6 := mulD_l (x := fr (Rat.divInt d v)) (k := 6) (h := h4) (by decide)
    have m6' : mulD (.lst [fr (Rat.divInt d v)]) (.int 6) h4 = .ok (.lst (List.replicate 6 (fr (Rat.divInt d v)))) h4 := m6
    have ad : addD (.lst (List.replicate 6 (fr (Rat.divInt d v)))) (.lst [.tup [.int 1, .int ((j : Int) + 1)], .tup [.int 0, .int 1], .tup [.int 1, .int 1]]) h4 = .ok (.lst (List.replicate 6 (fr (Rat.divInt d v)) ++ [.tup [.int 1, .int ((j : Int) + 1)], .tup [.int 0, .int 1], .tup [.int 1, .int 1]])) h4 := addD_ll (by simp)
    simp only [q_nLst, q_frz, q_eTup, q_aC, q_aN, q_eC, q_e2, eV0, eVs, bind_ok', wp_bind, wp_ok, low, m6', ad, addD_ii, List.length_cons, List.length_nil, okL1, okL2, okL3, ↓reduceIte, Nat.reduceAdd, Nat.zero_add]
    refine any_spec t4 (by simp) (by simp) (by omega) fun b h5 hb t5 g5 => ?_
    obtain ⟨q, rfl, hq⟩ : DSh b := by
      rcases List.mem_append.mp hb with e | e
      · exact ⟨_, List.eq_of_mem_replicate e, div_sh d0 (by omega) (by omega) (by omega)⟩
      · simp only [List.mem_cons, List.not_mem_nil, or_false] at e
        rcases e with e | e | e
        · rw [e]; exact one_over j (by omega)
        · exact ⟨0, e, zero_sh.2⟩
        · exact ⟨1, e, one_sh.2⟩
    have fq5 : h5[h.length]? = some (.lst (qs.map fr)) := (g4.trans g5).at two fq3
    simp only [app_obj fq5 (by rw [List.length_map]; omega), wp_ok, wps_nx]
    have g25 := (g23.trans g4).trans g5
    have lh : h.length < h5.length := (List.getElem?_eq_some_iff.mp fq5).1
    refine ⟨(t5.set two).mono (by omega), g25.set' (Nat.le_refl _), qs ++ [q], _, _, rfl, ?_, by rw [List.length_append, lq]; rfl, fun x hx => ?_⟩
    · rw [List.getElem?_set_self lh, List.map_append]
      rfl
    · rcases List.mem_append.mp hx with e | e
      · exact sq x e
      · rw [List.mem_singleton.mp e]; exact hq
  · rintro ρ h2 ⟨t2, g2, qs, y, z, rfl, fq, lq, sq⟩
    refine ⟨rfl, ?_⟩
    rw [Nat.zero_add, rng_len] at t2 lq
    have z := tupD_obj fq
    simp only [eV0, eVs, bind_ok', then_ok, q_e2, q_e1, q_eC, q_aC, q_aN, q_sPar2, q_sPar3, q_sSet, q_sRet, q_eBf, q_nBf, q_eCall, q_tst, q_tru, q_ifV, q_sIf, q_eTup, q_sPass, q_sExp, q_eLm, q_nLst, q_frz, q_thaw, q_iSeq, q_iR2, q_iR3, q_iEnumD, q_iZip, q_andX, q_andT, q_orT, q_notT, q_eCh, q_sPat, q_eSl, q_nSl, q_pS, q_pN, q_sRetN, q_tYes, q_eDct0, okL0, okL1, okL2, okL3, okL4, okL5, okL6, ent, List.map_cons, List.map_nil, List.length_cons, List.length_nil, List.set_cons_zero, List.set_cons_succ, List.replicate, List.cons_append, List.nil_append, Nat.reduceAdd, Nat.reduceSub, Nat.sub_self, Nat.sub_zero, zero_add', ↓reduceIte, Bool.false_eq_true, item0, item1, addD_ii, subD_ii, negD_i, absD_i, ltD_ii, leD_ii, gtD_ii, geD_ii, truD_bl, decide_true, decide_false, wp_ok, wp_bad, wp_bind, wp_nox, wp_def, wps_then, wps_seq, wps_nx, wps_ret, wp_ite, wps_ite, z]
    exact k qs h2 ⟨by omega, by omega, sq⟩ (by omega) (t2.mono (by omega)) g2
theorem int_list : ∀ {ds : List D} {P : Int → Prop}, (∀ d ∈ ds, ∃ i, d = .int i ∧ P i) → ∃ is : List Int, ds = is.map D.int ∧ ∀ i ∈ is, P i
  | [], _, _ => ⟨[], rfl, by simp⟩
  | d :: ds, P, h => by
    obtain ⟨i, rfl, p⟩ := h d List.mem_cons_self
    obtain ⟨is, rfl, k⟩ := int_list fun x hx => h x (List.mem_cons_of_mem _ hx)
    exact ⟨i :: is, rfl, fun x hx => by
      rcases List.mem_cons.mp hx with e | e
      · rw [e]; exact p
      · exact k x e⟩
theorem sum_le : ∀ {is : List Int}, (∀ i ∈ is, 1 ≤ i ∧ i ≤ 5) → 0 ≤ is.sum ∧ is.sum ≤ 5 * is.length
  | [], _ => by simp
  | i :: is, h => by
    have h1 := h i List.mem_cons_self
    have h2 := sum_le fun x hx => h x (List.mem_cons_of_mem _ hx)
    rw [List.sum_cons, List.length_cons]
    omega
theorem maxD_ii {a b : Int} {h : Hs} : maxD [.int a, .int b] h = .ok (.int (if b > a then b else a)) h := nr rfl
theorem ir_draw1 {h : Hs} {N : Nat} {s : Int} {ρ : Env} (t : Tp h N) (h0 : 0 < s) (hs : s ≤ 1000) (hN : N < 1000000) : Wp (iR1 (aC (e2 addD (eC (.int 1)) (eCall 2 m__law_draw (aC (eV 0) (aC (eC (.int s)) aN)))) aN) (some (.obj 1) :: ρ) h) fun it h' => ∃ n : Nat, 1 ≤ n ∧ (n : Int) ≤ s ∧ it = ⟨rng 0 1 n, []⟩ ∧ Tp h' (N + 1) ∧ Ge h h' := by
  rw [q_iR1]
  simp only [eV0, eVs, bind_ok', then_ok, q_e2, q_e1, q_eC, q_aC, q_aN, q_sPar2, q_sPar3, q_sSet, q_sRet, q_eBf, q_nBf, q_eCall, q_tst, q_tru, q_ifV, q_sIf, q_eTup, q_sPass, q_sExp, q_eLm, q_nLst, q_frz, q_thaw, q_iSeq, q_iR2, q_iR3, q_iEnumD, q_iZip, q_andX, q_andT, q_orT, q_notT, q_eCh, q_sPat, q_eSl, q_nSl, q_pS, q_pN, q_sRetN, q_tYes, q_eDct0, okL0, okL1, okL2, okL3, okL4, okL5, okL6, ent, List.map_cons, List.map_nil, List.length_cons, List.length_nil, List.set_cons_zero, List.set_cons_succ, List.replicate, List.cons_append, List.nil_append, Nat.reduceAdd, Nat.reduceSub, Nat.sub_self, Nat.sub_zero, zero_add', ↓reduceIte, Bool.false_eq_true, item0, item1, addD_ii, subD_ii, negD_i, absD_i, ltD_ii, leD_ii, gtD_ii, geD_ii, truD_bl, decide_true, decide_false, wp_ok, wp_bad, wp_bind, wp_nox, wp_def, wps_then, wps_seq, wps_nx, wps_ret, wp_ite, wps_ite]
  refine draw_spec t h0 (by omega) hN fun d h1 d0 d1 t1 g1 => ?_
  simp only [addD_ii, wp_ok]
  rw [if_pos (okI_of (by omega) (by omega))]
  exact ⟨(1 + d).toNat, by omega, by omega, rfl, t1, g1⟩
theorem ir_draw0 {h : Hs} {N : Nat} {s : Int} {ρ : Env} (t : Tp h N) (h0 : 0 < s) (hs : s ≤ 1000) (hN : N < 1000000) : Wp (iR1 (aC (eCall 2 m__law_draw (aC (eV 0) (aC (eC (.int s)) aN))) aN) (some (.obj 1) :: ρ) h) fun it h' => ∃ n : Nat, (n : Int) < s ∧ it = ⟨rng 0 1 n, []⟩ ∧ Tp h' (N + 1) ∧ Ge h h' := by
  rw [q_iR1]
  simp only [eV0, eVs, bind_ok', then_ok, q_e2, q_e1, q_eC, q_aC, q_aN, q_sPar2, q_sPar3, q_sSet, q_sRet, q_eBf, q_nBf, q_eCall, q_tst, q_tru, q_ifV, q_sIf, q_eTup, q_sPass, q_sExp, q_eLm, q_nLst, q_frz, q_thaw, q_iSeq, q_iR2, q_iR3, q_iEnumD, q_iZip, q_andX, q_andT, q_orT, q_notT, q_eCh, q_sPat, q_eSl, q_nSl, q_pS, q_pN, q_sRetN, q_tYes, q_eDct0, okL0, okL1, okL2, okL3, okL4, okL5, okL6, ent, List.map_cons, List.map_nil, List.length_cons, List.length_nil, List.set_cons_zero, List.set_cons_succ, List.replicate, List.cons_append, List.nil_append, Nat.reduceAdd, Nat.reduceSub, Nat.sub_self, Nat.sub_zero, zero_add', ↓reduceIte, Bool.false_eq_true, item0, item1, addD_ii, subD_ii, negD_i, absD_i, ltD_ii, leD_ii, gtD_ii, geD_ii, truD_bl, decide_true, decide_false, wp_ok, wp_bad, wp_bind, wp_nox, wp_def, wps_then, wps_seq, wps_nx, wps_ret, wp_ite, wps_ite]
  refine draw_spec t h0 (by omega) hN fun d h1 d0 d1 t1 g1 => ?_
  simp only [wp_ok]
  rw [if_pos (okI_of (by omega) (by omega))]
  exact ⟨d.toNat, by omega, rfl, t1, g1⟩
/-- a comprehension over a range, its items drawn -/
theorem comp_draw {p : Nat} {ce : Env → M D} {ρ : Env} {h : Hs} {N c : Nat} {n : Nat} {Q : List D → Hs → Prop} (P : D → Prop) (hn : n ≤ 1000) (t : Tp h N) (own : List Nat)
    (step : ∀ (j : Nat) (x : D) (h' : Hs), Tp h' (N + c * j) → Ge h h' → j < n → Wp (ce ((wipeD ρ own).set p (some x)) h') fun d h2 => P d ∧ Tp h2 (N + c * j + c) ∧ Ge h' h2)
    (k : ∀ ds h', ds.length = n → (∀ d ∈ ds, P d) → Tp h' (N + c * n) → Ge h h' → Q ds h') : Wp (lcF (.nm p) tYes' ce [] (wipeD ρ own) (rng 0 1 n) h) Q := by
  refine wp_lc (fun j h' => Tp h' (N + c * j) ∧ Ge h h') P (rng 0 1 n) 0 h ?_ (fun _ _ => rfl) ⟨t, .refl⟩ ?_
  · rintro j x h' hx ⟨t', g'⟩
    rw [Nat.zero_add] at t' ⊢
    have hj := (List.getElem?_eq_some_iff.mp hx).1
    rw [rng_len] at hj
    refine ⟨rfl, _, rfl, wp_mono (step j x h' t' g' hj) fun d h2 ⟨pd, t2, g2⟩ => ⟨pd, ?_, g'.trans g2⟩⟩
    rw [Nat.mul_add, Nat.mul_one, ← Nat.add_assoc]
    exact t2
  · intro ds h' hl hp ⟨t', g'⟩
    rw [rng_len] at hl
    rw [rng_len, Nat.zero_add] at t'
    exact k ds h' hl hp t' g'
theorem even_spec {h : Hs} {N : Nat} {Q : D → Hs → Prop} (t : Tp h N) (hN : N + 50 ≤ 1000000) (k : ∀ qs h', Drawn qs → Tp h' (N + 50) → Ge h h' → Q (.tup (qs.map fr)) h') : Wp (m__law_even [.obj 1] h) Q := by
  have two := t.two
  unfold m__law_even c__law_even
  rw [wp_def, wps_seq]
  have e1 : ent 6 [D.obj 1] = [some (.obj 1), none, none, none, none, none] := rfl
  rw [e1, q_sPat, wps_then, q_eTup, wp_bind, q_aC, wp_bind, q_frz, wp_bind, nLc_eq, wp_bind]
  refine wp_mono (ir_draw1 t (by decide) (by decide) (by omega)) fun it h1 ⟨n, n1, n2, e, t1, g1⟩ => ?_
  subst e
  show Wp (if okLen (rng 0 1 n).length = true then _ else _) _
  rw [rng_len, if_pos (okLen_of (by omega))]
  refine comp_draw (c := 1) (fun d => ∃ i, d = .int i ∧ 1 ≤ i ∧ i ≤ 5) (by omega) t1 [4] (fun j x h' t' g' hj => ?_) fun ds h2 hl hp t2 g2 => ?_
  · simp only [wipeD, eV0, eVs, bind_ok', then_ok, q_e2, q_e1, q_eC, q_aC, q_aN, q_sPar2, q_sPar3, q_sSet, q_sRet, q_eBf, q_nBf, q_eCall, q_tst, q_tru, q_ifV, q_sIf, q_eTup, q_sPass, q_sExp, q_eLm, q_nLst, q_frz, q_thaw, q_iSeq, q_iR2, q_iR3, q_iEnumD, q_iZip, q_andX, q_andT, q_orT, q_notT, q_eCh, q_sPat, q_eSl, q_nSl, q_pS, q_pN, q_sRetN, q_tYes, q_eDct0, okL0, okL1, okL2, okL3, okL4, okL5, okL6, ent, List.map_cons, List.map_nil, List.length_cons, List.length_nil, List.set_cons_zero, List.set_cons_succ, List.replicate, List.cons_append, List.nil_append, Nat.reduceAdd, Nat.reduceSub, Nat.sub_self, Nat.sub_zero, zero_add', ↓reduceIte, Bool.false_eq_true, item0, item1, addD_ii, subD_ii, negD_i, absD_i, ltD_ii, leD_ii, gtD_ii, geD_ii, truD_bl, decide_true, decide_false, wp_ok, wp_bad, wp_bind, wp_nox, wp_def, wps_then, wps_seq, wps_nx, wps_ret, wp_ite, wps_ite]
    refine draw_spec t' (sides := 5) (by decide) (by decide) (by omega) fun d h2 d0 d1 t2 g2 => ?_
    simp only [addD_ii, wp_ok]
    exact ⟨⟨_, rfl, by omega, by omega⟩, t2, g2⟩
  obtain ⟨is, rfl, his⟩ := int_list hp
  rw [List.length_map] at hl
  obtain ⟨s0, s1⟩ := sum_le his
  simp only [eV0, eVs, bind_ok', then_ok, q_e2, q_e1, q_eC, q_aC, q_aN, q_sPar2, q_sPar3, q_sSet, q_sRet, q_eBf, q_nBf, q_eCall, q_tst, q_tru, q_ifV, q_sIf, q_eTup, q_sPass, q_sExp, q_eLm, q_nLst, q_frz, q_thaw, q_iSeq, q_iR2, q_iR3, q_iEnumD, q_iZip, q_andX, q_andT, q_orT, q_notT, q_eCh, q_sPat, q_eSl, q_nSl, q_pS, q_pN, q_sRetN, q_tYes, q_eDct0, okL0, okL1, okL2, okL3, okL4, okL5, okL6, ent, List.map_cons, List.map_nil, List.length_cons, List.length_nil, List.set_cons_zero, List.set_cons_succ, List.replicate, List.cons_append, List.nil_append, Nat.reduceAdd, Nat.reduceSub, Nat.sub_self, Nat.sub_zero, zero_add', ↓reduceIte, Bool.false_eq_true, item0, item1, addD_ii, subD_ii, negD_i, absD_i, ltD_ii, leD_ii, gtD_ii, geD_ii, truD_bl, decide_true, decide_false, wp_ok, wp_bad, wp_bind, wp_nox, wp_def, wps_then, wps_seq, wps_nx, wps_ret, wp_ite, wps_ite, patD, patsD, Option.bind_some, sumD_ints]
  refine any_spec t2 (by simp) (by simp) (by omega) fun b h3 hb t3 g3 => ?_
  obtain ⟨v, rfl, v1, v2⟩ : ∃ v : Int, b = .int v ∧ -1 ≤ v ∧ v ≤ 1 := by
    simp only [List.mem_cons, List.not_mem_nil, or_false] at hb
    rcases hb with e | e | e | e <;> exact ⟨_, e, by omega, by omega⟩
  simp only [eV0, eVs, bind_ok', then_ok, q_e2, q_e1, q_eC, q_aC, q_aN, q_sPar2, q_sPar3, q_sSet, q_sRet, q_eBf, q_nBf, q_eCall, q_tst, q_tru, q_ifV, q_sIf, q_eTup, q_sPass, q_sExp, q_eLm, q_nLst, q_frz, q_thaw, q_iSeq, q_iR2, q_iR3, q_iEnumD, q_iZip, q_andX, q_andT, q_orT, q_notT, q_eCh, q_sPat, q_eSl, q_nSl, q_pS, q_pN, q_sRetN, q_tYes, q_eDct0, okL0, okL1, okL2, okL3, okL4, okL5, okL6, ent, List.map_cons, List.map_nil, List.length_cons, List.length_nil, List.set_cons_zero, List.set_cons_succ, List.replicate, List.cons_append, List.nil_append, Nat.reduceAdd, Nat.reduceSub, Nat.sub_self, Nat.sub_zero, zero_add', ↓reduceIte, Bool.false_eq_true, item0, item1, addD_ii, subD_ii, negD_i, absD_i, ltD_ii, leD_ii, gtD_ii, geD_ii, truD_bl, decide_true, decide_false, wp_ok, wp_bad, wp_bind, wp_nox, wp_def, wps_then, wps_seq, wps_nx, wps_ret, wp_ite, wps_ite]
  generalize hw : is.sum + v = w
  have w0 : -1 ≤ w ∧ w ≤ 21 := by omega
  have mx : 1 ≤ (if w > 1 then w else 1) ∧ (if w > 1 then w else 1) ≤ 21 := by split <;> omega
  have c := comp_eq (ci := iSeq (eV 1)) (p := .nm 5) (own := [5]) (ce := eCall 2 m__law_low (aC (eV 5) (aC (e2 addD (eV 5) (eBf maxD (aC (eC (.int 1)) (aC (eV 2) aN)))) aN))) (ρ := [some (.obj 1), some (.lst (is.map D.int)), some (.int w), none, none, none]) (h := h3) (xs := is.map D.int) (f := fun d => match d with
      | .int i => fr (Rat.divInt i (i + (if w > 1 then w else 1)))
      | _ => .non) (seq_lst (by simp only [eV0, eVs, bind_ok', then_ok, q_e2, q_e1, q_eC, q_aC, q_aN, q_sPar2, q_sPar3, q_sSet, q_sRet, q_eBf, q_nBf, q_eCall, q_tst, q_tru, q_ifV, q_sIf, q_eTup, q_sPass, q_sExp, q_eLm, q_nLst, q_frz, q_thaw, q_iSeq, q_iR2, q_iR3, q_iEnumD, q_iZip, q_andX, q_andT, q_orT, q_notT, q_eCh, q_sPat, q_eSl, q_nSl, q_pS, q_pN, q_sRetN, q_tYes, q_eDct0, okL0, okL1, okL2, okL3, okL4, okL5, okL6, ent, List.map_cons, List.map_nil, List.length_cons, List.length_nil, List.set_cons_zero, List.set_cons_succ, List.replicate, List.cons_append, List.nil_append, Nat.reduceAdd, Nat.reduceSub, Nat.sub_self, Nat.sub_zero, zero_add', ↓reduceIte, Bool.false_eq_true, item0, item1, addD_ii, subD_ii, negD_i, absD_i, ltD_ii, leD_ii, gtD_ii, geD_ii, truD_bl, decide_true, decide_false])) (by rw [List.length_map]; omega) fun d hd => ⟨[some (.obj 1), some (.lst (is.map D.int)), some (.int w), none, none, some d], rfl, by
        obtain ⟨i, hi, rfl⟩ := List.mem_map.mp hd
        have hi' := his i hi
        have low := low_eq i (i + (if w > 1 then w else 1)) h3 (by omega) (Nat.lt_of_lt_of_le (show (i + (if w > 1 then w else 1)).natAbs < 2 ^ 64 by omega) pow18)
        simp only [eV0, eVs, bind_ok', then_ok, q_e2, q_e1, q_eC, q_aC, q_aN, q_sPar2, q_sPar3, q_sSet, q_sRet, q_eBf, q_nBf, q_eCall, q_tst, q_tru, q_ifV, q_sIf, q_eTup, q_sPass, q_sExp, q_eLm, q_nLst, q_frz, q_thaw, q_iSeq, q_iR2, q_iR3, q_iEnumD, q_iZip, q_andX, q_andT, q_orT, q_notT, q_eCh, q_sPat, q_eSl, q_nSl, q_pS, q_pN, q_sRetN, q_tYes, q_eDct0, okL0, okL1, okL2, okL3, okL4, okL5, okL6, ent, List.map_cons, List.map_nil, List.length_cons, List.length_nil, List.set_cons_zero, List.set_cons_succ, List.replicate, List.cons_append, List.nil_append, Nat.reduceAdd, Nat.reduceSub, Nat.sub_self, Nat.sub_zero, zero_add', ↓reduceIte, Bool.false_eq_true, item0, item1, addD_ii, subD_ii, negD_i, absD_i, ltD_ii, leD_ii, gtD_ii, geD_ii, truD_bl, decide_true, decide_false, maxD_ii, low]⟩
  obtain ⟨qs, hq, sq⟩ := fr_list (ds := (is.map D.int).map fun d => match d with
      | .int i => fr (Rat.divInt i (i + (if w > 1 then w else 1)))
      | _ => .non) fun d hd => by
        obtain ⟨x, hx, rfl⟩ := List.mem_map.mp hd
        obtain ⟨i, hi, rfl⟩ := List.mem_map.mp hx
        have hi' := his i hi
        exact ⟨_, rfl, div_sh (by omega) (by omega) (by omega) (by omega)⟩
  have lq : qs.length = n := by
    have := congrArg List.length hq
    rw [List.length_map, List.length_map, List.length_map] at this
    omega
  rw [hq] at c
  simp only [c, q_sSet, q_frz, wps_then, wps_seq, wp_bind, wp_ok, wps_nx, List.set_cons_zero, List.set_cons_succ]
  rw [nLc_eq, wp_bind]
  refine wp_mono (ir_draw0 t3 (by decide) (by decide) (by omega)) fun it h4 ⟨m, m1, e, t4, g4⟩ => ?_
  subst e
  show Wp (if okLen (rng 0 1 m).length = true then _ else _) _
  rw [rng_len, if_pos (okLen_of (by omega))]
  refine comp_draw (c := 1) DSh (by omega) t4 [4] (fun j x h' t' g' hj => ?_) fun ds h5 hl' hp' t5 g5 => ?_
  · simp only [wipeD, eV0, eVs, bind_ok', then_ok, q_e2, q_e1, q_eC, q_aC, q_aN, q_sPar2, q_sPar3, q_sSet, q_sRet, q_eBf, q_nBf, q_eCall, q_tst, q_tru, q_ifV, q_sIf, q_eTup, q_sPass, q_sExp, q_eLm, q_nLst, q_frz, q_thaw, q_iSeq, q_iR2, q_iR3, q_iEnumD, q_iZip, q_andX, q_andT, q_orT, q_notT, q_eCh, q_sPat, q_eSl, q_nSl, q_pS, q_pN, q_sRetN, q_tYes, q_eDct0, okL0, okL1, okL2, okL3, okL4, okL5, okL6, ent, List.map_cons, List.map_nil, List.length_cons, List.length_nil, List.set_cons_zero, List.set_cons_succ, List.replicate, List.cons_append, List.nil_append, Nat.reduceAdd, Nat.reduceSub, Nat.sub_self, Nat.sub_zero, zero_add', ↓reduceIte, Bool.false_eq_true, item0, item1, addD_ii, subD_ii, negD_i, absD_i, ltD_ii, leD_ii, gtD_ii, geD_ii, truD_bl, decide_true, decide_false, wp_ok, wp_bad, wp_bind, wp_nox, wp_def, wps_then, wps_seq, wps_nx, wps_ret, wp_ite, wps_ite]
    refine any_spec t' (by simp) (by simp) (by omega) fun b h2 hb t2 g2 => ⟨?_, t2, g2⟩
    simp only [List.mem_cons, List.not_mem_nil, or_false] at hb
    rcases hb with e | e | e
    · rw [e]; exact one_over 8 (by decide)
    · rw [e]; exact one_over 1 (by decide)
    · rw [e]; exact ⟨1, one_sh⟩
  obtain ⟨rs, rfl, sr⟩ := fr_list hp'
  rw [List.length_map] at hl'
  have ad : addD (.lst (rs.map fr)) (.lst (qs.map fr)) h5 = .ok (.lst ((rs ++ qs).map fr)) h5 := by
    rw [List.map_append]
    exact addD_ll (by rw [List.length_map, List.length_map]; omega)
  simp only [eV0, eVs, bind_ok', then_ok, q_e2, q_e1, q_eC, q_aC, q_aN, q_sPar2, q_sPar3, q_sSet, q_sRet, q_eBf, q_nBf, q_eCall, q_tst, q_tru, q_ifV, q_sIf, q_eTup, q_sPass, q_sExp, q_eLm, q_nLst, q_frz, q_thaw, q_iSeq, q_iR2, q_iR3, q_iEnumD, q_iZip, q_andX, q_andT, q_orT, q_notT, q_eCh, q_sPat, q_eSl, q_nSl, q_pS, q_pN, q_sRetN, q_tYes, q_eDct0, okL0, okL1, okL2, okL3, okL4, okL5, okL6, ent, List.map_cons, List.map_nil, List.length_cons, List.length_nil, List.set_cons_zero, List.set_cons_succ, List.replicate, List.cons_append, List.nil_append, Nat.reduceAdd, Nat.reduceSub, Nat.sub_self, Nat.sub_zero, zero_add', ↓reduceIte, Bool.false_eq_true, item0, item1, addD_ii, subD_ii, negD_i, absD_i, ltD_ii, leD_ii, gtD_ii, geD_ii, truD_bl, decide_true, decide_false, wp_ok, wp_bad, wp_bind, wp_nox, wp_def, wps_then, wps_seq, wps_nx, wps_ret, wp_ite, wps_ite, ad, tupD_lst]
  refine k (rs ++ qs) h5 ⟨by rw [List.length_append]; omega, by rw [List.length_append]; omega, fun x hx => ?_⟩ (t5.mono (by omega)) ((((g1.trans g2).trans g3).trans g4).trans g5)
  rcases List.mem_append.mp hx with e | e
  · exact sr x e
  · exact sq x e
end Pl

/-! Plain laws, 11: draws in general; the hand. -/
namespace Pl
open Dl Sh

/-- what stood from b on stands -/
structure Gb (b : Nat) (h h' : Hs) : Prop where
  len : h.length ≤ h'.length
  keep : ∀ j, b ≤ j → j < h.length → h'[j]? = h[j]?
section
variable {b : Nat}
theorem Gb.refl {h : Hs} : Gb b h h := ⟨Nat.le_refl _, fun _ _ _ => rfl⟩
theorem Gb.trans {x y z : Hs} (p : Gb b x y) (q : Gb b y z) : Gb b x z := ⟨Nat.le_trans p.len q.len, fun j h1 h2 => (q.keep j h1 (Nat.lt_of_lt_of_le h2 p.len)).trans (p.keep j h1 h2)⟩
theorem Gb.set {h : Hs} {i : Nat} {o : DO} (hi : i < b) : Gb b h (h.set i o) := ⟨by rw [List.length_set]; exact Nat.le_refl _, fun j h1 _ => List.getElem?_set_ne (by omega)⟩
theorem Gb.app {h : Hs} {l : List DO} : Gb b h (h ++ l) := ⟨by rw [List.length_append]; omega, fun j _ h2 => List.getElem?_append_left h2⟩
theorem Gb.at {h h' : Hs} (g : Gb b h h') {j : Nat} {o : DO} (hj : b ≤ j) (e : h[j]? = some o) : h'[j]? = some o := (g.keep j hj (List.getElem?_eq_some_iff.mp e).1).trans e
theorem Gb.set' {h h' : Hs} {i : Nat} {o : DO} (g : Gb b h h') (hi : h.length ≤ i) : Gb b h (h'.set i o) := ⟨by rw [List.length_set]; exact g.len, fun j h1 h2 => by rw [List.getElem?_set_ne (by omega)]; exact g.keep j h1 h2⟩
end
/-- a way to draw: dm, with the thing o, what stands below b -/
structure Dr (dm : List D → M D) (o : D) (b : Nat) (T : Hs → Nat → Prop) : Prop where
  len : ∀ {h N}, T h N → b ≤ h.length
  app : ∀ {h N} {l : List DO}, T h N → T (h ++ l) N
  set : ∀ {h N i} {x : DO}, T h N → b ≤ i → T (h.set i x) N
  mono : ∀ {h N M}, T h N → N ≤ M → T h M
  draw : ∀ {h : Hs} {N : Nat} {sides : Int} {Q : D → Hs → Prop}, T h N → 0 < sides → sides < 18446744073709551616 → N < 1000000 → (∀ d h', 0 ≤ d → d < sides → T h' (N + 1) → Gb b h h' → Q (.int d) h') → Wp (dm [o, .int sides] h) Q
theorem tape_dr : Dr m__law_draw (.obj 1) 2 Tp := ⟨fun t => t.two, fun t => t.app, fun t l => t.set l, fun t l => t.mono l, fun t a b c k => draw_spec t a b c fun d h' p q r s => k d h' p q r ⟨s.len, s.keep⟩⟩
section
variable {dm : List D → M D} {o : D} {b : Nat} {T : Hs → Nat → Prop} (R : Dr dm o b T)
include R
theorem Dr.any {h : Hs} {N : Nat} {xs : List D} {Q : D → Hs → Prop} (t : T h N) (hx : xs ≠ []) (hl : xs.length ≤ 1000000) (hN : N < 1000000) (k : ∀ d h', d ∈ xs → T h' (N + 1) → Gb b h h' → Q d h') : Wp (mDef 2 (sRet (e2 itemD (eV 1) (eCall 2 dm (aC (eV 0) (aC (eBf lenD (aC (eV 1) aN)) aN))))) [o, .lst xs] h) Q := by
  have hp : 0 < xs.length := List.length_pos_iff.mpr hx
  simp only [eV0, eVs, bind_ok', then_ok, q_e2, q_e1, q_eC, q_aC, q_aN, q_sPar2, q_sPar3, q_sSet, q_sRet, q_eBf, q_nBf, q_eCall, q_tst, q_tru, q_ifV, q_sIf, q_eTup, q_sPass, q_sExp, q_eLm, q_nLst, q_frz, q_thaw, q_iSeq, q_iR2, q_iR3, q_iEnumD, q_iZip, q_andX, q_andT, q_orT, q_notT, q_eCh, q_sPat, q_eSl, q_nSl, q_pS, q_pN, q_sRetN, q_tYes, q_eDct0, okL0, okL1, okL2, okL3, okL4, okL5, okL6, ent, List.map_cons, List.map_nil, List.length_cons, List.length_nil, List.set_cons_zero, List.set_cons_succ, List.replicate, List.cons_append, List.nil_append, Nat.reduceAdd, Nat.reduceSub, Nat.sub_self, Nat.sub_zero, zero_add', ↓reduceIte, Bool.false_eq_true, item0, item1, addD_ii, subD_ii, negD_i, absD_i, ltD_ii, leD_ii, gtD_ii, geD_ii, truD_bl, decide_true, decide_false, wp_ok, wp_bad, wp_bind, wp_nox, wp_def, wps_then, wps_seq, wps_nx, wps_ret, wp_ite, wps_ite, lenD_lst]
  refine R.draw t (sides := xs.length) (by omega) (by omega) hN fun d h' d0 d1 t' g => ?_
  obtain ⟨i, rfl⟩ : ∃ i : Nat, d = i := ⟨d.toNat, by omega⟩
  have hi : i < xs.length := by omega
  rw [item_lst (List.getElem?_eq_getElem hi), wp_ok]
  exact k _ _ (List.getElem_mem hi) t' g
theorem Dr.anyT {h : Hs} {N : Nat} {xs : List D} {Q : D → Hs → Prop} (t : T h N) (hx : xs ≠ []) (hl : xs.length ≤ 1000000) (hN : N < 1000000) (k : ∀ d h', d ∈ xs → T h' (N + 1) → Gb b h h' → Q d h') : Wp (mDef 2 (sRet (e2 itemD (eV 1) (eCall 2 dm (aC (eV 0) (aC (eBf lenD (aC (eV 1) aN)) aN))))) [o, .tup xs] h) Q := by
  have hp : 0 < xs.length := List.length_pos_iff.mpr hx
  simp only [eV0, eVs, bind_ok', then_ok, q_e2, q_e1, q_eC, q_aC, q_aN, q_sPar2, q_sPar3, q_sSet, q_sRet, q_eBf, q_nBf, q_eCall, q_tst, q_tru, q_ifV, q_sIf, q_eTup, q_sPass, q_sExp, q_eLm, q_nLst, q_frz, q_thaw, q_iSeq, q_iR2, q_iR3, q_iEnumD, q_iZip, q_andX, q_andT, q_orT, q_notT, q_eCh, q_sPat, q_eSl, q_nSl, q_pS, q_pN, q_sRetN, q_tYes, q_eDct0, okL0, okL1, okL2, okL3, okL4, okL5, okL6, ent, List.map_cons, List.map_nil, List.length_cons, List.length_nil, List.set_cons_zero, List.set_cons_succ, List.replicate, List.cons_append, List.nil_append, Nat.reduceAdd, Nat.reduceSub, Nat.sub_self, Nat.sub_zero, zero_add', ↓reduceIte, Bool.false_eq_true, item0, item1, addD_ii, subD_ii, negD_i, absD_i, ltD_ii, leD_ii, gtD_ii, geD_ii, truD_bl, decide_true, decide_false, wp_ok, wp_bad, wp_bind, wp_nox, wp_def, wps_then, wps_seq, wps_nx, wps_ret, wp_ite, wps_ite, lenD_tup]
  refine R.draw t (sides := xs.length) (by omega) (by omega) hN fun d h' d0 d1 t' g => ?_
  obtain ⟨i, rfl⟩ : ∃ i : Nat, d = i := ⟨d.toNat, by omega⟩
  have hi : i < xs.length := by omega
  rw [item_at (List.getElem?_eq_getElem hi), wp_ok]
  exact k _ _ (List.getElem_mem hi) t' g
/-- a comprehension over things, its items drawn -/
theorem Dr.comp {p : Pat} {ce : Env → M D} {ρ : Env} {h : Hs} {N c : Nat} {xs : List D} {Q : List D → Hs → Prop} (P : D → Prop) (t : T h N)
    (step : ∀ (j : Nat) (x : D) (h' : Hs), xs[j]? = some x → T h' (N + c * j) → Gb b h h' → ∃ ρ1, patD p x ρ = some ρ1 ∧ Wp (ce ρ1 h') fun d h2 => P d ∧ T h2 (N + c * j + c) ∧ Gb b h' h2)
    (k : ∀ ds h', ds.length = xs.length → (∀ d ∈ ds, P d) → T h' (N + c * xs.length) → Gb b h h' → Q ds h') : Wp (lcF p tYes' ce [] ρ xs h) Q := by
  refine wp_lc (fun j h' => T h' (N + c * j) ∧ Gb b h h') P xs 0 h ?_ (fun _ _ => rfl) ⟨t, .refl⟩ ?_
  · rintro j x h' hx ⟨t', g'⟩
    rw [Nat.zero_add] at t' ⊢
    obtain ⟨ρ1, e, s⟩ := step j x h' hx t' g'
    refine ⟨rfl, ρ1, e, wp_mono s fun d h2 ⟨pd, t2, g2⟩ => ⟨pd, ?_, g'.trans g2⟩⟩
    rw [Nat.mul_add, Nat.mul_one, ← Nat.add_assoc]
    exact t2
  · intro ds h' hl hp ⟨t', g'⟩
    rw [Nat.zero_add] at t'
    exact k ds h' hl hp t' g'
theorem Dr.range1 {h : Hs} {N : Nat} {ce : Env → M D} {ρ : Env} {s : Int} {Q : ItD → Hs → Prop} (t : T h N) (h0 : 0 < s) (hs : s ≤ 1000) (hN : N < 1000000) (e0 : eV 0 ρ h = .ok o h) (es : ce ρ h = .ok (.int s) h) (k : ∀ (n : Nat) h', 1 ≤ n → (n : Int) ≤ s → T h' (N + 1) → Gb b h h' → Q ⟨rng 0 1 n, []⟩ h') : Wp (iR1 (aC (e2 addD (eC (.int 1)) (eCall 2 dm (aC (eV 0) (aC ce aN)))) aN) ρ h) Q := by
  rw [q_iR1]
  simp only [eV0, eVs, bind_ok', then_ok, q_e2, q_e1, q_eC, q_aC, q_aN, q_sPar2, q_sPar3, q_sSet, q_sRet, q_eBf, q_nBf, q_eCall, q_tst, q_tru, q_ifV, q_sIf, q_eTup, q_sPass, q_sExp, q_eLm, q_nLst, q_frz, q_thaw, q_iSeq, q_iR2, q_iR3, q_iEnumD, q_iZip, q_andX, q_andT, q_orT, q_notT, q_eCh, q_sPat, q_eSl, q_nSl, q_pS, q_pN, q_sRetN, q_tYes, q_eDct0, okL0, okL1, okL2, okL3, okL4, okL5, okL6, ent, List.map_cons, List.map_nil, List.length_cons, List.length_nil, List.set_cons_zero, List.set_cons_succ, List.replicate, List.cons_append, List.nil_append, Nat.reduceAdd, Nat.reduceSub, Nat.sub_self, Nat.sub_zero, zero_add', ↓reduceIte, Bool.false_eq_true, item0, item1, addD_ii, subD_ii, negD_i, absD_i, ltD_ii, leD_ii, gtD_ii, geD_ii, truD_bl, decide_true, decide_false, wp_ok, wp_bad, wp_bind, wp_nox, wp_def, wps_then, wps_seq, wps_nx, wps_ret, wp_ite, wps_ite, e0, es]
  refine R.draw t h0 (by omega) hN fun d h1 d0 d1 t1 g1 => ?_
  simp only [addD_ii, wp_ok]
  rw [if_pos (okI_of (by omega) (by omega))]
  exact k (1 + d).toNat h1 (by omega) (by omega) t1 g1
end
/-! ### the hand -/
/-- the hand stands at 0; N bounds the draws so far -/
structure Hd (h : Hs) (N : Nat) : Prop where
  ex : ∃ (cs : List Int) (p : Nat) (z s n : Int), h[0]? = some (.lst [.lst (cs.map D.int), .int p, .int z, .int s, .int n]) ∧ (∀ c ∈ cs, 0 ≤ c ∧ PySem.Builtin.Int.intBits c ≤ 1048576) ∧ 0 ≤ z ∧ 0 ≤ s ∧ s < 4294967296 ∧ 0 ≤ n ∧ n ≤ N
theorem Hd.one {h : Hs} {N : Nat} (t : Hd h N) : 1 ≤ h.length := by
  obtain ⟨cs, p, z, s, n, h1, _⟩ := t.ex
  exact (List.getElem?_eq_some_iff.mp h1).1
/-- a draw from the hand, its number put on by e3 -/
def cHand (e3 : Env → M D) : SM := sSeq (sIf (andT (tst (e2 eqD (e2 itemD (eV 0) (eC (.int 2))) (eC (.int 0)))) (tst (e2 ltD (e2 itemD (eV 0) (eC (.int 1))) (eBf lenD (aC (e2 itemD (eV 0) (eC (.int 0))) aN))))) (sSeq (sSet 2 (e2 itemD (e2 itemD (eV 0) (eC (.int 0))) (e2 itemD (eV 0) (eC (.int 1))))) (sSeq (sStore (e2 addD (e2 itemD (eV 0) (eC (.int 1))) (eC (.int 1))) (eV 0) (eC (.int 1))) (sSeq (sStore (e2 modD (eBf intD (aC e3 aN)) (eC (.int 2147483629))) (eV 0) (eC (.int 3))) (sIf (tst (e2 geD (eV 2) (e2 powD (eC (.int 10)) (eC (.int 18))))) (sStore (eV 2) (eV 0) (eC (.int 2))) (sPass))))) (sPass)) (sSeq (sIf (tst (e2 gtD (e2 itemD (eV 0) (eC (.int 2))) (eC (.int 0)))) (sSeq (sSet 3 (e2 modD (eBf intD (aC (e2 itemD (eV 0) (eC (.int 2))) aN)) (eV 1))) (sSeq (sStore (e2 divD (e2 itemD (eV 0) (eC (.int 2))) (eV 1)) (eV 0) (eC (.int 2))) (sRet (eV 3)))) (sPass)) (sSeq (sStore (e2 addD (e2 itemD (eV 0) (eC (.int 4))) (eC (.int 1))) (eV 0) (eC (.int 4))) (sSeq (sSet 4 (e2 modD (eBf intD (aC (e2 mulD (eBf intD (aC (e2 addD (e2 itemD (eV 0) (eC (.int 3))) (e2 mulD (eC (.int 7919)) (e2 itemD (eV 0) (eC (.int 4))))) aN)) (eC (.int 48271))) aN)) (eC (.int 2147483647)))) (sSeq (sSet 4 (e2 modD (eBf intD (aC (e2 mulD (eV 4) (e2 addD (e2 divD (eV 4) (eC (.int 1009))) (eC (.int 69621)))) aN)) (eC (.int 2147483647)))) (sSeq (sSet 4 (e2 modD (eBf intD (aC (e2 mulD (eV 4) (e2 addD (e2 divD (eV 4) (eC (.int 2003))) (eC (.int 40692)))) aN)) (eC (.int 2147483399)))) (sRet (e2 modD (eBf intD (aC (e2 divD (eV 4) (eC (.int 16))) aN)) (eV 1))))))))
theorem hand_draw {e3 : Env → M D} (he : ∀ (h : Hs) (l z n : D) (p s c : Int) (a b d : Option D), h[0]? = some (.lst [l, .int p, z, .int s, n]) → 0 ≤ s → s < 4294967296 → 0 ≤ c → PySem.Builtin.Int.intBits c ≤ 1048576 → ∃ v, e3 [some (.obj 0), a, some (.int c), b, d] h = .ok (.int v) h) {h : Hs} {N : Nat} {sides : Int} {Q : D → Hs → Prop} (t : Hd h N) (h0 : 0 < sides) (hs : sides < 18446744073709551616) (hN : N < 1000000) (k : ∀ d h', 0 ≤ d → d < sides → Hd h' (N + 1) → Gb 1 h h' → Q (.int d) h') : Wp (mDef 5 (cHand e3) [.obj 0, .int sides] h) Q := by
  have one := t.one
  have e1 : ent 5 [D.obj 0, .int sides] = [some (.obj 0), some (.int sides), none, none, none] := rfl
  -- the end, no cell to be used up
  have last : ∀ (g : Hs) (cs : List Int) (p : Nat) (z s n : Int) (a2 a3 : Option D), g[0]? = some (.lst [.lst (cs.map D.int), .int p, .int z, .int s, .int n]) → (∀ c ∈ cs, 0 ≤ c ∧ PySem.Builtin.Int.intBits c ≤ 1048576) → 0 ≤ z → 0 ≤ s → s < 4294967296 → 0 ≤ n → n ≤ N → Gb 1 h g →
      WpS (sSeq (sIf (tst (e2 gtD (e2 itemD (eV 0) (eC (.int 2))) (eC (.int 0)))) (sSeq (sSet 3 (e2 modD (eBf intD (aC (e2 itemD (eV 0) (eC (.int 2))) aN)) (eV 1))) (sSeq (sStore (e2 divD (e2 itemD (eV 0) (eC (.int 2))) (eV 1)) (eV 0) (eC (.int 2))) (sRet (eV 3)))) (sPass)) (sSeq (sStore (e2 addD (e2 itemD (eV 0) (eC (.int 4))) (eC (.int 1))) (eV 0) (eC (.int 4))) (sSeq (sSet 4 (e2 modD (eBf intD (aC (e2 mulD (eBf intD (aC (e2 addD (e2 itemD (eV 0) (eC (.int 3))) (e2 mulD (eC (.int 7919)) (e2 itemD (eV 0) (eC (.int 4))))) aN)) (eC (.int 48271))) aN)) (eC (.int 2147483647)))) (sSeq (sSet 4 (e2 modD (eBf intD (aC (e2 mulD (eV 4) (e2 addD (e2 divD (eV 4) (eC (.int 1009))) (eC (.int 69621)))) aN)) (eC (.int 2147483647)))) (sSeq (sSet 4 (e2 modD (eBf intD (aC (e2 mulD (eV 4) (e2 addD (e2 divD (eV 4) (eC (.int 2003))) (eC (.int 40692)))) aN)) (eC (.int 2147483399)))) (sRet (e2 modD (eBf intD (aC (e2 divD (eV 4) (eC (.int 16))) aN)) (eV 1))))))) [some (.obj 0), some (.int sides), a2, a3, none] g) (fun _ h => Q .non h) Q := by
    intro g cs p z s n a2 a3 g0 hc z0 s0 s1 n0 n1 gg
    have lg : 0 < g.length := (List.getElem?_eq_some_iff.mp g0).1
    have i2 : itemD (.obj 0) (.int 2) g = .ok (.int z) g := item_obj (i := 2) g0 rfl
    simp only [eV0, eVs, bind_ok', then_ok, q_e2, q_e1, q_eC, q_aC, q_aN, q_sPar2, q_sPar3, q_sSet, q_sRet, q_eBf, q_nBf, q_eCall, q_tst, q_tru, q_ifV, q_sIf, q_eTup, q_sPass, q_sExp, q_eLm, q_nLst, q_frz, q_thaw, q_iSeq, q_iR2, q_iR3, q_iEnumD, q_iZip, q_andX, q_andT, q_orT, q_notT, q_eCh, q_sPat, q_eSl, q_nSl, q_pS, q_pN, q_sRetN, q_tYes, q_eDct0, okL0, okL1, okL2, okL3, okL4, okL5, okL6, ent, List.map_cons, List.map_nil, List.length_cons, List.length_nil, List.set_cons_zero, List.set_cons_succ, List.replicate, List.cons_append, List.nil_append, Nat.reduceAdd, Nat.reduceSub, Nat.sub_self, Nat.sub_zero, zero_add', ↓reduceIte, Bool.false_eq_true, item0, item1, addD_ii, subD_ii, negD_i, absD_i, ltD_ii, leD_ii, gtD_ii, geD_ii, truD_bl, decide_true, decide_false, wp_ok, wp_bad, wp_bind, wp_nox, wp_def, wps_then, wps_seq, wps_nx, wps_ret, wp_ite, wps_ite, i2]
    by_cases zp : 0 < z
    · have st : setItemD (.obj 0) (.int 2) (.int (z / sides)) g = some (g.set 0 (.lst [.lst (cs.map D.int), .int p, .int (z / sides), .int s, .int n])) := set_obj (i := 2) g0 (by simp)
      simp only [decide_eq_true zp, eV0, eVs, bind_ok', then_ok, q_e2, q_e1, q_eC, q_aC, q_aN, q_sPar2, q_sPar3, q_sSet, q_sRet, q_eBf, q_nBf, q_eCall, q_tst, q_tru, q_ifV, q_sIf, q_eTup, q_sPass, q_sExp, q_eLm, q_nLst, q_frz, q_thaw, q_iSeq, q_iR2, q_iR3, q_iEnumD, q_iZip, q_andX, q_andT, q_orT, q_notT, q_eCh, q_sPat, q_eSl, q_nSl, q_pS, q_pN, q_sRetN, q_tYes, q_eDct0, okL0, okL1, okL2, okL3, okL4, okL5, okL6, ent, List.map_cons, List.map_nil, List.length_cons, List.length_nil, List.set_cons_zero, List.set_cons_succ, List.replicate, List.cons_append, List.nil_append, Nat.reduceAdd, Nat.reduceSub, Nat.sub_self, Nat.sub_zero, zero_add', ↓reduceIte, Bool.false_eq_true, item0, item1, addD_ii, subD_ii, negD_i, absD_i, ltD_ii, leD_ii, gtD_ii, geD_ii, truD_bl, decide_true, decide_false, wp_ok, wp_bad, wp_bind, wp_nox, wp_def, wps_then, wps_seq, wps_nx, wps_ret, wp_ite, wps_ite, wps_store, i2, intD_i, modD_ii h0, divD_ii (okDiv_small (i := z) h0 (by omega)), st]
      refine k _ _ (Int.emod_nonneg _ (by omega)) (Int.emod_lt_of_pos _ h0) ⟨cs, p, z / sides, s, n, List.getElem?_set_self lg, hc, Int.ediv_nonneg z0 (by omega), s0, s1, n0, by omega⟩ (gg.trans (.set (by decide)))
    · have i4 : itemD (.obj 0) (.int 4) g = .ok (.int n) g := item_obj (i := 4) g0 rfl
      have st : setItemD (.obj 0) (.int 4) (.int (n + 1)) g = some (g.set 0 (.lst [.lst (cs.map D.int), .int p, .int z, .int s, .int (n + 1)])) := set_obj (i := 4) g0 (by simp)
      simp only [decide_eq_false zp, eV0, eVs, bind_ok', then_ok, q_e2, q_e1, q_eC, q_aC, q_aN, q_sPar2, q_sPar3, q_sSet, q_sRet, q_eBf, q_nBf, q_eCall, q_tst, q_tru, q_ifV, q_sIf, q_eTup, q_sPass, q_sExp, q_eLm, q_nLst, q_frz, q_thaw, q_iSeq, q_iR2, q_iR3, q_iEnumD, q_iZip, q_andX, q_andT, q_orT, q_notT, q_eCh, q_sPat, q_eSl, q_nSl, q_pS, q_pN, q_sRetN, q_tYes, q_eDct0, okL0, okL1, okL2, okL3, okL4, okL5, okL6, ent, List.map_cons, List.map_nil, List.length_cons, List.length_nil, List.set_cons_zero, List.set_cons_succ, List.replicate, List.cons_append, List.nil_append, Nat.reduceAdd, Nat.reduceSub, Nat.sub_self, Nat.sub_zero, zero_add', ↓reduceIte, Bool.false_eq_true, item0, item1, addD_ii, subD_ii, negD_i, absD_i, ltD_ii, leD_ii, gtD_ii, geD_ii, truD_bl, decide_true, decide_false, wp_ok, wp_bad, wp_bind, wp_nox, wp_def, wps_then, wps_seq, wps_nx, wps_ret, wp_ite, wps_ite, wps_store, sPass, i4, st]
      have f0 : (g.set 0 (.lst [.lst (cs.map D.int), .int p, .int z, .int s, .int (n + 1)]))[0]? = some (.lst [.lst (cs.map D.int), .int p, .int z, .int s, .int (n + 1)]) := List.getElem?_set_self lg
      have ff : Gb 1 h (g.set 0 (.lst [.lst (cs.map D.int), .int p, .int z, .int s, .int (n + 1)])) := gg.trans (.set (by decide))
      generalize g.set 0 (.lst [.lst (cs.map D.int), .int p, .int z, .int s, .int (n + 1)]) = f at f0 ff ⊢
      have j3 : itemD (.obj 0) (.int 3) f = .ok (.int s) f := item_obj (i := 3) f0 rfl
      have j4 : itemD (.obj 0) (.int 4) f = .ok (.int (n + 1)) f := item_obj (i := 4) f0 rfl
      have m1 : okMul 7919 (n + 1) = true := okMul_small (by decide +kernel) (small_lt (by omega))
      have m2 : okMul (s + 7919 * (n + 1)) 48271 = true := okMul_small (small_lt (by omega)) (by decide +kernel)
      have b0 := Int.emod_nonneg ((s + 7919 * (n + 1)) * 48271) (show (2147483647 : Int) ≠ 0 by decide)
      have b1 := Int.emod_lt_of_pos ((s + 7919 * (n + 1)) * 48271) (show (0 : Int) < 2147483647 by decide)
      simp only [eV0, eVs, bind_ok', then_ok, q_e2, q_e1, q_eC, q_aC, q_aN, q_sPar2, q_sPar3, q_sSet, q_sRet, q_eBf, q_nBf, q_eCall, q_tst, q_tru, q_ifV, q_sIf, q_eTup, q_sPass, q_sExp, q_eLm, q_nLst, q_frz, q_thaw, q_iSeq, q_iR2, q_iR3, q_iEnumD, q_iZip, q_andX, q_andT, q_orT, q_notT, q_eCh, q_sPat, q_eSl, q_nSl, q_pS, q_pN, q_sRetN, q_tYes, q_eDct0, okL0, okL1, okL2, okL3, okL4, okL5, okL6, ent, List.map_cons, List.map_nil, List.length_cons, List.length_nil, List.set_cons_zero, List.set_cons_succ, List.replicate, List.cons_append, List.nil_append, Nat.reduceAdd, Nat.reduceSub, Nat.sub_self, Nat.sub_zero, zero_add', ↓reduceIte, Bool.false_eq_true, item0, item1, addD_ii, subD_ii, negD_i, absD_i, ltD_ii, leD_ii, gtD_ii, geD_ii, truD_bl, decide_true, decide_false, wp_ok, wp_bad, wp_bind, wp_nox, wp_def, wps_then, wps_seq, wps_nx, wps_ret, wp_ite, wps_ite, j3, j4, mulD_ii m1, mulD_ii m2, intD_i, modD_ii (show (0 : Int) < 2147483647 by decide)]
      generalize (s + 7919 * (n + 1)) * 48271 % 2147483647 = x at b0 b1 ⊢
      obtain ⟨m3, _⟩ := mixed_le b0 b1
      have c0 := Int.emod_nonneg (x * (x / 1009 + 69621)) (show (2147483647 : Int) ≠ 0 by decide)
      have c1 := Int.emod_lt_of_pos (x * (x / 1009 + 69621)) (show (0 : Int) < 2147483647 by decide)
      simp only [eV0, eVs, bind_ok', then_ok, q_e2, q_e1, q_eC, q_aC, q_aN, q_sPar2, q_sPar3, q_sSet, q_sRet, q_eBf, q_nBf, q_eCall, q_tst, q_tru, q_ifV, q_sIf, q_eTup, q_sPass, q_sExp, q_eLm, q_nLst, q_frz, q_thaw, q_iSeq, q_iR2, q_iR3, q_iEnumD, q_iZip, q_andX, q_andT, q_orT, q_notT, q_eCh, q_sPat, q_eSl, q_nSl, q_pS, q_pN, q_sRetN, q_tYes, q_eDct0, okL0, okL1, okL2, okL3, okL4, okL5, okL6, ent, List.map_cons, List.map_nil, List.length_cons, List.length_nil, List.set_cons_zero, List.set_cons_succ, List.replicate, List.cons_append, List.nil_append, Nat.reduceAdd, Nat.reduceSub, Nat.sub_self, Nat.sub_zero, zero_add', ↓reduceIte, Bool.false_eq_true, item0, item1, addD_ii, subD_ii, negD_i, absD_i, ltD_ii, leD_ii, gtD_ii, geD_ii, truD_bl, decide_true, decide_false, wp_ok, wp_bad, wp_bind, wp_nox, wp_def, wps_then, wps_seq, wps_nx, wps_ret, wp_ite, wps_ite, divD_ii (okDiv_small (i := x) (j := 1009) (by decide) (by decide)), mulD_ii m3, intD_i, modD_ii (show (0 : Int) < 2147483647 by decide)]
      generalize x * (x / 1009 + 69621) % 2147483647 = y at c0 c1 ⊢
      obtain ⟨_, m4⟩ := mixed_le c0 c1
      simp only [eV0, eVs, bind_ok', then_ok, q_e2, q_e1, q_eC, q_aC, q_aN, q_sPar2, q_sPar3, q_sSet, q_sRet, q_eBf, q_nBf, q_eCall, q_tst, q_tru, q_ifV, q_sIf, q_eTup, q_sPass, q_sExp, q_eLm, q_nLst, q_frz, q_thaw, q_iSeq, q_iR2, q_iR3, q_iEnumD, q_iZip, q_andX, q_andT, q_orT, q_notT, q_eCh, q_sPat, q_eSl, q_nSl, q_pS, q_pN, q_sRetN, q_tYes, q_eDct0, okL0, okL1, okL2, okL3, okL4, okL5, okL6, ent, List.map_cons, List.map_nil, List.length_cons, List.length_nil, List.set_cons_zero, List.set_cons_succ, List.replicate, List.cons_append, List.nil_append, Nat.reduceAdd, Nat.reduceSub, Nat.sub_self, Nat.sub_zero, zero_add', ↓reduceIte, Bool.false_eq_true, item0, item1, addD_ii, subD_ii, negD_i, absD_i, ltD_ii, leD_ii, gtD_ii, geD_ii, truD_bl, decide_true, decide_false, wp_ok, wp_bad, wp_bind, wp_nox, wp_def, wps_then, wps_seq, wps_nx, wps_ret, wp_ite, wps_ite, divD_ii (okDiv_small (i := y) (j := 2003) (by decide) (by decide)), mulD_ii m4, intD_i, modD_ii (show (0 : Int) < 2147483399 by decide)]
      generalize y * (y / 2003 + 40692) % 2147483399 = u
      simp only [eV0, eVs, bind_ok', then_ok, q_e2, q_e1, q_eC, q_aC, q_aN, q_sPar2, q_sPar3, q_sSet, q_sRet, q_eBf, q_nBf, q_eCall, q_tst, q_tru, q_ifV, q_sIf, q_eTup, q_sPass, q_sExp, q_eLm, q_nLst, q_frz, q_thaw, q_iSeq, q_iR2, q_iR3, q_iEnumD, q_iZip, q_andX, q_andT, q_orT, q_notT, q_eCh, q_sPat, q_eSl, q_nSl, q_pS, q_pN, q_sRetN, q_tYes, q_eDct0, okL0, okL1, okL2, okL3, okL4, okL5, okL6, ent, List.map_cons, List.map_nil, List.length_cons, List.length_nil, List.set_cons_zero, List.set_cons_succ, List.replicate, List.cons_append, List.nil_append, Nat.reduceAdd, Nat.reduceSub, Nat.sub_self, Nat.sub_zero, zero_add', ↓reduceIte, Bool.false_eq_true, item0, item1, addD_ii, subD_ii, negD_i, absD_i, ltD_ii, leD_ii, gtD_ii, geD_ii, truD_bl, decide_true, decide_false, wp_ok, wp_bad, wp_bind, wp_nox, wp_def, wps_then, wps_seq, wps_nx, wps_ret, wp_ite, wps_ite, divD_ii (okDiv_small (i := u) (j := 16) (by decide) (by decide)), intD_i, modD_ii h0]
      exact k _ _ (Int.emod_nonneg _ (by omega)) (Int.emod_lt_of_pos _ h0) ⟨cs, p, z, s, n + 1, f0, hc, z0, s0, s1, by omega, by omega⟩ ff
  obtain ⟨cs, p, z, s, n, g0, hc, z0, s0, s1, n0, n1⟩ := t.ex
  have i0 : itemD (.obj 0) (.int 0) h = .ok (.lst (cs.map D.int)) h := item_obj (i := 0) g0 rfl
  have i1 : itemD (.obj 0) (.int 1) h = .ok (.int p) h := item_obj (i := 1) g0 rfl
  have i2 : itemD (.obj 0) (.int 2) h = .ok (.int z) h := item_obj (i := 2) g0 rfl
  rw [wp_def, e1]
  unfold cHand
  rw [wps_seq]
  refine wps_mono (N := fun ρ g => ∃ (cs : List Int) (p : Nat) (z s n : Int) (a2 : Option D), ρ = [some (.obj 0), some (.int sides), a2, none, none] ∧ g[0]? = some (.lst [.lst (cs.map D.int), .int p, .int z, .int s, .int n]) ∧ (∀ c ∈ cs, 0 ≤ c ∧ PySem.Builtin.Int.intBits c ≤ 1048576) ∧ 0 ≤ z ∧ 0 ≤ s ∧ s < 4294967296 ∧ 0 ≤ n ∧ n ≤ N ∧ Gb 1 h g) (T := fun d h => Q d h) ?_ (fun ρ g ⟨cs, p, z, s, n, a2, e, g0, r1, r2, r3, r4, r5, r6, r7⟩ => by rw [e]; exact last g cs p z s n a2 none g0 r1 r2 r3 r4 r5 r6 r7) (fun _ _ q => q)
  rw [q_sIf, wps_then, q_andT]
  simp only [eV0, eVs, bind_ok', then_ok, q_e2, q_e1, q_eC, q_aC, q_aN, q_sPar2, q_sPar3, q_sSet, q_sRet, q_eBf, q_nBf, q_eCall, q_tst, q_tru, q_ifV, q_sIf, q_eTup, q_sPass, q_sExp, q_eLm, q_nLst, q_frz, q_thaw, q_iSeq, q_iR2, q_iR3, q_iEnumD, q_iZip, q_andX, q_andT, q_orT, q_notT, q_eCh, q_sPat, q_eSl, q_nSl, q_pS, q_pN, q_sRetN, q_tYes, q_eDct0, okL0, okL1, okL2, okL3, okL4, okL5, okL6, ent, List.map_cons, List.map_nil, List.length_cons, List.length_nil, List.set_cons_zero, List.set_cons_succ, List.replicate, List.cons_append, List.nil_append, Nat.reduceAdd, Nat.reduceSub, Nat.sub_self, Nat.sub_zero, zero_add', ↓reduceIte, Bool.false_eq_true, item0, item1, addD_ii, subD_ii, negD_i, absD_i, ltD_ii, leD_ii, gtD_ii, geD_ii, truD_bl, decide_true, decide_false, wp_ok, wp_bad, wp_bind, wp_nox, wp_def, wps_then, wps_seq, wps_nx, wps_ret, wp_ite, wps_ite, i0, i1, i2, eqD_ii, lenD_lst, List.length_map]
  by_cases zz : z = 0
  · simp only [decide_eq_true zz, ↓reduceIte, wp_ok]
    by_cases pl : (p : Int) < cs.length
    · have pn : p < cs.length := by omega
      obtain ⟨c0, cb⟩ := hc _ (List.getElem_mem pn)
      have ic : itemD (.lst (cs.map D.int)) (.int p) h = .ok (.int cs[p]) h := item_lst (by rw [List.getElem?_map, List.getElem?_eq_getElem pn]; rfl)
      generalize cs[p] = c at c0 cb ic
      have st1 : setItemD (.obj 0) (.int 1) (.int ((p : Int) + 1)) h = some (h.set 0 (.lst [.lst (cs.map D.int), .int ((p + 1 : Nat) : Int), .int z, .int s, .int n])) := by
        have := set_obj (i := 1) (v := .int ((p : Int) + 1)) g0 (by simp)
        simpa using this
      simp only [decide_eq_true pl, ↓reduceIte, wps_store, eV0, eVs, bind_ok', then_ok, q_e2, q_e1, q_eC, q_aC, q_aN, q_sPar2, q_sPar3, q_sSet, q_sRet, q_eBf, q_nBf, q_eCall, q_tst, q_tru, q_ifV, q_sIf, q_eTup, q_sPass, q_sExp, q_eLm, q_nLst, q_frz, q_thaw, q_iSeq, q_iR2, q_iR3, q_iEnumD, q_iZip, q_andX, q_andT, q_orT, q_notT, q_eCh, q_sPat, q_eSl, q_nSl, q_pS, q_pN, q_sRetN, q_tYes, q_eDct0, okL0, okL1, okL2, okL3, okL4, okL5, okL6, ent, List.map_cons, List.map_nil, List.length_cons, List.length_nil, List.set_cons_zero, List.set_cons_succ, List.replicate, List.cons_append, List.nil_append, Nat.reduceAdd, Nat.reduceSub, Nat.sub_self, Nat.sub_zero, zero_add', ↓reduceIte, Bool.false_eq_true, item0, item1, addD_ii, subD_ii, negD_i, absD_i, ltD_ii, leD_ii, gtD_ii, geD_ii, truD_bl, decide_true, decide_false, wp_ok, wp_bad, wp_bind, wp_nox, wp_def, wps_then, wps_seq, wps_nx, wps_ret, wp_ite, wps_ite, i0, i1, ic, st1]
      have f0 : (h.set 0 (.lst [.lst (cs.map D.int), .int ((p + 1 : Nat) : Int), .int z, .int s, .int n]))[0]? = some (.lst [.lst (cs.map D.int), .int ((p + 1 : Nat) : Int), .int z, .int s, .int n]) := List.getElem?_set_self (by omega)
      have ff : Gb 1 h (h.set 0 (.lst [.lst (cs.map D.int), .int ((p + 1 : Nat) : Int), .int z, .int s, .int n])) := .set (by decide)
      generalize h.set 0 (.lst [.lst (cs.map D.int), .int ((p + 1 : Nat) : Int), .int z, .int s, .int n]) = f at f0 ff ⊢
      obtain ⟨v, hv⟩ := he f _ _ _ _ s c (some (.int sides)) none none f0 s0 s1 c0 cb
      have v0 := Int.emod_nonneg v (show (2147483629 : Int) ≠ 0 by decide)
      have v1 := Int.emod_lt_of_pos v (show (0 : Int) < 2147483629 by decide)
      have lf : 0 < f.length := (List.getElem?_eq_some_iff.mp f0).1
      have st2 : setItemD (.obj 0) (.int 3) (.int (v % 2147483629)) f = some (f.set 0 (.lst [.lst (cs.map D.int), .int ((p + 1 : Nat) : Int), .int z, .int (v % 2147483629), .int n])) := set_obj (i := 3) f0 (by simp)
      simp only [hv, bind_ok', wp_ok, intD_i, modD_ii (show (0 : Int) < 2147483629 by decide), st2, wps_nx]
      generalize v % 2147483629 = s' at v0 v1 st2 ⊢
      have e0 : (f.set 0 (.lst [.lst (cs.map D.int), .int ((p + 1 : Nat) : Int), .int z, .int s', .int n]))[0]? = some (.lst [.lst (cs.map D.int), .int ((p + 1 : Nat) : Int), .int z, .int s', .int n]) := List.getElem?_set_self lf
      have ee : Gb 1 h (f.set 0 (.lst [.lst (cs.map D.int), .int ((p + 1 : Nat) : Int), .int z, .int s', .int n])) := ff.trans (.set (by decide))
      generalize f.set 0 (.lst [.lst (cs.map D.int), .int ((p + 1 : Nat) : Int), .int z, .int s', .int n]) = e at e0 ee ⊢
      have le : 0 < e.length := (List.getElem?_eq_some_iff.mp e0).1
      by_cases big : (1000000000000000000 : Int) ≤ c
      · have st3 : setItemD (.obj 0) (.int 2) (.int c) e = some (e.set 0 (.lst [.lst (cs.map D.int), .int ((p + 1 : Nat) : Int), .int c, .int s', .int n])) := set_obj (i := 2) e0 (by simp)
        simp only [pow_1018, wps_store, eV0, eVs, bind_ok', then_ok, q_e2, q_e1, q_eC, q_aC, q_aN, q_sPar2, q_sPar3, q_sSet, q_sRet, q_eBf, q_nBf, q_eCall, q_tst, q_tru, q_ifV, q_sIf, q_eTup, q_sPass, q_sExp, q_eLm, q_nLst, q_frz, q_thaw, q_iSeq, q_iR2, q_iR3, q_iEnumD, q_iZip, q_andX, q_andT, q_orT, q_notT, q_eCh, q_sPat, q_eSl, q_nSl, q_pS, q_pN, q_sRetN, q_tYes, q_eDct0, okL0, okL1, okL2, okL3, okL4, okL5, okL6, ent, List.map_cons, List.map_nil, List.length_cons, List.length_nil, List.set_cons_zero, List.set_cons_succ, List.replicate, List.cons_append, List.nil_append, Nat.reduceAdd, Nat.reduceSub, Nat.sub_self, Nat.sub_zero, zero_add', ↓reduceIte, Bool.false_eq_true, item0, item1, addD_ii, subD_ii, negD_i, absD_i, ltD_ii, leD_ii, gtD_ii, geD_ii, truD_bl, decide_true, decide_false, wp_ok, wp_bad, wp_bind, wp_nox, wp_def, wps_then, wps_seq, wps_nx, wps_ret, wp_ite, wps_ite, decide_eq_true big, st3]
        exact ⟨cs, p + 1, c, s', n, _, rfl, List.getElem?_set_self le, hc, c0, v0, by omega, n0, n1, ee.trans (.set (by decide))⟩
      · simp only [pow_1018, wps_store, eV0, eVs, bind_ok', then_ok, q_e2, q_e1, q_eC, q_aC, q_aN, q_sPar2, q_sPar3, q_sSet, q_sRet, q_eBf, q_nBf, q_eCall, q_tst, q_tru, q_ifV, q_sIf, q_eTup, q_sPass, q_sExp, q_eLm, q_nLst, q_frz, q_thaw, q_iSeq, q_iR2, q_iR3, q_iEnumD, q_iZip, q_andX, q_andT, q_orT, q_notT, q_eCh, q_sPat, q_eSl, q_nSl, q_pS, q_pN, q_sRetN, q_tYes, q_eDct0, okL0, okL1, okL2, okL3, okL4, okL5, okL6, ent, List.map_cons, List.map_nil, List.length_cons, List.length_nil, List.set_cons_zero, List.set_cons_succ, List.replicate, List.cons_append, List.nil_append, Nat.reduceAdd, Nat.reduceSub, Nat.sub_self, Nat.sub_zero, zero_add', ↓reduceIte, Bool.false_eq_true, item0, item1, addD_ii, subD_ii, negD_i, absD_i, ltD_ii, leD_ii, gtD_ii, geD_ii, truD_bl, decide_true, decide_false, wp_ok, wp_bad, wp_bind, wp_nox, wp_def, wps_then, wps_seq, wps_nx, wps_ret, wp_ite, wps_ite, decide_eq_false big, sPass]
        exact ⟨cs, p + 1, z, s', n, _, rfl, e0, hc, z0, v0, by omega, n0, n1, ee⟩
    · simp only [decide_eq_false pl, Bool.false_eq_true, ↓reduceIte, sPass, wps_nx]
      exact ⟨cs, p, z, s, n, _, rfl, g0, hc, z0, s0, s1, n0, n1, .refl⟩
  · simp only [decide_eq_false zz, Bool.false_eq_true, ↓reduceIte, sPass, wps_nx, wp_ok]
    exact ⟨cs, p, z, s, n, _, rfl, g0, hc, z0, s0, s1, n0, n1, .refl⟩
theorem hand_dr {e3 : Env → M D} (he : ∀ (h : Hs) (l z n : D) (p s c : Int) (a b d : Option D), h[0]? = some (.lst [l, .int p, z, .int s, n]) → 0 ≤ s → s < 4294967296 → 0 ≤ c → PySem.Builtin.Int.intBits c ≤ 1048576 → ∃ v, e3 [some (.obj 0), a, some (.int c), b, d] h = .ok (.int v) h) : Dr (mDef 5 (cHand e3)) (.obj 0) 1 Hd where
  len := fun t => t.one
  app := fun {h N l} t => by
    obtain ⟨cs, p, z, s, n, g0, r⟩ := t.ex
    exact ⟨cs, p, z, s, n, by rw [List.getElem?_append_left t.one]; exact g0, r⟩
  set := fun {h N i x} t hi => by
    obtain ⟨cs, p, z, s, n, g0, r⟩ := t.ex
    exact ⟨cs, p, z, s, n, by rw [List.getElem?_set_ne (by omega)]; exact g0, r⟩
  mono := fun {h N M} t l => by
    obtain ⟨cs, p, z, s, n, g0, r1, r2, r3, r4, r5, r6⟩ := t.ex
    exact ⟨cs, p, z, s, n, g0, r1, r2, r3, r4, r5, by omega⟩
  draw := fun t a b c k => hand_draw he t a b c k
end Pl

/-! Plain laws, 12: products of fractions; what is left when none is good; the shares of the last good ones. -/
namespace Pl
open Dl Sh

section
variable {p q : Rat} {a b : Nat} (hp : Sz a p) (hq : Sz b q) (hab : a + b ≤ 8000)
include hp hq hab
theorem product_eq (h : Hs) : m_product [fr p, fr q] h = .ok (fr (p * q)) h := by
  refine mdef_ret (h' := h) ?_
  unfold c_product
  have nn : okMul p.num q.num = true := okMul_of hp.1 hq.1 (by omega)
  simp only [eV0, eVs, bind_ok', then_ok, q_e2, q_e1, q_eC, q_aC, q_aN, q_sPar2, q_sPar3, q_sSet, q_sRet, q_eBf, q_nBf, q_eCall, q_tst, q_tru, q_ifV, q_sIf, q_eTup, q_sPass, q_sExp, q_eLm, q_nLst, q_frz, q_thaw, q_iSeq, q_iR2, q_iR3, q_iEnumD, q_iZip, q_andX, q_andT, q_orT, q_notT, q_eCh, q_sPat, q_eSl, q_nSl, q_pS, q_pN, q_sRetN, q_tYes, q_eDct0, okL0, okL1, okL2, okL3, okL4, okL5, okL6, ent, List.map_cons, List.map_nil, List.length_cons, List.length_nil, List.set_cons_zero, List.set_cons_succ, List.replicate, List.cons_append, List.nil_append, Nat.reduceAdd, Nat.reduceSub, Nat.sub_self, Nat.sub_zero, zero_add', ↓reduceIte, Bool.false_eq_true, item0, item1, addD_ii, subD_ii, negD_i, absD_i, ltD_ii, leD_ii, gtD_ii, geD_ii, truD_bl, decide_true, decide_false, fr_num, fr_den, mulD_ii nn, mulD_ii (ok_dd hp hq hab), lowest_eq _ _ h (dd_ne (p := p) (q := q)) (lt9000 hp hq hab (mul_dd hp hq))]
  rw [Rat.mul_def', ← Int.natCast_mul, Rat.divInt_ofNat]
theorem lmul_eq (h : Hs) : m__law_mul [fr p, fr q] h = .ok (fr (p * q)) h := by
  have d0 : (0 : Int) < (p.den : Int) * (q.den : Int) := by
    have := Nat.mul_pos (den_pos p) (den_pos q)
    have e : ((p.den * q.den : Nat) : Int) = (p.den : Int) * (q.den : Int) := Int.natCast_mul ..
    omega
  refine mdef_ret (h' := h) ?_
  unfold c__law_mul
  have nn : okMul p.num q.num = true := okMul_of hp.1 hq.1 (by omega)
  simp only [eV0, eVs, bind_ok', then_ok, q_e2, q_e1, q_eC, q_aC, q_aN, q_sPar2, q_sPar3, q_sSet, q_sRet, q_eBf, q_nBf, q_eCall, q_tst, q_tru, q_ifV, q_sIf, q_eTup, q_sPass, q_sExp, q_eLm, q_nLst, q_frz, q_thaw, q_iSeq, q_iR2, q_iR3, q_iEnumD, q_iZip, q_andX, q_andT, q_orT, q_notT, q_eCh, q_sPat, q_eSl, q_nSl, q_pS, q_pN, q_sRetN, q_tYes, q_eDct0, okL0, okL1, okL2, okL3, okL4, okL5, okL6, ent, List.map_cons, List.map_nil, List.length_cons, List.length_nil, List.set_cons_zero, List.set_cons_succ, List.replicate, List.cons_append, List.nil_append, Nat.reduceAdd, Nat.reduceSub, Nat.sub_self, Nat.sub_zero, zero_add', ↓reduceIte, Bool.false_eq_true, item0, item1, addD_ii, subD_ii, negD_i, absD_i, ltD_ii, leD_ii, gtD_ii, geD_ii, truD_bl, decide_true, decide_false, fr_num, fr_den, mulD_ii nn, mulD_ii (ok_dd hp hq hab), low_eq _ _ h d0 (lt9000 hp hq hab (mul_dd hp hq))]
  rw [Rat.mul_def', ← Int.natCast_mul, Rat.divInt_ofNat]
theorem lbelow_eq (h : Hs) : m__law_below [fr p, fr q] h = .ok (.bl (decide (p < q))) h := by
  refine mdef_ret (h' := h) ?_
  unfold c__law_below
  simp only [eV0, eVs, bind_ok', then_ok, q_e2, q_e1, q_eC, q_aC, q_aN, q_sPar2, q_sPar3, q_sSet, q_sRet, q_eBf, q_nBf, q_eCall, q_tst, q_tru, q_ifV, q_sIf, q_eTup, q_sPass, q_sExp, q_eLm, q_nLst, q_frz, q_thaw, q_iSeq, q_iR2, q_iR3, q_iEnumD, q_iZip, q_andX, q_andT, q_orT, q_notT, q_eCh, q_sPat, q_eSl, q_nSl, q_pS, q_pN, q_sRetN, q_tYes, q_eDct0, okL0, okL1, okL2, okL3, okL4, okL5, okL6, ent, List.map_cons, List.map_nil, List.length_cons, List.length_nil, List.set_cons_zero, List.set_cons_succ, List.replicate, List.cons_append, List.nil_append, Nat.reduceAdd, Nat.reduceSub, Nat.sub_self, Nat.sub_zero, zero_add', ↓reduceIte, Bool.false_eq_true, item0, item1, addD_ii, subD_ii, negD_i, absD_i, ltD_ii, leD_ii, gtD_ii, geD_ii, truD_bl, decide_true, decide_false, fr_num, fr_den, mulD_ii (ok_nd hp hq hab), mulD_ii (ok_dn hp hq hab)]
  congr 2
  exact decide_eq_decide.mpr (Rat.lt_iff p q).symm
theorem greatest_eq (h : Hs) : m_greatest [fr p, fr q] h = .ok (fr (if p < q then q else p)) h := by
  refine mdef_ret (h' := h) ?_
  unfold c_greatest
  simp only [eV0, eVs, bind_ok', then_ok, q_e2, q_e1, q_eC, q_aC, q_aN, q_sPar2, q_sPar3, q_sSet, q_sRet, q_eBf, q_nBf, q_eCall, q_tst, q_tru, q_ifV, q_sIf, q_eTup, q_sPass, q_sExp, q_eLm, q_nLst, q_frz, q_thaw, q_iSeq, q_iR2, q_iR3, q_iEnumD, q_iZip, q_andX, q_andT, q_orT, q_notT, q_eCh, q_sPat, q_eSl, q_nSl, q_pS, q_pN, q_sRetN, q_tYes, q_eDct0, okL0, okL1, okL2, okL3, okL4, okL5, okL6, ent, List.map_cons, List.map_nil, List.length_cons, List.length_nil, List.set_cons_zero, List.set_cons_succ, List.replicate, List.cons_append, List.nil_append, Nat.reduceAdd, Nat.reduceSub, Nat.sub_self, Nat.sub_zero, zero_add', ↓reduceIte, Bool.false_eq_true, item0, item1, addD_ii, subD_ii, negD_i, absD_i, ltD_ii, leD_ii, gtD_ii, geD_ii, truD_bl, decide_true, decide_false, less_eq hp hq hab]
  by_cases z : p < q
  · simp only [decide_eq_true z, z, eV0, eVs, bind_ok', then_ok, q_e2, q_e1, q_eC, q_aC, q_aN, q_sPar2, q_sPar3, q_sSet, q_sRet, q_eBf, q_nBf, q_eCall, q_tst, q_tru, q_ifV, q_sIf, q_eTup, q_sPass, q_sExp, q_eLm, q_nLst, q_frz, q_thaw, q_iSeq, q_iR2, q_iR3, q_iEnumD, q_iZip, q_andX, q_andT, q_orT, q_notT, q_eCh, q_sPat, q_eSl, q_nSl, q_pS, q_pN, q_sRetN, q_tYes, q_eDct0, okL0, okL1, okL2, okL3, okL4, okL5, okL6, ent, List.map_cons, List.map_nil, List.length_cons, List.length_nil, List.set_cons_zero, List.set_cons_succ, List.replicate, List.cons_append, List.nil_append, Nat.reduceAdd, Nat.reduceSub, Nat.sub_self, Nat.sub_zero, zero_add', ↓reduceIte, Bool.false_eq_true, item0, item1, addD_ii, subD_ii, negD_i, absD_i, ltD_ii, leD_ii, gtD_ii, geD_ii, truD_bl, decide_true, decide_false]
  · simp only [decide_eq_false z, z, eV0, eVs, bind_ok', then_ok, q_e2, q_e1, q_eC, q_aC, q_aN, q_sPar2, q_sPar3, q_sSet, q_sRet, q_eBf, q_nBf, q_eCall, q_tst, q_tru, q_ifV, q_sIf, q_eTup, q_sPass, q_sExp, q_eLm, q_nLst, q_frz, q_thaw, q_iSeq, q_iR2, q_iR3, q_iEnumD, q_iZip, q_andX, q_andT, q_orT, q_notT, q_eCh, q_sPat, q_eSl, q_nSl, q_pS, q_pN, q_sRetN, q_tYes, q_eDct0, okL0, okL1, okL2, okL3, okL4, okL5, okL6, ent, List.map_cons, List.map_nil, List.length_cons, List.length_nil, List.set_cons_zero, List.set_cons_succ, List.replicate, List.cons_append, List.nil_append, Nat.reduceAdd, Nat.reduceSub, Nat.sub_self, Nat.sub_zero, zero_add', ↓reduceIte, Bool.false_eq_true, item0, item1, addD_ii, subD_ii, negD_i, absD_i, ltD_ii, leD_ii, gtD_ii, geD_ii, truD_bl, decide_true, decide_false]
end
theorem one_sub (q : Rat) : 1 - q = Rat.divInt (q.den - q.num) q.den := by
  have qe : q = Rat.divInt q.num q.den := (Rat.num_divInt_den q).symm
  have dn : (q.den : Int) ≠ 0 := by have := den_pos q; omega
  conv => lhs; rw [qe]
  rw [Rat.divInt_eq_div, Rat.divInt_eq_div]
  have dn' : ((q.den : Int) : Rat) ≠ 0 := by
    intro y
    exact dn (by simpa using y)
  rw [Rat.intCast_sub]
  grind
theorem lrest_eq {q : Rat} {a : Nat} (hq : Sz a q) (ha : a ≤ 8000) (h : Hs) : m__law_rest [fr q] h = .ok (fr (1 - q)) h := by
  have dp := den_pos q
  refine mdef_ret (h' := h) ?_
  unfold c__law_rest
  simp only [eV0, eVs, bind_ok', then_ok, q_e2, q_e1, q_eC, q_aC, q_aN, q_sPar2, q_sPar3, q_sSet, q_sRet, q_eBf, q_nBf, q_eCall, q_tst, q_tru, q_ifV, q_sIf, q_eTup, q_sPass, q_sExp, q_eLm, q_nLst, q_frz, q_thaw, q_iSeq, q_iR2, q_iR3, q_iEnumD, q_iZip, q_andX, q_andT, q_orT, q_notT, q_eCh, q_sPat, q_eSl, q_nSl, q_pS, q_pN, q_sRetN, q_tYes, q_eDct0, okL0, okL1, okL2, okL3, okL4, okL5, okL6, ent, List.map_cons, List.map_nil, List.length_cons, List.length_nil, List.set_cons_zero, List.set_cons_succ, List.replicate, List.cons_append, List.nil_append, Nat.reduceAdd, Nat.reduceSub, Nat.sub_self, Nat.sub_zero, zero_add', ↓reduceIte, Bool.false_eq_true, item0, item1, addD_ii, subD_ii, negD_i, absD_i, ltD_ii, leD_ii, gtD_ii, geD_ii, truD_bl, decide_true, decide_false, fr_num, fr_den, low_eq _ _ h (show (0 : Int) < q.den by omega) (Nat.lt_of_lt_of_le (show ((q.den : Int)).natAbs < 2 ^ a from hq.2) (Nat.pow_le_pow_right (by decide) (by omega)))]
  rw [one_sub]
/-! ### a bottom that all have -/
def Iq (d : Nat) (q : Rat) : Prop := ∃ m : Int, q = Rat.divInt m d
theorem Iq.self (q : Rat) : Iq q.den q := ⟨q.num, (Rat.num_divInt_den q).symm⟩
theorem Iq.one : Iq 1 1 := ⟨1, by decide +kernel⟩
theorem Iq.zero : Iq 1 0 := ⟨0, by decide +kernel⟩
theorem Iq.mul {a b : Nat} {p q : Rat} (x : Iq a p) (y : Iq b q) : Iq (a * b) (p * q) := by
  obtain ⟨m, rfl⟩ := x
  obtain ⟨n, rfl⟩ := y
  exact ⟨m * n, by rw [Rat.divInt_mul_divInt, Int.natCast_mul]⟩
theorem Iq.up {a : Nat} {p : Rat} (x : Iq a p) {b : Nat} (h : a ∣ b) (hb : 0 < b) : Iq b p := by
  obtain ⟨m, rfl⟩ := x
  obtain ⟨k, rfl⟩ := h
  have k0 : (k : Int) ≠ 0 := fun z => by
    have : k = 0 := by omega
    subst this
    simp at hb
  exact ⟨m * k, by rw [Int.natCast_mul, Rat.divInt_mul_right k0]⟩
theorem Iq.add {d : Nat} {p q : Rat} (x : Iq d p) (y : Iq d q) : Iq d (p + q) := by
  obtain ⟨m, rfl⟩ := x
  obtain ⟨n, rfl⟩ := y
  exact ⟨m + n, by rw [Rat.divInt_eq_div, Rat.divInt_eq_div, Rat.divInt_eq_div, Rat.div_def, Rat.div_def, Rat.div_def, ← Rat.add_mul, Rat.intCast_add]⟩
theorem Iq.rest (q : Rat) : Iq q.den (1 - q) := ⟨_, one_sub q⟩
theorem Iq.sz {d b k : Nat} {q : Rat} (x : Iq d q) (h0 : 0 < d) (hb : k * d < 2 ^ b) (hk : 0 < k) (q0 : 0 ≤ q) (q1 : q ≤ (k : Int)) : Sz b q := by
  have dl : q.den ≤ d := by
    obtain ⟨m, rfl⟩ := x
    rw [Rat.den_divInt, if_neg (by omega)]
    exact Nat.div_le_self _ _
  have n0 : (0 : Int) ≤ q.num := Rat.num_nonneg.mpr q0
  have n1 : q.num ≤ k * q.den := by
    have z := (Rat.le_iff q ((k : Int) : Rat)).mp q1
    simpa using z
  have kd : k * q.den ≤ k * d := Nat.mul_le_mul_left _ dl
  have k1 : d ≤ k * d := Nat.le_mul_of_pos_left _ hk
  refine ⟨?_, by omega⟩
  have e : ((k * q.den : Nat) : Int) = (k : Int) * (q.den : Int) := Int.natCast_mul ..
  omega
theorem Iq.sz1 {d b : Nat} {q : Rat} (x : Iq d q) (h0 : 0 < d) (hb : d < 2 ^ b) (q0 : 0 ≤ q) (q1 : q ≤ 1) : Sz b q := x.sz (k := 1) h0 (by omega) (by decide) q0 (by simpa using q1)
def Dd : List Rat → Nat
  | [] => 1
  | c :: cs => c.den * Dd cs
theorem Dd_pos : ∀ cs : List Rat, 0 < Dd cs
  | [] => Nat.one_pos
  | c :: cs => Nat.mul_pos (den_pos c) (Dd_pos cs)
theorem Dd_le {a : Nat} : ∀ {cs : List Rat}, (∀ c ∈ cs, Sz a c) → Dd cs ≤ 2 ^ (a * cs.length)
  | [], _ => Nat.le_refl _
  | c :: cs, h => by
    have h1 := (h c List.mem_cons_self).2
    have h2 := Dd_le (cs := cs) fun x hx => h x (List.mem_cons_of_mem _ hx)
    rw [List.length_cons, Nat.mul_succ, Nat.add_comm, Nat.pow_add]
    exact Nat.mul_le_mul (Nat.le_of_lt h1) h2
theorem Dd_app : ∀ (xs ys : List Rat), Dd (xs ++ ys) = Dd xs * Dd ys
  | [], ys => (Nat.one_mul _).symm
  | x :: xs, ys => by
    show x.den * Dd (xs ++ ys) = x.den * Dd xs * Dd ys
    rw [Dd_app xs ys, Nat.mul_assoc]
theorem Dd_drop (cs : List Rat) (m : Nat) : Dd (cs.drop m) ∣ Dd cs := by
  conv => rhs; rw [← List.take_append_drop m cs, Dd_app]
  exact Nat.dvd_mul_left _ _
/-! ### none is good -/
def nf : List Rat → Rat
  | [] => 1
  | c :: cs => (1 - c) * nf cs
def ls : List Rat → List Rat
  | [] => []
  | c :: cs => c * nf cs :: ls cs
def In1 (q : Rat) : Prop := 0 ≤ q ∧ q ≤ 1
theorem In1.rest {q : Rat} (h : In1 q) : In1 (1 - q) := ⟨by have := h.2; grind, by have := h.1; grind⟩
theorem In1.mul {p q : Rat} (h : In1 p) (k : In1 q) : In1 (p * q) := ⟨Rat.mul_nonneg h.1 k.1, by
  have z := Rat.mul_le_mul_of_nonneg_left k.2 h.1
  rw [Rat.mul_one] at z
  exact Rat.le_trans z h.2⟩
theorem In1.one : In1 1 := ⟨by decide +kernel, Rat.le_refl⟩
theorem nf_in : ∀ {cs : List Rat}, (∀ c ∈ cs, In1 c) → In1 (nf cs)
  | [], _ => .one
  | c :: cs, h => (h c List.mem_cons_self).rest.mul (nf_in fun x hx => h x (List.mem_cons_of_mem _ hx))
theorem nf_iq : ∀ cs : List Rat, Iq (Dd cs) (nf cs)
  | [] => .one
  | c :: cs => (Iq.rest c).mul (nf_iq cs)
theorem ls_len : ∀ cs : List Rat, (ls cs).length = cs.length
  | [] => rfl
  | c :: cs => by unfold ls; rw [List.length_cons, List.length_cons, ls_len cs]
theorem ls_at : ∀ {cs : List Rat} {i : Nat} {c : Rat}, cs[i]? = some c → (ls cs)[i]? = some (c * nf (cs.drop (i + 1)))
  | [], _, _, e => by simp at e
  | c :: cs, 0, _, e => by
    simp at e
    subst e
    rfl
  | c :: cs, i + 1, d, e => by
    have z := ls_at (cs := cs) (i := i) (c := d) (by simpa using e)
    unfold ls
    rw [List.getElem?_cons_succ, z]
    rfl
theorem ls_in : ∀ {cs : List Rat}, (∀ c ∈ cs, In1 c) → ∀ q ∈ ls cs, In1 q
  | [], _, q, hq => by simp [ls] at hq
  | c :: cs, h, q, hq => by
    unfold ls at hq
    rcases List.mem_cons.mp hq with e | e
    · rw [e]
      exact (h c List.mem_cons_self).mul (nf_in fun x hx => h x (List.mem_cons_of_mem _ hx))
    · exact ls_in (fun x hx => h x (List.mem_cons_of_mem _ hx)) q e
theorem ls_iq : ∀ {cs : List Rat}, ∀ q ∈ ls cs, Iq (Dd cs) q
  | [], q, hq => by simp [ls] at hq
  | c :: cs, q, hq => by
    unfold ls at hq
    rcases List.mem_cons.mp hq with e | e
    · rw [e]
      exact (Iq.self c).mul (nf_iq cs)
    · exact (ls_iq q e).up (Nat.dvd_mul_left _ _) (Dd_pos _)
/-- chances of a size, all bottoms together below 2 ^ B -/
structure Cs (B : Nat) (cs : List Rat) : Prop where
  one : ∀ c ∈ cs, In1 c
  dd : Dd cs < 2 ^ B
theorem Cs.den {B : Nat} {cs : List Rat} (k : Cs B cs) {c : Rat} (hc : c ∈ cs) : c.den < 2 ^ B := by
  have d : ∀ {cs : List Rat}, c ∈ cs → c.den ∣ Dd cs := fun {cs} h => by
    induction cs with
    | nil => simp at h
    | cons x xs ih =>
      rcases List.mem_cons.mp h with e | e
      · rw [e]; exact Nat.dvd_mul_right _ _
      · exact Nat.dvd_trans (ih e) (Nat.dvd_mul_left _ _)
  exact Nat.lt_of_le_of_lt (Nat.le_of_dvd (Dd_pos _) (d hc)) k.dd
theorem Cs.sz {B : Nat} {cs : List Rat} (k : Cs B cs) {c : Rat} (hc : c ∈ cs) : Sz B c := (Iq.self c).sz1 (den_pos c) (k.den hc) (k.one c hc).1 (k.one c hc).2
theorem Cs.drop {B : Nat} {cs : List Rat} (k : Cs B cs) (m : Nat) : Cs B (cs.drop m) := ⟨fun c hc => k.one c (List.mem_of_mem_drop hc), Nat.lt_of_le_of_lt (Nat.le_of_dvd (Dd_pos _) (Dd_drop cs m)) k.dd⟩
theorem Cs.take {B : Nat} {cs : List Rat} (k : Cs B cs) (m : Nat) : Cs B (cs.take m) := ⟨fun c hc => k.one c (List.mem_of_mem_take hc), Nat.lt_of_le_of_lt (Nat.le_of_dvd (Dd_pos _) (by
  conv => rhs; rw [← List.take_append_drop m cs, Dd_app]
  exact Nat.dvd_mul_right _ _)) k.dd⟩
theorem Cs.nfz {B : Nat} {cs : List Rat} (k : Cs B cs) : Sz B (nf cs) := (nf_iq cs).sz1 (Dd_pos _) k.dd (nf_in k.one).1 (nf_in k.one).2
theorem Cs.lsz {B : Nat} {cs : List Rat} (k : Cs B cs) {q : Rat} (hq : q ∈ ls cs) : Sz B q := (ls_iq q hq).sz1 (Dd_pos _) k.dd (ls_in k.one q hq).1 (ls_in k.one q hq).2
theorem nf_loop {B : Nat} (hB : B ≤ 2000) {h : Hs} {N : Env → Hs → Prop} {T : D → Hs → Prop} {d0 d1 : D} : ∀ (rs : List Rat) (x : Rat) (E : Nat) (d3 : Option D), (∀ r ∈ rs, In1 r) → In1 x → Iq E x → 0 < E → E * Dd rs < 2 ^ B → (∀ d3, N [some d0, some d1, some (fr (x * nf rs)), d3] h) →
    WpS (loopF (.nm 3) (sSet 2 (eCall 2 m_product (aC (eV 2) (aC (eCall 2 m_minus (aC (eC (.tup [.int 1, .int 1])) (aC (eV 3) aN))) aN)))) [] (rs.map fr) [some d0, some d1, some (fr x), d3] h) N T
  | [], x, E, d3, _, _, _, _, _, k => by
    unfold loopF
    have e : x * nf [] = x := Rat.mul_one x
    rw [e] at k
    exact k d3
  | r :: rs, x, E, d3, hr, x1, xi, E0, hE, k => by
    rw [List.map_cons]
    unfold loopF
    rw [if_pos okG_nil]
    have r1 := hr r List.mem_cons_self
    have p0 := Dd_pos rs
    have dr := den_pos r
    have hE' : E * r.den * Dd rs < 2 ^ B := by rw [Nat.mul_assoc]; exact hE
    have hEl : E * r.den < 2 ^ B := Nat.lt_of_le_of_lt (Nat.le_mul_of_pos_right _ p0) hE'
    have sx : Sz B x := xi.sz1 E0 (Nat.lt_of_le_of_lt (Nat.le_mul_of_pos_right _ dr) hEl) x1.1 x1.2
    have dl : r.den < 2 ^ B := Nat.lt_of_le_of_lt (Nat.le_mul_of_pos_left _ E0) hEl
    have sr : Sz B r := (Iq.self r).sz1 dr dl r1.1 r1.2
    have s1 : Sz B (1 - r) := (Iq.rest r).sz1 dr dl r1.rest.1 r1.rest.2
    have m := minus_eq sz1 sr (by omega) h
    rw [fr1] at m
    have e : sSet 2 (eCall 2 m_product (aC (eV 2) (aC (eCall 2 m_minus (aC (eC (.tup [.int 1, .int 1])) (aC (eV 3) aN))) aN))) [some d0, some d1, some (fr x), some (fr r)] h = .nx [some d0, some d1, some (fr (x * (1 - r))), some (fr r)] h := by
      simp only [eV0, eVs, bind_ok', then_ok, q_e2, q_e1, q_eC, q_aC, q_aN, q_sPar2, q_sPar3, q_sSet, q_sRet, q_eBf, q_nBf, q_eCall, q_tst, q_tru, q_ifV, q_sIf, q_eTup, q_sPass, q_sExp, q_eLm, q_nLst, q_frz, q_thaw, q_iSeq, q_iR2, q_iR3, q_iEnumD, q_iZip, q_andX, q_andT, q_orT, q_notT, q_eCh, q_sPat, q_eSl, q_nSl, q_pS, q_pN, q_sRetN, q_tYes, q_eDct0, okL0, okL1, okL2, okL3, okL4, okL5, okL6, ent, List.map_cons, List.map_nil, List.length_cons, List.length_nil, List.set_cons_zero, List.set_cons_succ, List.replicate, List.cons_append, List.nil_append, Nat.reduceAdd, Nat.reduceSub, Nat.sub_self, Nat.sub_zero, zero_add', ↓reduceIte, Bool.false_eq_true, item0, item1, addD_ii, subD_ii, negD_i, absD_i, ltD_ii, leD_ii, gtD_ii, geD_ii, truD_bl, decide_true, decide_false, m, product_eq sx s1 (by omega)]
    show WpS (match sSet 2 (eCall 2 m_product (aC (eV 2) (aC (eCall 2 m_minus (aC (eC (.tup [.int 1, .int 1])) (aC (eV 3) aN))) aN))) [some d0, some d1, some (fr x), some (fr r)] h with
      | .nx ρ2 h2 => loopF _ _ _ _ ρ2 h2
      | .ct ρ2 h2 => loopF _ _ _ _ ρ2 h2
      | .bk ρ2 h2 => .nx ρ2 h2
      | r => r) N T
    rw [e]
    refine nf_loop hB rs (x * (1 - r)) (E * r.den) _ (fun q hq => hr q (List.mem_cons_of_mem _ hq)) (x1.mul r1.rest) (xi.mul (Iq.rest r)) (Nat.mul_pos E0 dr) hE' fun d3 => ?_
    have e2 : x * (1 - r) * nf rs = x * nf (r :: rs) := Rat.mul_assoc _ _ _
    rw [e2]
    exact k d3
theorem none_from_eq {cs : List Rat} {B i : Nat} {h : Hs} (t : TrAt h i cs) (k : Cs B cs) (hB : B ≤ 2000) (m : Nat) : m_none_from [.obj i, .int m] h = .ok (fr (nf (cs.drop m))) h := by
  refine eq_of_wp ?_
  unfold m_none_from c_none_from
  have sl : ∀ ρ : Env, eSl (eFld "Trials" "chances" (eV 0)) (pS (eV 1)) pN (some (.obj i) :: some (.int m) :: ρ) h = .ok (.tup ((cs.drop m).map fr)) h := fun ρ => by
    have f : eFld "Trials" "chances" (eV 0) (some (.obj i) :: some (.int m) :: ρ) h = .ok (.tup (cs.map fr)) h := fld_ch t eV0
    simp only [eV0, eVs, bind_ok', then_ok, q_e2, q_e1, q_eC, q_aC, q_aN, q_sPar2, q_sPar3, q_sSet, q_sRet, q_eBf, q_nBf, q_eCall, q_tst, q_tru, q_ifV, q_sIf, q_eTup, q_sPass, q_sExp, q_eLm, q_nLst, q_frz, q_thaw, q_iSeq, q_iR2, q_iR3, q_iEnumD, q_iZip, q_andX, q_andT, q_orT, q_notT, q_eCh, q_sPat, q_eSl, q_nSl, q_pS, q_pN, q_sRetN, q_tYes, q_eDct0, okL0, okL1, okL2, okL3, okL4, okL5, okL6, ent, List.map_cons, List.map_nil, List.length_cons, List.length_nil, List.set_cons_zero, List.set_cons_succ, List.replicate, List.cons_append, List.nil_append, Nat.reduceAdd, Nat.reduceSub, Nat.sub_self, Nat.sub_zero, zero_add', ↓reduceIte, Bool.false_eq_true, item0, item1, addD_ii, subD_ii, negD_i, absD_i, ltD_ii, leD_ii, gtD_ii, geD_ii, truD_bl, decide_true, decide_false, f, slD_tup_from, List.map_drop]
  have e1 : ent 4 [D.obj i, .int m] = [some (.obj i), some (.int m), none, none] := rfl
  rw [wp_def, e1, wps_seq, q_sSet, wps_then, q_eC, wp_ok, wps_nx, List.set_cons_succ, List.set_cons_succ, List.set_cons_zero, wps_seq, wps_for, seq_tup (sl _), wp_ok]
  have kd := k.drop m
  refine nf_loop hB (cs.drop m) 1 1 none kd.one .one .one Nat.one_pos (by rw [Nat.one_mul]; exact kd.dd) fun d3 => ?_
  simp only [eV0, eVs, bind_ok', then_ok, q_e2, q_e1, q_eC, q_aC, q_aN, q_sPar2, q_sPar3, q_sSet, q_sRet, q_eBf, q_nBf, q_eCall, q_tst, q_tru, q_ifV, q_sIf, q_eTup, q_sPass, q_sExp, q_eLm, q_nLst, q_frz, q_thaw, q_iSeq, q_iR2, q_iR3, q_iEnumD, q_iZip, q_andX, q_andT, q_orT, q_notT, q_eCh, q_sPat, q_eSl, q_nSl, q_pS, q_pN, q_sRetN, q_tYes, q_eDct0, okL0, okL1, okL2, okL3, okL4, okL5, okL6, ent, List.map_cons, List.map_nil, List.length_cons, List.length_nil, List.set_cons_zero, List.set_cons_succ, List.replicate, List.cons_append, List.nil_append, Nat.reduceAdd, Nat.reduceSub, Nat.sub_self, Nat.sub_zero, zero_add', ↓reduceIte, Bool.false_eq_true, item0, item1, addD_ii, subD_ii, negD_i, absD_i, ltD_ii, leD_ii, gtD_ii, geD_ii, truD_bl, decide_true, decide_false, wp_ok, wp_bad, wp_bind, wp_nox, wp_def, wps_then, wps_seq, wps_nx, wps_ret, wp_ite, wps_ite, Rat.one_mul]
  exact ⟨trivial, trivial⟩
theorem enumD_map (g : Rat → D) : ∀ (cs : List Rat) (n : Nat), enumD n (cs.map g) = (cs.zipIdx n).map fun p => .tup [.int p.2, g p.1]
  | [], _ => rfl
  | c :: cs, n => by
    rw [List.map_cons]
    unfold enumD
    rw [enumD_map g cs (n + 1)]
    rfl
/-- a comprehension over pairs, each made by f at its place -/
theorem zip_comp {ce : Env → M D} {p : Pat} {ρ : Env} {h : Hs} {g : Rat → D} {f : Nat → Rat → D} : ∀ (cs : List Rat) (n : Nat),
    (∀ j c, cs[j]? = some c → ∃ ρ1, patD p (.tup [.int ((n + j : Nat) : Int), g c]) ρ = some ρ1 ∧ ce ρ1 h = .ok (f (n + j) c) h) → lcF p tYes' ce [] ρ (enumD n (cs.map g)) h = .ok ((cs.zipIdx n).map fun x => f x.2 x.1) h
  | [], n, _ => by
    show lcF p tYes' ce [] ρ [] h = _
    unfold lcF
    rw [if_pos okG_nil]
    rfl
  | c :: cs, n, k => by
    rw [List.map_cons]
    unfold enumD lcF
    obtain ⟨ρ1, e, s⟩ := k 0 c rfl
    rw [Nat.add_zero] at e s
    rw [if_pos okG_nil, e]
    show ((ce ρ1 h).nox.bind fun d h2 => (lcF p tYes' ce [] ρ (enumD (n + 1) (cs.map g)) h2).bind fun ds h3 => .ok (d :: ds) h3) = _
    rw [s]
    show ((lcF p tYes' ce [] ρ (enumD (n + 1) (cs.map g)) h).bind fun ds h3 => .ok (f n c :: ds) h3) = _
    rw [zip_comp cs (n + 1) fun j c' hj => by
      have z := k (j + 1) c' (by simpa using hj)
      rw [show n + (j + 1) = n + 1 + j by omega] at z
      exact z]
    rfl
theorem ls_zip (F : List Rat) : ∀ (cs : List Rat) (n : Nat), F.drop n = cs → (cs.zipIdx n).map (fun x => fr (x.1 * nf (F.drop (x.2 + 1)))) = (ls cs).map fr
  | [], _, _ => rfl
  | c :: cs, n, e => by
    have e2 : F.drop (n + 1) = cs := by
      rw [← List.drop_drop, e]
      rfl
    unfold ls
    rw [List.map_cons, ← ls_zip F cs (n + 1) e2, List.zipIdx_cons, List.map_cons, e2]
theorem last_shares_eq {cs : List Rat} {B i : Nat} {h : Hs} (t : TrAt h i cs) (k : Cs B cs) (hB : B ≤ 2000) (hl : cs.length ≤ 1000) : m_last_shares [.obj i] h = .ok (.lst ((ls cs).map fr)) h := by
  refine mdef_ret (h' := h) ?_
  unfold c_last_shares
  have f : ∀ ρ : Env, eFld "Trials" "chances" (eV 0) (some (.obj i) :: ρ) h = .ok (.tup (cs.map fr)) h := fun ρ => fld_ch t eV0
  have en : ∀ ρ : Env, iEnumD (aC (eFld "Trials" "chances" (eV 0)) aN) (some (.obj i) :: ρ) h = .ok ⟨enumD 0 (cs.map fr), []⟩ h := fun ρ => by
    simp only [eV0, eVs, bind_ok', then_ok, q_e2, q_e1, q_eC, q_aC, q_aN, q_sPar2, q_sPar3, q_sSet, q_sRet, q_eBf, q_nBf, q_eCall, q_tst, q_tru, q_ifV, q_sIf, q_eTup, q_sPass, q_sExp, q_eLm, q_nLst, q_frz, q_thaw, q_iSeq, q_iR2, q_iR3, q_iEnumD, q_iZip, q_andX, q_andT, q_orT, q_notT, q_eCh, q_sPat, q_eSl, q_nSl, q_pS, q_pN, q_sRetN, q_tYes, q_eDct0, okL0, okL1, okL2, okL3, okL4, okL5, okL6, ent, List.map_cons, List.map_nil, List.length_cons, List.length_nil, List.set_cons_zero, List.set_cons_succ, List.replicate, List.cons_append, List.nil_append, Nat.reduceAdd, Nat.reduceSub, Nat.sub_self, Nat.sub_zero, zero_add', ↓reduceIte, Bool.false_eq_true, item0, item1, addD_ii, subD_ii, negD_i, absD_i, ltD_ii, leD_ii, gtD_ii, geD_ii, truD_bl, decide_true, decide_false, f, itOf_tup, okG_nil]
  have c : nLc (iEnumD (aC (eFld "Trials" "chances" (eV 0)) aN)) (.tp [.nm 1, .nm 2]) [1, 2] tYes' (eCall 2 m_product (aC (eV 2) (aC (eCall 2 m_none_from (aC (eV 0) (aC (e2 addD (eV 1) (eC (.int 1))) aN))) aN))) [some (.obj i), none, none] h = .ok ((ls cs).map fr) h := by
    rw [nLc_eq, en, bind_ok']
    show (if okLen (enumD 0 (cs.map fr)).length = true then _ else _) = _
    rw [if_pos (okLen_of (by rw [enumD_len, List.length_map]; omega)), ← ls_zip cs cs 0 rfl]
    refine zip_comp (f := fun j c => fr (c * nf (cs.drop (j + 1)))) cs 0 fun j c hj => ⟨_, rfl, ?_⟩
    have kc := k.sz (List.mem_of_getElem? hj)
    have n1 := none_from_eq t k hB (0 + j + 1)
    have e1 : (((0 + j + 1 : Nat)) : Int) = ((0 + j : Nat) : Int) + 1 := by omega
    rw [e1, Nat.zero_add] at n1
    rw [Nat.zero_add]
    simp only [wipeD, eV0, eVs, bind_ok', then_ok, q_e2, q_e1, q_eC, q_aC, q_aN, q_sPar2, q_sPar3, q_sSet, q_sRet, q_eBf, q_nBf, q_eCall, q_tst, q_tru, q_ifV, q_sIf, q_eTup, q_sPass, q_sExp, q_eLm, q_nLst, q_frz, q_thaw, q_iSeq, q_iR2, q_iR3, q_iEnumD, q_iZip, q_andX, q_andT, q_orT, q_notT, q_eCh, q_sPat, q_eSl, q_nSl, q_pS, q_pN, q_sRetN, q_tYes, q_eDct0, okL0, okL1, okL2, okL3, okL4, okL5, okL6, ent, List.map_cons, List.map_nil, List.length_cons, List.length_nil, List.set_cons_zero, List.set_cons_succ, List.replicate, List.cons_append, List.nil_append, Nat.reduceAdd, Nat.reduceSub, Nat.sub_self, Nat.sub_zero, zero_add', ↓reduceIte, Bool.false_eq_true, item0, item1, addD_ii, subD_ii, negD_i, absD_i, ltD_ii, leD_ii, gtD_ii, geD_ii, truD_bl, decide_true, decide_false, n1, product_eq kc (k.drop (j + 1)).nfz (by omega)]
  simp only [eV0, eVs, bind_ok', then_ok, q_e2, q_e1, q_eC, q_aC, q_aN, q_sPar2, q_sPar3, q_sSet, q_sRet, q_eBf, q_nBf, q_eCall, q_tst, q_tru, q_ifV, q_sIf, q_eTup, q_sPass, q_sExp, q_eLm, q_nLst, q_frz, q_thaw, q_iSeq, q_iR2, q_iR3, q_iEnumD, q_iZip, q_andX, q_andT, q_orT, q_notT, q_eCh, q_sPat, q_eSl, q_nSl, q_pS, q_pN, q_sRetN, q_tYes, q_eDct0, okL0, okL1, okL2, okL3, okL4, okL5, okL6, ent, List.map_cons, List.map_nil, List.length_cons, List.length_nil, List.set_cons_zero, List.set_cons_succ, List.replicate, List.cons_append, List.nil_append, Nat.reduceAdd, Nat.reduceSub, Nat.sub_self, Nat.sub_zero, zero_add', ↓reduceIte, Bool.false_eq_true, item0, item1, addD_ii, subD_ii, negD_i, absD_i, ltD_ii, leD_ii, gtD_ii, geD_ii, truD_bl, decide_true, decide_false, c]
theorem last_good_eq {cs : List Rat} {B i : Nat} {h : Hs} (t : TrAt h i cs) (k : Cs B cs) (hB : B ≤ 2000) (hl : cs.length ≤ 1000) : m_last_good [.obj i] h = .ok (.tup ((ls cs).map fr)) h := by
  refine mdef_ret (h' := h) ?_
  unfold c_last_good
  simp only [eV0, eVs, bind_ok', then_ok, q_e2, q_e1, q_eC, q_aC, q_aN, q_sPar2, q_sPar3, q_sSet, q_sRet, q_eBf, q_nBf, q_eCall, q_tst, q_tru, q_ifV, q_sIf, q_eTup, q_sPass, q_sExp, q_eLm, q_nLst, q_frz, q_thaw, q_iSeq, q_iR2, q_iR3, q_iEnumD, q_iZip, q_andX, q_andT, q_orT, q_notT, q_eCh, q_sPat, q_eSl, q_nSl, q_pS, q_pN, q_sRetN, q_tYes, q_eDct0, okL0, okL1, okL2, okL3, okL4, okL5, okL6, ent, List.map_cons, List.map_nil, List.length_cons, List.length_nil, List.set_cons_zero, List.set_cons_succ, List.replicate, List.cons_append, List.nil_append, Nat.reduceAdd, Nat.reduceSub, Nat.sub_self, Nat.sub_zero, zero_add', ↓reduceIte, Bool.false_eq_true, item0, item1, addD_ii, subD_ii, negD_i, absD_i, ltD_ii, leD_ii, gtD_ii, geD_ii, truD_bl, decide_true, decide_false, last_shares_eq t k hB hl, tupD_lst]
theorem none_good_eq {cs : List Rat} {B i : Nat} {h : Hs} (t : TrAt h i cs) (k : Cs B cs) (hB : B ≤ 2000) : m_none_good [.obj i] h = .ok (fr (nf cs)) h := by
  refine mdef_ret (h' := h) ?_
  unfold c_none_good
  have z := none_from_eq t k hB 0
  rw [List.drop_zero] at z
  have z' : m_none_from [.obj i, .int 0] h = .ok (fr (nf cs)) h := z
  simp only [eV0, eVs, bind_ok', then_ok, q_e2, q_e1, q_eC, q_aC, q_aN, q_sPar2, q_sPar3, q_sSet, q_sRet, q_eBf, q_nBf, q_eCall, q_tst, q_tru, q_ifV, q_sIf, q_eTup, q_sPass, q_sExp, q_eLm, q_nLst, q_frz, q_thaw, q_iSeq, q_iR2, q_iR3, q_iEnumD, q_iZip, q_andX, q_andT, q_orT, q_notT, q_eCh, q_sPat, q_eSl, q_nSl, q_pS, q_pN, q_sRetN, q_tYes, q_eDct0, okL0, okL1, okL2, okL3, okL4, okL5, okL6, ent, List.map_cons, List.map_nil, List.length_cons, List.length_nil, List.set_cons_zero, List.set_cons_succ, List.replicate, List.cons_append, List.nil_append, Nat.reduceAdd, Nat.reduceSub, Nat.sub_self, Nat.sub_zero, zero_add', ↓reduceIte, Bool.false_eq_true, item0, item1, addD_ii, subD_ii, negD_i, absD_i, ltD_ii, leD_ii, gtD_ii, geD_ii, truD_bl, decide_true, decide_false, z']
end Pl

/-! Plain laws, 13: lots: what they win. -/
namespace Pl
open Dl Sh

/-- numbers that rise, from k on, below n -/
def Inc (n : Nat) : Nat → List Nat → Prop
  | _, [] => True
  | k, m :: l => k ≤ m ∧ m < n ∧ Inc n (m + 1) l
theorem Inc.from {n : Nat} : ∀ {l : List Nat} {k j : Nat}, Inc n k l → j ≤ k → Inc n j l
  | [], _, _, _, _ => trivial
  | m :: l, k, j, h, hj => ⟨Nat.le_trans hj h.1, h.2⟩
theorem Inc.all {n : Nat} : ∀ {l : List Nat} {k : Nat}, Inc n k l → ∀ m ∈ l, k ≤ m ∧ m < n
  | [], _, _, m, hm => by simp at hm
  | x :: l, k, h, m, hm => by
    rcases List.mem_cons.mp hm with e | e
    · rw [e]; exact ⟨h.1, h.2.1⟩
    · have z := h.2.2.all m e
      exact ⟨by have := h.1; omega, z.2⟩
theorem Inc.len {n : Nat} : ∀ {l : List Nat} {k : Nat}, Inc n k l → k ≤ n → l.length + k ≤ n
  | [], k, _, h => by simpa using h
  | x :: l, k, h, _ => by
    have z := h.2.2.len (by have := h.2.1; omega)
    have := h.1
    rw [List.length_cons]
    omega
def lotD (l : List Nat) : D := .tup (l.map fun m => .int (m : Nat))
/-- what a lot wins -/
def wn (cs : List Rat) : List Nat → Rat
  | [] => 0
  | m :: l => cs.getD m 0 * nf (cs.drop (m + 1)) + (1 - cs.getD m 0) * wn cs l
theorem wn_in {cs : List Rat} (hc : ∀ c ∈ cs, In1 c) : ∀ {l : List Nat} {k : Nat}, Inc cs.length k l → In1 (wn cs l)
  | [], _, _ => ⟨Rat.le_refl, show (0 : Rat) ≤ 1 by decide +kernel⟩
  | m :: l, k, h => by
    have i := wn_in hc h.2.2
    have c1 : In1 (cs.getD m 0) := by
      rw [List.getD_eq_getElem?_getD, List.getElem?_eq_getElem h.2.1]
      exact hc _ (List.getElem_mem h.2.1)
    have n1 := nf_in (cs := cs.drop (m + 1)) fun c hq => hc c (List.mem_of_mem_drop hq)
    have a1 := c1.mul n1
    have a2 := c1.rest.mul i
    have b1 : cs.getD m 0 * nf (cs.drop (m + 1)) ≤ cs.getD m 0 := by
      have z := Rat.mul_le_mul_of_nonneg_left n1.2 c1.1
      rwa [Rat.mul_one] at z
    have b2 : (1 - cs.getD m 0) * wn cs l ≤ 1 - cs.getD m 0 := by
      have z := Rat.mul_le_mul_of_nonneg_left i.2 c1.rest.1
      rwa [Rat.mul_one] at z
    refine ⟨?_, ?_⟩
    · show 0 ≤ cs.getD m 0 * nf (cs.drop (m + 1)) + (1 - cs.getD m 0) * wn cs l
      have := a1.1
      have := a2.1
      grind
    · show cs.getD m 0 * nf (cs.drop (m + 1)) + (1 - cs.getD m 0) * wn cs l ≤ 1
      grind
theorem Dd_at {cs : List Rat} {m : Nat} {c : Rat} (e : cs[m]? = some c) : Dd (cs.drop m) = c.den * Dd (cs.drop (m + 1)) := by
  have hm := (List.getElem?_eq_some_iff.mp e).1
  rw [List.drop_eq_getElem_cons hm]
  have e2 := (List.getElem?_eq_some_iff.mp e).2
  rw [e2]
  rfl
theorem Dd_drop2 {cs : List Rat} {k m : Nat} (h : k ≤ m) : Dd (cs.drop m) ∣ Dd (cs.drop k) := by
  have e : cs.drop m = (cs.drop k).drop (m - k) := by rw [List.drop_drop]; congr 1; omega
  rw [e]
  exact Dd_drop _ _
theorem wn_iq {cs : List Rat} : ∀ {l : List Nat} {k : Nat}, Inc cs.length k l → Iq (Dd (cs.drop k)) (wn cs l)
  | [], k, _ => Iq.zero.up (Nat.one_dvd _) (Dd_pos _)
  | m :: l, k, h => by
    have i := wn_iq h.2.2
    have ce : cs[m]? = some (cs.getD m 0) := by rw [List.getD_eq_getElem?_getD, List.getElem?_eq_getElem h.2.1]; rfl
    have dm := Dd_at ce
    have a1 : Iq (Dd (cs.drop m)) (cs.getD m 0 * nf (cs.drop (m + 1))) := by rw [dm]; exact (Iq.self _).mul (nf_iq _)
    have a2 : Iq (Dd (cs.drop m)) ((1 - cs.getD m 0) * wn cs l) := by rw [dm]; exact (Iq.rest _).mul i
    exact (a1.add a2).up (Dd_drop2 h.1) (Dd_pos _)
theorem wn_sz {cs : List Rat} {B k : Nat} (c : Cs B cs) {l : List Nat} (h : Inc cs.length k l) : Sz B (wn cs l) := ((wn_iq h).up (Dd_drop cs k) (Dd_pos _)).sz1 (Dd_pos _) c.dd (wn_in c.one h).1 (wn_in c.one h).2
theorem won_loop {cs : List Rat} {B i : Nat} (c : Cs B cs) (hB : B ≤ 2000) {h : Hs} (t : TrAt h i cs) {N : Env → Hs → Prop} {T : D → Hs → Prop} {d1 : D} : ∀ (l : List Nat) (k : Nat) (x y : Rat) (E : Nat) (d5 : Option D), Inc cs.length k l → Iq E y → 0 < E → E * Dd (cs.drop k) ∣ Dd cs → Iq (Dd cs) x → 0 ≤ x → In1 y → x + y ≤ 1 → (∀ y5 d5, N [some (.obj i), some d1, some (fr (x + y * wn cs l)), some (.lst ((ls cs).map fr)), y5, d5] h) →
    WpS (loopF (.nm 5) (sSeq (sSet 2 (eCall 2 m_plus (aC (eV 2) (aC (eCall 2 m_product (aC (eV 4) (aC (e2 itemD (eV 3) (eV 5)) aN))) aN)))) (sSet 4 (eCall 2 m_product (aC (eV 4) (aC (eCall 2 m_minus (aC (eC (.tup [.int 1, .int 1])) (aC (e2 itemD (eFld "Trials" "chances" (eV 0)) (eV 5)) aN))) aN))))) [] (l.map fun m => .int (m : Nat)) [some (.obj i), some d1, some (fr x), some (.lst ((ls cs).map fr)), some (fr y), d5] h) N T
  | [], k, x, y, E, d5, _, _, _, _, _, _, _, _, kk => by
    unfold loopF
    have e : x + y * wn cs [] = x := by
      show x + y * 0 = x
      grind
    rw [e] at kk
    exact kk _ d5
  | m :: l, k, x, y, E, d5, inc, yi, E0, hE, xi, x0, y1, xy, kk => by
    rw [List.map_cons]
    unfold loopF
    rw [if_pos okG_nil]
    have hm := inc.2.1
    have ce : cs[m]? = some (cs.getD m 0) := by rw [List.getD_eq_getElem?_getD, List.getElem?_eq_getElem hm]; rfl
    have hw : wn cs (m :: l) = cs.getD m 0 * nf (cs.drop (m + 1)) + (1 - cs.getD m 0) * wn cs l := rfl
    rw [hw] at kk
    have cm := List.mem_of_getElem? ce
    generalize cs.getD m 0 = q at ce kk cm
    have q1 := c.one q cm
    have lsm := ls_at ce
    have lm := List.mem_of_getElem? lsm
    have n1 := nf_in (cs := cs.drop (m + 1)) fun c' hq => c.one c' (List.mem_of_mem_drop hq)
    have dm := Dd_at ce
    have E1 : E * Dd (cs.drop m) ∣ Dd cs := Nat.dvd_trans (Nat.mul_dvd_mul_left _ (Dd_drop2 inc.1)) hE
    have El : E ∣ Dd cs := Nat.dvd_trans (Nat.dvd_mul_right _ _) hE
    have sy : Sz B y := (yi.up El (Dd_pos _)).sz1 (Dd_pos _) c.dd y1.1 y1.2
    have xl : x ≤ 1 := by have := y1.1; grind
    have sx : Sz B x := xi.sz1 (Dd_pos _) c.dd x0 xl
    have a1 := q1.mul n1
    have pi : Iq (Dd cs) (y * (q * nf (cs.drop (m + 1)))) := (yi.mul (by rw [dm]; exact (Iq.self q).mul (nf_iq _))).up E1 (Dd_pos _)
    have p1 := y1.mul a1
    have sp : Sz B (y * (q * nf (cs.drop (m + 1)))) := pi.sz1 (Dd_pos _) c.dd p1.1 p1.2
    have sq := c.sz cm
    have s1 : Sz B (1 - q) := (Iq.rest q).sz1 (den_pos q) (c.den cm) q1.rest.1 q1.rest.2
    have mi := minus_eq sz1 sq (by omega) h
    rw [fr1] at mi
    have it3 : itemD (.lst ((ls cs).map fr)) (.int (m : Nat)) h = .ok (fr (q * nf (cs.drop (m + 1)))) h := item_lst (by rw [List.getElem?_map, lsm]; rfl)
    have itc : itemD (.tup (cs.map fr)) (.int (m : Nat)) h = .ok (fr q) h := item_at (by rw [List.getElem?_map, ce]; rfl)
    have f : ∀ ρ : Env, eFld "Trials" "chances" (eV 0) (some (.obj i) :: ρ) h = .ok (.tup (cs.map fr)) h := fun ρ => fld_ch t eV0
    have e : sSeq (sSet 2 (eCall 2 m_plus (aC (eV 2) (aC (eCall 2 m_product (aC (eV 4) (aC (e2 itemD (eV 3) (eV 5)) aN))) aN)))) (sSet 4 (eCall 2 m_product (aC (eV 4) (aC (eCall 2 m_minus (aC (eC (.tup [.int 1, .int 1])) (aC (e2 itemD (eFld "Trials" "chances" (eV 0)) (eV 5)) aN))) aN)))) [some (.obj i), some d1, some (fr x), some (.lst ((ls cs).map fr)), some (fr y), some (.int (m : Nat))] h =
        .nx [some (.obj i), some d1, some (fr (x + y * (q * nf (cs.drop (m + 1))))), some (.lst ((ls cs).map fr)), some (fr (y * (1 - q))), some (.int (m : Nat))] h := by
      rw [seq_nx (ρ1 := [some (.obj i), some d1, some (fr (x + y * (q * nf (cs.drop (m + 1))))), some (.lst ((ls cs).map fr)), some (fr y), some (.int (m : Nat))]) (h1 := h)]
      · simp only [eV0, eVs, bind_ok', then_ok, q_e2, q_e1, q_eC, q_aC, q_aN, q_sPar2, q_sPar3, q_sSet, q_sRet, q_eBf, q_nBf, q_eCall, q_tst, q_tru, q_ifV, q_sIf, q_eTup, q_sPass, q_sExp, q_eLm, q_nLst, q_frz, q_thaw, q_iSeq, q_iR2, q_iR3, q_iEnumD, q_iZip, q_andX, q_andT, q_orT, q_notT, q_eCh, q_sPat, q_eSl, q_nSl, q_pS, q_pN, q_sRetN, q_tYes, q_eDct0, okL0, okL1, okL2, okL3, okL4, okL5, okL6, ent, List.map_cons, List.map_nil, List.length_cons, List.length_nil, List.set_cons_zero, List.set_cons_succ, List.replicate, List.cons_append, List.nil_append, Nat.reduceAdd, Nat.reduceSub, Nat.sub_self, Nat.sub_zero, zero_add', ↓reduceIte, Bool.false_eq_true, item0, item1, addD_ii, subD_ii, negD_i, absD_i, ltD_ii, leD_ii, gtD_ii, geD_ii, truD_bl, decide_true, decide_false, f, itc, mi, product_eq sy s1 (by omega)]
      · simp only [eV0, eVs, bind_ok', then_ok, q_e2, q_e1, q_eC, q_aC, q_aN, q_sPar2, q_sPar3, q_sSet, q_sRet, q_eBf, q_nBf, q_eCall, q_tst, q_tru, q_ifV, q_sIf, q_eTup, q_sPass, q_sExp, q_eLm, q_nLst, q_frz, q_thaw, q_iSeq, q_iR2, q_iR3, q_iEnumD, q_iZip, q_andX, q_andT, q_orT, q_notT, q_eCh, q_sPat, q_eSl, q_nSl, q_pS, q_pN, q_sRetN, q_tYes, q_eDct0, okL0, okL1, okL2, okL3, okL4, okL5, okL6, ent, List.map_cons, List.map_nil, List.length_cons, List.length_nil, List.set_cons_zero, List.set_cons_succ, List.replicate, List.cons_append, List.nil_append, Nat.reduceAdd, Nat.reduceSub, Nat.sub_self, Nat.sub_zero, zero_add', ↓reduceIte, Bool.false_eq_true, item0, item1, addD_ii, subD_ii, negD_i, absD_i, ltD_ii, leD_ii, gtD_ii, geD_ii, truD_bl, decide_true, decide_false, it3, product_eq sy (c.lsz lm) (by omega), plus_eq sx sp (by omega)]
    show WpS (match sSeq (sSet 2 (eCall 2 m_plus (aC (eV 2) (aC (eCall 2 m_product (aC (eV 4) (aC (e2 itemD (eV 3) (eV 5)) aN))) aN)))) (sSet 4 (eCall 2 m_product (aC (eV 4) (aC (eCall 2 m_minus (aC (eC (.tup [.int 1, .int 1])) (aC (e2 itemD (eFld "Trials" "chances" (eV 0)) (eV 5)) aN))) aN)))) [some (.obj i), some d1, some (fr x), some (.lst ((ls cs).map fr)), some (fr y), some (.int (m : Nat))] h with
      | .nx ρ2 h2 => loopF _ _ _ _ ρ2 h2
      | .ct ρ2 h2 => loopF _ _ _ _ ρ2 h2
      | .bk ρ2 h2 => .nx ρ2 h2
      | r => r) N T
    rw [e]
    refine won_loop c hB t l (m + 1) (x + y * (q * nf (cs.drop (m + 1)))) (y * (1 - q)) (E * q.den) _ inc.2.2 (yi.mul (Iq.rest q)) (Nat.mul_pos E0 (den_pos q)) ?_ (xi.add pi) ?_ (y1.mul q1.rest) ?_ ?_
    · rw [Nat.mul_assoc, ← dm]; exact E1
    · have := p1.1; grind
    · have z : y * (q * nf (cs.drop (m + 1))) ≤ y * q := by
        have z1 := Rat.mul_le_mul_of_nonneg_left n1.2 q1.1
        rw [Rat.mul_one] at z1
        exact Rat.mul_le_mul_of_nonneg_left z1 y1.1
      have e3 : y * (1 - q) = y - y * q := by grind
      rw [e3]
      grind
    · intro y5 d5
      have e4 : x + y * (q * nf (cs.drop (m + 1))) + y * (1 - q) * wn cs l = x + y * (q * nf (cs.drop (m + 1)) + (1 - q) * wn cs l) := by grind
      rw [e4]
      exact kk y5 d5
theorem won_eq {cs : List Rat} {B i : Nat} (c : Cs B cs) (hB : B ≤ 2000) (hl : cs.length ≤ 1000) {h : Hs} (t : TrAt h i cs) {l : List Nat} (inc : Inc cs.length 0 l) : m_won [.obj i, lotD l] h = .ok (fr (wn cs l)) h := by
  refine eq_of_wp ?_
  unfold m_won c_won
  have e1 : ent 6 [D.obj i, lotD l] = [some (.obj i), some (lotD l), none, none, none, none] := rfl
  rw [wp_def, e1, wps_seq]
  simp only [q_sPar2, q_aC, q_aN, q_eC, q_eCall, eV0, bind_ok', List.length_cons, List.length_nil, Nat.reduceAdd, decide_true, ↓reduceIte, last_shares_eq t c hB hl, then_ok, wps_nx, List.set_cons_zero, List.set_cons_succ]
  rw [wps_seq, q_sSet, q_eC, then_ok, wps_nx, wps_seq, wps_for]
  simp only [List.set_cons_zero, List.set_cons_succ]
  rw [seq_tup (ce := eV 1) (xs := l.map fun m => .int (m : Nat)) rfl, wp_ok]
  rw [← fr0, ← fr1]
  refine won_loop c hB t l 0 0 1 1 none inc .one Nat.one_pos (by rw [Nat.one_mul, List.drop_zero]; exact Nat.dvd_refl _) (Iq.zero.up (Nat.one_dvd _) (Dd_pos _)) Rat.le_refl .one (by decide +kernel) fun y5 d5 => ?_
  have e : (0 : Rat) + 1 * wn cs l = wn cs l := by grind
  rw [e]
  simp only [eV0, eVs, bind_ok', then_ok, q_e2, q_e1, q_eC, q_aC, q_aN, q_sPar2, q_sPar3, q_sSet, q_sRet, q_eBf, q_nBf, q_eCall, q_tst, q_tru, q_ifV, q_sIf, q_eTup, q_sPass, q_sExp, q_eLm, q_nLst, q_frz, q_thaw, q_iSeq, q_iR2, q_iR3, q_iEnumD, q_iZip, q_andX, q_andT, q_orT, q_notT, q_eCh, q_sPat, q_eSl, q_nSl, q_pS, q_pN, q_sRetN, q_tYes, q_eDct0, okL0, okL1, okL2, okL3, okL4, okL5, okL6, ent, List.map_cons, List.map_nil, List.length_cons, List.length_nil, List.set_cons_zero, List.set_cons_succ, List.replicate, List.cons_append, List.nil_append, Nat.reduceAdd, Nat.reduceSub, Nat.sub_self, Nat.sub_zero, zero_add', ↓reduceIte, Bool.false_eq_true, item0, item1, addD_ii, subD_ii, negD_i, absD_i, ltD_ii, leD_ii, gtD_ii, geD_ii, truD_bl, decide_true, decide_false, wp_ok, wp_bad, wp_bind, wp_nox, wp_def, wps_then, wps_seq, wps_nx, wps_ret, wp_ite, wps_ite]
  exact ⟨trivial, trivial⟩
/-! ### lots that are lots -/
theorem inc_zip {n : Nat} : ∀ {l : List Nat} {k : Nat}, Inc n k l → ∀ x ∈ zipD (l.map fun m => .int (m : Nat)) ((l.map fun m => D.int (m : Nat)).drop 1), ∃ a b : Nat, x = .tup [.int a, .int b] ∧ a < b
  | [], _, _, x, hx => by simp [zipD] at hx
  | [_], _, _, x, hx => by simp [zipD] at hx
  | a :: b :: l, k, h, x, hx => by
    have e : zipD ((a :: b :: l).map fun m => .int (m : Nat)) (((a :: b :: l).map fun m => D.int (m : Nat)).drop 1) = .tup [.int a, .int b] :: zipD ((b :: l).map fun m => .int (m : Nat)) (((b :: l).map fun m => D.int (m : Nat)).drop 1) := rfl
    rw [e] at hx
    rcases List.mem_cons.mp hx with z | z
    · exact ⟨a, b, z, h.2.2.1⟩
    · exact inc_zip h.2.2 x z
theorem is_lot_eq {n : Nat} {l : List Nat} {h : Hs} (inc : Inc n 0 l) (hn : n ≤ 1000) : m_is_lot [lotD l, .int (n : Nat)] h = .ok (.bl true) h := by
  have ll := inc.len (Nat.zero_le _)
  refine eq_of_wp ?_
  unfold m_is_lot c_is_lot
  have c1 := comp_eq (ci := iSeq (eV 0)) (p := .nm 2) (own := [2]) (ce := eCall 3 m_is_within (aC (eV 2) (aC (eC (.int 0)) (aC (e2 subD (eV 1) (eC (.int 1))) aN)))) (ρ := [some (lotD l), some (.int n), none, none]) (h := h) (xs := l.map fun m => .int (m : Nat)) (f := fun _ => .bl true)
    (seq_tup eV0) (by rw [List.length_map]; omega) fun x hx => ⟨[some (lotD l), some (.int n), some x, none], rfl, by
      obtain ⟨m, hm, rfl⟩ := List.mem_map.mp hx
      have z := (inc.all m hm).2
      have w := iswithin_eq (i := m) (lo := 0) (hi := (n : Int) - 1) (h := h) (by omega) (by omega)
      simp only [eV0, eVs, bind_ok', then_ok, q_e2, q_e1, q_eC, q_aC, q_aN, q_sPar2, q_sPar3, q_sSet, q_sRet, q_eBf, q_nBf, q_eCall, q_tst, q_tru, q_ifV, q_sIf, q_eTup, q_sPass, q_sExp, q_eLm, q_nLst, q_frz, q_thaw, q_iSeq, q_iR2, q_iR3, q_iEnumD, q_iZip, q_andX, q_andT, q_orT, q_notT, q_eCh, q_sPat, q_eSl, q_nSl, q_pS, q_pN, q_sRetN, q_tYes, q_eDct0, okL0, okL1, okL2, okL3, okL4, okL5, okL6, ent, List.map_cons, List.map_nil, List.length_cons, List.length_nil, List.set_cons_zero, List.set_cons_succ, List.replicate, List.cons_append, List.nil_append, Nat.reduceAdd, Nat.reduceSub, Nat.sub_self, Nat.sub_zero, zero_add', ↓reduceIte, Bool.false_eq_true, item0, item1, addD_ii, subD_ii, negD_i, absD_i, ltD_ii, leD_ii, gtD_ii, geD_ii, truD_bl, decide_true, decide_false, w]⟩
  have zi : iZip (aC (eV 0) (aC (eSl (eV 0) (pS (eC (.int 1))) pN) aN)) [some (lotD l), some (.int n), none, none] h = .ok ⟨zipD (l.map fun m => .int (m : Nat)) ((l.map fun m => D.int (m : Nat)).drop 1), []⟩ h := by
    have sl : sliceD (lotD l) (some 1) none h = .ok (.tup ((l.map fun m => D.int (m : Nat)).drop 1)) h := slD_tup_from (m := 1)
    simp only [eV0, eVs, bind_ok', then_ok, q_e2, q_e1, q_eC, q_aC, q_aN, q_sPar2, q_sPar3, q_sSet, q_sRet, q_eBf, q_nBf, q_eCall, q_tst, q_tru, q_ifV, q_sIf, q_eTup, q_sPass, q_sExp, q_eLm, q_nLst, q_frz, q_thaw, q_iSeq, q_iR2, q_iR3, q_iEnumD, q_iZip, q_andX, q_andT, q_orT, q_notT, q_eCh, q_sPat, q_eSl, q_nSl, q_pS, q_pN, q_sRetN, q_tYes, q_eDct0, okL0, okL1, okL2, okL3, okL4, okL5, okL6, ent, List.map_cons, List.map_nil, List.length_cons, List.length_nil, List.set_cons_zero, List.set_cons_succ, List.replicate, List.cons_append, List.nil_append, Nat.reduceAdd, Nat.reduceSub, Nat.sub_self, Nat.sub_zero, zero_add', ↓reduceIte, Bool.false_eq_true, item0, item1, addD_ii, subD_ii, negD_i, absD_i, ltD_ii, leD_ii, gtD_ii, geD_ii, truD_bl, decide_true, decide_false, sl]
    rfl
  have c2 := comp_eq (ci := iZip (aC (eV 0) (aC (eSl (eV 0) (pS (eC (.int 1))) pN) aN))) (p := .tp [.nm 2, .nm 3]) (own := [2, 3]) (ce := e2 ltD (eV 2) (eV 3)) (ρ := [some (lotD l), some (.int n), none, none]) (h := h) (f := fun _ => .bl true)
    zi (by rw [zipD_len, List.length_map]; omega) fun x hx => by
      obtain ⟨a, b, rfl, lt⟩ := inc_zip inc x hx
      refine ⟨_, rfl, ?_⟩
      simp only [wipeD, eV0, eVs, bind_ok', then_ok, q_e2, q_e1, q_eC, q_aC, q_aN, q_sPar2, q_sPar3, q_sSet, q_sRet, q_eBf, q_nBf, q_eCall, q_tst, q_tru, q_ifV, q_sIf, q_eTup, q_sPass, q_sExp, q_eLm, q_nLst, q_frz, q_thaw, q_iSeq, q_iR2, q_iR3, q_iEnumD, q_iZip, q_andX, q_andT, q_orT, q_notT, q_eCh, q_sPat, q_eSl, q_nSl, q_pS, q_pN, q_sRetN, q_tYes, q_eDct0, okL0, okL1, okL2, okL3, okL4, okL5, okL6, ent, List.map_cons, List.map_nil, List.length_cons, List.length_nil, List.set_cons_zero, List.set_cons_succ, List.replicate, List.cons_append, List.nil_append, Nat.reduceAdd, Nat.reduceSub, Nat.sub_self, Nat.sub_zero, zero_add', ↓reduceIte, Bool.false_eq_true, item0, item1, addD_ii, subD_ii, negD_i, absD_i, ltD_ii, leD_ii, gtD_ii, geD_ii, truD_bl, decide_true, decide_false, decide_eq_true (show (a : Int) < b by omega)]
  have a1 : ∀ xs : List D, allD [.lst (xs.map fun _ => D.bl true)] h = .ok (.bl true) h := fun xs => by
    rw [allD_map (fun _ => true) xs h]
    simp
  have it : isiD [] [lotD l, .ty "tuple"] h = .ok (.bl true) h := isi_tup
  have e1 : ent 4 [lotD l, D.int (n : Nat)] = [some (lotD l), some (.int n), none, none] := rfl
  rw [wp_def, e1]
  simp only [eV0, eVs, bind_ok', then_ok, q_e2, q_e1, q_eC, q_aC, q_aN, q_sPar2, q_sPar3, q_sSet, q_sRet, q_eBf, q_nBf, q_eCall, q_tst, q_tru, q_ifV, q_sIf, q_eTup, q_sPass, q_sExp, q_eLm, q_nLst, q_frz, q_thaw, q_iSeq, q_iR2, q_iR3, q_iEnumD, q_iZip, q_andX, q_andT, q_orT, q_notT, q_eCh, q_sPat, q_eSl, q_nSl, q_pS, q_pN, q_sRetN, q_tYes, q_eDct0, okL0, okL1, okL2, okL3, okL4, okL5, okL6, ent, List.map_cons, List.map_nil, List.length_cons, List.length_nil, List.set_cons_zero, List.set_cons_succ, List.replicate, List.cons_append, List.nil_append, Nat.reduceAdd, Nat.reduceSub, Nat.sub_self, Nat.sub_zero, zero_add', ↓reduceIte, Bool.false_eq_true, item0, item1, addD_ii, subD_ii, negD_i, absD_i, ltD_ii, leD_ii, gtD_ii, geD_ii, truD_bl, decide_true, decide_false, wp_ok, wp_bad, wp_bind, wp_nox, wp_def, wps_then, wps_seq, wps_nx, wps_ret, wp_ite, wps_ite, c1, c2, a1, it, Bool.not_true, sPass]
  exact ⟨trivial, trivial⟩
theorem win_eq {cs : List Rat} {B i : Nat} (c : Cs B cs) (hB : B ≤ 2000) (hl : cs.length ≤ 1000) {h : Hs} (t : TrAt h i cs) {l : List Nat} (inc : Inc cs.length 0 l) : m_win [.obj i, lotD l] h = .ok (fr (wn cs l)) h := by
  refine eq_of_wp ?_
  unfold m_win c_win
  have f : ∀ ρ : Env, eFld "Trials" "chances" (eV 0) (some (.obj i) :: ρ) h = .ok (.tup (cs.map fr)) h := fun ρ => fld_ch t eV0
  have il := is_lot_eq (h := h) inc hl
  simp only [eV0, eVs, bind_ok', then_ok, q_e2, q_e1, q_eC, q_aC, q_aN, q_sPar2, q_sPar3, q_sSet, q_sRet, q_eBf, q_nBf, q_eCall, q_tst, q_tru, q_ifV, q_sIf, q_eTup, q_sPass, q_sExp, q_eLm, q_nLst, q_frz, q_thaw, q_iSeq, q_iR2, q_iR3, q_iEnumD, q_iZip, q_andX, q_andT, q_orT, q_notT, q_eCh, q_sPat, q_eSl, q_nSl, q_pS, q_pN, q_sRetN, q_tYes, q_eDct0, okL0, okL1, okL2, okL3, okL4, okL5, okL6, ent, List.map_cons, List.map_nil, List.length_cons, List.length_nil, List.set_cons_zero, List.set_cons_succ, List.replicate, List.cons_append, List.nil_append, Nat.reduceAdd, Nat.reduceSub, Nat.sub_self, Nat.sub_zero, zero_add', ↓reduceIte, Bool.false_eq_true, item0, item1, addD_ii, subD_ii, negD_i, absD_i, ltD_ii, leD_ii, gtD_ii, geD_ii, truD_bl, decide_true, decide_false, wp_ok, wp_bad, wp_bind, wp_nox, wp_def, wps_then, wps_seq, wps_nx, wps_ret, wp_ite, wps_ite, f, lenD_tup, List.length_map, il, Bool.not_true, sPass, won_eq c hB hl t inc]
  exact ⟨trivial, trivial⟩
end Pl

/-! Plain laws, 14: the best lots. -/
namespace Pl
open Dl Sh

/-! ### comprehensions over what is made of things -/
section
variable {α : Type} {p : Pat} {ce : Env → M D} {ρ : Env} {h : Hs} {g f : α → D}
theorem lcM : ∀ {xs : List α}, (∀ x ∈ xs, ∃ ρ1, patD p (g x) ρ = some ρ1 ∧ ce ρ1 h = .ok (f x) h) → lcF p tYes' ce [] ρ (xs.map g) h = .ok (xs.map f) h
  | [], _ => by
    show lcF p tYes' ce [] ρ [] h = _
    unfold lcF
    rw [if_pos okG_nil]
    rfl
  | x :: xs, k => by
    obtain ⟨ρ1, e, c⟩ := k x List.mem_cons_self
    rw [List.map_cons]
    unfold lcF
    rw [if_pos okG_nil, e]
    show ((ce ρ1 h).nox.bind fun d h2 => (lcF p tYes' ce [] ρ (xs.map g) h2).bind fun ds h3 => .ok (d :: ds) h3) = _
    rw [c]
    show ((lcF p tYes' ce [] ρ (xs.map g) h).bind fun ds h3 => .ok (f x :: ds) h3) = _
    rw [lcM fun y hy => k y (List.mem_cons_of_mem _ hy)]
    rfl
theorem lcT {ct : Env → M Bool} {t : α → Bool} : ∀ {xs : List α}, (∀ x ∈ xs, ∃ ρ1, patD p (g x) ρ = some ρ1 ∧ ct ρ1 h = .ok (t x) h ∧ (t x = true → ce ρ1 h = .ok (f x) h)) → lcF p ct ce [] ρ (xs.map g) h = .ok ((xs.filter t).map f) h
  | [], _ => by
    show lcF p ct ce [] ρ [] h = _
    unfold lcF
    rw [if_pos okG_nil]
    rfl
  | x :: xs, k => by
    obtain ⟨ρ1, e, c1, c2⟩ := k x List.mem_cons_self
    rw [List.map_cons]
    unfold lcF
    rw [if_pos okG_nil, e]
    show ((ct ρ1 h).nox.bind fun b h1 => if b = true then (ce ρ1 h1).nox.bind fun d h2 => (lcF p ct ce [] ρ (xs.map g) h2).bind fun ds h3 => .ok (d :: ds) h3 else lcF p ct ce [] ρ (xs.map g) h1) = _
    rw [c1]
    show (if t x = true then (ce ρ1 h).nox.bind fun d h2 => (lcF p ct ce [] ρ (xs.map g) h2).bind fun ds h3 => .ok (d :: ds) h3 else lcF p ct ce [] ρ (xs.map g) h) = _
    have ih : lcF p ct ce [] ρ (xs.map g) h = .ok ((xs.filter t).map f) h := lcT fun y hy => k y (List.mem_cons_of_mem _ hy)
    by_cases z : t x = true
    · rw [if_pos z, c2 z, List.filter_cons_of_pos z]
      show ((lcF p ct ce [] ρ (xs.map g) h).bind fun ds h3 => .ok (f x :: ds) h3) = _
      rw [ih]
      rfl
    · rw [if_neg z, List.filter_cons_of_neg z]
      exact ih
theorem compM {ci : Env → M ItD} {own : List Nat} {ρ : Env} {xs : List α} (e : ci ρ h = .ok ⟨xs.map g, []⟩ h) (l : xs.length ≤ 16777216) (k : ∀ x ∈ xs, ∃ ρ1, patD p (g x) (wipeD ρ own) = some ρ1 ∧ ce ρ1 h = .ok (f x) h) : nLc ci p own tYes' ce ρ h = .ok (xs.map f) h := by
  rw [nLc_eq, e]
  show (if okLen (xs.map g).length = true then _ else _) = _
  rw [if_pos (okLen_of (by rw [List.length_map]; exact l))]
  exact lcM k
theorem compT {ci : Env → M ItD} {ct : Env → M Bool} {t : α → Bool} {own : List Nat} {ρ : Env} {xs : List α} (e : ci ρ h = .ok ⟨xs.map g, []⟩ h) (l : xs.length ≤ 16777216) (k : ∀ x ∈ xs, ∃ ρ1, patD p (g x) (wipeD ρ own) = some ρ1 ∧ ct ρ1 h = .ok (t x) h ∧ (t x = true → ce ρ1 h = .ok (f x) h)) : nLc ci p own ct ce ρ h = .ok ((xs.filter t).map f) h := by
  rw [nLc_eq, e]
  show (if okLen (xs.map g).length = true then _ else _) = _
  rw [if_pos (okLen_of (by rw [List.length_map]; exact l))]
  exact lcT k
end
/-! ### all lots -/
def lots : Nat → List (List Nat)
  | 0 => [[]]
  | n + 1 => lots n ++ (lots n).map (· ++ [n])
theorem Inc.wide {n m : Nat} (h : n ≤ m) : ∀ {l : List Nat} {k : Nat}, Inc n k l → Inc m k l
  | [], _, _ => trivial
  | x :: l, k, i => ⟨i.1, Nat.lt_of_lt_of_le i.2.1 h, i.2.2.wide h⟩
theorem Inc.snoc {n : Nat} : ∀ {l : List Nat} {k : Nat}, Inc n k l → k ≤ n → Inc (n + 1) k (l ++ [n])
  | [], _, _, h => ⟨h, Nat.lt_succ_self _, trivial⟩
  | x :: l, k, i, h => ⟨i.1, Nat.lt_succ_of_lt i.2.1, i.2.2.snoc i.2.1⟩
theorem lots_inc : ∀ {n : Nat} {l : List Nat}, l ∈ lots n → Inc n 0 l
  | 0, l, h => by rw [List.mem_singleton.mp h]; trivial
  | n + 1, l, h => by
    rcases List.mem_append.mp h with h | h
    · exact (lots_inc h).wide (Nat.le_succ _)
    · obtain ⟨x, hx, rfl⟩ := List.mem_map.mp h
      exact (lots_inc hx).snoc (Nat.zero_le _)
theorem lots_len : ∀ n : Nat, (lots n).length = 2 ^ n
  | 0 => rfl
  | n + 1 => by
    unfold lots
    rw [List.length_append, List.length_map, lots_len n, Nat.pow_succ]
    omega
theorem lots_nil : ∀ n : Nat, [] ∈ lots n
  | 0 => List.mem_singleton.mpr rfl
  | n + 1 => List.mem_append.mpr (.inl (lots_nil n))
theorem lots_one : ∀ {n m : Nat}, m < n → [m] ∈ lots n
  | 0, _, h => absurd h (Nat.not_lt_zero _)
  | n + 1, m, h => by
    unfold lots
    by_cases e : m = n
    · subst e
      exact List.mem_append.mpr (.inr (List.mem_map.mpr ⟨[], lots_nil m, rfl⟩))
    · exact List.mem_append.mpr (.inl (lots_one (by omega)))
/-! ### the greatest -/
def mxq (x y : Rat) : Rat := if x < y then y else x
def tp (cs : List Rat) : Rat := (lots cs.length).foldl (fun x l => mxq x (wn cs l)) 0
theorem mx_ge (f : List Nat → Rat) : ∀ (ls : List (List Nat)) (x : Rat), x ≤ ls.foldl (fun x l => mxq x (f l)) x ∧ ∀ l ∈ ls, f l ≤ ls.foldl (fun x l => mxq x (f l)) x
  | [], x => ⟨Rat.le_refl, fun l h => by simp at h⟩
  | l :: ls, x => by
    obtain ⟨h1, h2⟩ := mx_ge f ls (mxq x (f l))
    have a : x ≤ mxq x (f l) ∧ f l ≤ mxq x (f l) := by
      unfold mxq
      split
      · rename_i z
        exact ⟨Rat.le_of_lt z, Rat.le_refl⟩
      · rename_i z
        exact ⟨Rat.le_refl, Rat.not_lt.mp z⟩
    refine ⟨Rat.le_trans a.1 h1, fun l' h => ?_⟩
    rcases List.mem_cons.mp h with e | e
    · rw [e]; exact Rat.le_trans a.2 h1
    · exact h2 l' e
theorem mx_at (f : List Nat → Rat) : ∀ (ls : List (List Nat)) (x : Rat), ls.foldl (fun x l => mxq x (f l)) x = x ∨ ∃ l ∈ ls, ls.foldl (fun x l => mxq x (f l)) x = f l
  | [], x => .inl rfl
  | l :: ls, x => by
    rcases mx_at f ls (mxq x (f l)) with h | ⟨l', h1, h2⟩
    · have a : mxq x (f l) = x ∨ mxq x (f l) = f l := by
        unfold mxq
        split
        · exact .inr rfl
        · exact .inl rfl
      rcases a with a | a
      · exact .inl (h.trans a)
      · exact .inr ⟨l, List.mem_cons_self, h.trans a⟩
    · exact .inr ⟨l', List.mem_cons_of_mem _ h1, h2⟩
theorem tp_ge {cs : List Rat} {l : List Nat} (h : l ∈ lots cs.length) : wn cs l ≤ tp cs := (mx_ge (wn cs) _ 0).2 l h
theorem tp_at (cs : List Rat) : ∃ l ∈ lots cs.length, tp cs = wn cs l := by
  rcases mx_at (wn cs) (lots cs.length) 0 with h | h
  · exact ⟨[], lots_nil _, h⟩
  · exact h
/-- the lots that have the greatest chance, in order -/
def enL (l : List Nat) : PySem.PyData := pyF (lotD l)
def topL (cs : List Rat) : List (List Nat) := ((lots cs.length).filter fun l => decide (wn cs l = tp cs)).mergeSort (PySem.W.dataLe false enL)
theorem topL_ne (cs : List Rat) : topL cs ≠ [] := by
  obtain ⟨l, h1, h2⟩ := tp_at cs
  intro e
  have m : l ∈ topL cs := by
    unfold topL
    rw [List.mem_mergeSort]
    exact List.mem_filter.mpr ⟨h1, decide_eq_true h2.symm⟩
  rw [e] at m
  simp at m
def bv (cs : List Rat) : D := .tup [fr (tp cs), .lst ((topL cs).map lotD)]
/-! ### sorted -/
theorem fz_lot (l : List Nat) : Fz 1 (lotD l) := .tup fun x hx => by
  obtain ⟨m, _, rfl⟩ := List.mem_map.mp hx
  exact .int _
theorem al_lots : ∀ (a b : List Nat), PySem.W.alikeAll (pyFs (a.map fun m => .int (m : Nat))) (pyFs (b.map fun m => .int (m : Nat))) = true
  | [], _ => by simp [pyFs, PySem.W.alikeAll]
  | _ :: _, [] => by simp [pyFs, PySem.W.alikeAll]
  | x :: a, y :: b => by
    simp only [List.map_cons, pyFs, pyF, PySem.W.alikeAll, PySem.W.alike, al_lots a b, Bool.and_self]
theorem keyD_lots {h : Hs} : ∀ xs : List (List Nat), keyD h (xs.map lotD) = some (xs.map fun l => (lotD l, enL l))
  | [] => rfl
  | x :: xs => by
    have e := toPy_fz (h := h) ((fz_lot x).mono (show 1 ≤ 60 by decide))
    have ih := keyD_lots (h := h) xs
    unfold keyD at ih ⊢
    rw [List.map_cons, List.map_cons]
    unfold optAll
    rw [ih, e]
    rfl
theorem ok_lots (xs : List (List Nat)) : okSort (xs.map fun l => (lotD l, enL l)) = true := by
  have en : ∀ l : List Nat, enL l = .tuple (pyFs (l.map fun m => .int (m : Nat))) := fun l => by unfold enL lotD; simp only [pyF]
  have e2 : (xs.map fun l => (lotD l, enL l)).map (·.2) = xs.map enL := by rw [List.map_map]; rfl
  unfold okSort
  rw [e2]
  refine Bool.and_eq_true_iff.mpr ⟨?_, Bool.and_eq_true_iff.mpr ⟨?_, ?_⟩⟩
  · refine List.all_eq_true.mpr fun d hd => List.all_eq_true.mpr fun e he => ?_
    obtain ⟨a, _, rfl⟩ := List.mem_map.mp hd
    obtain ⟨b, _, rfl⟩ := List.mem_map.mp he
    rw [en, en]
    simp only [PySem.W.alike]
    exact al_lots a b
  · by_cases z : ([] : List Nat) ∈ xs
    · refine Bool.or_eq_true_iff.mpr (.inr (Bool.and_eq_true_iff.mpr ⟨List.all_eq_true.mpr fun d hd => ?_, List.any_eq_true.mpr ⟨enL [], List.mem_map.mpr ⟨[], z, rfl⟩, ?_⟩⟩))
      · obtain ⟨a, _, rfl⟩ := List.mem_map.mp hd
        rw [en]
      · rw [en]
        simp only [List.map_nil, pyFs]
    · refine Bool.or_eq_true_iff.mpr (.inl (Bool.or_eq_true_iff.mpr (.inl (List.all_eq_true.mpr fun d hd => ?_))))
      obtain ⟨a, ha, rfl⟩ := List.mem_map.mp hd
      rw [en]
      cases a with
      | nil => exact absurd ha z
      | cons x a => simp only [List.map_cons, pyFs]
  · refine List.all_eq_true.mpr fun b hb => ?_
    obtain ⟨a, _, rfl⟩ := List.mem_map.mp hb
    exact decide_eq_true (Nat.le_trans (lay_fz (fz_lot a)).2 (by decide))
theorem sort_lots (xs : List (List Nat)) (h : Hs) : sortN [.lst (xs.map lotD)] h = .ok ((xs.mergeSort (PySem.W.dataLe false enL)).map lotD) h := by
  show (match (some (xs.map lotD)).bind (keyD h) with
    | some bs => if okSort bs then Dl.R.ok ((bs.mergeSort (PySem.W.dataLe false (fun b : D × PySem.PyData => b.2))).map (fun b : D × PySem.PyData => b.1)) h else .bad
    | none => .bad) = _
  rw [Option.bind_some, keyD_lots]
  show (if okSort (xs.map fun l => (lotD l, enL l)) = true then _ else _) = _
  rw [if_pos (ok_lots xs)]
  congr 1
  rw [← List.map_mergeSort (r := PySem.W.dataLe false enL) (f := fun l => (lotD l, enL l)) (fun a _ b _ => rfl), List.map_map]
  rfl
end Pl

/-! Plain laws, 15: best_lots, best. -/
namespace Pl
open Dl Sh

/-- a Trials object, its best lots known or not -/
def Lk (h : Hs) (i : Nat) (cs : List Rat) : Prop := TrAt h i cs ∧ (h[i + 1]? = some (.dI []) ∨ h[i + 1]? = some (.dI [(.inr ("best" : PySem.Str), bv cs)]))
theorem lk_new {cs : List Rat} {h : Hs} : Lk (h ++ [.ins "Trials" [("chances", .tup (cs.map fr)), ("looked", .obj (h.length + 1))], .dI []]) h.length cs := by
  refine ⟨tr_new, .inl ?_⟩
  rw [List.getElem?_append_right (Nat.le_succ _)]
  simp
theorem fld_lk {h : Hs} {i : Nat} {cs : List Rat} (t : TrAt h i cs) {ca : Env → M D} {ρ : Env} (e : ca ρ h = .ok (.obj i) h) : eFld "Trials" "looked" ca ρ h = .ok (.obj (i + 1)) h := by
  obtain ⟨fs, h1, _, h2, _⟩ := t
  rw [q_eFld, e, bind_ok', fields_at h1, Option.bind_some, h2]
theorem seq_none {h : Hs} {n : Nat} {kvs} (e : h[n]? = some (.dI kvs)) : seqOf h (.obj n) = none := by
  show (match h[n]? with
    | some (.lst xs) => some xs
    | _ => none) = none
  rw [e]
theorem nin_dct {h : Hs} {n : Nat} {kvs} {x : PySem.Str} (e : h[n]? = some (.dI kvs)) : ninD (.str x) (.obj n) h = .ok (.bl (!(look kvs (.inr x)).isSome)) h := by
  show (match seqOf h (.obj n) with
    | some ys => (match toPy h pyDepth (.str x), optAll (toPy h pyDepth) ys with
      | some p, some ps => if PySem.SeqAt.shaped p && PySem.SeqAt.shaped (.tuple ps) then Dl.R.ok (D.bl (if true = true then !(ps.any fun z => PySem.PyData.eqv z p) else ps.any fun z => PySem.PyData.eqv z p)) h else .bad
      | _, _ => .bad)
    | none => (match h[n]?, keyOf (.str x) with
        | some (.dI kvs), some k => .ok (.bl (if true = true then !(look kvs k).isSome else (look kvs k).isSome)) h
        | _, _ => .bad)) = _
  rw [seq_none e, e]
  rfl
theorem item_dct {h : Hs} {n : Nat} {kvs} {x : PySem.Str} {d : D} (e : h[n]? = some (.dI kvs)) (l : look kvs (.inr x) = some d) : itemD (.obj n) (.str x) h = .ok d h := by
  show (match seqOf h (.obj n) with
    | some xs => _
    | none => (match h[n]?, keyOf (.str x) with
        | some (.dI kvs), some k => (match look kvs k with
          | some d => Dl.R.ok d h
          | none => .bad)
        | _, _ => _)) = _
  rw [seq_none e, e]
  show (match look kvs (.inr x) with
          | some d => Dl.R.ok d h
          | none => .bad) = _
  rw [l]
theorem set_dct {h : Hs} {n : Nat} {x : PySem.Str} {v : D} (e : h[n]? = some (.dI [])) : setItemD (.obj n) (.str x) v h = some (h.set n (.dI [(.inr x, v)])) := by
  show (match h[n]? with
    | some (.lst xs) => _
    | some (.dI kvs) => (match keyOf (.str x) with
      | some k => if decide (kvs.length < 16777216) then some (h.set n (.dI (putKD kvs k v))) else none
      | none => none)
    | _ => none) = _
  rw [e]
  rfl
theorem lots_small {n : Nat} (h : n ≤ 12) : (lots n).length ≤ 4096 := by
  rw [lots_len]
  exact Nat.pow_le_pow_right (by decide) h (n := 2)
theorem best_lots_spec {cs : List Rat} {B i : Nat} (c : Cs B cs) (hB : B ≤ 2000) (hl : cs.length ≤ 12) {h : Hs} (t : Lk h i cs) : ∃ h', m_best_lots [.obj i] h = .ok (bv cs) h' ∧ Lk h' i cs ∧ h'.length = h.length ∧ ∀ j, j ≠ i + 1 → h'[j]? = h[j]? := by
  suffices w : Wp (m_best_lots [.obj i] h) fun d h' => d = bv cs ∧ Lk h' i cs ∧ h'.length = h.length ∧ ∀ j, j ≠ i + 1 → h'[j]? = h[j]? by
    obtain ⟨d, h', e, e2, r⟩ := wp_ex w
    subst e2
    exact ⟨h', e, r⟩
  obtain ⟨ta, lk⟩ := t
  have fl : ∀ ρ : Env, eFld "Trials" "looked" (eV 0) (some (.obj i) :: ρ) h = .ok (.obj (i + 1)) h := fun ρ => fld_lk ta eV0
  have fc : ∀ ρ : Env, eFld "Trials" "chances" (eV 0) (some (.obj i) :: ρ) h = .ok (.tup (cs.map fr)) h := fun ρ => fld_ch ta eV0
  have e1 : ent 7 [D.obj i] = [some (.obj i), none, none, none, none, none, none] := rfl
  unfold m_best_lots c_best_lots
  rw [wp_def, e1, wps_seq, q_sIf, wps_then]
  rcases lk with lk | lk
  · have ni := nin_dct (x := ("best" : PySem.Str)) lk
    have ni' : ninD (.str "best") (.obj (i + 1)) h = .ok (.bl true) h := ni
    simp only [q_tst, q_e2, q_eC, bind_ok', fl, ni', wp_ok, ↓reduceIte]
    -- the lots
    have ep : sPat (.tp [.nm 1, .nm 2]) (eTup (aC (frz (nLst (aC (eTup aN) aN))) (aC (eC (.tup [.int 0, .int 1])) aN))) [some (.obj i), none, none, none, none, none, none] h = .nx [some (.obj i), some (.lst ((lots 0).map lotD)), some (fr 0), none, none, none, none] h := by
      simp only [eV0, eVs, bind_ok', then_ok, q_e2, q_e1, q_eC, q_aC, q_aN, q_sPar2, q_sPar3, q_sSet, q_sRet, q_eBf, q_nBf, q_eCall, q_tst, q_tru, q_ifV, q_sIf, q_eTup, q_sPass, q_sExp, q_eLm, q_nLst, q_frz, q_thaw, q_iSeq, q_iR2, q_iR3, q_iEnumD, q_iZip, q_andX, q_andT, q_orT, q_notT, q_eCh, q_sPat, q_eSl, q_nSl, q_pS, q_pN, q_sRetN, q_tYes, q_eDct0, okL0, okL1, okL2, okL3, okL4, okL5, okL6, ent, List.map_cons, List.map_nil, List.length_cons, List.length_nil, List.set_cons_zero, List.set_cons_succ, List.replicate, List.cons_append, List.nil_append, Nat.reduceAdd, Nat.reduceSub, Nat.sub_self, Nat.sub_zero, zero_add', ↓reduceIte, Bool.false_eq_true, item0, item1, addD_ii, subD_ii, negD_i, absD_i, ltD_ii, leD_ii, gtD_ii, geD_ii, truD_bl, decide_true, decide_false]
      rfl
    rw [wps_seq, ep, wps_nx, wps_seq, wps_for, iR1_eq (n := cs.length) (h' := h) (by simp only [eV0, eVs, bind_ok', then_ok, q_e2, q_e1, q_eC, q_aC, q_aN, q_sPar2, q_sPar3, q_sSet, q_sRet, q_eBf, q_nBf, q_eCall, q_tst, q_tru, q_ifV, q_sIf, q_eTup, q_sPass, q_sExp, q_eLm, q_nLst, q_frz, q_thaw, q_iSeq, q_iR2, q_iR3, q_iEnumD, q_iZip, q_andX, q_andT, q_orT, q_notT, q_eCh, q_sPat, q_eSl, q_nSl, q_pS, q_pN, q_sRetN, q_tYes, q_eDct0, okL0, okL1, okL2, okL3, okL4, okL5, okL6, ent, List.map_cons, List.map_nil, List.length_cons, List.length_nil, List.set_cons_zero, List.set_cons_succ, List.replicate, List.cons_append, List.nil_append, Nat.reduceAdd, Nat.reduceSub, Nat.sub_self, Nat.sub_zero, zero_add', ↓reduceIte, Bool.false_eq_true, item0, item1, addD_ii, subD_ii, negD_i, absD_i, ltD_ii, leD_ii, gtD_ii, geD_ii, truD_bl, decide_true, decide_false, fc, lenD_tup, List.length_map]) (by omega), wp_ok]
    refine wps_loop (fun j ρ h' => h' = h ∧ ∃ a3, ρ = [some (.obj i), some (.lst ((lots j).map lotD)), some (fr 0), a3, none, none, none]) _ 0 _ _ ?_ ?_ ⟨rfl, none, rfl⟩
    · rintro j x ρ h' hx ⟨rfl, a3, rfl⟩
      rw [Nat.zero_add] at *
      have hj := (List.getElem?_eq_some_iff.mp hx).1
      rw [rng_len] at hj
      rw [rng_at _ _ _ _ hj] at hx
      cases hx
      refine ⟨rfl, _, rfl, ?_⟩
      have e0 : (0 : Int) + (j : Int) * 1 = (j : Int) := by omega
      rw [e0]
      have lj := lots_small (n := j) (by omega)
      have lj1 := lots_small (n := j + 1) (by omega)
      have cc := compM (α := List Nat) (ci := iSeq (eV 1)) (p := .nm 6) (own := [6]) (ce := e2 addD (eV 6) (eTup (aC (eV 3) aN))) (ρ := [some (.obj i), some (.lst ((lots j).map lotD)), some (fr 0), some (.int (j : Nat)), none, none, none]) (h := h') (xs := lots j) (g := lotD) (f := fun l => lotD (l ++ [j]))
        (seq_lst (by simp only [eV0, eVs, bind_ok', then_ok, q_e2, q_e1, q_eC, q_aC, q_aN, q_sPar2, q_sPar3, q_sSet, q_sRet, q_eBf, q_nBf, q_eCall, q_tst, q_tru, q_ifV, q_sIf, q_eTup, q_sPass, q_sExp, q_eLm, q_nLst, q_frz, q_thaw, q_iSeq, q_iR2, q_iR3, q_iEnumD, q_iZip, q_andX, q_andT, q_orT, q_notT, q_eCh, q_sPat, q_eSl, q_nSl, q_pS, q_pN, q_sRetN, q_tYes, q_eDct0, okL0, okL1, okL2, okL3, okL4, okL5, okL6, ent, List.map_cons, List.map_nil, List.length_cons, List.length_nil, List.set_cons_zero, List.set_cons_succ, List.replicate, List.cons_append, List.nil_append, Nat.reduceAdd, Nat.reduceSub, Nat.sub_self, Nat.sub_zero, zero_add', ↓reduceIte, Bool.false_eq_true, item0, item1, addD_ii, subD_ii, negD_i, absD_i, ltD_ii, leD_ii, gtD_ii, geD_ii, truD_bl, decide_true, decide_false])) (by omega) fun l hl' => ⟨_, rfl, by
          have ll := (lots_inc hl').len (Nat.zero_le _)
          have ad : addD (lotD l) (.tup [.int (j : Nat)]) h' = .ok (lotD (l ++ [j])) h' := by
            have z := addD_tt (h := h') (xs := l.map fun m => .int (m : Nat)) (ys := [.int (j : Nat)]) (by rw [List.length_map]; simp; omega)
            have e : lotD (l ++ [j]) = .tup ((l.map fun m => .int (m : Nat)) ++ [.int (j : Nat)]) := by unfold lotD; rw [List.map_append]; rfl
            rw [e]
            exact z
          simp only [wipeD, eV0, eVs, bind_ok', then_ok, q_e2, q_e1, q_eC, q_aC, q_aN, q_sPar2, q_sPar3, q_sSet, q_sRet, q_eBf, q_nBf, q_eCall, q_tst, q_tru, q_ifV, q_sIf, q_eTup, q_sPass, q_sExp, q_eLm, q_nLst, q_frz, q_thaw, q_iSeq, q_iR2, q_iR3, q_iEnumD, q_iZip, q_andX, q_andT, q_orT, q_notT, q_eCh, q_sPat, q_eSl, q_nSl, q_pS, q_pN, q_sRetN, q_tYes, q_eDct0, okL0, okL1, okL2, okL3, okL4, okL5, okL6, ent, List.map_cons, List.map_nil, List.length_cons, List.length_nil, List.set_cons_zero, List.set_cons_succ, List.replicate, List.cons_append, List.nil_append, Nat.reduceAdd, Nat.reduceSub, Nat.sub_self, Nat.sub_zero, zero_add', ↓reduceIte, Bool.false_eq_true, item0, item1, addD_ii, subD_ii, negD_i, absD_i, ltD_ii, leD_ii, gtD_ii, geD_ii, truD_bl, decide_true, decide_false, ad]⟩
      have ad2 : addD (.lst ((lots j).map lotD)) (.lst ((lots j).map fun l => lotD (l ++ [j]))) h' = .ok (.lst ((lots (j + 1)).map lotD)) h' := by
        rw [addD_ll (by rw [List.length_map, List.length_map]; omega)]
        have el : lots (j + 1) = lots j ++ (lots j).map (· ++ [j]) := rfl
        rw [el, List.map_append, List.map_map]
        rfl
      simp only [List.set_cons_zero, List.set_cons_succ, q_sSet, q_e2, q_frz, eV0, eVs, bind_ok', cc, ad2, wps_then, wp_ok, wps_nx]
      exact ⟨trivial, _, rfl⟩
    · rintro ρ h' ⟨rfl, a3, rfl⟩
      rw [Nat.zero_add, rng_len]
      refine ⟨rfl, ?_⟩
      have lj := lots_small hl
      have cr := compM (α := List Nat) (ci := iSeq (eV 1)) (p := .nm 6) (own := [6]) (ce := eTup (aC (eCall 2 m_won (aC (eV 0) (aC (eV 6) aN))) (aC (eV 6) aN))) (ρ := [some (.obj i), some (.lst ((lots cs.length).map lotD)), some (fr 0), a3, none, none, none]) (h := h') (xs := lots cs.length) (g := lotD) (f := fun l => .tup [fr (wn cs l), lotD l])
        (seq_lst (by simp only [eV0, eVs, bind_ok', then_ok, q_e2, q_e1, q_eC, q_aC, q_aN, q_sPar2, q_sPar3, q_sSet, q_sRet, q_eBf, q_nBf, q_eCall, q_tst, q_tru, q_ifV, q_sIf, q_eTup, q_sPass, q_sExp, q_eLm, q_nLst, q_frz, q_thaw, q_iSeq, q_iR2, q_iR3, q_iEnumD, q_iZip, q_andX, q_andT, q_orT, q_notT, q_eCh, q_sPat, q_eSl, q_nSl, q_pS, q_pN, q_sRetN, q_tYes, q_eDct0, okL0, okL1, okL2, okL3, okL4, okL5, okL6, ent, List.map_cons, List.map_nil, List.length_cons, List.length_nil, List.set_cons_zero, List.set_cons_succ, List.replicate, List.cons_append, List.nil_append, Nat.reduceAdd, Nat.reduceSub, Nat.sub_self, Nat.sub_zero, zero_add', ↓reduceIte, Bool.false_eq_true, item0, item1, addD_ii, subD_ii, negD_i, absD_i, ltD_ii, leD_ii, gtD_ii, geD_ii, truD_bl, decide_true, decide_false])) (by omega) fun l hl' => ⟨_, rfl, by
          simp only [wipeD, eV0, eVs, bind_ok', then_ok, q_e2, q_e1, q_eC, q_aC, q_aN, q_sPar2, q_sPar3, q_sSet, q_sRet, q_eBf, q_nBf, q_eCall, q_tst, q_tru, q_ifV, q_sIf, q_eTup, q_sPass, q_sExp, q_eLm, q_nLst, q_frz, q_thaw, q_iSeq, q_iR2, q_iR3, q_iEnumD, q_iZip, q_andX, q_andT, q_orT, q_notT, q_eCh, q_sPat, q_eSl, q_nSl, q_pS, q_pN, q_sRetN, q_tYes, q_eDct0, okL0, okL1, okL2, okL3, okL4, okL5, okL6, ent, List.map_cons, List.map_nil, List.length_cons, List.length_nil, List.set_cons_zero, List.set_cons_succ, List.replicate, List.cons_append, List.nil_append, Nat.reduceAdd, Nat.reduceSub, Nat.sub_self, Nat.sub_zero, zero_add', ↓reduceIte, Bool.false_eq_true, item0, item1, addD_ii, subD_ii, negD_i, absD_i, ltD_ii, leD_ii, gtD_ii, geD_ii, truD_bl, decide_true, decide_false, won_eq c hB (by omega) ta (lots_inc hl')]⟩
      rw [wps_seq, q_sSet, q_frz, cr, bind_ok', then_ok, wps_nx, wps_seq]
      simp only [List.set_cons_zero, List.set_cons_succ]
      rw [wps_for, seq_lst (ce := eV 4) (xs := (lots cs.length).map fun l => .tup [fr (wn cs l), lotD l]) rfl, wp_ok]
      refine wps_loop (fun j ρ g => g = h' ∧ ∃ (a5 a6 : Option D) (y : Rat), ρ = [some (.obj i), some (.lst ((lots cs.length).map lotD)), some (fr y), a3, some (.lst ((lots cs.length).map fun l => .tup [fr (wn cs l), lotD l])), a5, a6] ∧ y = ((lots cs.length).take j).foldl (fun x l => mxq x (wn cs l)) 0 ∧ (y = 0 ∨ ∃ l ∈ lots cs.length, y = wn cs l)) _ 0 _ _ ?_ ?_ ⟨rfl, none, none, 0, rfl, rfl, .inl rfl⟩
      · rintro j x ρ g hx ⟨rfl, a5, a6, y, rfl, ey, hy⟩
        rw [Nat.zero_add] at ey ⊢
        have hj := (List.getElem?_eq_some_iff.mp hx).1
        rw [List.length_map] at hj
        rw [List.getElem?_map, List.getElem?_eq_getElem hj] at hx
        have lm := List.getElem_mem hj
        have tk : (lots cs.length).take (j + 1) = (lots cs.length).take j ++ [(lots cs.length)[j]] := List.take_succ_eq_append_getElem hj
        generalize (lots cs.length)[j] = l at hx lm tk
        cases hx
        refine ⟨rfl, _, rfl, ?_⟩
        have sl := wn_sz c (lots_inc lm)
        have sy : Sz (B + 1) y := by
          rcases hy with e | ⟨l', hl', e⟩
          · rw [e]; exact sz0.mono (by omega)
          · rw [e]; exact (wn_sz c (lots_inc hl')).mono (by omega)
        simp only [List.set_cons_zero, List.set_cons_succ, eV0, eVs, bind_ok', then_ok, q_e2, q_e1, q_eC, q_aC, q_aN, q_sPar2, q_sPar3, q_sSet, q_sRet, q_eBf, q_nBf, q_eCall, q_tst, q_tru, q_ifV, q_sIf, q_eTup, q_sPass, q_sExp, q_eLm, q_nLst, q_frz, q_thaw, q_iSeq, q_iR2, q_iR3, q_iEnumD, q_iZip, q_andX, q_andT, q_orT, q_notT, q_eCh, q_sPat, q_eSl, q_nSl, q_pS, q_pN, q_sRetN, q_tYes, q_eDct0, okL0, okL1, okL2, okL3, okL4, okL5, okL6, ent, List.map_cons, List.map_nil, List.length_cons, List.length_nil, List.set_cons_zero, List.set_cons_succ, List.replicate, List.cons_append, List.nil_append, Nat.reduceAdd, Nat.reduceSub, Nat.sub_self, Nat.sub_zero, zero_add', ↓reduceIte, Bool.false_eq_true, item0, item1, addD_ii, subD_ii, negD_i, absD_i, ltD_ii, leD_ii, gtD_ii, geD_ii, truD_bl, decide_true, decide_false, wp_ok, wp_bad, wp_bind, wp_nox, wp_def, wps_then, wps_seq, wps_nx, wps_ret, wp_ite, wps_ite, greatest_eq sy sl (by omega)]
        refine ⟨trivial, _, _, mxq y (wn cs l), rfl, ?_, ?_⟩
        · rw [tk, List.foldl_append, ← ey]
          rfl
        · unfold mxq
          split
          · exact .inr ⟨l, lm, rfl⟩
          · exact hy
      · rintro ρ g ⟨rfl, a5, a6, y, rfl, ey, hy⟩
        rw [Nat.zero_add, List.length_map, List.take_of_length_le (Nat.le_refl _)] at ey
        have ey' : y = tp cs := ey
        subst ey'
        refine ⟨rfl, ?_⟩
        have ct := compT (α := List Nat) (ci := iSeq (eV 4)) (p := .tp [.nm 5, .nm 6]) (own := [5, 6]) (ct := tst (e2 eqD (eV 5) (eV 2))) (t := fun l => decide (wn cs l = tp cs)) (ce := eV 6) (ρ := [some (.obj i), some (.lst ((lots cs.length).map lotD)), some (fr (tp cs)), a3, some (.lst ((lots cs.length).map fun l => .tup [fr (wn cs l), lotD l])), a5, a6]) (h := g) (xs := lots cs.length) (g := fun l => .tup [fr (wn cs l), lotD l]) (f := lotD)
          (seq_lst (by simp only [eV0, eVs, bind_ok', then_ok, q_e2, q_e1, q_eC, q_aC, q_aN, q_sPar2, q_sPar3, q_sSet, q_sRet, q_eBf, q_nBf, q_eCall, q_tst, q_tru, q_ifV, q_sIf, q_eTup, q_sPass, q_sExp, q_eLm, q_nLst, q_frz, q_thaw, q_iSeq, q_iR2, q_iR3, q_iEnumD, q_iZip, q_andX, q_andT, q_orT, q_notT, q_eCh, q_sPat, q_eSl, q_nSl, q_pS, q_pN, q_sRetN, q_tYes, q_eDct0, okL0, okL1, okL2, okL3, okL4, okL5, okL6, ent, List.map_cons, List.map_nil, List.length_cons, List.length_nil, List.set_cons_zero, List.set_cons_succ, List.replicate, List.cons_append, List.nil_append, Nat.reduceAdd, Nat.reduceSub, Nat.sub_self, Nat.sub_zero, zero_add', ↓reduceIte, Bool.false_eq_true, item0, item1, addD_ii, subD_ii, negD_i, absD_i, ltD_ii, leD_ii, gtD_ii, geD_ii, truD_bl, decide_true, decide_false])) (by omega) fun l hl' => ⟨_, rfl, by
            simp only [wipeD, eV0, eVs, bind_ok', then_ok, q_e2, q_e1, q_eC, q_aC, q_aN, q_sPar2, q_sPar3, q_sSet, q_sRet, q_eBf, q_nBf, q_eCall, q_tst, q_tru, q_ifV, q_sIf, q_eTup, q_sPass, q_sExp, q_eLm, q_nLst, q_frz, q_thaw, q_iSeq, q_iR2, q_iR3, q_iEnumD, q_iZip, q_andX, q_andT, q_orT, q_notT, q_eCh, q_sPat, q_eSl, q_nSl, q_pS, q_pN, q_sRetN, q_tYes, q_eDct0, okL0, okL1, okL2, okL3, okL4, okL5, okL6, ent, List.map_cons, List.map_nil, List.length_cons, List.length_nil, List.set_cons_zero, List.set_cons_succ, List.replicate, List.cons_append, List.nil_append, Nat.reduceAdd, Nat.reduceSub, Nat.sub_self, Nat.sub_zero, zero_add', ↓reduceIte, Bool.false_eq_true, item0, item1, addD_ii, subD_ii, negD_i, absD_i, ltD_ii, leD_ii, gtD_ii, geD_ii, truD_bl, decide_true, decide_false, eqD_fz ((fz_fr (wn cs l)).mono (by decide)) ((fz_fr (tp cs)).mono (by decide)), fr_inj], fun _ => by simp only [wipeD, eV0, eVs, bind_ok', then_ok, q_e2, q_e1, q_eC, q_aC, q_aN, q_sPar2, q_sPar3, q_sSet, q_sRet, q_eBf, q_nBf, q_eCall, q_tst, q_tru, q_ifV, q_sIf, q_eTup, q_sPass, q_sExp, q_eLm, q_nLst, q_frz, q_thaw, q_iSeq, q_iR2, q_iR3, q_iEnumD, q_iZip, q_andX, q_andT, q_orT, q_notT, q_eCh, q_sPat, q_eSl, q_nSl, q_pS, q_pN, q_sRetN, q_tYes, q_eDct0, okL0, okL1, okL2, okL3, okL4, okL5, okL6, ent, List.map_cons, List.map_nil, List.length_cons, List.length_nil, List.set_cons_zero, List.set_cons_succ, List.replicate, List.cons_append, List.nil_append, Nat.reduceAdd, Nat.reduceSub, Nat.sub_self, Nat.sub_zero, zero_add', ↓reduceIte, Bool.false_eq_true, item0, item1, addD_ii, subD_ii, negD_i, absD_i, ltD_ii, leD_ii, gtD_ii, geD_ii, truD_bl, decide_true, decide_false]⟩
        have so := sort_lots ((lots cs.length).filter fun l => decide (wn cs l = tp cs)) g
        rw [wps_store]
        have st := set_dct (x := ("best" : PySem.Str)) (v := bv cs) lk
        have hi : i + 1 < g.length := (List.getElem?_eq_some_iff.mp lk).1
        have fin : (g.set (i + 1) (.dI [(.inr ("best" : PySem.Str), bv cs)]))[i + 1]? = some (.dI [(.inr ("best" : PySem.Str), bv cs)]) := List.getElem?_set_self hi
        have keep : ∀ j, j ≠ i + 1 → (g.set (i + 1) (.dI [(.inr ("best" : PySem.Str), bv cs)]))[j]? = g[j]? := fun j hj => List.getElem?_set_ne (by omega)
        have ta2 : TrAt (g.set (i + 1) (.dI [(.inr ("best" : PySem.Str), bv cs)])) i cs := by
          obtain ⟨fs, h1, r⟩ := ta
          exact ⟨fs, by rw [keep i (by omega)]; exact h1, r⟩
        have fl2 : ∀ ρ : Env, eFld "Trials" "looked" (eV 0) (some (.obj i) :: ρ) (g.set (i + 1) (.dI [(.inr ("best" : PySem.Str), bv cs)])) = .ok (.obj (i + 1)) (g.set (i + 1) (.dI [(.inr ("best" : PySem.Str), bv cs)])) := fun ρ => fld_lk ta2 eV0
        have it := item_dct (x := ("best" : PySem.Str)) (d := bv cs) fin (by rfl)
        have st' : setItemD (.obj (i + 1)) (.str "best") (.tup [fr (tp cs), .lst (((lots cs.length).filter fun l => decide (wn cs l = tp cs)).mergeSort (PySem.W.dataLe false enL) |>.map lotD)]) g = some (g.set (i + 1) (.dI [(.inr ("best" : PySem.Str), bv cs)])) := st
        simp only [q_eTup, q_aC, q_aN, q_frz, q_nBf, eV0, eVs, bind_ok', ct, so, List.length_cons, List.length_nil, okL2, ↓reduceIte, Nat.reduceAdd, wp_ok, fl, q_eC, st', wps_nx]
        rw [q_sRet, q_e2, fl2, bind_ok', q_eC, bind_ok', it, then_ok, wps_ret]
        exact ⟨rfl, ⟨ta2, .inr fin⟩, by rw [List.length_set], keep⟩
  · have ni := nin_dct (x := ("best" : PySem.Str)) lk
    have ni' : ninD (.str "best") (.obj (i + 1)) h = .ok (.bl false) h := ni
    have it := item_dct (x := ("best" : PySem.Str)) (d := bv cs) lk (by rfl)
    simp only [q_tst, q_e2, q_eC, bind_ok', fl, ni', wp_ok, Bool.false_eq_true, ↓reduceIte, sPass, wps_nx, q_sRet, it, then_ok, wps_ret]
    exact ⟨trivial, ⟨ta, .inr lk⟩, trivial, fun _ _ => trivial⟩
theorem best_spec {cs : List Rat} {B i : Nat} (c : Cs B cs) (hB : B ≤ 2000) (hl : cs.length ≤ 12) {h : Hs} (t : Lk h i cs) : ∃ h' l ls, topL cs = l :: ls ∧ m_best [.obj i] h = .ok (.tup [fr (tp cs), lotD l]) h' ∧ Lk h' i cs ∧ h'.length = h.length ∧ ∀ j, j ≠ i + 1 → h'[j]? = h[j]? := by
  obtain ⟨h', e, lk, r⟩ := best_lots_spec c hB hl t
  obtain ⟨l, ls, el⟩ : ∃ l ls, topL cs = l :: ls := by
    cases z : topL cs with
    | nil => exact absurd z (topL_ne cs)
    | cons l ls => exact ⟨l, ls, rfl⟩
  refine ⟨h', l, ls, el, ?_, lk, r⟩
  refine mdef_ret (h' := h') ?_
  unfold c_best
  have it : itemD (.lst ((topL cs).map lotD)) (.int 0) h' = .ok (lotD l) h' := item_lst (i := 0) (by rw [el]; rfl)
  have e1 : ent 3 [D.obj i] = [some (.obj i), none, none] := rfl
  rw [e1, seq_nx (ρ1 := [some (.obj i), some (fr (tp cs)), some (.lst ((topL cs).map lotD))]) (h1 := h')]
  · simp only [eV0, eVs, bind_ok', then_ok, q_e2, q_e1, q_eC, q_aC, q_aN, q_sPar2, q_sPar3, q_sSet, q_sRet, q_eBf, q_nBf, q_eCall, q_tst, q_tru, q_ifV, q_sIf, q_eTup, q_sPass, q_sExp, q_eLm, q_nLst, q_frz, q_thaw, q_iSeq, q_iR2, q_iR3, q_iEnumD, q_iZip, q_andX, q_andT, q_orT, q_notT, q_eCh, q_sPat, q_eSl, q_nSl, q_pS, q_pN, q_sRetN, q_tYes, q_eDct0, okL0, okL1, okL2, okL3, okL4, okL5, okL6, ent, List.map_cons, List.map_nil, List.length_cons, List.length_nil, List.set_cons_zero, List.set_cons_succ, List.replicate, List.cons_append, List.nil_append, Nat.reduceAdd, Nat.reduceSub, Nat.sub_self, Nat.sub_zero, zero_add', ↓reduceIte, Bool.false_eq_true, item0, item1, addD_ii, subD_ii, negD_i, absD_i, ltD_ii, leD_ii, gtD_ii, geD_ii, truD_bl, decide_true, decide_false, it]
  · rw [q_sPat, q_eCall]
    simp only [q_aC, q_aN, eV0, bind_ok', List.length_cons, List.length_nil, Nat.reduceAdd, decide_true, ↓reduceIte, e, then_ok]
    rfl
end Pl

/-! Plain laws, 16: the first hand: its draws, shares, rows; what is due of last good ones. -/
namespace Pl
open Dl Sh

def e3a : Env → M D := e2 addD (e2 addD (e2 mulD (e2 itemD (eV 0) (eC (.int 3))) (eC (.int 69621))) (eV 2)) (eC (.int 11))
theorem hand_a : Dr m__law_draw_v2 (.obj 0) 1 Hd := by
  have z : Dr (mDef 5 (cHand e3a)) (.obj 0) 1 Hd := hand_dr fun h l z n p s c a b d e s0 s1 c0 cb => by
    have i3 : itemD (.obj 0) (.int 3) h = .ok (.int s) h := item_obj (i := 3) e rfl
    have m : okMul s 69621 = true := okMul_small (small_lt (by omega)) (by decide +kernel)
    refine ⟨s * 69621 + c + 11, ?_⟩
    unfold e3a
    simp only [eV0, eVs, bind_ok', then_ok, q_e2, q_e1, q_eC, q_aC, q_aN, q_sPar2, q_sPar3, q_sSet, q_sRet, q_eBf, q_nBf, q_eCall, q_tst, q_tru, q_ifV, q_sIf, q_eTup, q_sPass, q_sExp, q_eLm, q_nLst, q_frz, q_thaw, q_iSeq, q_iR2, q_iR3, q_iEnumD, q_iZip, q_andX, q_andT, q_orT, q_notT, q_eCh, q_sPat, q_eSl, q_nSl, q_pS, q_pN, q_sRetN, q_tYes, q_eDct0, okL0, okL1, okL2, okL3, okL4, okL5, okL6, ent, List.map_cons, List.map_nil, List.length_cons, List.length_nil, List.set_cons_zero, List.set_cons_succ, List.replicate, List.cons_append, List.nil_append, Nat.reduceAdd, Nat.reduceSub, Nat.sub_self, Nat.sub_zero, zero_add', ↓reduceIte, Bool.false_eq_true, item0, item1, addD_ii, subD_ii, negD_i, absD_i, ltD_ii, leD_ii, gtD_ii, geD_ii, truD_bl, decide_true, decide_false, i3, mulD_ii m]
  exact z
theorem intBits_abs (i : Int) : PySem.Builtin.Int.intBits (i.natAbs : Int) = PySem.Builtin.Int.intBits i := by
  unfold PySem.Builtin.Int.intBits
  simp only [Int.natAbs_natCast]
  split <;> split <;> simp_all
theorem hand_spec {ns : List Int} {Q : D → Hs → Prop} (hl : ns.length ≤ 63) (hb : ∀ z ∈ ns, PySem.Builtin.Int.intBits z ≤ 1048576) (k : ∀ h, Hd h 0 → h.length = 1 → Q (.obj 0) h) : Wp (m__law_hand [.scr ns] []) Q := by
  unfold m__law_hand c__law_hand
  have e1 : ent 3 [D.scr ns] = [some (.scr ns), none, none] := rfl
  have s63 : ∀ ρ : Env, eSl (eV 0) pN (pS (eC (.int 63))) (some (.scr ns) :: ρ) [] = .ok (.lst ((ns.take 63).map D.int)) [] := fun ρ => by
    have z : sliceD (.scr ns) none (some 63) [] = .ok (.lst ((ns.take 63).map D.int)) [] := slD_scr_to (m := 63)
    simp only [eV0, eVs, bind_ok', then_ok, q_e2, q_e1, q_eC, q_aC, q_aN, q_sPar2, q_sPar3, q_sSet, q_sRet, q_eBf, q_nBf, q_eCall, q_tst, q_tru, q_ifV, q_sIf, q_eTup, q_sPass, q_sExp, q_eLm, q_nLst, q_frz, q_thaw, q_iSeq, q_iR2, q_iR3, q_iEnumD, q_iZip, q_andX, q_andT, q_orT, q_notT, q_eCh, q_sPat, q_eSl, q_nSl, q_pS, q_pN, q_sRetN, q_tYes, q_eDct0, okL0, okL1, okL2, okL3, okL4, okL5, okL6, ent, List.map_cons, List.map_nil, List.length_cons, List.length_nil, List.set_cons_zero, List.set_cons_succ, List.replicate, List.cons_append, List.nil_append, Nat.reduceAdd, Nat.reduceSub, Nat.sub_self, Nat.sub_zero, zero_add', ↓reduceIte, Bool.false_eq_true, item0, item1, addD_ii, subD_ii, negD_i, absD_i, ltD_ii, leD_ii, gtD_ii, geD_ii, truD_bl, decide_true, decide_false, z]
  have c := compM (α := Int) (ci := iSeq (eSl (eV 0) pN (pS (eC (.int 63))))) (p := .nm 2) (own := [2]) (ce := eBf absD (aC (eBf intD (aC (eV 2) aN)) aN)) (ρ := [some (.scr ns), none, none]) (h := []) (xs := ns.take 63) (g := D.int) (f := fun i => .int i.natAbs)
    (seq_lst (s63 _)) (by rw [List.length_take]; omega) fun i hi => ⟨_, rfl, by simp only [wipeD, eV0, eVs, bind_ok', then_ok, q_e2, q_e1, q_eC, q_aC, q_aN, q_sPar2, q_sPar3, q_sSet, q_sRet, q_eBf, q_nBf, q_eCall, q_tst, q_tru, q_ifV, q_sIf, q_eTup, q_sPass, q_sExp, q_eLm, q_nLst, q_frz, q_thaw, q_iSeq, q_iR2, q_iR3, q_iEnumD, q_iZip, q_andX, q_andT, q_orT, q_notT, q_eCh, q_sPat, q_eSl, q_nSl, q_pS, q_pN, q_sRetN, q_tYes, q_eDct0, okL0, okL1, okL2, okL3, okL4, okL5, okL6, ent, List.map_cons, List.map_nil, List.length_cons, List.length_nil, List.set_cons_zero, List.set_cons_succ, List.replicate, List.cons_append, List.nil_append, Nat.reduceAdd, Nat.reduceSub, Nat.sub_self, Nat.sub_zero, zero_add', ↓reduceIte, Bool.false_eq_true, item0, item1, addD_ii, subD_ii, negD_i, absD_i, ltD_ii, leD_ii, gtD_ii, geD_ii, truD_bl, decide_true, decide_false, intD_i]⟩
  rw [wp_def, e1]
  simp only [eV0, eVs, bind_ok', then_ok, q_e2, q_e1, q_eC, q_aC, q_aN, q_sPar2, q_sPar3, q_sSet, q_sRet, q_eBf, q_nBf, q_eCall, q_tst, q_tru, q_ifV, q_sIf, q_eTup, q_sPass, q_sExp, q_eLm, q_nLst, q_frz, q_thaw, q_iSeq, q_iR2, q_iR3, q_iEnumD, q_iZip, q_andX, q_andT, q_orT, q_notT, q_eCh, q_sPat, q_eSl, q_nSl, q_pS, q_pN, q_sRetN, q_tYes, q_eDct0, okL0, okL1, okL2, okL3, okL4, okL5, okL6, ent, List.map_cons, List.map_nil, List.length_cons, List.length_nil, List.set_cons_zero, List.set_cons_succ, List.replicate, List.cons_append, List.nil_append, Nat.reduceAdd, Nat.reduceSub, Nat.sub_self, Nat.sub_zero, zero_add', ↓reduceIte, Bool.false_eq_true, item0, item1, addD_ii, subD_ii, negD_i, absD_i, ltD_ii, leD_ii, gtD_ii, geD_ii, truD_bl, decide_true, decide_false, wp_ok, wp_bad, wp_bind, wp_nox, wp_def, wps_then, wps_seq, wps_nx, wps_ret, wp_ite, wps_ite, c, lenD_lst, List.length_map]
  refine k _ ⟨(ns.take 63).map fun i => (i.natAbs : Int), 0, 0, 1 + ((ns.take 63).length : Int), 0, ?_, ?_, Int.le_refl _, by omega, ?_, Int.le_refl _, Int.le_refl _⟩ rfl
  · rw [List.map_map]
    rfl
  · intro c hc
    obtain ⟨i, hi, rfl⟩ := List.mem_map.mp hc
    exact ⟨Int.natCast_nonneg _, by rw [intBits_abs]; exact hb i (List.mem_of_mem_take hi)⟩
  · rw [List.length_take]
    omega
/-- a share as drawn: of 0 to 1, its bottom below 2 ^ 67 -/
def Shr (q : Rat) : Prop := In1 q ∧ q.den < 2 ^ 67
theorem div_shr {n d : Int} (h0 : 0 ≤ n) (h1 : n ≤ d) (h2 : 0 < d) (h3 : d < 1099511627776) : Shr (Rat.divInt n d) := by
  have z := div_sh h0 h1 h2 h3
  exact ⟨⟨z.1, z.2.1⟩, Nat.lt_of_lt_of_le z.2.2.2 (Nat.pow_le_pow_right (by decide) (by decide))⟩
theorem share_spec {h : Hs} {N : Nat} {Q : D → Hs → Prop} (t : Hd h N) (hN : N + 3 ≤ 1000000) (k : ∀ q h', Shr q → Hd h' (N + 3) → Gb 1 h h' → Q (fr q) h') : Wp (m__law_share [.obj 0] h) Q := by
  unfold m__law_share c__law_share
  have e1 : ent 3 [D.obj 0] = [some (.obj 0), none, none] := rfl
  rw [wp_def, e1]
  simp only [eV0, eVs, bind_ok', then_ok, q_e2, q_e1, q_eC, q_aC, q_aN, q_sPar2, q_sPar3, q_sSet, q_sRet, q_eBf, q_nBf, q_eCall, q_tst, q_tru, q_ifV, q_sIf, q_eTup, q_sPass, q_sExp, q_eLm, q_nLst, q_frz, q_thaw, q_iSeq, q_iR2, q_iR3, q_iEnumD, q_iZip, q_andX, q_andT, q_orT, q_notT, q_eCh, q_sPat, q_eSl, q_nSl, q_pS, q_pN, q_sRetN, q_tYes, q_eDct0, okL0, okL1, okL2, okL3, okL4, okL5, okL6, ent, List.map_cons, List.map_nil, List.length_cons, List.length_nil, List.set_cons_zero, List.set_cons_succ, List.replicate, List.cons_append, List.nil_append, Nat.reduceAdd, Nat.reduceSub, Nat.sub_self, Nat.sub_zero, zero_add', ↓reduceIte, Bool.false_eq_true, item0, item1, addD_ii, subD_ii, negD_i, absD_i, ltD_ii, leD_ii, gtD_ii, geD_ii, truD_bl, decide_true, decide_false, wp_ok, wp_bad, wp_bind, wp_nox, wp_def, wps_then, wps_seq, wps_nx, wps_ret, wp_ite, wps_ite]
  refine hand_a.draw t (sides := 9) (by decide) (by decide) (by omega) fun d h1 d0 d1 t1 g1 => ?_
  simp only [eV0, eVs, bind_ok', then_ok, q_e2, q_e1, q_eC, q_aC, q_aN, q_sPar2, q_sPar3, q_sSet, q_sRet, q_eBf, q_nBf, q_eCall, q_tst, q_tru, q_ifV, q_sIf, q_eTup, q_sPass, q_sExp, q_eLm, q_nLst, q_frz, q_thaw, q_iSeq, q_iR2, q_iR3, q_iEnumD, q_iZip, q_andX, q_andT, q_orT, q_notT, q_eCh, q_sPat, q_eSl, q_nSl, q_pS, q_pN, q_sRetN, q_tYes, q_eDct0, okL0, okL1, okL2, okL3, okL4, okL5, okL6, ent, List.map_cons, List.map_nil, List.length_cons, List.length_nil, List.set_cons_zero, List.set_cons_succ, List.replicate, List.cons_append, List.nil_append, Nat.reduceAdd, Nat.reduceSub, Nat.sub_self, Nat.sub_zero, zero_add', ↓reduceIte, Bool.false_eq_true, item0, item1, addD_ii, subD_ii, negD_i, absD_i, ltD_ii, leD_ii, gtD_ii, geD_ii, truD_bl, decide_true, decide_false, wp_ok, wp_bad, wp_bind, wp_nox, wp_def, wps_then, wps_seq, wps_nx, wps_ret, wp_ite, wps_ite]
  refine hand_a.draw t1 (sides := 1 + d + 1) (by omega) (by omega) (by omega) fun e h2 e0 e1 t2 g2 => ?_
  have low := low_eq e (1 + d) h2 (by omega) (Nat.lt_of_lt_of_le (show (1 + d).natAbs < 2 ^ 64 by omega) pow18)
  have m4 : mulD (.lst [fr (Rat.divInt e (1 + d))]) (.int 4) h2 = .ok (.lst (List.replicate 4 (fr (Rat.divInt e (1 + d))))) h2 := mulD_l (k := 4) (by decide)
  have ad : addD (.lst (List.replicate 4 (fr (Rat.divInt e (1 + d))))) (.lst [.tup [.int 0, .int 1], .tup [.int 1, .int 1], .tup [.int 1, .int 2], .tup [.int 1, .int 100000000000000000039]]) h2 = .ok (.lst (List.replicate 4 (fr (Rat.divInt e (1 + d))) ++ [.tup [.int 0, .int 1], .tup [.int 1, .int 1], .tup [.int 1, .int 2], .tup [.int 1, .int 100000000000000000039]])) h2 := addD_ll (by simp)
  have p20 : powD (.int 10) (.int 20) h2 = .ok (.int 100000000000000000000) h2 := nr rfl
  have s39 : addD (.int 100000000000000000000) (.int 39) h2 = .ok (.int 100000000000000000039) h2 := nr rfl
  simp only [q_nLst, q_frz, q_eTup, q_aC, q_aN, q_eC, q_e2, eV0, eVs, bind_ok', wp_bind, wp_ok, wps_nx, low, m4, p20, s39, List.length_cons, List.length_nil, okL1, okL2, okL3, okL4, ↓reduceIte, Nat.reduceAdd, Nat.zero_add, List.set_cons_zero, List.set_cons_succ, wps_then, q_sRet, q_sSet, wps_seq, q_eCall, decide_true, ad]
  refine hand_a.any t2 (by simp) (by simp) (by omega) fun b h3 hb t3 g3 => ?_
  obtain ⟨q, rfl, hq⟩ : ∃ q, b = fr q ∧ Shr q := by
    rcases List.mem_append.mp hb with z | z
    · exact ⟨_, List.eq_of_mem_replicate z, div_shr e0 (by omega) (by omega) (by omega)⟩
    · simp only [List.mem_cons, List.not_mem_nil, or_false] at z
      rcases z with z | z | z | z
      · exact ⟨0, by rw [z]; rfl, ⟨by decide +kernel, by decide +kernel⟩, by decide +kernel⟩
      · exact ⟨1, by rw [z]; rfl, ⟨by decide +kernel, by decide +kernel⟩, by decide +kernel⟩
      · exact ⟨1 / 2, by rw [z]; decide +kernel, ⟨by decide +kernel, by decide +kernel⟩, by decide +kernel⟩
      · exact ⟨1 / 100000000000000000039, by rw [z]; decide +kernel, ⟨by decide +kernel, by decide +kernel⟩, by decide +kernel⟩
  exact k q h3 hq t3 ((g1.trans g2).trans g3)
/-- a row as drawn -/
def Row (qs : List Rat) : Prop := 1 ≤ qs.length ∧ qs.length ≤ 12 ∧ ∀ q ∈ qs, Shr q
theorem Row.cs {qs : List Rat} (r : Row qs) : Cs 1000 qs := by
  refine ⟨fun q hq => (r.2.2 q hq).1, ?_⟩
  have f : ∀ {l : List Rat}, (∀ q ∈ l, Shr q) → Dd l ≤ 2 ^ (67 * l.length) := by
    intro l
    induction l with
    | nil => intro _; exact Nat.le_refl _
    | cons q l ih =>
      intro h
      have h1 := (h q List.mem_cons_self).2
      have h2 := ih fun x hx => h x (List.mem_cons_of_mem _ hx)
      rw [List.length_cons, Nat.mul_succ, Nat.add_comm, Nat.pow_add]
      exact Nat.mul_le_mul (Nat.le_of_lt h1) h2
  exact Nat.lt_of_le_of_lt (f r.2.2) (Nat.pow_lt_pow_right (by decide) (by have := r.2.1; omega))
theorem row_spec {h : Hs} {N : Nat} {Q : D → Hs → Prop} (t : Hd h N) (hN : N + 40 ≤ 1000000) (k : ∀ qs h', Row qs → Hd h' (N + 40) → Gb 1 h h' → Q (.tup (qs.map fr)) h') : Wp (m__law_row [.obj 0, .int 12] h) Q := by
  unfold m__law_row c__law_row
  have e1 : ent 3 [D.obj 0, .int 12] = [some (.obj 0), some (.int 12), none] := rfl
  rw [wp_def, e1, q_sRet, wps_then, q_eBf, wp_bind, q_aC, wp_bind, q_frz, wp_bind, nLc_eq, wp_bind]
  refine hand_a.range1 t (s := 12) (by decide) (by decide) (by omega) rfl rfl fun n h1 n1 n2 t1 g1 => ?_
  show Wp (if okLen (rng 0 1 n).length = true then _ else _) _
  rw [rng_len, if_pos (okLen_of (by omega))]
  refine hand_a.comp (c := 3) (fun d => ∃ q, d = fr q ∧ Shr q) t1 (fun j x h' hx t' g' => ?_) fun ds h2 hl hp t2 g2 => ?_
  · have hj := (List.getElem?_eq_some_iff.mp hx).1
    rw [rng_len] at hj
    refine ⟨_, rfl, ?_⟩
    simp only [wipeD, eV0, eVs, bind_ok', then_ok, q_e2, q_e1, q_eC, q_aC, q_aN, q_sPar2, q_sPar3, q_sSet, q_sRet, q_eBf, q_nBf, q_eCall, q_tst, q_tru, q_ifV, q_sIf, q_eTup, q_sPass, q_sExp, q_eLm, q_nLst, q_frz, q_thaw, q_iSeq, q_iR2, q_iR3, q_iEnumD, q_iZip, q_andX, q_andT, q_orT, q_notT, q_eCh, q_sPat, q_eSl, q_nSl, q_pS, q_pN, q_sRetN, q_tYes, q_eDct0, okL0, okL1, okL2, okL3, okL4, okL5, okL6, ent, List.map_cons, List.map_nil, List.length_cons, List.length_nil, List.set_cons_zero, List.set_cons_succ, List.replicate, List.cons_append, List.nil_append, Nat.reduceAdd, Nat.reduceSub, Nat.sub_self, Nat.sub_zero, zero_add', ↓reduceIte, Bool.false_eq_true, item0, item1, addD_ii, subD_ii, negD_i, absD_i, ltD_ii, leD_ii, gtD_ii, geD_ii, truD_bl, decide_true, decide_false]
    exact share_spec t' (by omega) fun q h3 hq t3 g3 => ⟨⟨q, rfl, hq⟩, t3, g3⟩
  rw [rng_len] at hl t2
  have ex : ∀ {ds : List D}, (∀ d ∈ ds, ∃ q, d = fr q ∧ Shr q) → ∃ qs : List Rat, ds = qs.map fr ∧ ∀ q ∈ qs, Shr q := by
    intro ds
    induction ds with
    | nil => intro _; exact ⟨[], rfl, by simp⟩
    | cons d ds ih =>
      intro h
      obtain ⟨q, rfl, s⟩ := h d List.mem_cons_self
      obtain ⟨qs, rfl, k⟩ := ih fun x hx => h x (List.mem_cons_of_mem _ hx)
      exact ⟨q :: qs, rfl, fun x hx => by
        rcases List.mem_cons.mp hx with e | e
        · rw [e]; exact s
        · exact k x e⟩
  obtain ⟨qs, rfl, hq⟩ := ex hp
  rw [List.length_map] at hl
  simp only [eV0, eVs, bind_ok', then_ok, q_e2, q_e1, q_eC, q_aC, q_aN, q_sPar2, q_sPar3, q_sSet, q_sRet, q_eBf, q_nBf, q_eCall, q_tst, q_tru, q_ifV, q_sIf, q_eTup, q_sPass, q_sExp, q_eLm, q_nLst, q_frz, q_thaw, q_iSeq, q_iR2, q_iR3, q_iEnumD, q_iZip, q_andX, q_andT, q_orT, q_notT, q_eCh, q_sPat, q_eSl, q_nSl, q_pS, q_pN, q_sRetN, q_tYes, q_eDct0, okL0, okL1, okL2, okL3, okL4, okL5, okL6, ent, List.map_cons, List.map_nil, List.length_cons, List.length_nil, List.set_cons_zero, List.set_cons_succ, List.replicate, List.cons_append, List.nil_append, Nat.reduceAdd, Nat.reduceSub, Nat.sub_self, Nat.sub_zero, zero_add', ↓reduceIte, Bool.false_eq_true, item0, item1, addD_ii, subD_ii, negD_i, absD_i, ltD_ii, leD_ii, gtD_ii, geD_ii, truD_bl, decide_true, decide_false, wp_ok, wp_bad, wp_bind, wp_nox, wp_def, wps_then, wps_seq, wps_nx, wps_ret, wp_ite, wps_ite, tupD_lst]
  exact k qs h2 ⟨by omega, by omega, hq⟩ (hand_a.mono t2 (by omega)) (g1.trans g2)
/-! ### what is due -/
theorem due_loop {B : Nat} (hB : B ≤ 2000) {b : Nat} {h0 : Hs} {N : Env → Hs → Prop} {T : D → Hs → Prop} {d0 : D} {n : Nat} : ∀ (rs cs : List Rat) (d3 : Option D) (h : Hs), Cs B (rs.reverse ++ cs) → (rs.reverse ++ cs).length ≤ 1000 → h[n]? = some (.lst ((ls cs).reverse.map fr)) → Gb b h0 h → h0.length ≤ n →
    (∀ d3 h', h'[n]? = some (.lst ((ls (rs.reverse ++ cs)).reverse.map fr)) → Gb b h0 h' → (∀ j, j ≠ n → h'[j]? = h[j]?) → N [some d0, some (.obj n), some (fr (nf (rs.reverse ++ cs))), d3] h') →
    WpS (loopF (.nm 3) (sSeq (sExp (eLm appD (eV 1) (aC (eCall 2 m__law_mul (aC (eV 3) (aC (eV 2) aN))) aN))) (sSet 2 (eCall 2 m__law_mul (aC (eV 2) (aC (eCall 1 m__law_rest (aC (eV 3) aN)) aN))))) [] (rs.map fr) [some d0, some (.obj n), some (fr (nf cs)), d3] h) N T
  | [], cs, d3, h, _, _, e, g, _, k => by
    unfold loopF
    exact k d3 h e g fun _ _ => rfl
  | r :: rs, cs, d3, h, hc, hl, e, g, hn, k => by
    rw [List.map_cons]
    unfold loopF
    rw [if_pos okG_nil]
    have eq : (r :: rs).reverse ++ cs = rs.reverse ++ (r :: cs) := by simp
    rw [eq] at hc hl k
    have hcs : Cs B (r :: cs) := by
      have z := hc.drop rs.reverse.length
      rw [List.drop_left] at z
      exact z
    have hcs2 : Cs B cs := hcs.drop 1
    have rm : r ∈ r :: cs := List.mem_cons_self
    have sr := hcs.sz rm
    have r1 := hcs.one r rm
    have s1 : Sz B (1 - r) := (Iq.rest r).sz1 (den_pos r) (hcs.den rm) r1.rest.1 r1.rest.2
    have sn := hcs2.nfz
    have m1 := lmul_eq sr sn (by omega) h
    have lc : (ls cs).length ≤ 1000 := by rw [ls_len]; simp at hl; omega
    have ap : appD (.obj n) [fr (r * nf cs)] h = .ok .non (h.set n (.lst ((ls (r :: cs)).reverse.map fr))) := by
      have z := app_obj (y := fr (r * nf cs)) e (by rw [List.length_map, List.length_reverse]; omega)
      rw [z]
      have q : (ls (r :: cs)).reverse.map fr = (ls cs).reverse.map fr ++ [fr (r * nf cs)] := by
        show ((r * nf cs) :: ls cs).reverse.map fr = _
        rw [List.reverse_cons, List.map_append]
        rfl
      rw [q]
    have hn' : n < h.length := (List.getElem?_eq_some_iff.mp e).1
    have e' : (h.set n (.lst ((ls (r :: cs)).reverse.map fr)))[n]? = some (.lst ((ls (r :: cs)).reverse.map fr)) := List.getElem?_set_self hn'
    have g' : Gb b h0 (h.set n (.lst ((ls (r :: cs)).reverse.map fr))) := g.set' hn
    have kp : ∀ j, j ≠ n → (h.set n (.lst ((ls (r :: cs)).reverse.map fr)))[j]? = h[j]? := fun j hj => List.getElem?_set_ne (by omega)
    have ee : sSeq (sExp (eLm appD (eV 1) (aC (eCall 2 m__law_mul (aC (eV 3) (aC (eV 2) aN))) aN))) (sSet 2 (eCall 2 m__law_mul (aC (eV 2) (aC (eCall 1 m__law_rest (aC (eV 3) aN)) aN)))) [some d0, some (.obj n), some (fr (nf cs)), some (fr r)] h =
        .nx [some d0, some (.obj n), some (fr (nf (r :: cs))), some (fr r)] (h.set n (.lst ((ls (r :: cs)).reverse.map fr))) := by
      rw [seq_nx (ρ1 := [some d0, some (.obj n), some (fr (nf cs)), some (fr r)]) (h1 := h.set n (.lst ((ls (r :: cs)).reverse.map fr)))]
      · have q : nf (r :: cs) = nf cs * (1 - r) := by
          show (1 - r) * nf cs = _
          exact Rat.mul_comm _ _
        simp only [eV0, eVs, bind_ok', then_ok, q_e2, q_e1, q_eC, q_aC, q_aN, q_sPar2, q_sPar3, q_sSet, q_sRet, q_eBf, q_nBf, q_eCall, q_tst, q_tru, q_ifV, q_sIf, q_eTup, q_sPass, q_sExp, q_eLm, q_nLst, q_frz, q_thaw, q_iSeq, q_iR2, q_iR3, q_iEnumD, q_iZip, q_andX, q_andT, q_orT, q_notT, q_eCh, q_sPat, q_eSl, q_nSl, q_pS, q_pN, q_sRetN, q_tYes, q_eDct0, okL0, okL1, okL2, okL3, okL4, okL5, okL6, ent, List.map_cons, List.map_nil, List.length_cons, List.length_nil, List.set_cons_zero, List.set_cons_succ, List.replicate, List.cons_append, List.nil_append, Nat.reduceAdd, Nat.reduceSub, Nat.sub_self, Nat.sub_zero, zero_add', ↓reduceIte, Bool.false_eq_true, item0, item1, addD_ii, subD_ii, negD_i, absD_i, ltD_ii, leD_ii, gtD_ii, geD_ii, truD_bl, decide_true, decide_false, lrest_eq sr (by omega), lmul_eq sn s1 (by omega), q]
      · simp only [eV0, eVs, bind_ok', then_ok, q_e2, q_e1, q_eC, q_aC, q_aN, q_sPar2, q_sPar3, q_sSet, q_sRet, q_eBf, q_nBf, q_eCall, q_tst, q_tru, q_ifV, q_sIf, q_eTup, q_sPass, q_sExp, q_eLm, q_nLst, q_frz, q_thaw, q_iSeq, q_iR2, q_iR3, q_iEnumD, q_iZip, q_andX, q_andT, q_orT, q_notT, q_eCh, q_sPat, q_eSl, q_nSl, q_pS, q_pN, q_sRetN, q_tYes, q_eDct0, okL0, okL1, okL2, okL3, okL4, okL5, okL6, ent, List.map_cons, List.map_nil, List.length_cons, List.length_nil, List.set_cons_zero, List.set_cons_succ, List.replicate, List.cons_append, List.nil_append, Nat.reduceAdd, Nat.reduceSub, Nat.sub_self, Nat.sub_zero, zero_add', ↓reduceIte, Bool.false_eq_true, item0, item1, addD_ii, subD_ii, negD_i, absD_i, ltD_ii, leD_ii, gtD_ii, geD_ii, truD_bl, decide_true, decide_false, lstAt_obj e, m1, ap]
    show WpS (match sSeq (sExp (eLm appD (eV 1) (aC (eCall 2 m__law_mul (aC (eV 3) (aC (eV 2) aN))) aN))) (sSet 2 (eCall 2 m__law_mul (aC (eV 2) (aC (eCall 1 m__law_rest (aC (eV 3) aN)) aN)))) [some d0, some (.obj n), some (fr (nf cs)), some (fr r)] h with
      | .nx ρ2 h2 => loopF _ _ _ _ ρ2 h2
      | .ct ρ2 h2 => loopF _ _ _ _ ρ2 h2
      | .bk ρ2 h2 => .nx ρ2 h2
      | r => r) N T
    rw [ee]
    exact due_loop hB rs (r :: cs) _ _ hc hl e' g' hn fun d3 h' p1 p2 p3 => k d3 h' p1 p2 fun j hj => (p3 j hj).trans (kp j hj)
theorem due_spec {cs : List Rat} {B : Nat} (c : Cs B cs) (hB : B ≤ 2000) (hl : cs.length ≤ 1000) {h : Hs} {Q : D → Hs → Prop} (k : ∀ x, Q (.tup [.tup ((ls cs).map fr), fr (nf cs)]) (h ++ [x])) : Wp (m__law_due [.tup (cs.map fr)] h) Q := by
  unfold m__law_due c__law_due
  have en : ent 4 [D.tup (cs.map fr)] = [some (.tup (cs.map fr)), none, none, none] := rfl
  have ep : sPar2 1 2 (aC (thaw (nLst aN)) (aC (eTup (aC (eC (.int 1)) (aC (eC (.int 1)) aN))) aN)) [some (.tup (cs.map fr)), none, none, none] h = .nx [some (.tup (cs.map fr)), some (.obj h.length), some (fr (nf [])), none] (h ++ [.lst []]) := by
    simp only [eV0, eVs, bind_ok', then_ok, q_e2, q_e1, q_eC, q_aC, q_aN, q_sPar2, q_sPar3, q_sSet, q_sRet, q_eBf, q_nBf, q_eCall, q_tst, q_tru, q_ifV, q_sIf, q_eTup, q_sPass, q_sExp, q_eLm, q_nLst, q_frz, q_thaw, q_iSeq, q_iR2, q_iR3, q_iEnumD, q_iZip, q_andX, q_andT, q_orT, q_notT, q_eCh, q_sPat, q_eSl, q_nSl, q_pS, q_pN, q_sRetN, q_tYes, q_eDct0, okL0, okL1, okL2, okL3, okL4, okL5, okL6, ent, List.map_cons, List.map_nil, List.length_cons, List.length_nil, List.set_cons_zero, List.set_cons_succ, List.replicate, List.cons_append, List.nil_append, Nat.reduceAdd, Nat.reduceSub, Nat.sub_self, Nat.sub_zero, zero_add', ↓reduceIte, Bool.false_eq_true, item0, item1, addD_ii, subD_ii, negD_i, absD_i, ltD_ii, leD_ii, gtD_ii, geD_ii, truD_bl, decide_true, decide_false]
    rfl
  have rv : e1 revD (eV 0) [some (.tup (cs.map fr)), some (.obj h.length), some (fr (nf [])), none] (h ++ [.lst []]) = .ok (.tup (cs.reverse.map fr)) (h ++ [.lst []]) := by
    simp only [eV0, eVs, bind_ok', then_ok, q_e2, q_e1, q_eC, q_aC, q_aN, q_sPar2, q_sPar3, q_sSet, q_sRet, q_eBf, q_nBf, q_eCall, q_tst, q_tru, q_ifV, q_sIf, q_eTup, q_sPass, q_sExp, q_eLm, q_nLst, q_frz, q_thaw, q_iSeq, q_iR2, q_iR3, q_iEnumD, q_iZip, q_andX, q_andT, q_orT, q_notT, q_eCh, q_sPat, q_eSl, q_nSl, q_pS, q_pN, q_sRetN, q_tYes, q_eDct0, okL0, okL1, okL2, okL3, okL4, okL5, okL6, ent, List.map_cons, List.map_nil, List.length_cons, List.length_nil, List.set_cons_zero, List.set_cons_succ, List.replicate, List.cons_append, List.nil_append, Nat.reduceAdd, Nat.reduceSub, Nat.sub_self, Nat.sub_zero, zero_add', ↓reduceIte, Bool.false_eq_true, item0, item1, addD_ii, subD_ii, negD_i, absD_i, ltD_ii, leD_ii, gtD_ii, geD_ii, truD_bl, decide_true, decide_false]
    show Dl.R.ok (D.tup (cs.map fr).reverse) _ = _
    rw [List.map_reverse]
  rw [wp_def, en, wps_seq, ep, wps_nx, wps_seq, wps_for, seq_tup rv, wp_ok]
  have ec : cs.reverse.reverse ++ [] = cs := by simp
  refine due_loop (b := 0) (h0 := []) hB cs.reverse [] none _ (by rw [ec]; exact c) (by rw [ec]; exact hl) get_last ⟨Nat.zero_le _, fun j _ hj => by simp at hj⟩ (Nat.zero_le _) fun d3 h' p1 _ p3 => ?_
  rw [ec] at p1 ⊢
  have eh : h' = h ++ [.lst ((ls cs).reverse.map fr)] := by
    refine List.ext_getElem? fun j => ?_
    by_cases e : j = h.length
    · rw [e, p1]
      exact get_last.symm
    · rw [p3 j e]
      by_cases l : j < h.length
      · rw [List.getElem?_append_left l, List.getElem?_append_left l]
      · rw [List.getElem?_eq_none (by simp; omega), List.getElem?_eq_none (by simp; omega)]
  have ro : revD (.obj h.length) h' = .ok (.lst ((ls cs).map fr)) h' := by
    show (match items h' (.obj h.length) with
      | some xs => Dl.R.ok (D.lst xs.reverse) h'
      | none => .bad) = _
    rw [items_obj p1]
    show Dl.R.ok (D.lst ((ls cs).reverse.map fr).reverse) h' = _
    rw [← List.map_reverse, List.reverse_reverse]
  simp only [eV0, eVs, bind_ok', then_ok, q_e2, q_e1, q_eC, q_aC, q_aN, q_sPar2, q_sPar3, q_sSet, q_sRet, q_eBf, q_nBf, q_eCall, q_tst, q_tru, q_ifV, q_sIf, q_eTup, q_sPass, q_sExp, q_eLm, q_nLst, q_frz, q_thaw, q_iSeq, q_iR2, q_iR3, q_iEnumD, q_iZip, q_andX, q_andT, q_orT, q_notT, q_eCh, q_sPat, q_eSl, q_nSl, q_pS, q_pN, q_sRetN, q_tYes, q_eDct0, okL0, okL1, okL2, okL3, okL4, okL5, okL6, ent, List.map_cons, List.map_nil, List.length_cons, List.length_nil, List.set_cons_zero, List.set_cons_succ, List.replicate, List.cons_append, List.nil_append, Nat.reduceAdd, Nat.reduceSub, Nat.sub_self, Nat.sub_zero, zero_add', ↓reduceIte, Bool.false_eq_true, item0, item1, addD_ii, subD_ii, negD_i, absD_i, ltD_ii, leD_ii, gtD_ii, geD_ii, truD_bl, decide_true, decide_false, wp_ok, wp_bad, wp_bind, wp_nox, wp_def, wps_then, wps_seq, wps_nx, wps_ret, wp_ite, wps_ite, ro, tupD_lst]
  rw [eh]
  exact k _
end Pl

/-! Plain laws, deals 1: fractions of a bottom, sums. -/
namespace Pl
open Dl Sh

theorem rat_add_le {a b c d : Rat} (h : a ≤ b) (k : c ≤ d) : a + c ≤ b + d := by grind
theorem fr_int (v : Int) : D.tup [.int v, .int 1] = fr (v : Rat) := rfl
theorem nat_rat (a b : Nat) : (((a + b : Nat) : Int) : Rat) = ((a : Int) : Rat) + ((b : Int) : Rat) := by rw [Int.natCast_add, Rat.intCast_add]
theorem nat_mul_rat (a b : Nat) : (((a * b : Nat) : Int) : Rat) = ((a : Int) : Rat) * ((b : Int) : Rat) := by rw [Int.natCast_mul, Rat.intCast_mul]
theorem nat_rat_le {a b : Nat} (h : a ≤ b) : ((a : Int) : Rat) ≤ ((b : Int) : Rat) := Rat.intCast_le_intCast.mpr (by omega)
theorem nat_rat_nn (a : Nat) : (0 : Rat) ≤ ((a : Int) : Rat) := by
  have := Rat.intCast_le_intCast (a := 0) (b := (a : Int)) |>.mpr (by omega)
  simpa using this
/-- q has the bottom E, and is of 0 to M -/
structure Bq (E M : Nat) (q : Rat) : Prop where
  iq : Iq E q
  lo : 0 ≤ q
  hi : q ≤ ((M : Int) : Rat)
section
variable {E F M N : Nat} {p q : Rat}
theorem Bq.sz {b : Nat} (h : Bq E M q) (h0 : 0 < E) (hb : (M + 1) * E < 2 ^ b) : Sz b q := h.iq.sz h0 hb (Nat.succ_pos _) h.lo (Rat.le_trans h.hi (nat_rat_le (Nat.le_succ _)))
theorem Iq.neg (x : Iq E q) : Iq E (-q) := by
  obtain ⟨m, rfl⟩ := x
  exact ⟨-m, by rw [Rat.neg_divInt]⟩
theorem Iq.sub (x : Iq E p) (y : Iq E q) : Iq E (p - q) := by
  rw [Rat.sub_eq_add_neg]
  exact x.add y.neg
theorem Bq.mul (h : Bq E M p) (k : Bq F N q) : Bq (E * F) (M * N) (p * q) := ⟨h.iq.mul k.iq, Rat.mul_nonneg h.lo k.lo, by
  rw [nat_mul_rat]
  exact Rat.le_trans (Rat.mul_le_mul_of_nonneg_right h.hi k.lo) (Rat.mul_le_mul_of_nonneg_left k.hi (nat_rat_nn M))⟩
theorem Bq.add (h : Bq E M p) (k : Bq E N q) : Bq E (M + N) (p + q) := ⟨h.iq.add k.iq, Rat.add_nonneg h.lo k.lo, by
  rw [nat_rat]
  exact rat_add_le h.hi k.hi⟩
theorem Bq.up (h : Bq E M q) (d : E ∣ F) (h0 : 0 < F) (l : M ≤ N) : Bq F N q := ⟨h.iq.up d h0, h.lo, Rat.le_trans h.hi (nat_rat_le l)⟩
theorem Bq.sub (h : Bq E M p) (k : Bq E N q) (l : q ≤ p) : Bq E M (p - q) := ⟨h.iq.sub k.iq, by grind, by
  have h1 := h.hi
  have h2 := k.lo
  grind⟩
theorem Bq.one' (h0 : 0 < E) : Bq E 1 1 := ⟨Iq.one.up (Nat.one_dvd _) h0, by decide +kernel, by decide +kernel⟩
theorem Bq.zero' (h0 : 0 < E) (M : Nat) : Bq E M 0 := ⟨Iq.zero.up (Nat.one_dvd _) h0, Rat.le_refl, nat_rat_nn M⟩
theorem Bq.rest (h0 : 0 < E) (h : Bq E 1 q) : Bq E 1 (1 - q) := (Bq.one' h0).sub h h.hi
theorem Bq.int {v : Int} (h0 : 0 ≤ v) (h1 : v ≤ (M : Int)) : Bq 1 M (v : Rat) := ⟨⟨v, (Rat.num_divInt_den (v : Rat)).symm⟩, by
  have := Rat.intCast_le_intCast (a := 0) (b := v) |>.mpr h0
  simpa using this, Rat.intCast_le_intCast.mpr h1⟩
theorem Bq.in1 (h : Bq E 1 q) : In1 q := ⟨h.lo, h.hi⟩
theorem Bq.of1 (x : Iq E q) (h : In1 q) : Bq E 1 q := ⟨x, h.1, h.2⟩
theorem Bq.mx (h : Bq E M p) (k : Bq E N q) : Bq E (max M N) (mxq p q) := by
  unfold mxq
  split
  · exact ⟨k.iq, k.lo, Rat.le_trans k.hi (nat_rat_le (Nat.le_max_right _ _))⟩
  · exact ⟨h.iq, h.lo, Rat.le_trans h.hi (nat_rat_le (Nat.le_max_left _ _))⟩
end
theorem mxq_ge (p q : Rat) : p ≤ mxq p q ∧ q ≤ mxq p q := by
  unfold mxq
  split
  · rename_i z
    exact ⟨Rat.le_of_lt z, Rat.le_refl⟩
  · rename_i z
    exact ⟨Rat.le_refl, Rat.not_lt.mp z⟩
theorem mxq_or (p q : Rat) : mxq p q = p ∨ mxq p q = q := by
  unfold mxq
  split
  · exact .inr rfl
  · exact .inl rfl
theorem mxq_le {p q r : Rat} (h1 : p ≤ r) (h2 : q ≤ r) : mxq p q ≤ r := by
  rcases mxq_or p q with e | e
  · rw [e]; exact h1
  · rw [e]; exact h2
/-! ### sums -/
def sm : List Rat → Rat
  | [] => 0
  | x :: xs => x + sm xs
theorem foldl_sm : ∀ (xs : List Rat) (x : Rat), xs.foldl (· + ·) x = x + sm xs
  | [], x => by show x = x + 0; grind
  | y :: ys, x => by
    show ys.foldl (· + ·) (x + y) = x + (y + sm ys)
    rw [foldl_sm ys]
    grind
theorem sm_app : ∀ xs ys : List Rat, sm (xs ++ ys) = sm xs + sm ys
  | [], ys => by show sm ys = 0 + sm ys; grind
  | x :: xs, ys => by
    show x + sm (xs ++ ys) = x + sm xs + sm ys
    rw [sm_app]
    grind
theorem sm_nn : ∀ {xs : List Rat}, (∀ x ∈ xs, 0 ≤ x) → 0 ≤ sm xs
  | [], _ => Rat.le_refl
  | x :: xs, h => Rat.add_nonneg (h x List.mem_cons_self) (sm_nn fun y hy => h y (List.mem_cons_of_mem _ hy))
theorem sm_bq {E M : Nat} (h0 : 0 < E) : ∀ {xs : List Rat}, (∀ x ∈ xs, Bq E M x) → Bq E (xs.length * M) (sm xs)
  | [], _ => Bq.zero' h0 _
  | x :: xs, h => by
    have z := (h x List.mem_cons_self).add (sm_bq h0 fun y hy => h y (List.mem_cons_of_mem _ hy))
    have e : (x :: xs).length * M = M + xs.length * M := by rw [List.length_cons, Nat.succ_mul, Nat.add_comm]
    rw [e]
    exact z
section
variable {α : Type}
theorem sm_map_le {f g : α → Rat} : ∀ {xs : List α}, (∀ x ∈ xs, f x ≤ g x) → sm (xs.map f) ≤ sm (xs.map g)
  | [], _ => Rat.le_refl
  | x :: xs, h => rat_add_le (h x List.mem_cons_self) (sm_map_le fun y hy => h y (List.mem_cons_of_mem _ hy))
theorem sm_map_add {f g : α → Rat} : ∀ xs : List α, sm (xs.map fun x => f x + g x) = sm (xs.map f) + sm (xs.map g)
  | [] => by show (0 : Rat) = 0 + 0; grind
  | x :: xs => by
    show f x + g x + sm (xs.map fun x => f x + g x) = f x + sm (xs.map f) + (g x + sm (xs.map g))
    rw [sm_map_add xs]
    grind
theorem sm_map_mul {f : α → Rat} (c : Rat) : ∀ xs : List α, sm (xs.map fun x => c * f x) = c * sm (xs.map f)
  | [] => (Rat.mul_zero c).symm
  | x :: xs => by
    show c * f x + sm (xs.map fun x => c * f x) = c * (f x + sm (xs.map f))
    rw [sm_map_mul c xs]
    grind
theorem sm_map_mul' {f : α → Rat} (c : Rat) (xs : List α) : sm (xs.map fun x => f x * c) = sm (xs.map f) * c := by
  have e : (fun x => f x * c) = fun x => c * f x := funext fun x => Rat.mul_comm _ _
  rw [e, sm_map_mul, Rat.mul_comm]
theorem sm_map_congr {f g : α → Rat} {xs : List α} (h : ∀ x ∈ xs, f x = g x) : sm (xs.map f) = sm (xs.map g) := by rw [List.map_congr_left h]
theorem sm_map_zero : ∀ xs : List α, sm (xs.map fun _ => (0 : Rat)) = 0
  | [] => rfl
  | x :: xs => by
    show (0 : Rat) + sm (xs.map fun _ => (0 : Rat)) = 0
    rw [sm_map_zero xs]
    grind
theorem sm_swap {β : Type} (f : α → β → Rat) (ys : List β) : ∀ xs : List α, sm (xs.map fun x => sm (ys.map fun y => f x y)) = sm (ys.map fun y => sm (xs.map fun x => f x y))
  | [] => (sm_map_zero ys).symm
  | x :: xs => by
    show sm (ys.map fun y => f x y) + sm (xs.map fun x => sm (ys.map fun y => f x y)) = sm (ys.map fun y => f x y + sm (xs.map fun x => f x y))
    rw [sm_swap f ys xs, ← sm_map_add]
theorem sm_filter {f : α → Rat} (t : α → Bool) : ∀ xs : List α, sm ((xs.filter t).map f) = sm (xs.map fun x => if t x = true then f x else 0)
  | [] => rfl
  | x :: xs => by
    by_cases z : t x = true
    · rw [List.filter_cons_of_pos z]
      show f x + sm ((xs.filter t).map f) = (if t x = true then f x else 0) + _
      rw [if_pos z, sm_filter t xs]
    · rw [List.filter_cons_of_neg z]
      show sm ((xs.filter t).map f) = (if t x = true then f x else 0) + _
      rw [if_neg z, sm_filter t xs]
      grind
end
/-- the program's sum, in any list -/
theorem wsum_eq {E M B : Nat} {rs : List Rat} (h0 : 0 < E) (hr : ∀ r ∈ rs, Bq E M r) (hB : (rs.length * M + 1) * E < 2 ^ B) (hB2 : B ≤ 2000) (h : Hs) {x : D} (hx : x = .lst (rs.map fr) ∨ x = .tup (rs.map fr)) : m_whole_sum [x] h = .ok (fr (sm rs)) h := by
  have loop : ∀ (rs : List Rat) (x0 : Rat) (m : Nat) (d2 : Option D), (∀ r ∈ rs, Bq E M r) → Bq E m x0 → (m + rs.length * M + 1) * E < 2 ^ B →
      WpS (loopF (.nm 2) (sSet 1 (eCall 2 m_plus (aC (eV 1) (aC (eV 2) aN)))) [] (rs.map fr) [some x, some (fr x0), d2] h) (fun ρ h' => ∃ d2, ρ = [some x, some (fr (x0 + sm rs)), d2] ∧ h' = h) (fun _ _ => False) := by
    intro rs
    induction rs with
    | nil =>
      intro x0 m d2 _ _ _
      unfold loopF
      have e : x0 + sm [] = x0 := by show x0 + 0 = x0; grind
      rw [e]
      exact ⟨d2, rfl, rfl⟩
    | cons r rs ih =>
      intro x0 m d2 hr hx0 hb
      rw [List.map_cons]
      unfold loopF
      rw [if_pos okG_nil]
      have r1 := hr r List.mem_cons_self
      have el : (r :: rs).length * M = M + rs.length * M := by rw [List.length_cons, Nat.succ_mul, Nat.add_comm]
      rw [el] at hb
      have s0 : Sz B x0 := hx0.sz h0 (Nat.lt_of_le_of_lt (Nat.mul_le_mul_right _ (by omega)) hb)
      have s1 : Sz B r := r1.sz h0 (Nat.lt_of_le_of_lt (Nat.mul_le_mul_right _ (by omega)) hb)
      have e : sSet 1 (eCall 2 m_plus (aC (eV 1) (aC (eV 2) aN))) [some x, some (fr x0), some (fr r)] h = .nx [some x, some (fr (x0 + r)), some (fr r)] h := by
        simp only [eV0, eVs, bind_ok', then_ok, q_e2, q_e1, q_eC, q_aC, q_aN, q_sPar2, q_sPar3, q_sSet, q_sRet, q_eBf, q_nBf, q_eCall, q_tst, q_tru, q_ifV, q_sIf, q_eTup, q_sPass, q_sExp, q_eLm, q_nLst, q_frz, q_thaw, q_iSeq, q_iR2, q_iR3, q_iEnumD, q_iZip, q_andX, q_andT, q_orT, q_notT, q_eCh, q_sPat, q_eSl, q_nSl, q_pS, q_pN, q_sRetN, q_tYes, q_eDct0, okL0, okL1, okL2, okL3, okL4, okL5, okL6, ent, List.map_cons, List.map_nil, List.length_cons, List.length_nil, List.set_cons_zero, List.set_cons_succ, List.replicate, List.cons_append, List.nil_append, Nat.reduceAdd, Nat.reduceSub, Nat.sub_self, Nat.sub_zero, zero_add', ↓reduceIte, Bool.false_eq_true, item0, item1, addD_ii, subD_ii, negD_i, absD_i, ltD_ii, leD_ii, gtD_ii, geD_ii, truD_bl, decide_true, decide_false, plus_eq s0 s1 (by omega)]
      show WpS (match sSet 1 (eCall 2 m_plus (aC (eV 1) (aC (eV 2) aN))) [some x, some (fr x0), some (fr r)] h with
        | .nx ρ2 h2 => loopF _ _ _ _ ρ2 h2
        | .ct ρ2 h2 => loopF _ _ _ _ ρ2 h2
        | .bk ρ2 h2 => .nx ρ2 h2
        | r => r) _ _
      rw [e]
      have z := ih (x0 + r) (m + M) (some (fr r)) (fun q hq => hr q (List.mem_cons_of_mem _ hq)) (hx0.add r1) (by rw [Nat.add_assoc m M]; exact hb)
      have e2 : x0 + r + sm rs = x0 + sm (r :: rs) := by show x0 + r + sm rs = x0 + (r + sm rs); grind
      rw [e2] at z
      exact z
  refine eq_of_wp ?_
  unfold m_whole_sum c_whole_sum
  have e1 : ent 3 [x] = [some x, none, none] := rfl
  rw [wp_def, e1, wps_seq, q_sSet, q_eC, then_ok, wps_nx, wps_seq]
  simp only [List.set_cons_zero, List.set_cons_succ, ← fr0]
  have si : iSeq (eV 0) [some x, some (fr 0), none] h = .ok ⟨rs.map fr, []⟩ h := by
    rcases hx with e | e
    · exact seq_lst (by rw [e]; rfl)
    · exact seq_tup (by rw [e]; rfl)
  rw [wps_for, si, wp_ok]
  have z := loop rs 0 0 none hr (Bq.zero' h0 0) (by rw [Nat.zero_add]; exact hB)
  refine wps_mono z (fun ρ h' ⟨d2, e, eh⟩ => ?_) fun _ _ f => f.elim
  rw [e, eh]
  have e0 : (0 : Rat) + sm rs = sm rs := by grind
  rw [e0]
  simp only [eV0, eVs, bind_ok', then_ok, q_e2, q_e1, q_eC, q_aC, q_aN, q_sPar2, q_sPar3, q_sSet, q_sRet, q_eBf, q_nBf, q_eCall, q_tst, q_tru, q_ifV, q_sIf, q_eTup, q_sPass, q_sExp, q_eLm, q_nLst, q_frz, q_thaw, q_iSeq, q_iR2, q_iR3, q_iEnumD, q_iZip, q_andX, q_andT, q_orT, q_notT, q_eCh, q_sPat, q_eSl, q_nSl, q_pS, q_pN, q_sRetN, q_tYes, q_eDct0, okL0, okL1, okL2, okL3, okL4, okL5, okL6, ent, List.map_cons, List.map_nil, List.length_cons, List.length_nil, List.set_cons_zero, List.set_cons_succ, List.replicate, List.cons_append, List.nil_append, Nat.reduceAdd, Nat.reduceSub, Nat.sub_self, Nat.sub_zero, zero_add', ↓reduceIte, Bool.false_eq_true, item0, item1, addD_ii, subD_ii, negD_i, absD_i, ltD_ii, leD_ii, gtD_ii, geD_ii, truD_bl, decide_true, decide_false, wp_ok, wp_bad, wp_bind, wp_nox, wp_def, wps_then, wps_seq, wps_nx, wps_ret, wp_ite, wps_ite]
  exact ⟨trivial, trivial⟩
/-! ### the law's own fractions -/
section
variable {p q : Rat} {a b : Nat} (hp : Sz a p) (hq : Sz b q) (hab : a + b ≤ 8000)
include hp hq hab
theorem lsum_eq (h : Hs) : m__law_sum [fr p, fr q] h = .ok (fr (p + q)) h := lplus_eq hp hq hab h
theorem lprod_eq (h : Hs) : m__law_prod [fr p, fr q] h = .ok (fr (p * q)) h := lmul_eq hp hq hab h
theorem lless_eq (h : Hs) : m__law_less [fr p, fr q] h = .ok (.bl (decide (p < q))) h := lbelow_eq hp hq hab h
theorem lmost_eq (h : Hs) : m__law_most [fr p, fr q] h = .ok (fr (mxq p q)) h := by
  refine mdef_ret (h' := h) ?_
  unfold c__law_most
  unfold mxq
  simp only [eV0, eVs, bind_ok', then_ok, q_e2, q_e1, q_eC, q_aC, q_aN, q_sPar2, q_sPar3, q_sSet, q_sRet, q_eBf, q_nBf, q_eCall, q_tst, q_tru, q_ifV, q_sIf, q_eTup, q_sPass, q_sExp, q_eLm, q_nLst, q_frz, q_thaw, q_iSeq, q_iR2, q_iR3, q_iEnumD, q_iZip, q_andX, q_andT, q_orT, q_notT, q_eCh, q_sPat, q_eSl, q_nSl, q_pS, q_pN, q_sRetN, q_tYes, q_eDct0, okL0, okL1, okL2, okL3, okL4, okL5, okL6, ent, List.map_cons, List.map_nil, List.length_cons, List.length_nil, List.set_cons_zero, List.set_cons_succ, List.replicate, List.cons_append, List.nil_append, Nat.reduceAdd, Nat.reduceSub, Nat.sub_self, Nat.sub_zero, zero_add', ↓reduceIte, Bool.false_eq_true, item0, item1, addD_ii, subD_ii, negD_i, absD_i, ltD_ii, leD_ii, gtD_ii, geD_ii, truD_bl, decide_true, decide_false, lless_eq hp hq hab, truD_bl]
  by_cases z : p < q
  · simp only [decide_eq_true z, z, eV0, eVs, bind_ok', then_ok, q_e2, q_e1, q_eC, q_aC, q_aN, q_sPar2, q_sPar3, q_sSet, q_sRet, q_eBf, q_nBf, q_eCall, q_tst, q_tru, q_ifV, q_sIf, q_eTup, q_sPass, q_sExp, q_eLm, q_nLst, q_frz, q_thaw, q_iSeq, q_iR2, q_iR3, q_iEnumD, q_iZip, q_andX, q_andT, q_orT, q_notT, q_eCh, q_sPat, q_eSl, q_nSl, q_pS, q_pN, q_sRetN, q_tYes, q_eDct0, okL0, okL1, okL2, okL3, okL4, okL5, okL6, ent, List.map_cons, List.map_nil, List.length_cons, List.length_nil, List.set_cons_zero, List.set_cons_succ, List.replicate, List.cons_append, List.nil_append, Nat.reduceAdd, Nat.reduceSub, Nat.sub_self, Nat.sub_zero, zero_add', ↓reduceIte, Bool.false_eq_true, item0, item1, addD_ii, subD_ii, negD_i, absD_i, ltD_ii, leD_ii, gtD_ii, geD_ii, truD_bl, decide_true, decide_false]
  · simp only [decide_eq_false z, z, eV0, eVs, bind_ok', then_ok, q_e2, q_e1, q_eC, q_aC, q_aN, q_sPar2, q_sPar3, q_sSet, q_sRet, q_eBf, q_nBf, q_eCall, q_tst, q_tru, q_ifV, q_sIf, q_eTup, q_sPass, q_sExp, q_eLm, q_nLst, q_frz, q_thaw, q_iSeq, q_iR2, q_iR3, q_iEnumD, q_iZip, q_andX, q_andT, q_orT, q_notT, q_eCh, q_sPat, q_eSl, q_nSl, q_pS, q_pN, q_sRetN, q_tYes, q_eDct0, okL0, okL1, okL2, okL3, okL4, okL5, okL6, ent, List.map_cons, List.map_nil, List.length_cons, List.length_nil, List.set_cons_zero, List.set_cons_succ, List.replicate, List.cons_append, List.nil_append, Nat.reduceAdd, Nat.reduceSub, Nat.sub_self, Nat.sub_zero, zero_add', ↓reduceIte, Bool.false_eq_true, item0, item1, addD_ii, subD_ii, negD_i, absD_i, ltD_ii, leD_ii, gtD_ii, geD_ii, truD_bl, decide_true, decide_false]
theorem great_eq (h : Hs) : m_greatest [fr p, fr q] h = .ok (fr (mxq p q)) h := greatest_eq hp hq hab h
end
end Pl

/-! Plain laws, deals 2: loops in general; offers; means, sums of shares. -/
namespace Pl
open Dl Sh

/-! ### loops -/
theorem loop_st {α σ : Type} {p : Pat} {body : SM} {g : α → D} (st : σ → Env → Hs → Prop) (step : σ → α → σ) (J : σ → List α → Prop)
    (k : ∀ s x xs ρ h, J s (x :: xs) → st s ρ h → ∃ ρ1 ρ2 h2, patD p (g x) ρ = some ρ1 ∧ body ρ1 h = .nx ρ2 h2 ∧ st (step s x) ρ2 h2 ∧ J (step s x) xs) :
    ∀ (xs : List α) (s : σ) (ρ : Env) (h : Hs), J s xs → st s ρ h → ∃ ρ' h', loopF p body [] (xs.map g) ρ h = .nx ρ' h' ∧ st (xs.foldl step s) ρ' h' ∧ J (xs.foldl step s) []
  | [], s, ρ, h, j, e => ⟨ρ, h, by unfold loopF; rw [List.map_nil]; rfl, e, j⟩
  | x :: xs, s, ρ, h, j, e => by
    obtain ⟨ρ1, ρ2, h2, e1, e2, e3, j2⟩ := k s x xs ρ h j e
    obtain ⟨ρ', h', a, b, c⟩ := loop_st st step J k xs (step s x) ρ2 h2 j2 e3
    refine ⟨ρ', h', ?_, b, c⟩
    rw [List.map_cons]
    unfold loopF
    rw [if_pos okG_nil, e1]
    show (match body ρ1 h with
      | .nx ρ2 h2 => loopF p body [] (xs.map g) ρ2 h2
      | .ct ρ2 h2 => loopF p body [] (xs.map g) ρ2 h2
      | .bk ρ2 h2 => .nx ρ2 h2
      | r => r) = _
    rw [e2]
    exact a
theorem for_of {ci : Env → M ItD} {p : Pat} {body : SM} {ρ : Env} {h h1 : Hs} {xs : List D} (e : ci ρ h = .ok ⟨xs, []⟩ h1) : sFor ci p body ρ h = loopF p body [] xs ρ h1 := by
  rw [q_sFor, e]
  rfl
theorem seq_it {ce : Env → M D} {ρ : Env} {h h1 : Hs} {x : D} {xs : List D} (e : ce ρ h = .ok x h1) (hx : x = .tup xs ∨ x = .lst xs) : iSeq ce ρ h = .ok ⟨xs, []⟩ h1 := by
  rw [q_iSeq, e]
  rcases hx with z | z <;> rw [z] <;> rfl
/-! ### offers -/
abbrev Offer := List (Int × Rat)
def pairD (p : Int × Rat) : D := .tup [.int p.1, fr p.2]
def offD (o : Offer) : D := .tup (o.map pairD)
def dealD (os : List Offer) : D := .tup (os.map offD)
def Do (o : Offer) : Nat := Dd (o.map (·.2))
def De : List Offer → Nat
  | [] => 1
  | o :: os => Do o * De os
theorem De_pos : ∀ os : List Offer, 0 < De os
  | [] => Nat.one_pos
  | o :: os => Nat.mul_pos (Dd_pos _) (De_pos os)
theorem De_app : ∀ xs ys : List Offer, De (xs ++ ys) = De xs * De ys
  | [], ys => (Nat.one_mul _).symm
  | x :: xs, ys => by
    show Do x * De (xs ++ ys) = Do x * De xs * De ys
    rw [De_app xs ys, Nat.mul_assoc]
theorem Dd_mem {c : Rat} : ∀ {cs : List Rat}, c ∈ cs → c.den ∣ Dd cs
  | [], h => by simp at h
  | x :: xs, h => by
    rcases List.mem_cons.mp h with e | e
    · rw [e]; exact Nat.dvd_mul_right _ _
    · exact Nat.dvd_trans (Dd_mem e) (Nat.dvd_mul_left _ _)
/-- an offer as it may be handed in, of a size -/
structure Ofr (o : Offer) : Prop where
  l1 : 1 ≤ o.length
  l5 : o.length ≤ 5
  val : ∀ p ∈ o, 0 ≤ p.1 ∧ p.1 ≤ 1000
  sh : ∀ p ∈ o, 0 < p.2 ∧ p.2 ≤ 1
  up : (o.map (·.1)).Pairwise (· < ·)
  one : sm (o.map (·.2)) = 1
  dn : Do o < 2 ^ 60
structure Dl8 (os : List Offer) : Prop where
  l1 : 1 ≤ os.length
  l8 : os.length ≤ 8
  ofr : ∀ o ∈ os, Ofr o
theorem De_lt : ∀ {os : List Offer}, (∀ o ∈ os, Ofr o) → De os ≤ 2 ^ (60 * os.length)
  | [], _ => Nat.le_refl _
  | o :: os, h => by
    have h1 := (h o List.mem_cons_self).dn
    have h2 := De_lt fun x hx => h x (List.mem_cons_of_mem _ hx)
    rw [List.length_cons, Nat.mul_succ, Nat.add_comm, Nat.pow_add]
    exact Nat.mul_le_mul (Nat.le_of_lt h1) h2
theorem De_500 {os : List Offer} (h : ∀ o ∈ os, Ofr o) (l : os.length ≤ 8) : De os < 2 ^ 500 := Nat.lt_of_le_of_lt (De_lt h) (Nat.pow_lt_pow_right (by decide) (by omega))
/-- pairs of a bottom -/
structure Prs (E : Nat) (g : Offer) : Prop where
  e0 : 0 < E
  len : g.length ≤ 5
  val : ∀ p ∈ g, 0 ≤ p.1 ∧ p.1 ≤ 1000
  sh : ∀ p ∈ g, Bq E 1 p.2
theorem Ofr.prs {o : Offer} (h : Ofr o) : Prs (Do o) o := ⟨Dd_pos _, h.l5, h.val, fun p hp => Bq.of1 ((Iq.self p.2).up (Dd_mem (List.mem_map.mpr ⟨p, hp, rfl⟩)) (Dd_pos _)) ⟨Rat.le_of_lt (h.sh p hp).1, (h.sh p hp).2⟩⟩
theorem Prs.filter {E : Nat} {g : Offer} (k : Prs E g) (t : Int × Rat → Bool) : Prs E (g.filter t) := ⟨k.e0, Nat.le_trans (List.length_filter_le _ _) k.len, fun p hp => k.val p (List.mem_filter.mp hp).1, fun p hp => k.sh p (List.mem_filter.mp hp).1⟩
/-- the mean, the sum of the shares -/
def me (g : Offer) : Rat := sm (g.map fun p => (p.1 : Rat) * p.2)
def ss (g : Offer) : Rat := sm (g.map (·.2))
section
variable {E : Nat} {g : Offer} (k : Prs E g) {h : Hs}
include k
theorem Prs.term {p : Int × Rat} (hp : p ∈ g) : Bq E 1000 ((p.1 : Rat) * p.2) := by
  have z := (Bq.int (M := 1000) (k.val p hp).1 (k.val p hp).2).mul (k.sh p hp)
  simpa using z
theorem Prs.me : Bq E 5000 (me g) := by
  have z := sm_bq (E := E) (M := 1000) k.e0 (xs := g.map fun p => (p.1 : Rat) * p.2) fun x hx => by
    obtain ⟨p, hp, rfl⟩ := List.mem_map.mp hx
    exact k.term hp
  exact z.up (Nat.dvd_refl _) k.e0 (by rw [List.length_map]; have := k.len; omega)
theorem Prs.ss : Bq E 5 (ss g) := by
  have z := sm_bq (E := E) (M := 1) k.e0 (xs := g.map (·.2)) fun x hx => by
    obtain ⟨p, hp, rfl⟩ := List.mem_map.mp hx
    exact k.sh p hp
  exact z.up (Nat.dvd_refl _) k.e0 (by rw [List.length_map]; have := k.len; omega)
theorem meanof_eq (hE : E < 2 ^ 1000) {x : D} (hx : x = .tup (g.map pairD) ∨ x = .lst (g.map pairD)) : m_mean_of [x] h = .ok (fr (me g)) h := by
  refine mdef_ret (h' := h) ?_
  unfold c_mean_of
  have lg := k.len
  have e1 : ent 3 [x] = [some x, none, none] := rfl
  have c := compM (α := Int × Rat) (ci := iSeq (eV 0)) (p := .tp [.nm 1, .nm 2]) (own := [1, 2]) (ce := eCall 2 m_product (aC (eTup (aC (eV 1) (aC (eC (.int 1)) aN))) (aC (eV 2) aN))) (ρ := [some x, none, none]) (h := h) (xs := g) (g := pairD) (f := fun p => fr ((p.1 : Rat) * p.2))
    (seq_it rfl hx) (by omega) fun p hp => ⟨_, rfl, by
      have s1 := (Bq.int (M := 1000) (k.val p hp).1 (k.val p hp).2).sz (b := 2000) Nat.one_pos (Nat.lt_of_lt_of_le (by decide) (Nat.pow_le_pow_right (n := 2) (by decide) (show 10 ≤ 2000 by decide)))
      have s2 := (k.sh p hp).sz (b := 2000) k.e0 (by
        have : (2 : Nat) ^ 1001 ≤ 2 ^ 2000 := Nat.pow_le_pow_right (by decide) (by decide)
        have e : (2 : Nat) ^ 1001 = 2 * 2 ^ 1000 := by rw [Nat.pow_succ, Nat.mul_comm]
        omega)
      simp only [wipeD, eV0, eVs, bind_ok', then_ok, q_e2, q_e1, q_eC, q_aC, q_aN, q_sPar2, q_sPar3, q_sSet, q_sRet, q_eBf, q_nBf, q_eCall, q_tst, q_tru, q_ifV, q_sIf, q_eTup, q_sPass, q_sExp, q_eLm, q_nLst, q_frz, q_thaw, q_iSeq, q_iR2, q_iR3, q_iEnumD, q_iZip, q_andX, q_andT, q_orT, q_notT, q_eCh, q_sPat, q_eSl, q_nSl, q_pS, q_pN, q_sRetN, q_tYes, q_eDct0, okL0, okL1, okL2, okL3, okL4, okL5, okL6, ent, List.map_cons, List.map_nil, List.length_cons, List.length_nil, List.set_cons_zero, List.set_cons_succ, List.replicate, List.cons_append, List.nil_append, Nat.reduceAdd, Nat.reduceSub, Nat.sub_self, Nat.sub_zero, zero_add', ↓reduceIte, Bool.false_eq_true, item0, item1, addD_ii, subD_ii, negD_i, absD_i, ltD_ii, leD_ii, gtD_ii, geD_ii, truD_bl, decide_true, decide_false, fr_int, product_eq s1 s2 (by decide)]⟩
  have mm : (g.map fun p => fr ((p.1 : Rat) * p.2)) = (g.map fun p => (p.1 : Rat) * p.2).map fr := by rw [List.map_map]; rfl
  rw [mm] at c
  have s := wsum_eq (E := E) (M := 1000) (B := 2000) (rs := g.map fun p => (p.1 : Rat) * p.2) k.e0 (fun r hr => by
    obtain ⟨p, hp, rfl⟩ := List.mem_map.mp hr
    exact k.term hp) (by
      have : (2 : Nat) ^ 1013 ≤ 2 ^ 2000 := Nat.pow_le_pow_right (by decide) (by decide)
      have e : (2 : Nat) ^ 1013 = 8192 * 2 ^ 1000 := by rw [show 1013 = 1000 + 13 from rfl, Nat.pow_add, Nat.mul_comm]
      have l : ((g.map fun p => (p.1 : Rat) * p.2).length * 1000 + 1) * E ≤ 8192 * E := Nat.mul_le_mul_right _ (by rw [List.length_map]; omega)
      omega) (by decide) h (.inl rfl)
  rw [e1]
  simp only [eV0, eVs, bind_ok', then_ok, q_e2, q_e1, q_eC, q_aC, q_aN, q_sPar2, q_sPar3, q_sSet, q_sRet, q_eBf, q_nBf, q_eCall, q_tst, q_tru, q_ifV, q_sIf, q_eTup, q_sPass, q_sExp, q_eLm, q_nLst, q_frz, q_thaw, q_iSeq, q_iR2, q_iR3, q_iEnumD, q_iZip, q_andX, q_andT, q_orT, q_notT, q_eCh, q_sPat, q_eSl, q_nSl, q_pS, q_pN, q_sRetN, q_tYes, q_eDct0, okL0, okL1, okL2, okL3, okL4, okL5, okL6, ent, List.map_cons, List.map_nil, List.length_cons, List.length_nil, List.set_cons_zero, List.set_cons_succ, List.replicate, List.cons_append, List.nil_append, Nat.reduceAdd, Nat.reduceSub, Nat.sub_self, Nat.sub_zero, zero_add', ↓reduceIte, Bool.false_eq_true, item0, item1, addD_ii, subD_ii, negD_i, absD_i, ltD_ii, leD_ii, gtD_ii, geD_ii, truD_bl, decide_true, decide_false, c, s]
  rfl
/-- the sum of the shares that are told one by one -/
theorem sharesum_eq (hE : E < 2 ^ 1000) : m_whole_sum [.lst (g.map fun p => fr p.2)] h = .ok (fr (ss g)) h := by
  have lg := k.len
  have mm : (g.map fun p => fr p.2) = (g.map (·.2)).map fr := by rw [List.map_map]; rfl
  rw [mm]
  exact wsum_eq (E := E) (M := 1) (B := 2000) (rs := g.map (·.2)) k.e0 (fun r hr => by
    obtain ⟨p, hp, rfl⟩ := List.mem_map.mp hr
    exact k.sh p hp) (by
      have : (2 : Nat) ^ 1003 ≤ 2 ^ 2000 := Nat.pow_le_pow_right (by decide) (by decide)
      have e : (2 : Nat) ^ 1003 = 8 * 2 ^ 1000 := by rw [show 1003 = 1000 + 3 from rfl, Nat.pow_add, Nat.mul_comm]
      have l : ((g.map (·.2)).length * 1 + 1) * E ≤ 8 * E := Nat.mul_le_mul_right _ (by rw [List.length_map]; omega)
      omega) (by decide) h (.inl rfl)
end
/-- a bound that is enough -/
theorem Bq.s {E M : Nat} {q : Rat} (h : Bq E M q) (h0 : 0 < E) (hE : E < 2 ^ 1500) (hM : M < 2 ^ 60) : Sz 2000 q := h.sz h0 (by
  have e : (2 : Nat) ^ 1560 = 2 ^ 60 * 2 ^ 1500 := by rw [← Nat.pow_add]
  have l : (M + 1) * E ≤ 2 ^ 60 * E := Nat.mul_le_mul_right _ hM
  have l2 : 2 ^ 60 * E < 2 ^ 60 * 2 ^ 1500 := Nat.mul_lt_mul_of_pos_left hE (Nat.pow_pos (by decide))
  have l3 : (2 : Nat) ^ 1560 ≤ 2 ^ 2000 := Nat.pow_le_pow_right (by decide) (by decide)
  omega)
/-! ### an offer is one -/
theorem up_zip : ∀ {o : Offer}, (o.map (·.1)).Pairwise (· < ·) → ∀ x ∈ zipD (o.map pairD) ((o.map pairD).drop 1), ∃ a b : Int × Rat, x = .tup [pairD a, pairD b] ∧ a.1 < b.1
  | [], _, x, hx => by simp [zipD] at hx
  | [_], _, x, hx => by simp [zipD] at hx
  | a :: b :: l, h, x, hx => by
    have e : zipD ((a :: b :: l).map pairD) (((a :: b :: l).map pairD).drop 1) = .tup [pairD a, pairD b] :: zipD ((b :: l).map pairD) (((b :: l).map pairD).drop 1) := rfl
    rw [e] at hx
    obtain ⟨h1, h2⟩ := List.pairwise_cons.mp (show (a.1 :: (b :: l).map (·.1)).Pairwise (· < ·) from h)
    rcases List.mem_cons.mp hx with z | z
    · exact ⟨a, b, z, h1 b.1 (by simp)⟩
    · exact up_zip h2 x z
theorem pair0 {p : Int × Rat} {h : Hs} : itemD (pairD p) (.int 0) h = .ok (.int p.1) h := item0
theorem pair1 {p : Int × Rat} {h : Hs} : itemD (pairD p) (.int 1) h = .ok (fr p.2) h := item1
theorem is_pair_eq {p : Int × Rat} {h : Hs} (v : 0 ≤ p.1 ∧ p.1 ≤ 1000) (s : 0 < p.2 ∧ p.2 ≤ 1) : m_is_value_pair [pairD p] h = .ok (.bl true) h := by
  refine mdef_ret (h' := h) ?_
  unfold c_is_value_pair
  have t2 : m_is_tuple [pairD p, .int 2, .int 2] h = .ok (.bl true) h := istup_eq (by simp) (by simp)
  have n0 : (0 : Int) < p.2.num := by
    have a := Rat.num_nonneg.mpr (Rat.le_of_lt s.1)
    have b : p.2.num ≠ 0 := fun z => by
      have y := Rat.num_eq_zero.mp z
      rw [y] at s
      exact absurd s.1 (by decide +kernel)
    omega
  simp only [eV0, eVs, bind_ok', then_ok, q_e2, q_e1, q_eC, q_aC, q_aN, q_sPar2, q_sPar3, q_sSet, q_sRet, q_eBf, q_nBf, q_eCall, q_tst, q_tru, q_ifV, q_sIf, q_eTup, q_sPass, q_sExp, q_eLm, q_nLst, q_frz, q_thaw, q_iSeq, q_iR2, q_iR3, q_iEnumD, q_iZip, q_andX, q_andT, q_orT, q_notT, q_eCh, q_sPat, q_eSl, q_nSl, q_pS, q_pN, q_sRetN, q_tYes, q_eDct0, okL0, okL1, okL2, okL3, okL4, okL5, okL6, ent, List.map_cons, List.map_nil, List.length_cons, List.length_nil, List.set_cons_zero, List.set_cons_succ, List.replicate, List.cons_append, List.nil_append, Nat.reduceAdd, Nat.reduceSub, Nat.sub_self, Nat.sub_zero, zero_add', ↓reduceIte, Bool.false_eq_true, item0, item1, addD_ii, subD_ii, negD_i, absD_i, ltD_ii, leD_ii, gtD_ii, geD_ii, truD_bl, decide_true, decide_false, t2, pair0, pair1, iswithin_eq v.1 v.2, isshare_eq (Rat.le_of_lt s.1) s.2, fr_num, decide_eq_true n0]
theorem is_offer_eq {o : Offer} (k : Ofr o) {h : Hs} : m_is_offer [offD o] h = .ok (.bl true) h := by
  have l1 := k.l1
  have l5 := k.l5
  refine eq_of_wp ?_
  unfold m_is_offer c_is_offer
  have e1 : ent 6 [offD o] = [some (offD o), none, none, none, none, none] := rfl
  have t := istup_eq (xs := o.map pairD) (lo := 1) (hi := 5) (h := h) (by rw [List.length_map]; omega) (by rw [List.length_map]; omega)
  have t' : m_is_tuple [offD o, .int 1, .int 5] h = .ok (.bl true) h := t
  have c1 := compM (α := Int × Rat) (ci := iSeq (eV 0)) (p := .nm 1) (own := [1]) (ce := eCall 1 m_is_value_pair (aC (eV 1) aN)) (ρ := [some (offD o), none, none, none, none, none]) (h := h) (xs := o) (g := pairD) (f := fun _ => .bl true)
    (seq_tup (by simp only [eV0, eVs, bind_ok', then_ok, q_e2, q_e1, q_eC, q_aC, q_aN, q_sPar2, q_sPar3, q_sSet, q_sRet, q_eBf, q_nBf, q_eCall, q_tst, q_tru, q_ifV, q_sIf, q_eTup, q_sPass, q_sExp, q_eLm, q_nLst, q_frz, q_thaw, q_iSeq, q_iR2, q_iR3, q_iEnumD, q_iZip, q_andX, q_andT, q_orT, q_notT, q_eCh, q_sPat, q_eSl, q_nSl, q_pS, q_pN, q_sRetN, q_tYes, q_eDct0, okL0, okL1, okL2, okL3, okL4, okL5, okL6, ent, List.map_cons, List.map_nil, List.length_cons, List.length_nil, List.set_cons_zero, List.set_cons_succ, List.replicate, List.cons_append, List.nil_append, Nat.reduceAdd, Nat.reduceSub, Nat.sub_self, Nat.sub_zero, zero_add', ↓reduceIte, Bool.false_eq_true, item0, item1, addD_ii, subD_ii, negD_i, absD_i, ltD_ii, leD_ii, gtD_ii, geD_ii, truD_bl, decide_true, decide_false]; rfl)) (by omega) fun p hp => ⟨_, rfl, by simp only [wipeD, eV0, eVs, bind_ok', then_ok, q_e2, q_e1, q_eC, q_aC, q_aN, q_sPar2, q_sPar3, q_sSet, q_sRet, q_eBf, q_nBf, q_eCall, q_tst, q_tru, q_ifV, q_sIf, q_eTup, q_sPass, q_sExp, q_eLm, q_nLst, q_frz, q_thaw, q_iSeq, q_iR2, q_iR3, q_iEnumD, q_iZip, q_andX, q_andT, q_orT, q_notT, q_eCh, q_sPat, q_eSl, q_nSl, q_pS, q_pN, q_sRetN, q_tYes, q_eDct0, okL0, okL1, okL2, okL3, okL4, okL5, okL6, ent, List.map_cons, List.map_nil, List.length_cons, List.length_nil, List.set_cons_zero, List.set_cons_succ, List.replicate, List.cons_append, List.nil_append, Nat.reduceAdd, Nat.reduceSub, Nat.sub_self, Nat.sub_zero, zero_add', ↓reduceIte, Bool.false_eq_true, item0, item1, addD_ii, subD_ii, negD_i, absD_i, ltD_ii, leD_ii, gtD_ii, geD_ii, truD_bl, decide_true, decide_false, is_pair_eq (k.val p hp) (k.sh p hp)]⟩
  have zi : iZip (aC (eV 0) (aC (eSl (eV 0) (pS (eC (.int 1))) pN) aN)) [some (offD o), none, none, none, none, none] h = .ok ⟨zipD (o.map pairD) ((o.map pairD).drop 1), []⟩ h := by
    have sl : sliceD (offD o) (some 1) none h = .ok (.tup ((o.map pairD).drop 1)) h := slD_tup_from (m := 1)
    simp only [eV0, eVs, bind_ok', then_ok, q_e2, q_e1, q_eC, q_aC, q_aN, q_sPar2, q_sPar3, q_sSet, q_sRet, q_eBf, q_nBf, q_eCall, q_tst, q_tru, q_ifV, q_sIf, q_eTup, q_sPass, q_sExp, q_eLm, q_nLst, q_frz, q_thaw, q_iSeq, q_iR2, q_iR3, q_iEnumD, q_iZip, q_andX, q_andT, q_orT, q_notT, q_eCh, q_sPat, q_eSl, q_nSl, q_pS, q_pN, q_sRetN, q_tYes, q_eDct0, okL0, okL1, okL2, okL3, okL4, okL5, okL6, ent, List.map_cons, List.map_nil, List.length_cons, List.length_nil, List.set_cons_zero, List.set_cons_succ, List.replicate, List.cons_append, List.nil_append, Nat.reduceAdd, Nat.reduceSub, Nat.sub_self, Nat.sub_zero, zero_add', ↓reduceIte, Bool.false_eq_true, item0, item1, addD_ii, subD_ii, negD_i, absD_i, ltD_ii, leD_ii, gtD_ii, geD_ii, truD_bl, decide_true, decide_false, sl]
    rfl
  have c2 := comp_eq (ci := iZip (aC (eV 0) (aC (eSl (eV 0) (pS (eC (.int 1))) pN) aN))) (p := .tp [.nm 2, .nm 3]) (own := [2, 3]) (ce := e2 ltD (e2 itemD (eV 2) (eC (.int 0))) (e2 itemD (eV 3) (eC (.int 0)))) (ρ := [some (offD o), none, none, none, none, none]) (h := h) (f := fun _ => .bl true)
    zi (by rw [zipD_len, List.length_map]; omega) fun x hx => by
      obtain ⟨a, b, rfl, lt⟩ := up_zip k.up x hx
      refine ⟨_, rfl, ?_⟩
      simp only [wipeD, eV0, eVs, bind_ok', then_ok, q_e2, q_e1, q_eC, q_aC, q_aN, q_sPar2, q_sPar3, q_sSet, q_sRet, q_eBf, q_nBf, q_eCall, q_tst, q_tru, q_ifV, q_sIf, q_eTup, q_sPass, q_sExp, q_eLm, q_nLst, q_frz, q_thaw, q_iSeq, q_iR2, q_iR3, q_iEnumD, q_iZip, q_andX, q_andT, q_orT, q_notT, q_eCh, q_sPat, q_eSl, q_nSl, q_pS, q_pN, q_sRetN, q_tYes, q_eDct0, okL0, okL1, okL2, okL3, okL4, okL5, okL6, ent, List.map_cons, List.map_nil, List.length_cons, List.length_nil, List.set_cons_zero, List.set_cons_succ, List.replicate, List.cons_append, List.nil_append, Nat.reduceAdd, Nat.reduceSub, Nat.sub_self, Nat.sub_zero, zero_add', ↓reduceIte, Bool.false_eq_true, item0, item1, addD_ii, subD_ii, negD_i, absD_i, ltD_ii, leD_ii, gtD_ii, geD_ii, truD_bl, decide_true, decide_false, pair0, decide_eq_true lt]
  have c3 := compM (α := Int × Rat) (ci := iSeq (eV 0)) (p := .tp [.nm 4, .nm 5]) (own := [4, 5]) (ce := eV 5) (ρ := [some (offD o), none, none, none, none, none]) (h := h) (xs := o) (g := pairD) (f := fun p => fr p.2)
    (seq_tup (by simp only [eV0, eVs, bind_ok', then_ok, q_e2, q_e1, q_eC, q_aC, q_aN, q_sPar2, q_sPar3, q_sSet, q_sRet, q_eBf, q_nBf, q_eCall, q_tst, q_tru, q_ifV, q_sIf, q_eTup, q_sPass, q_sExp, q_eLm, q_nLst, q_frz, q_thaw, q_iSeq, q_iR2, q_iR3, q_iEnumD, q_iZip, q_andX, q_andT, q_orT, q_notT, q_eCh, q_sPat, q_eSl, q_nSl, q_pS, q_pN, q_sRetN, q_tYes, q_eDct0, okL0, okL1, okL2, okL3, okL4, okL5, okL6, ent, List.map_cons, List.map_nil, List.length_cons, List.length_nil, List.set_cons_zero, List.set_cons_succ, List.replicate, List.cons_append, List.nil_append, Nat.reduceAdd, Nat.reduceSub, Nat.sub_self, Nat.sub_zero, zero_add', ↓reduceIte, Bool.false_eq_true, item0, item1, addD_ii, subD_ii, negD_i, absD_i, ltD_ii, leD_ii, gtD_ii, geD_ii, truD_bl, decide_true, decide_false]; rfl)) (by omega) fun p hp => ⟨_, rfl, by simp only [wipeD, eV0, eVs, bind_ok', then_ok, q_e2, q_e1, q_eC, q_aC, q_aN, q_sPar2, q_sPar3, q_sSet, q_sRet, q_eBf, q_nBf, q_eCall, q_tst, q_tru, q_ifV, q_sIf, q_eTup, q_sPass, q_sExp, q_eLm, q_nLst, q_frz, q_thaw, q_iSeq, q_iR2, q_iR3, q_iEnumD, q_iZip, q_andX, q_andT, q_orT, q_notT, q_eCh, q_sPat, q_eSl, q_nSl, q_pS, q_pN, q_sRetN, q_tYes, q_eDct0, okL0, okL1, okL2, okL3, okL4, okL5, okL6, ent, List.map_cons, List.map_nil, List.length_cons, List.length_nil, List.set_cons_zero, List.set_cons_succ, List.replicate, List.cons_append, List.nil_append, Nat.reduceAdd, Nat.reduceSub, Nat.sub_self, Nat.sub_zero, zero_add', ↓reduceIte, Bool.false_eq_true, item0, item1, addD_ii, subD_ii, negD_i, absD_i, ltD_ii, leD_ii, gtD_ii, geD_ii, truD_bl, decide_true, decide_false]⟩
  have a1 : ∀ {α : Type} (xs : List α), allD [.lst (xs.map fun _ => D.bl true)] h = .ok (.bl true) h := fun xs => by
    rw [allD_map (fun _ => true) xs h]
    simp
  have s := sharesum_eq k.prs (h := h) (Nat.lt_of_lt_of_le k.dn (Nat.pow_le_pow_right (by decide) (by decide)))
  have so : ss o = 1 := k.one
  rw [so] at s
  have w1 := eqD_fz (h := h) ((fz_fr 1).mono (by decide)) ((fz_fr 1).mono (by decide))
  rw [fr1] at s w1
  rw [wp_def, e1]
  simp only [eV0, eVs, bind_ok', then_ok, q_e2, q_e1, q_eC, q_aC, q_aN, q_sPar2, q_sPar3, q_sSet, q_sRet, q_eBf, q_nBf, q_eCall, q_tst, q_tru, q_ifV, q_sIf, q_eTup, q_sPass, q_sExp, q_eLm, q_nLst, q_frz, q_thaw, q_iSeq, q_iR2, q_iR3, q_iEnumD, q_iZip, q_andX, q_andT, q_orT, q_notT, q_eCh, q_sPat, q_eSl, q_nSl, q_pS, q_pN, q_sRetN, q_tYes, q_eDct0, okL0, okL1, okL2, okL3, okL4, okL5, okL6, ent, List.map_cons, List.map_nil, List.length_cons, List.length_nil, List.set_cons_zero, List.set_cons_succ, List.replicate, List.cons_append, List.nil_append, Nat.reduceAdd, Nat.reduceSub, Nat.sub_self, Nat.sub_zero, zero_add', ↓reduceIte, Bool.false_eq_true, item0, item1, addD_ii, subD_ii, negD_i, absD_i, ltD_ii, leD_ii, gtD_ii, geD_ii, truD_bl, decide_true, decide_false, wp_ok, wp_bad, wp_bind, wp_nox, wp_def, wps_then, wps_seq, wps_nx, wps_ret, wp_ite, wps_ite, t', c1, c2, c3, a1, s, w1, Bool.not_true, sPass]
  exact ⟨trivial, trivial⟩
/-! ### a Deal object -/
def DealAt (h : Hs) (i : Nat) (os : List Offer) : Prop := ∃ fs, h[i]? = some (.ins "Deal" fs) ∧ fs.lookup ("offers" : PySem.Str) = some (dealD os)
def newD (h : Hs) (os : List Offer) : Hs := h ++ [.ins "Deal" [("offers", dealD os)]]
theorem newD_at {h : Hs} {os : List Offer} : DealAt (newD h os) h.length os := ⟨[("offers", dealD os)], get_last, rfl⟩
theorem initD_eq {os : List Offer} {h : Hs} (o : Dl8 os) : m_Deal___init__ [.obj h.length, dealD os] (h ++ [.ins "Deal" []]) = .ok .non (newD h os) := by
  obtain ⟨o1, o2, o3⟩ := o
  generalize hg : (h ++ [DO.ins "Deal" []]) = g
  have c := compM (α := Offer) (ci := iSeq (eV 1)) (p := .nm 2) (own := [2]) (ce := eCall 1 m_is_offer (aC (eV 2) aN)) (ρ := [some (.obj h.length), some (dealD os), none]) (h := g) (xs := os) (g := offD) (f := fun _ => .bl true)
    (seq_tup (by simp only [eV0, eVs, bind_ok', then_ok, q_e2, q_e1, q_eC, q_aC, q_aN, q_sPar2, q_sPar3, q_sSet, q_sRet, q_eBf, q_nBf, q_eCall, q_tst, q_tru, q_ifV, q_sIf, q_eTup, q_sPass, q_sExp, q_eLm, q_nLst, q_frz, q_thaw, q_iSeq, q_iR2, q_iR3, q_iEnumD, q_iZip, q_andX, q_andT, q_orT, q_notT, q_eCh, q_sPat, q_eSl, q_nSl, q_pS, q_pN, q_sRetN, q_tYes, q_eDct0, okL0, okL1, okL2, okL3, okL4, okL5, okL6, ent, List.map_cons, List.map_nil, List.length_cons, List.length_nil, List.set_cons_zero, List.set_cons_succ, List.replicate, List.cons_append, List.nil_append, Nat.reduceAdd, Nat.reduceSub, Nat.sub_self, Nat.sub_zero, zero_add', ↓reduceIte, Bool.false_eq_true, item0, item1, addD_ii, subD_ii, negD_i, absD_i, ltD_ii, leD_ii, gtD_ii, geD_ii, truD_bl, decide_true, decide_false]; rfl)) (by omega) fun x hx => ⟨_, rfl, by simp only [wipeD, eV0, eVs, bind_ok', then_ok, q_e2, q_e1, q_eC, q_aC, q_aN, q_sPar2, q_sPar3, q_sSet, q_sRet, q_eBf, q_nBf, q_eCall, q_tst, q_tru, q_ifV, q_sIf, q_eTup, q_sPass, q_sExp, q_eLm, q_nLst, q_frz, q_thaw, q_iSeq, q_iR2, q_iR3, q_iEnumD, q_iZip, q_andX, q_andT, q_orT, q_notT, q_eCh, q_sPat, q_eSl, q_nSl, q_pS, q_pN, q_sRetN, q_tYes, q_eDct0, okL0, okL1, okL2, okL3, okL4, okL5, okL6, ent, List.map_cons, List.map_nil, List.length_cons, List.length_nil, List.set_cons_zero, List.set_cons_succ, List.replicate, List.cons_append, List.nil_append, Nat.reduceAdd, Nat.reduceSub, Nat.sub_self, Nat.sub_zero, zero_add', ↓reduceIte, Bool.false_eq_true, item0, item1, addD_ii, subD_ii, negD_i, absD_i, ltD_ii, leD_ii, gtD_ii, geD_ii, truD_bl, decide_true, decide_false, is_offer_eq (o3 x hx)]⟩
  have a : allD [.lst (os.map fun _ => D.bl true)] g = .ok (.bl true) g := by
    rw [allD_map (fun _ => true) os g]
    simp
  have t := istup_eq (xs := os.map offD) (lo := 1) (hi := 8) (h := g) (by rw [List.length_map]; omega) (by rw [List.length_map]; omega)
  have t' : m_is_tuple [dealD os, .int 1, .int 8] g = .ok (.bl true) g := t
  refine eq_of_wp ?_
  unfold m_Deal___init__ c_Deal___init__
  have e1 : ent 3 [D.obj h.length, dealD os] = [some (.obj h.length), some (dealD os), none] := rfl
  rw [wp_def, e1]
  simp only [eV0, eVs, bind_ok', then_ok, q_e2, q_e1, q_eC, q_aC, q_aN, q_sPar2, q_sPar3, q_sSet, q_sRet, q_eBf, q_nBf, q_eCall, q_tst, q_tru, q_ifV, q_sIf, q_eTup, q_sPass, q_sExp, q_eLm, q_nLst, q_frz, q_thaw, q_iSeq, q_iR2, q_iR3, q_iEnumD, q_iZip, q_andX, q_andT, q_orT, q_notT, q_eCh, q_sPat, q_eSl, q_nSl, q_pS, q_pN, q_sRetN, q_tYes, q_eDct0, okL0, okL1, okL2, okL3, okL4, okL5, okL6, ent, List.map_cons, List.map_nil, List.length_cons, List.length_nil, List.set_cons_zero, List.set_cons_succ, List.replicate, List.cons_append, List.nil_append, Nat.reduceAdd, Nat.reduceSub, Nat.sub_self, Nat.sub_zero, zero_add', ↓reduceIte, Bool.false_eq_true, item0, item1, addD_ii, subD_ii, negD_i, absD_i, ltD_ii, leD_ii, gtD_ii, geD_ii, truD_bl, decide_true, decide_false, wp_ok, wp_bad, wp_bind, wp_nox, wp_def, wps_then, wps_seq, wps_nx, wps_ret, wp_ite, wps_ite, t', c, a, Bool.not_true, sPass]
  refine wps_fld (v := dealD os) (n := h.length) (fs := []) (h1 := g) (by simp only [eV0, eVs, bind_ok', then_ok, q_e2, q_e1, q_eC, q_aC, q_aN, q_sPar2, q_sPar3, q_sSet, q_sRet, q_eBf, q_nBf, q_eCall, q_tst, q_tru, q_ifV, q_sIf, q_eTup, q_sPass, q_sExp, q_eLm, q_nLst, q_frz, q_thaw, q_iSeq, q_iR2, q_iR3, q_iEnumD, q_iZip, q_andX, q_andT, q_orT, q_notT, q_eCh, q_sPat, q_eSl, q_nSl, q_pS, q_pN, q_sRetN, q_tYes, q_eDct0, okL0, okL1, okL2, okL3, okL4, okL5, okL6, ent, List.map_cons, List.map_nil, List.length_cons, List.length_nil, List.set_cons_zero, List.set_cons_succ, List.replicate, List.cons_append, List.nil_append, Nat.reduceAdd, Nat.reduceSub, Nat.sub_self, Nat.sub_zero, zero_add', ↓reduceIte, Bool.false_eq_true, item0, item1, addD_ii, subD_ii, negD_i, absD_i, ltD_ii, leD_ii, gtD_ii, geD_ii, truD_bl, decide_true, decide_false]) (by simp only [eV0, eVs, bind_ok', then_ok, q_e2, q_e1, q_eC, q_aC, q_aN, q_sPar2, q_sPar3, q_sSet, q_sRet, q_eBf, q_nBf, q_eCall, q_tst, q_tru, q_ifV, q_sIf, q_eTup, q_sPass, q_sExp, q_eLm, q_nLst, q_frz, q_thaw, q_iSeq, q_iR2, q_iR3, q_iEnumD, q_iZip, q_andX, q_andT, q_orT, q_notT, q_eCh, q_sPat, q_eSl, q_nSl, q_pS, q_pN, q_sRetN, q_tYes, q_eDct0, okL0, okL1, okL2, okL3, okL4, okL5, okL6, ent, List.map_cons, List.map_nil, List.length_cons, List.length_nil, List.set_cons_zero, List.set_cons_succ, List.replicate, List.cons_append, List.nil_append, Nat.reduceAdd, Nat.reduceSub, Nat.sub_self, Nat.sub_zero, zero_add', ↓reduceIte, Bool.false_eq_true, item0, item1, addD_ii, subD_ii, negD_i, absD_i, ltD_ii, leD_ii, gtD_ii, geD_ii, truD_bl, decide_true, decide_false]) (by rw [← hg]; exact get_last) (by decide) ?_
  rw [← hg, set_last]
  exact ⟨trivial, rfl⟩
/-- Deal(..) -/
theorem makeD_eq {os : List Offer} {ca : Env → M (List D)} {ρ : Env} {h h0 : Hs} (o : Dl8 os) (e : ca ρ h0 = .ok [dealD os] h) : eMake "Deal" 2 m_Deal___init__ ca ρ h0 = .ok (.obj h.length) (newD h os) := by
  rw [q_eMake, e, bind_ok']
  show (if decide (1 + 1 = 2) = true then _ else _) = _
  rw [if_pos (show decide (1 + 1 = 2) = true from rfl), initD_eq o, bind_ok']
theorem fld_of {h : Hs} {i : Nat} {os : List Offer} (t : DealAt h i os) {ca : Env → M D} {ρ : Env} {h0 : Hs} (e : ca ρ h0 = .ok (.obj i) h) : eFld "Deal" "offers" ca ρ h0 = .ok (dealD os) h := by
  obtain ⟨fs, h1, h2⟩ := t
  rw [q_eFld, e, bind_ok', fields_at h1, Option.bind_some, h2]
theorem DealAt.app {h l : Hs} {i : Nat} {os : List Offer} (t : DealAt h i os) : DealAt (h ++ l) i os := by
  obtain ⟨fs, h1, h2⟩ := t
  exact ⟨fs, getl h1, h2⟩
theorem DealAt.gb {b : Nat} {h h' : Hs} {i : Nat} {os : List Offer} (t : DealAt h i os) (g : Gb b h h') (hi : b ≤ i) : DealAt h' i os := by
  obtain ⟨fs, h1, h2⟩ := t
  exact ⟨fs, g.at hi h1, h2⟩
end Pl

/-! Plain laws, deals 3: worths, one floor. -/
namespace Pl
open Dl Sh

/-! ### means -/
def ex (o : Offer) (f : Int → Rat) : Rat := sm (o.map fun p => p.2 * f p.1)
section
variable {o : Offer} (k : Ofr o) {f g : Int → Rat}
include k
theorem ex_const (c : Rat) : ex o (fun _ => c) = c := by
  unfold ex
  rw [sm_map_mul', show sm (o.map fun p => p.2) = 1 from k.one, Rat.one_mul]
theorem ex_mono (h : ∀ p ∈ o, f p.1 ≤ g p.1) : ex o f ≤ ex o g := sm_map_le fun p hp => Rat.mul_le_mul_of_nonneg_left (h p hp) (Rat.le_of_lt (k.sh p hp).1)
theorem ex_le {c : Rat} (h : ∀ p ∈ o, f p.1 ≤ c) : ex o f ≤ c := by
  have z := ex_mono k (f := f) (g := fun _ => c) h
  rwa [ex_const k] at z
theorem ex_ge {c : Rat} (h : ∀ p ∈ o, c ≤ f p.1) : c ≤ ex o f := by
  have z := ex_mono k (f := fun _ => c) (g := f) h
  rwa [ex_const k] at z
omit k in
theorem ex_congr (h : ∀ p ∈ o, f p.1 = g p.1) : ex o f = ex o g := sm_map_congr fun p hp => by rw [h p hp]
omit k in
theorem ex_add : ex o (fun v => f v + g v) = ex o f + ex o g := by
  unfold ex
  rw [← sm_map_add]
  exact sm_map_congr fun p _ => Rat.mul_add _ _ _
omit k in
theorem ex_mul (c : Rat) : ex o (fun v => c * f v) = c * ex o f := by
  unfold ex
  rw [← sm_map_mul]
  exact sm_map_congr fun p _ => by grind
theorem ex_bq {F M : Nat} (h : ∀ p ∈ o, Bq F M (f p.1)) (hF : 0 < F) : Bq (Do o * F) M (ex o f) := by
  have pos : 0 < Do o * F := Nat.mul_pos (Dd_pos _) hF
  have z := sm_bq (E := Do o * F) (M := M) pos (xs := o.map fun p => p.2 * f p.1) fun x hx => by
    obtain ⟨p, hp, rfl⟩ := List.mem_map.mp hx
    have y := (k.prs.sh p hp).mul (h p hp)
    rwa [Nat.one_mul] at y
  exact ⟨z.iq, z.lo, ex_le k fun p hp => (h p hp).hi⟩
end
/-! ### the worths -/
def wf (o : Offer) (x : Rat) : Rat := ex o fun v => mxq (v : Rat) x
def w : List Offer → Rat
  | [] => 0
  | o :: os => wf o (w os)
def ws : List Offer → List Rat
  | [] => [0]
  | o :: os => w (o :: os) :: ws os
theorem ws_cons : ∀ os : List Offer, ∃ t, ws os = w os :: t
  | [] => ⟨[], rfl⟩
  | o :: os => ⟨ws os, rfl⟩
theorem ws_len : ∀ os : List Offer, (ws os).length = os.length + 1
  | [] => rfl
  | o :: os => by unfold ws; rw [List.length_cons, ws_len os, List.length_cons]
theorem ws_at : ∀ (os : List Offer) (i : Nat), i ≤ os.length → (ws os)[i]? = some (w (os.drop i))
  | [], i, h => by
    have : i = 0 := by simpa using h
    subst this
    rfl
  | o :: os, 0, _ => rfl
  | o :: os, i + 1, h => by
    unfold ws
    rw [List.getElem?_cons_succ, ws_at os i (by simpa using h), List.drop_succ_cons]
theorem w_bq : ∀ {os : List Offer}, (∀ o ∈ os, Ofr o) → Bq (De os) 1000 (w os)
  | [], _ => Bq.zero' Nat.one_pos _
  | o :: os, h => show Bq (Do o * De os) 1000 (ex o fun v => mxq (v : Rat) (w os)) from ex_bq (h o List.mem_cons_self) (fun p hp => by
    have z := ((Bq.int (M := 1000) ((h o List.mem_cons_self).val p hp).1 ((h o List.mem_cons_self).val p hp).2).up (Nat.one_dvd _) (De_pos os) (Nat.le_refl _)).mx (w_bq fun x hx => h x (List.mem_cons_of_mem _ hx))
    rwa [Nat.max_self] at z) (De_pos os)
theorem lt1500 {a b : Nat} (ha : a < 2 ^ 60) (hb : b < 2 ^ 500) : a * b < 2 ^ 1500 := by
  have h1 : a * b ≤ 2 ^ 60 * b := Nat.mul_le_mul_right _ (Nat.le_of_lt ha)
  have h2 : 2 ^ 60 * b < 2 ^ 60 * 2 ^ 500 := Nat.mul_lt_mul_of_pos_left hb (Nat.pow_pos (by decide))
  have h3 : (2 : Nat) ^ 60 * 2 ^ 500 = 2 ^ 560 := by rw [← Nat.pow_add]
  have h4 : (2 : Nat) ^ 560 ≤ 2 ^ 1500 := Nat.pow_le_pow_right (by decide) (by decide)
  omega
theorem int_s {v : Int} (h0 : 0 ≤ v) (h1 : v ≤ 1001) : Sz 2000 (v : Rat) := (Bq.int (M := 1001) h0 h1).s Nat.one_pos (Nat.one_lt_two_pow (by decide)) (by decide)
theorem share_s {o : Offer} (k : Ofr o) {p : Int × Rat} (hp : p ∈ o) : Sz 2000 p.2 := (k.prs.sh p hp).s (Dd_pos _) (Nat.lt_of_lt_of_le k.dn (Nat.pow_le_pow_right (by decide) (by decide))) (by decide)
theorem with_floor_eq {o : Offer} (k : Ofr o) {F : Nat} {x : Rat} (hx : Bq F 1000 x) (h0 : 0 < F) (hF : F < 2 ^ 500) (h : Hs) : m_with_floor [offD o, fr x] h = .ok (fr (wf o x)) h := by
  have l5 := k.l5
  have E0 : 0 < Do o * F := Nat.mul_pos (Dd_pos _) h0
  have E1 := lt1500 k.dn hF
  have sx : Sz 2000 x := hx.s h0 (Nat.lt_of_lt_of_le hF (Nat.pow_le_pow_right (by decide) (by decide))) (by decide)
  refine mdef_ret (h' := h) ?_
  unfold c_with_floor
  have e1 : ent 4 [offD o, fr x] = [some (offD o), some (fr x), none, none] := rfl
  have mb : ∀ p ∈ o, Bq F 1000 (mxq (p.1 : Rat) x) := fun p hp => by
    have z := ((Bq.int (M := 1000) (k.val p hp).1 (k.val p hp).2).up (Nat.one_dvd _) h0 (Nat.le_refl _)).mx hx
    rwa [Nat.max_self] at z
  have c := compM (α := Int × Rat) (ci := iSeq (eV 0)) (p := .tp [.nm 2, .nm 3]) (own := [2, 3]) (ce := eCall 2 m_product (aC (eV 3) (aC (eCall 2 m_greatest (aC (eTup (aC (eV 2) (aC (eC (.int 1)) aN))) (aC (eV 1) aN))) aN))) (ρ := [some (offD o), some (fr x), none, none]) (h := h) (xs := o) (g := pairD) (f := fun p => fr (p.2 * mxq (p.1 : Rat) x))
    (seq_tup (by simp only [eV0, eVs, bind_ok', then_ok, q_e2, q_e1, q_eC, q_aC, q_aN, q_sPar2, q_sPar3, q_sSet, q_sRet, q_eBf, q_nBf, q_eCall, q_tst, q_tru, q_ifV, q_sIf, q_eTup, q_sPass, q_sExp, q_eLm, q_nLst, q_frz, q_thaw, q_iSeq, q_iR2, q_iR3, q_iEnumD, q_iZip, q_andX, q_andT, q_orT, q_notT, q_eCh, q_sPat, q_eSl, q_nSl, q_pS, q_pN, q_sRetN, q_tYes, q_eDct0, okL0, okL1, okL2, okL3, okL4, okL5, okL6, ent, List.map_cons, List.map_nil, List.length_cons, List.length_nil, List.set_cons_zero, List.set_cons_succ, List.replicate, List.cons_append, List.nil_append, Nat.reduceAdd, Nat.reduceSub, Nat.sub_self, Nat.sub_zero, zero_add', ↓reduceIte, Bool.false_eq_true, item0, item1, addD_ii, subD_ii, negD_i, absD_i, ltD_ii, leD_ii, gtD_ii, geD_ii, truD_bl, decide_true, decide_false]; rfl)) (by omega) fun p hp => ⟨_, rfl, by
      have v := k.val p hp
      have s1 := int_s v.1 (by omega)
      have s3 : Sz 2000 (mxq (p.1 : Rat) x) := (mb p hp).s h0 (Nat.lt_of_lt_of_le hF (Nat.pow_le_pow_right (by decide) (by decide))) (by decide)
      simp only [wipeD, eV0, eVs, bind_ok', then_ok, q_e2, q_e1, q_eC, q_aC, q_aN, q_sPar2, q_sPar3, q_sSet, q_sRet, q_eBf, q_nBf, q_eCall, q_tst, q_tru, q_ifV, q_sIf, q_eTup, q_sPass, q_sExp, q_eLm, q_nLst, q_frz, q_thaw, q_iSeq, q_iR2, q_iR3, q_iEnumD, q_iZip, q_andX, q_andT, q_orT, q_notT, q_eCh, q_sPat, q_eSl, q_nSl, q_pS, q_pN, q_sRetN, q_tYes, q_eDct0, okL0, okL1, okL2, okL3, okL4, okL5, okL6, ent, List.map_cons, List.map_nil, List.length_cons, List.length_nil, List.set_cons_zero, List.set_cons_succ, List.replicate, List.cons_append, List.nil_append, Nat.reduceAdd, Nat.reduceSub, Nat.sub_self, Nat.sub_zero, zero_add', ↓reduceIte, Bool.false_eq_true, item0, item1, addD_ii, subD_ii, negD_i, absD_i, ltD_ii, leD_ii, gtD_ii, geD_ii, truD_bl, decide_true, decide_false, fr_int, great_eq s1 sx (by decide), product_eq (share_s k hp) s3 (by decide)]⟩
  have mm : (o.map fun p => fr (p.2 * mxq (p.1 : Rat) x)) = (o.map fun p => p.2 * mxq (p.1 : Rat) x).map fr := by rw [List.map_map]; rfl
  rw [mm] at c
  have s := wsum_eq (E := Do o * F) (M := 1000) (B := 2000) (rs := o.map fun p => p.2 * mxq (p.1 : Rat) x) E0 (fun r hr => by
    obtain ⟨p, hp, rfl⟩ := List.mem_map.mp hr
    have y := (k.prs.sh p hp).mul (mb p hp)
    rwa [Nat.one_mul] at y) (by
      have : (2 : Nat) ^ 1513 ≤ 2 ^ 2000 := Nat.pow_le_pow_right (by decide) (by decide)
      have e : (2 : Nat) ^ 1513 = 8192 * 2 ^ 1500 := by rw [show 1513 = 1500 + 13 from rfl, Nat.pow_add, Nat.mul_comm]
      have l : ((o.map fun p => p.2 * mxq (p.1 : Rat) x).length * 1000 + 1) * (Do o * F) ≤ 8192 * (Do o * F) := Nat.mul_le_mul_right _ (by rw [List.length_map]; omega)
      omega) (by decide) h (.inl rfl)
  rw [e1]
  simp only [eV0, eVs, bind_ok', then_ok, q_e2, q_e1, q_eC, q_aC, q_aN, q_sPar2, q_sPar3, q_sSet, q_sRet, q_eBf, q_nBf, q_eCall, q_tst, q_tru, q_ifV, q_sIf, q_eTup, q_sPass, q_sExp, q_eLm, q_nLst, q_frz, q_thaw, q_iSeq, q_iR2, q_iR3, q_iEnumD, q_iZip, q_andX, q_andT, q_orT, q_notT, q_eCh, q_sPat, q_eSl, q_nSl, q_pS, q_pN, q_sRetN, q_tYes, q_eDct0, okL0, okL1, okL2, okL3, okL4, okL5, okL6, ent, List.map_cons, List.map_nil, List.length_cons, List.length_nil, List.set_cons_zero, List.set_cons_succ, List.replicate, List.cons_append, List.nil_append, Nat.reduceAdd, Nat.reduceSub, Nat.sub_self, Nat.sub_zero, zero_add', ↓reduceIte, Bool.false_eq_true, item0, item1, addD_ii, subD_ii, negD_i, absD_i, ltD_ii, leD_ii, gtD_ii, geD_ii, truD_bl, decide_true, decide_false, c, s]
  rfl
theorem item_last {h : Hs} {n : Nat} {xs : List D} {d : D} (e : h[n]? = some (.lst (xs ++ [d]))) : itemD (.obj n) (.int (-1)) h = .ok d h := by
  have z : L2.atI (xs ++ [d]) (-1) = some d := by
    unfold L2.atI L2.ixN
    rw [if_neg (by decide), if_pos (by rw [List.length_append, List.length_singleton]; omega), Option.bind_some]
    have e : ((-1 : Int) + ((xs ++ [d]).length : Nat)).toNat = xs.length := by rw [List.length_append, List.length_singleton]; omega
    rw [e]
    simp
  have s : seqOf h (.obj n) = some (xs ++ [d]) := items_obj e
  show (match seqOf h (.obj n) with
    | some xs => (match L2.atI xs (-1) with
        | some d => Dl.R.ok d h
        | none => .bad)
    | none => _) = _
  rw [s]
  show (match L2.atI (xs ++ [d]) (-1) with
        | some d => Dl.R.ok d h
        | none => .bad) = _
  rw [z]
theorem foldl_rev {α : Type} : ∀ (xs done : List α), xs.foldl (fun d o => o :: d) done = xs.reverse ++ done
  | [], done => rfl
  | x :: xs, done => by
    show xs.foldl (fun d o => o :: d) (x :: done) = _
    rw [foldl_rev xs, List.reverse_cons, List.append_assoc]
    rfl
theorem revD_seq {x : D} {xs : List D} {h : Hs} (hx : x = .tup xs ∨ x = .lst xs) : ∃ y, revD x h = .ok y h ∧ (y = .tup xs.reverse ∨ y = .lst xs.reverse) := by
  rcases hx with e | e
  · exact ⟨.tup xs.reverse, by rw [e]; rfl, .inl rfl⟩
  · exact ⟨.lst xs.reverse, by rw [e]; rfl, .inr rfl⟩
theorem worths_eq {os : List Offer} (k : ∀ o ∈ os, Ofr o) (l8 : os.length ≤ 8) {h : Hs} {x : D} (hx : x = .tup (os.map offD) ∨ x = .lst (os.map offD)) : ∃ u, m_worths [x] h = .ok (.lst ((ws os).map fr)) (h ++ [u]) := by
  have en : ent 3 [x] = [some x, none, none] := rfl
  obtain ⟨y, ey, hy⟩ := revD_seq (h := h ++ [.lst [fr 0]]) hx
  have s0 : sSet 1 (thaw (nLst (aC (eC (.tup [.int 0, .int 1])) aN))) [some x, none, none] h = .nx [some x, some (.obj h.length), none] (h ++ [.lst [fr 0]]) := by
    simp only [eV0, eVs, bind_ok', then_ok, q_e2, q_e1, q_eC, q_aC, q_aN, q_sPar2, q_sPar3, q_sSet, q_sRet, q_eBf, q_nBf, q_eCall, q_tst, q_tru, q_ifV, q_sIf, q_eTup, q_sPass, q_sExp, q_eLm, q_nLst, q_frz, q_thaw, q_iSeq, q_iR2, q_iR3, q_iEnumD, q_iZip, q_andX, q_andT, q_orT, q_notT, q_eCh, q_sPat, q_eSl, q_nSl, q_pS, q_pN, q_sRetN, q_tYes, q_eDct0, okL0, okL1, okL2, okL3, okL4, okL5, okL6, ent, List.map_cons, List.map_nil, List.length_cons, List.length_nil, List.set_cons_zero, List.set_cons_succ, List.replicate, List.cons_append, List.nil_append, Nat.reduceAdd, Nat.reduceSub, Nat.sub_self, Nat.sub_zero, zero_add', ↓reduceIte, Bool.false_eq_true, item0, item1, addD_ii, subD_ii, negD_i, absD_i, ltD_ii, leD_ii, gtD_ii, geD_ii, truD_bl, decide_true, decide_false]
    rfl
  have it : iSeq (e1 revD (eV 0)) [some x, some (.obj h.length), none] (h ++ [.lst [fr 0]]) = .ok ⟨(os.reverse).map offD, []⟩ (h ++ [.lst [fr 0]]) := by
    rw [List.map_reverse]
    refine seq_it (x := y) ?_ hy
    simp only [eV0, eVs, bind_ok', then_ok, q_e2, q_e1, q_eC, q_aC, q_aN, q_sPar2, q_sPar3, q_sSet, q_sRet, q_eBf, q_nBf, q_eCall, q_tst, q_tru, q_ifV, q_sIf, q_eTup, q_sPass, q_sExp, q_eLm, q_nLst, q_frz, q_thaw, q_iSeq, q_iR2, q_iR3, q_iEnumD, q_iZip, q_andX, q_andT, q_orT, q_notT, q_eCh, q_sPat, q_eSl, q_nSl, q_pS, q_pN, q_sRetN, q_tYes, q_eDct0, okL0, okL1, okL2, okL3, okL4, okL5, okL6, ent, List.map_cons, List.map_nil, List.length_cons, List.length_nil, List.set_cons_zero, List.set_cons_succ, List.replicate, List.cons_append, List.nil_append, Nat.reduceAdd, Nat.reduceSub, Nat.sub_self, Nat.sub_zero, zero_add', ↓reduceIte, Bool.false_eq_true, item0, item1, addD_ii, subD_ii, negD_i, absD_i, ltD_ii, leD_ii, gtD_ii, geD_ii, truD_bl, decide_true, decide_false, ey]
  obtain ⟨ρ', h', el, st, -⟩ := loop_st (p := .nm 2) (body := sExp (eLm appD (eV 1) (aC (eCall 2 m_with_floor (aC (eV 2) (aC (e2 itemD (eV 1) (e1 negD (eC (.int 1)))) aN))) aN))) (g := offD)
    (fun done ρ h' => (∃ d, ρ = [some x, some (.obj h.length), d]) ∧ h' = h ++ [.lst ((ws done).reverse.map fr)]) (fun done o => o :: done) (fun done rest => (∀ o ∈ done, Ofr o) ∧ (∀ o ∈ rest, Ofr o) ∧ done.length + rest.length ≤ 8)
    (fun done o rest ρ h' ⟨j1, j2, j3⟩ ⟨⟨d, er⟩, eh⟩ => by
      subst er eh
      have ko := j2 o List.mem_cons_self
      have wb := w_bq j1
      have hl : done.length ≤ 8 := by omega
      obtain ⟨t, et⟩ := ws_cons done
      have cell : (h ++ [DO.lst ((ws done).reverse.map fr)])[h.length]? = some (.lst ((ws done).reverse.map fr)) := get_last
      have il : itemD (.obj h.length) (.int (-1)) (h ++ [DO.lst ((ws done).reverse.map fr)]) = .ok (fr (w done)) (h ++ [DO.lst ((ws done).reverse.map fr)]) := by
        refine item_last (xs := t.reverse.map fr) ?_
        rw [cell, et, List.reverse_cons, List.map_append]
        rfl
      have wfe := with_floor_eq ko wb (De_pos done) (De_500 j1 hl) (h ++ [DO.lst ((ws done).reverse.map fr)])
      have ap := app_obj (y := fr (w (o :: done))) cell (by rw [List.length_map, List.length_reverse, ws_len]; omega)
      have ap' : appD (.obj h.length) [fr (wf o (w done))] (h ++ [DO.lst ((ws done).reverse.map fr)]) = .ok .non (h ++ [DO.lst ((ws (o :: done)).reverse.map fr)]) := by
        have q : (ws (o :: done)).reverse.map fr = (ws done).reverse.map fr ++ [fr (w (o :: done))] := by
          show (w (o :: done) :: ws done).reverse.map fr = _
          rw [List.reverse_cons, List.map_append]
          rfl
        rw [q]
        rw [set_last] at ap
        exact ap
      refine ⟨_, [some x, some (.obj h.length), some (offD o)], h ++ [.lst ((ws (o :: done)).reverse.map fr)], rfl, ?_, ⟨⟨_, rfl⟩, rfl⟩, ?_⟩
      · simp only [List.set_cons_zero, List.set_cons_succ, eV0, eVs, bind_ok', then_ok, q_e2, q_e1, q_eC, q_aC, q_aN, q_sPar2, q_sPar3, q_sSet, q_sRet, q_eBf, q_nBf, q_eCall, q_tst, q_tru, q_ifV, q_sIf, q_eTup, q_sPass, q_sExp, q_eLm, q_nLst, q_frz, q_thaw, q_iSeq, q_iR2, q_iR3, q_iEnumD, q_iZip, q_andX, q_andT, q_orT, q_notT, q_eCh, q_sPat, q_eSl, q_nSl, q_pS, q_pN, q_sRetN, q_tYes, q_eDct0, okL0, okL1, okL2, okL3, okL4, okL5, okL6, ent, List.map_cons, List.map_nil, List.length_cons, List.length_nil, List.set_cons_zero, List.set_cons_succ, List.replicate, List.cons_append, List.nil_append, Nat.reduceAdd, Nat.reduceSub, Nat.sub_self, Nat.sub_zero, zero_add', ↓reduceIte, Bool.false_eq_true, item0, item1, addD_ii, subD_ii, negD_i, absD_i, ltD_ii, leD_ii, gtD_ii, geD_ii, truD_bl, decide_true, decide_false, lstAt_obj cell, il, wfe, ap']
      · refine ⟨fun q hq => ?_, fun q hq => j2 q (List.mem_cons_of_mem _ hq), by rw [List.length_cons] at j3 ⊢; omega⟩
        rcases List.mem_cons.mp hq with e | e
        · rw [e]; exact ko
        · exact j1 q e)
    os.reverse [] [some x, some (.obj h.length), none] (h ++ [.lst [fr 0]]) ⟨by simp, fun o ho => k o (List.mem_reverse.mp ho), by rw [List.length_reverse]; simpa using l8⟩ ⟨⟨none, rfl⟩, rfl⟩
  rw [foldl_rev, List.reverse_reverse, List.append_nil] at st
  obtain ⟨⟨d, er⟩, eh⟩ := st
  subst er eh
  refine ⟨.lst ((ws os).reverse.map fr), mdef_ret ?_⟩
  unfold c_worths
  have cell : (h ++ [DO.lst ((ws os).reverse.map fr)])[h.length]? = some (.lst ((ws os).reverse.map fr)) := get_last
  have ro : revD (.obj h.length) (h ++ [DO.lst ((ws os).reverse.map fr)]) = .ok (.lst ((ws os).map fr)) (h ++ [DO.lst ((ws os).reverse.map fr)]) := by
    show (match items (h ++ [DO.lst ((ws os).reverse.map fr)]) (.obj h.length) with
      | some xs => Dl.R.ok (D.lst xs.reverse) _
      | none => .bad) = _
    rw [items_obj cell]
    show Dl.R.ok (D.lst ((ws os).reverse.map fr).reverse) _ = _
    rw [← List.map_reverse, List.reverse_reverse]
  rw [en, seq_nx s0, seq_nx (by rw [for_of it]; exact el)]
  simp only [eV0, eVs, bind_ok', then_ok, q_e2, q_e1, q_eC, q_aC, q_aN, q_sPar2, q_sPar3, q_sSet, q_sRet, q_eBf, q_nBf, q_eCall, q_tst, q_tru, q_ifV, q_sIf, q_eTup, q_sPass, q_sExp, q_eLm, q_nLst, q_frz, q_thaw, q_iSeq, q_iR2, q_iR3, q_iEnumD, q_iZip, q_andX, q_andT, q_orT, q_notT, q_eCh, q_sPat, q_eSl, q_nSl, q_pS, q_pN, q_sRetN, q_tYes, q_eDct0, okL0, okL1, okL2, okL3, okL4, okL5, okL6, ent, List.map_cons, List.map_nil, List.length_cons, List.length_nil, List.set_cons_zero, List.set_cons_succ, List.replicate, List.cons_append, List.nil_append, Nat.reduceAdd, Nat.reduceSub, Nat.sub_self, Nat.sub_zero, zero_add', ↓reduceIte, Bool.false_eq_true, item0, item1, addD_ii, subD_ii, negD_i, absD_i, ltD_ii, leD_ii, gtD_ii, geD_ii, truD_bl, decide_true, decide_false, ro]
theorem worth_eq {os : List Offer} (k : Dl8 os) {h : Hs} {i : Nat} (t : DealAt h i os) : ∃ u, m_worth [.obj i] h = .ok (fr (w os)) (h ++ [u]) := by
  obtain ⟨u, e⟩ := worths_eq k.ofr k.l8 (h := h) (x := dealD os) (.inl rfl)
  refine ⟨u, mdef_ret ?_⟩
  unfold c_worth
  have f : ∀ ρ : Env, eFld "Deal" "offers" (eV 0) (some (.obj i) :: ρ) h = .ok (dealD os) h := fun ρ => fld_of t eV0
  obtain ⟨tl, et⟩ := ws_cons os
  have it : itemD (.lst ((ws os).map fr)) (.int 0) (h ++ [u]) = .ok (fr (w os)) (h ++ [u]) := item_lst (i := 0) (by rw [et]; rfl)
  simp only [eV0, eVs, bind_ok', then_ok, q_e2, q_e1, q_eC, q_aC, q_aN, q_sPar2, q_sPar3, q_sSet, q_sRet, q_eBf, q_nBf, q_eCall, q_tst, q_tru, q_ifV, q_sIf, q_eTup, q_sPass, q_sExp, q_eLm, q_nLst, q_frz, q_thaw, q_iSeq, q_iR2, q_iR3, q_iEnumD, q_iZip, q_andX, q_andT, q_orT, q_notT, q_eCh, q_sPat, q_eSl, q_nSl, q_pS, q_pN, q_sRetN, q_tYes, q_eDct0, okL0, okL1, okL2, okL3, okL4, okL5, okL6, ent, List.map_cons, List.map_nil, List.length_cons, List.length_nil, List.set_cons_zero, List.set_cons_succ, List.replicate, List.cons_append, List.nil_append, Nat.reduceAdd, Nat.reduceSub, Nat.sub_self, Nat.sub_zero, zero_add', ↓reduceIte, Bool.false_eq_true, item0, item1, addD_ii, subD_ii, negD_i, absD_i, ltD_ii, leD_ii, gtD_ii, geD_ii, truD_bl, decide_true, decide_false, f, e, it]
theorem floors_eq {os : List Offer} (k : Dl8 os) {h : Hs} {i : Nat} (t : DealAt h i os) : ∃ u, m_floors [.obj i] h = .ok (.tup (((ws os).drop 1).map fr)) (h ++ [u]) := by
  obtain ⟨u, e⟩ := worths_eq k.ofr k.l8 (h := h) (x := dealD os) (.inl rfl)
  refine ⟨u, mdef_ret ?_⟩
  unfold c_floors
  have f : ∀ ρ : Env, eFld "Deal" "offers" (eV 0) (some (.obj i) :: ρ) h = .ok (dealD os) h := fun ρ => fld_of t eV0
  have sl : sliceD (.lst ((ws os).map fr)) (some 1) none (h ++ [u]) = .ok (.lst (((ws os).drop 1).map fr)) (h ++ [u]) := by
    show Dl.R.ok (D.lst (cutL ((ws os).map fr) (some ((1 : Nat) : Int)) none)) (h ++ [u]) = _
    rw [cutL_from, List.map_drop]
  simp only [eV0, eVs, bind_ok', then_ok, q_e2, q_e1, q_eC, q_aC, q_aN, q_sPar2, q_sPar3, q_sSet, q_sRet, q_eBf, q_nBf, q_eCall, q_tst, q_tru, q_ifV, q_sIf, q_eTup, q_sPass, q_sExp, q_eLm, q_nLst, q_frz, q_thaw, q_iSeq, q_iR2, q_iR3, q_iEnumD, q_iZip, q_andX, q_andT, q_orT, q_notT, q_eCh, q_sPat, q_eSl, q_nSl, q_pS, q_pN, q_sRetN, q_tYes, q_eDct0, okL0, okL1, okL2, okL3, okL4, okL5, okL6, ent, List.map_cons, List.map_nil, List.length_cons, List.length_nil, List.set_cons_zero, List.set_cons_succ, List.replicate, List.cons_append, List.nil_append, Nat.reduceAdd, Nat.reduceSub, Nat.sub_self, Nat.sub_zero, zero_add', ↓reduceIte, Bool.false_eq_true, item0, item1, addD_ii, subD_ii, negD_i, absD_i, ltD_ii, leD_ii, gtD_ii, geD_ii, truD_bl, decide_true, decide_false, f, e, sl, tupD_lst]
end Pl

/-! Plain laws, deals 4: one floor; what no offer exceeds; all values; the mean of the greatest; the best floor. -/
namespace Pl
open Dl Sh

/-! ### one floor -/
def geq (f : Rat) (p : Int × Rat) : Bool := !decide ((p.1 : Rat) < f)
def ofl : List Offer → Rat → Rat
  | [], _ => 0
  | o :: os, f => ex o fun v => if (v : Rat) < f then ofl os f else v
theorem split_eq {o : Offer} (k : Ofr o) (f r : Rat) : me (o.filter (geq f)) + (1 - ss (o.filter (geq f))) * r = ex o fun v => if (v : Rat) < f then r else v := by
  have one : sm (o.map fun p => p.2) = 1 := k.one
  have key : (ex o fun v => if (v : Rat) < f then r else v) + r * ss (o.filter (geq f)) = me (o.filter (geq f)) + r * sm (o.map fun p => p.2) := by
    unfold ex me ss
    rw [sm_filter, sm_filter, ← sm_map_mul, ← sm_map_mul, ← sm_map_add, ← sm_map_add]
    refine sm_map_congr fun p hp => ?_
    by_cases z : (p.1 : Rat) < f
    · have g : geq f p = false := by unfold geq; rw [decide_eq_true z]; rfl
      simp only [g, z, ↓reduceIte, Bool.false_eq_true]
      grind
    · have g : geq f p = true := by unfold geq; rw [decide_eq_false z]; rfl
      simp only [g, z, ↓reduceIte]
      grind
  rw [one] at key
  grind
theorem ofl_bq : ∀ {os : List Offer} (f : Rat), (∀ o ∈ os, Ofr o) → Bq (De os) 1000 (ofl os f)
  | [], _, _ => Bq.zero' Nat.one_pos _
  | o :: os, f, h => show Bq (Do o * De os) 1000 (ex o fun v => if (v : Rat) < f then ofl os f else v) from ex_bq (h o List.mem_cons_self) (fun p hp => by
    have z := ofl_bq f fun x hx => h x (List.mem_cons_of_mem _ hx)
    have y := (Bq.int (M := 1000) ((h o List.mem_cons_self).val p hp).1 ((h o List.mem_cons_self).val p hp).2).up (Nat.one_dvd _) (De_pos os) (Nat.le_refl _)
    split
    · exact z
    · exact y) (De_pos os)
def ofS (f : Rat) (s : Rat × Rat) (o : Offer) : Rat × Rat := (s.1 + s.2 * me (o.filter (geq f)), s.2 * (1 - ss (o.filter (geq f))))
theorem of_fold (f : Rat) : ∀ (os : List Offer) (s : Rat × Rat), (∀ o ∈ os, Ofr o) → (os.foldl (ofS f) s).1 = s.1 + s.2 * ofl os f
  | [], s, _ => by
    show s.1 = s.1 + s.2 * 0
    grind
  | o :: os, s, h => by
    have e : ofl (o :: os) f = ex o fun v => if (v : Rat) < f then ofl os f else v := rfl
    rw [List.foldl_cons, of_fold f os _ fun x hx => h x (List.mem_cons_of_mem _ hx), e, ← split_eq (h o List.mem_cons_self)]
    show s.1 + s.2 * me (o.filter (geq f)) + s.2 * (1 - ss (o.filter (geq f))) * ofl os f = _
    grind
theorem gs_in {o : Offer} (k : Ofr o) (t : Int × Rat → Bool) : Bq (Do o) 1 (ss (o.filter t)) := by
  have z := (k.prs.filter t).ss
  refine ⟨z.iq, z.lo, ?_⟩
  have e : ss (o.filter t) ≤ ss o := by
    unfold ss
    rw [sm_filter]
    refine sm_map_le fun p hp => ?_
    split
    · exact Rat.le_refl
    · exact Rat.le_of_lt (k.sh p hp).1
  have o1 : ss o = 1 := k.one
  rw [o1] at e
  exact e
theorem me_le {o : Offer} (k : Ofr o) (t : Int × Rat → Bool) : me (o.filter t) ≤ 1000 * ss (o.filter t) := by
  unfold me ss
  rw [← sm_map_mul]
  refine sm_map_le fun p hp => ?_
  have hp' := (List.mem_filter.mp hp).1
  refine Rat.mul_le_mul_of_nonneg_right ?_ (Rat.le_of_lt (k.sh p hp').1)
  have z := Rat.intCast_le_intCast.mpr (k.val p hp').2
  simpa using z
theorem lt_of_mul {F G B : Nat} (hG : 0 < G) (h : F * G < B) : F < B := Nat.lt_of_le_of_lt (Nat.le_mul_of_pos_right _ hG) h
theorem p500 {F : Nat} (h : F < 2 ^ 500) : F < 2 ^ 1500 := Nat.lt_of_lt_of_le h (Nat.pow_le_pow_right (by decide) (by decide))
theorem p60 {F : Nat} (h : F < 2 ^ 60) : F < 2 ^ 1000 := Nat.lt_of_lt_of_le h (Nat.pow_le_pow_right (by decide) (by decide))
/-- the good pairs of an offer, in a comprehension with the program's test -/
theorem one_floor_eq {os : List Offer} (k : ∀ o ∈ os, Ofr o) (l8 : os.length ≤ 8) {f : Rat} (sf : Sz 2000 f) (h : Hs) : m_one_floor [dealD os, fr f] h = .ok (fr (ofl os f)) h := by
  have en : ent 8 [dealD os, fr f] = [some (dealD os), some (fr f), none, none, none, none, none, none] := rfl
  refine mdef_ret (h' := h) ?_
  unfold c_one_floor
  have s0 : sPar2 2 3 (aC (eC (.tup [.int 0, .int 1])) (aC (eC (.tup [.int 1, .int 1])) aN)) [some (dealD os), some (fr f), none, none, none, none, none, none] h = .nx [some (dealD os), some (fr f), some (fr 0), some (fr 1), none, none, none, none] h := by
    simp only [eV0, eVs, bind_ok', then_ok, q_e2, q_e1, q_eC, q_aC, q_aN, q_sPar2, q_sPar3, q_sSet, q_sRet, q_eBf, q_nBf, q_eCall, q_tst, q_tru, q_ifV, q_sIf, q_eTup, q_sPass, q_sExp, q_eLm, q_nLst, q_frz, q_thaw, q_iSeq, q_iR2, q_iR3, q_iEnumD, q_iZip, q_andX, q_andT, q_orT, q_notT, q_eCh, q_sPat, q_eSl, q_nSl, q_pS, q_pN, q_sRetN, q_tYes, q_eDct0, okL0, okL1, okL2, okL3, okL4, okL5, okL6, ent, List.map_cons, List.map_nil, List.length_cons, List.length_nil, List.set_cons_zero, List.set_cons_succ, List.replicate, List.cons_append, List.nil_append, Nat.reduceAdd, Nat.reduceSub, Nat.sub_self, Nat.sub_zero, zero_add', ↓reduceIte, Bool.false_eq_true, item0, item1, addD_ii, subD_ii, negD_i, absD_i, ltD_ii, leD_ii, gtD_ii, geD_ii, truD_bl, decide_true, decide_false]
    rfl
  have it : iSeq (eV 0) [some (dealD os), some (fr f), some (fr 0), some (fr 1), none, none, none, none] h = .ok ⟨os.map offD, []⟩ h := seq_tup rfl
  obtain ⟨ρ', h', el, st, -⟩ := loop_st (p := .nm 4) (g := offD) (body := sSeq (sSet 5 (frz (nLc (iSeq (eV 4)) (.tp [.nm 6, .nm 7]) [6, 7] (notT (tru (eCall 2 m_is_less (aC (eTup (aC (eV 6) (aC (eC (.int 1)) aN))) (aC (eV 1) aN))))) (eTup (aC (eV 6) (aC (eV 7) aN)))))) (sSeq (sSet 2 (eCall 2 m_plus (aC (eV 2) (aC (eCall 2 m_product (aC (eV 3) (aC (eCall 1 m_mean_of (aC (eV 5) aN)) aN))) aN)))) (sSet 3 (eCall 2 m_product (aC (eV 3) (aC (eCall 2 m_minus (aC (eC (.tup [.int 1, .int 1])) (aC (eCall 1 m_whole_sum (aC (frz (nLc (iSeq (eV 5)) (.tp [.nm 6, .nm 7]) [6, 7] (tYes') (eV 7))) aN)) aN))) aN))))))
    (fun (s : Rat × Rat) ρ h' => (∃ a4 a5 a6 a7, ρ = [some (dealD os), some (fr f), some (fr s.1), some (fr s.2), a4, a5, a6, a7]) ∧ h' = h) (ofS f)
    (fun s rest => (∀ o ∈ rest, Ofr o) ∧ ∃ F, 0 < F ∧ F * De rest < 2 ^ 500 ∧ Bq F 1 s.2 ∧ Iq F s.1 ∧ 0 ≤ s.1 ∧ s.1 + 1000 * s.2 ≤ 1000)
    (fun s o rest ρ h' ⟨j1, F, F0, FE, yb, xi, x0, xl⟩ ⟨⟨a4, a5, a6, a7, er⟩, eh⟩ => by
      subst er eh
      obtain ⟨x, y⟩ := s
      have ko := j1 o List.mem_cons_self
      have l5 := ko.l5
      have F' : 0 < F * Do o := Nat.mul_pos F0 (Dd_pos _)
      have FE' : F * Do o * De rest < 2 ^ 500 := by rw [Nat.mul_assoc]; exact FE
      have FB := lt_of_mul (De_pos rest) FE'
      have FA := lt_of_mul (Dd_pos _) FB
      have kf := ko.prs.filter (geq f)
      have gsb := gs_in ko (geq f)
      have meb := kf.me
      have mel := me_le ko (geq f)
      have c := compT (α := Int × Rat) (ci := iSeq (eV 4)) (p := .tp [.nm 6, .nm 7]) (own := [6, 7]) (ct := notT (tru (eCall 2 m_is_less (aC (eTup (aC (eV 6) (aC (eC (.int 1)) aN))) (aC (eV 1) aN))))) (t := geq f) (ce := eTup (aC (eV 6) (aC (eV 7) aN))) (ρ := [some (dealD os), some (fr f), some (fr x), some (fr y), some (offD o), a5, a6, a7]) (h := h') (xs := o) (g := pairD) (f := pairD)
        (seq_tup rfl) (by omega) fun p hp => ⟨_, rfl, by
          have v := ko.val p hp
          simp only [wipeD, eV0, eVs, bind_ok', then_ok, q_e2, q_e1, q_eC, q_aC, q_aN, q_sPar2, q_sPar3, q_sSet, q_sRet, q_eBf, q_nBf, q_eCall, q_tst, q_tru, q_ifV, q_sIf, q_eTup, q_sPass, q_sExp, q_eLm, q_nLst, q_frz, q_thaw, q_iSeq, q_iR2, q_iR3, q_iEnumD, q_iZip, q_andX, q_andT, q_orT, q_notT, q_eCh, q_sPat, q_eSl, q_nSl, q_pS, q_pN, q_sRetN, q_tYes, q_eDct0, okL0, okL1, okL2, okL3, okL4, okL5, okL6, ent, List.map_cons, List.map_nil, List.length_cons, List.length_nil, List.set_cons_zero, List.set_cons_succ, List.replicate, List.cons_append, List.nil_append, Nat.reduceAdd, Nat.reduceSub, Nat.sub_self, Nat.sub_zero, zero_add', ↓reduceIte, Bool.false_eq_true, item0, item1, addD_ii, subD_ii, negD_i, absD_i, ltD_ii, leD_ii, gtD_ii, geD_ii, truD_bl, decide_true, decide_false, fr_int, less_eq (int_s v.1 (by omega)) sf (by decide), truD_bl]
          rfl, fun _ => by simp only [wipeD, eV0, eVs, bind_ok', then_ok, q_e2, q_e1, q_eC, q_aC, q_aN, q_sPar2, q_sPar3, q_sSet, q_sRet, q_eBf, q_nBf, q_eCall, q_tst, q_tru, q_ifV, q_sIf, q_eTup, q_sPass, q_sExp, q_eLm, q_nLst, q_frz, q_thaw, q_iSeq, q_iR2, q_iR3, q_iEnumD, q_iZip, q_andX, q_andT, q_orT, q_notT, q_eCh, q_sPat, q_eSl, q_nSl, q_pS, q_pN, q_sRetN, q_tYes, q_eDct0, okL0, okL1, okL2, okL3, okL4, okL5, okL6, ent, List.map_cons, List.map_nil, List.length_cons, List.length_nil, List.set_cons_zero, List.set_cons_succ, List.replicate, List.cons_append, List.nil_append, Nat.reduceAdd, Nat.reduceSub, Nat.sub_self, Nat.sub_zero, zero_add', ↓reduceIte, Bool.false_eq_true, item0, item1, addD_ii, subD_ii, negD_i, absD_i, ltD_ii, leD_ii, gtD_ii, geD_ii, truD_bl, decide_true, decide_false]; rfl⟩
      have c2 := compM (α := Int × Rat) (ci := iSeq (eV 5)) (p := .tp [.nm 6, .nm 7]) (own := [6, 7]) (ce := eV 7) (ρ := [some (dealD os), some (fr f), some (fr (x + y * me (o.filter (geq f)))), some (fr y), some (offD o), some (.lst ((o.filter (geq f)).map pairD)), a6, a7]) (h := h') (xs := o.filter (geq f)) (g := pairD) (f := fun p => fr p.2)
        (seq_lst (by simp only [eV0, eVs, bind_ok', then_ok, q_e2, q_e1, q_eC, q_aC, q_aN, q_sPar2, q_sPar3, q_sSet, q_sRet, q_eBf, q_nBf, q_eCall, q_tst, q_tru, q_ifV, q_sIf, q_eTup, q_sPass, q_sExp, q_eLm, q_nLst, q_frz, q_thaw, q_iSeq, q_iR2, q_iR3, q_iEnumD, q_iZip, q_andX, q_andT, q_orT, q_notT, q_eCh, q_sPat, q_eSl, q_nSl, q_pS, q_pN, q_sRetN, q_tYes, q_eDct0, okL0, okL1, okL2, okL3, okL4, okL5, okL6, ent, List.map_cons, List.map_nil, List.length_cons, List.length_nil, List.set_cons_zero, List.set_cons_succ, List.replicate, List.cons_append, List.nil_append, Nat.reduceAdd, Nat.reduceSub, Nat.sub_self, Nat.sub_zero, zero_add', ↓reduceIte, Bool.false_eq_true, item0, item1, addD_ii, subD_ii, negD_i, absD_i, ltD_ii, leD_ii, gtD_ii, geD_ii, truD_bl, decide_true, decide_false])) (Nat.le_trans kf.len (by decide)) fun p hp => ⟨_, rfl, by simp only [wipeD, eV0, eVs, bind_ok', then_ok, q_e2, q_e1, q_eC, q_aC, q_aN, q_sPar2, q_sPar3, q_sSet, q_sRet, q_eBf, q_nBf, q_eCall, q_tst, q_tru, q_ifV, q_sIf, q_eTup, q_sPass, q_sExp, q_eLm, q_nLst, q_frz, q_thaw, q_iSeq, q_iR2, q_iR3, q_iEnumD, q_iZip, q_andX, q_andT, q_orT, q_notT, q_eCh, q_sPat, q_eSl, q_nSl, q_pS, q_pN, q_sRetN, q_tYes, q_eDct0, okL0, okL1, okL2, okL3, okL4, okL5, okL6, ent, List.map_cons, List.map_nil, List.length_cons, List.length_nil, List.set_cons_zero, List.set_cons_succ, List.replicate, List.cons_append, List.nil_append, Nat.reduceAdd, Nat.reduceSub, Nat.sub_self, Nat.sub_zero, zero_add', ↓reduceIte, Bool.false_eq_true, item0, item1, addD_ii, subD_ii, negD_i, absD_i, ltD_ii, leD_ii, gtD_ii, geD_ii, truD_bl, decide_true, decide_false]⟩
      have mo := meanof_eq kf (h := h') (p60 ko.dn) (x := .lst ((o.filter (geq f)).map pairD)) (.inr rfl)
      have su := sharesum_eq kf (h := h') (p60 ko.dn)
      have sy : Sz 2000 y := yb.s F0 (p500 FA) (by decide)
      have sm' : Sz 2000 (me (o.filter (geq f))) := meb.s (Dd_pos _) (Nat.lt_of_lt_of_le ko.dn (Nat.pow_le_pow_right (by decide) (by decide))) (by decide)
      have ssz : Sz 2000 (ss (o.filter (geq f))) := gsb.s (Dd_pos _) (Nat.lt_of_lt_of_le ko.dn (Nat.pow_le_pow_right (by decide) (by decide))) (by decide)
      have rb := gsb.rest (Dd_pos _)
      have rs : Sz 2000 (1 - ss (o.filter (geq f))) := rb.s (Dd_pos _) (Nat.lt_of_lt_of_le ko.dn (Nat.pow_le_pow_right (by decide) (by decide))) (by decide)
      have pb := yb.mul meb
      have ps : Sz 2000 (y * me (o.filter (geq f))) := pb.s F' (p500 FB) (by decide)
      have y0 := yb.lo
      have xb : Bq F 1000 x := ⟨xi, x0, by
        have : x ≤ 1000 := by
          have xl' : x + 1000 * y ≤ 1000 := xl
          have y0' : 0 ≤ y := y0
          grind
        simpa using this⟩
      have xs : Sz 2000 x := xb.s F0 (p500 FA) (by decide)
      have mi := minus_eq sz1 ssz (by decide) h'
      rw [fr1] at mi
      refine ⟨_, [some (dealD os), some (fr f), some (fr (x + y * me (o.filter (geq f)))), some (fr (y * (1 - ss (o.filter (geq f))))), some (offD o), some (.lst ((o.filter (geq f)).map pairD)), a6, a7], h', rfl, ?_, ⟨⟨_, _, _, _, rfl⟩, rfl⟩, ?_⟩
      · simp only [List.set_cons_zero, List.set_cons_succ]
        rw [seq_nx (ρ1 := [some (dealD os), some (fr f), some (fr x), some (fr y), some (offD o), some (.lst ((o.filter (geq f)).map pairD)), a6, a7]) (h1 := h') (by simp only [eV0, eVs, bind_ok', then_ok, q_e2, q_e1, q_eC, q_aC, q_aN, q_sPar2, q_sPar3, q_sSet, q_sRet, q_eBf, q_nBf, q_eCall, q_tst, q_tru, q_ifV, q_sIf, q_eTup, q_sPass, q_sExp, q_eLm, q_nLst, q_frz, q_thaw, q_iSeq, q_iR2, q_iR3, q_iEnumD, q_iZip, q_andX, q_andT, q_orT, q_notT, q_eCh, q_sPat, q_eSl, q_nSl, q_pS, q_pN, q_sRetN, q_tYes, q_eDct0, okL0, okL1, okL2, okL3, okL4, okL5, okL6, ent, List.map_cons, List.map_nil, List.length_cons, List.length_nil, List.set_cons_zero, List.set_cons_succ, List.replicate, List.cons_append, List.nil_append, Nat.reduceAdd, Nat.reduceSub, Nat.sub_self, Nat.sub_zero, zero_add', ↓reduceIte, Bool.false_eq_true, item0, item1, addD_ii, subD_ii, negD_i, absD_i, ltD_ii, leD_ii, gtD_ii, geD_ii, truD_bl, decide_true, decide_false, c])]
        rw [seq_nx (ρ1 := [some (dealD os), some (fr f), some (fr (x + y * me (o.filter (geq f)))), some (fr y), some (offD o), some (.lst ((o.filter (geq f)).map pairD)), a6, a7]) (h1 := h') (by simp only [eV0, eVs, bind_ok', then_ok, q_e2, q_e1, q_eC, q_aC, q_aN, q_sPar2, q_sPar3, q_sSet, q_sRet, q_eBf, q_nBf, q_eCall, q_tst, q_tru, q_ifV, q_sIf, q_eTup, q_sPass, q_sExp, q_eLm, q_nLst, q_frz, q_thaw, q_iSeq, q_iR2, q_iR3, q_iEnumD, q_iZip, q_andX, q_andT, q_orT, q_notT, q_eCh, q_sPat, q_eSl, q_nSl, q_pS, q_pN, q_sRetN, q_tYes, q_eDct0, okL0, okL1, okL2, okL3, okL4, okL5, okL6, ent, List.map_cons, List.map_nil, List.length_cons, List.length_nil, List.set_cons_zero, List.set_cons_succ, List.replicate, List.cons_append, List.nil_append, Nat.reduceAdd, Nat.reduceSub, Nat.sub_self, Nat.sub_zero, zero_add', ↓reduceIte, Bool.false_eq_true, item0, item1, addD_ii, subD_ii, negD_i, absD_i, ltD_ii, leD_ii, gtD_ii, geD_ii, truD_bl, decide_true, decide_false, mo, product_eq sy sm' (by decide), plus_eq xs ps (by decide)])]
        simp only [eV0, eVs, bind_ok', then_ok, q_e2, q_e1, q_eC, q_aC, q_aN, q_sPar2, q_sPar3, q_sSet, q_sRet, q_eBf, q_nBf, q_eCall, q_tst, q_tru, q_ifV, q_sIf, q_eTup, q_sPass, q_sExp, q_eLm, q_nLst, q_frz, q_thaw, q_iSeq, q_iR2, q_iR3, q_iEnumD, q_iZip, q_andX, q_andT, q_orT, q_notT, q_eCh, q_sPat, q_eSl, q_nSl, q_pS, q_pN, q_sRetN, q_tYes, q_eDct0, okL0, okL1, okL2, okL3, okL4, okL5, okL6, ent, List.map_cons, List.map_nil, List.length_cons, List.length_nil, List.set_cons_zero, List.set_cons_succ, List.replicate, List.cons_append, List.nil_append, Nat.reduceAdd, Nat.reduceSub, Nat.sub_self, Nat.sub_zero, zero_add', ↓reduceIte, Bool.false_eq_true, item0, item1, addD_ii, subD_ii, negD_i, absD_i, ltD_ii, leD_ii, gtD_ii, geD_ii, truD_bl, decide_true, decide_false, c2, su, mi, product_eq sy rs (by decide)]
      · have d1 : F ∣ F * Do o := Nat.dvd_mul_right _ _
        have yb' := yb.mul rb
        refine ⟨fun q hq => j1 q (List.mem_cons_of_mem _ hq), F * Do o, F', FE', yb', (xi.up d1 F').add (by simpa using pb.iq), ?_, ?_⟩
        · have := pb.lo
          show 0 ≤ x + y * me (o.filter (geq f))
          have x0' : 0 ≤ x := x0
          grind
        · show x + y * me (o.filter (geq f)) + 1000 * (y * (1 - ss (o.filter (geq f)))) ≤ 1000
          have z := Rat.mul_le_mul_of_nonneg_left mel y0
          have xl' : x + 1000 * y ≤ 1000 := xl
          have e : y * (1000 * ss (o.filter (geq f))) = 1000 * (y * ss (o.filter (geq f))) := by grind
          have e2 : y * (1 - ss (o.filter (geq f))) = y - y * ss (o.filter (geq f)) := by grind
          have z' : y * me (o.filter (geq f)) ≤ 1000 * (y * ss (o.filter (geq f))) := by rw [← e]; exact z
          rw [e2]
          grind)
    os (0, 1) [some (dealD os), some (fr f), some (fr 0), some (fr 1), none, none, none, none] h ⟨k, 1, Nat.one_pos, by rw [Nat.one_mul]; exact De_500 k l8, Bq.one' Nat.one_pos, Iq.zero, Rat.le_refl, by decide +kernel⟩ ⟨⟨_, _, _, _, rfl⟩, rfl⟩
  obtain ⟨⟨a4, a5, a6, a7, er⟩, eh⟩ := st
  subst er eh
  have fin := of_fold f os (0, 1) k
  have e0 : (0 : Rat) + 1 * ofl os f = ofl os f := by grind
  have fin' : (os.foldl (ofS f) (0, 1)).1 = ofl os f := fin.trans e0
  rw [en, seq_nx s0, seq_nx (by rw [for_of it]; exact el), fin']
  simp only [eV0, eVs, bind_ok', then_ok, q_e2, q_e1, q_eC, q_aC, q_aN, q_sPar2, q_sPar3, q_sSet, q_sRet, q_eBf, q_nBf, q_eCall, q_tst, q_tru, q_ifV, q_sIf, q_eTup, q_sPass, q_sExp, q_eLm, q_nLst, q_frz, q_thaw, q_iSeq, q_iR2, q_iR3, q_iEnumD, q_iZip, q_andX, q_andT, q_orT, q_notT, q_eCh, q_sPat, q_eSl, q_nSl, q_pS, q_pN, q_sRetN, q_tYes, q_eDct0, okL0, okL1, okL2, okL3, okL4, okL5, okL6, ent, List.map_cons, List.map_nil, List.length_cons, List.length_nil, List.set_cons_zero, List.set_cons_succ, List.replicate, List.cons_append, List.nil_append, Nat.reduceAdd, Nat.reduceSub, Nat.sub_self, Nat.sub_zero, zero_add', ↓reduceIte, Bool.false_eq_true, item0, item1, addD_ii, subD_ii, negD_i, absD_i, ltD_ii, leD_ii, gtD_ii, geD_ii, truD_bl, decide_true, decide_false]
theorem by_floor_eq {os : List Offer} (k : Dl8 os) {h : Hs} {i : Nat} (t : DealAt h i os) {f : Rat} (sf : Sz 2000 f) (f0 : 0 ≤ f) : m_by_floor [.obj i, fr f] h = .ok (fr (ofl os f)) h := by
  have fl : ∀ ρ : Env, eFld "Deal" "offers" (eV 0) (some (.obj i) :: ρ) h = .ok (dealD os) h := fun ρ => fld_of t eV0
  have n0 : ¬ (f.num < 0) := by
    have := Rat.num_nonneg.mpr f0
    omega
  refine eq_of_wp ?_
  unfold m_by_floor c_by_floor
  simp only [eV0, eVs, bind_ok', then_ok, q_e2, q_e1, q_eC, q_aC, q_aN, q_sPar2, q_sPar3, q_sSet, q_sRet, q_eBf, q_nBf, q_eCall, q_tst, q_tru, q_ifV, q_sIf, q_eTup, q_sPass, q_sExp, q_eLm, q_nLst, q_frz, q_thaw, q_iSeq, q_iR2, q_iR3, q_iEnumD, q_iZip, q_andX, q_andT, q_orT, q_notT, q_eCh, q_sPat, q_eSl, q_nSl, q_pS, q_pN, q_sRetN, q_tYes, q_eDct0, okL0, okL1, okL2, okL3, okL4, okL5, okL6, ent, List.map_cons, List.map_nil, List.length_cons, List.length_nil, List.set_cons_zero, List.set_cons_succ, List.replicate, List.cons_append, List.nil_append, Nat.reduceAdd, Nat.reduceSub, Nat.sub_self, Nat.sub_zero, zero_add', ↓reduceIte, Bool.false_eq_true, item0, item1, addD_ii, subD_ii, negD_i, absD_i, ltD_ii, leD_ii, gtD_ii, geD_ii, truD_bl, decide_true, decide_false, wp_ok, wp_bad, wp_bind, wp_nox, wp_def, wps_then, wps_seq, wps_nx, wps_ret, wp_ite, wps_ite, isfrac_eq, fr_num, decide_eq_false n0, Bool.not_true, sPass, fl, one_floor_eq k.ofr k.l8 sf]
  exact ⟨trivial, trivial⟩
/-! ### no offer has more than a value -/
def leq (v : Int) (p : Int × Rat) : Bool := decide (p.1 ≤ v)
def nm : List Offer → Int → Rat
  | [], _ => 1
  | o :: os, v => ss (o.filter (leq v)) * nm os v
theorem nm_bq : ∀ {os : List Offer} (v : Int), (∀ o ∈ os, Ofr o) → Bq (De os) 1 (nm os v)
  | [], _, _ => Bq.one' Nat.one_pos
  | o :: os, v, h => (gs_in (h o List.mem_cons_self) (leq v)).mul (nm_bq v fun x hx => h x (List.mem_cons_of_mem _ hx))
def nmS (v : Int) (s : Rat) (o : Offer) : Rat := s * ss (o.filter (leq v))
theorem nm_fold (v : Int) : ∀ (os : List Offer) (s : Rat), os.foldl (nmS v) s = s * nm os v
  | [], s => (Rat.mul_one s).symm
  | o :: os, s => by
    rw [List.foldl_cons, nm_fold v os]
    show s * ss (o.filter (leq v)) * nm os v = s * (ss (o.filter (leq v)) * nm os v)
    grind
theorem no_more_eq {os : List Offer} (k : ∀ o ∈ os, Ofr o) (l8 : os.length ≤ 8) (v : Int) (h : Hs) : m_no_more [dealD os, .int v] h = .ok (fr (nm os v)) h := by
  have en : ent 6 [dealD os, .int v] = [some (dealD os), some (.int v), none, none, none, none] := rfl
  refine mdef_ret (h' := h) ?_
  unfold c_no_more
  have s0 : sSet 2 (eC (.tup [.int 1, .int 1])) [some (dealD os), some (.int v), none, none, none, none] h = .nx [some (dealD os), some (.int v), some (fr 1), none, none, none] h := by
    simp only [eV0, eVs, bind_ok', then_ok, q_e2, q_e1, q_eC, q_aC, q_aN, q_sPar2, q_sPar3, q_sSet, q_sRet, q_eBf, q_nBf, q_eCall, q_tst, q_tru, q_ifV, q_sIf, q_eTup, q_sPass, q_sExp, q_eLm, q_nLst, q_frz, q_thaw, q_iSeq, q_iR2, q_iR3, q_iEnumD, q_iZip, q_andX, q_andT, q_orT, q_notT, q_eCh, q_sPat, q_eSl, q_nSl, q_pS, q_pN, q_sRetN, q_tYes, q_eDct0, okL0, okL1, okL2, okL3, okL4, okL5, okL6, ent, List.map_cons, List.map_nil, List.length_cons, List.length_nil, List.set_cons_zero, List.set_cons_succ, List.replicate, List.cons_append, List.nil_append, Nat.reduceAdd, Nat.reduceSub, Nat.sub_self, Nat.sub_zero, zero_add', ↓reduceIte, Bool.false_eq_true, item0, item1, addD_ii, subD_ii, negD_i, absD_i, ltD_ii, leD_ii, gtD_ii, geD_ii, truD_bl, decide_true, decide_false]
    rfl
  have it : iSeq (eV 0) [some (dealD os), some (.int v), some (fr 1), none, none, none] h = .ok ⟨os.map offD, []⟩ h := seq_tup rfl
  obtain ⟨ρ', h', el, st, -⟩ := loop_st (p := .nm 3) (g := offD) (body := sSet 2 (eCall 2 m_product (aC (eV 2) (aC (eCall 1 m_whole_sum (aC (frz (nLc (iSeq (eV 3)) (.tp [.nm 4, .nm 5]) [4, 5] (tst (e2 leD (eV 4) (eV 1))) (eV 5))) aN)) aN))))
    (fun (s : Rat) ρ h' => (∃ a3 a4 a5, ρ = [some (dealD os), some (.int v), some (fr s), a3, a4, a5]) ∧ h' = h) (nmS v)
    (fun s rest => (∀ o ∈ rest, Ofr o) ∧ ∃ F, 0 < F ∧ F * De rest < 2 ^ 500 ∧ Bq F 1 s)
    (fun s o rest ρ h' ⟨j1, F, F0, FE, sb⟩ ⟨⟨a3, a4, a5, er⟩, eh⟩ => by
      subst er eh
      have ko := j1 o List.mem_cons_self
      have l5 := ko.l5
      have F' : 0 < F * Do o := Nat.mul_pos F0 (Dd_pos _)
      have FE' : F * Do o * De rest < 2 ^ 500 := by rw [Nat.mul_assoc]; exact FE
      have FB := lt_of_mul (De_pos rest) FE'
      have FA := lt_of_mul (Dd_pos _) FB
      have kf := ko.prs.filter (leq v)
      have gsb := gs_in ko (leq v)
      have c := compT (α := Int × Rat) (ci := iSeq (eV 3)) (p := .tp [.nm 4, .nm 5]) (own := [4, 5]) (ct := tst (e2 leD (eV 4) (eV 1))) (t := leq v) (ce := eV 5) (ρ := [some (dealD os), some (.int v), some (fr s), some (offD o), a4, a5]) (h := h') (xs := o) (g := pairD) (f := fun p => fr p.2)
        (seq_tup rfl) (by omega) fun p hp => ⟨_, rfl, by simp only [wipeD, eV0, eVs, bind_ok', then_ok, q_e2, q_e1, q_eC, q_aC, q_aN, q_sPar2, q_sPar3, q_sSet, q_sRet, q_eBf, q_nBf, q_eCall, q_tst, q_tru, q_ifV, q_sIf, q_eTup, q_sPass, q_sExp, q_eLm, q_nLst, q_frz, q_thaw, q_iSeq, q_iR2, q_iR3, q_iEnumD, q_iZip, q_andX, q_andT, q_orT, q_notT, q_eCh, q_sPat, q_eSl, q_nSl, q_pS, q_pN, q_sRetN, q_tYes, q_eDct0, okL0, okL1, okL2, okL3, okL4, okL5, okL6, ent, List.map_cons, List.map_nil, List.length_cons, List.length_nil, List.set_cons_zero, List.set_cons_succ, List.replicate, List.cons_append, List.nil_append, Nat.reduceAdd, Nat.reduceSub, Nat.sub_self, Nat.sub_zero, zero_add', ↓reduceIte, Bool.false_eq_true, item0, item1, addD_ii, subD_ii, negD_i, absD_i, ltD_ii, leD_ii, gtD_ii, geD_ii, truD_bl, decide_true, decide_false]; rfl, fun _ => by simp only [wipeD, eV0, eVs, bind_ok', then_ok, q_e2, q_e1, q_eC, q_aC, q_aN, q_sPar2, q_sPar3, q_sSet, q_sRet, q_eBf, q_nBf, q_eCall, q_tst, q_tru, q_ifV, q_sIf, q_eTup, q_sPass, q_sExp, q_eLm, q_nLst, q_frz, q_thaw, q_iSeq, q_iR2, q_iR3, q_iEnumD, q_iZip, q_andX, q_andT, q_orT, q_notT, q_eCh, q_sPat, q_eSl, q_nSl, q_pS, q_pN, q_sRetN, q_tYes, q_eDct0, okL0, okL1, okL2, okL3, okL4, okL5, okL6, ent, List.map_cons, List.map_nil, List.length_cons, List.length_nil, List.set_cons_zero, List.set_cons_succ, List.replicate, List.cons_append, List.nil_append, Nat.reduceAdd, Nat.reduceSub, Nat.sub_self, Nat.sub_zero, zero_add', ↓reduceIte, Bool.false_eq_true, item0, item1, addD_ii, subD_ii, negD_i, absD_i, ltD_ii, leD_ii, gtD_ii, geD_ii, truD_bl, decide_true, decide_false]⟩
      have su := sharesum_eq kf (h := h') (p60 ko.dn)
      have sy : Sz 2000 s := sb.s F0 (p500 FA) (by decide)
      have ssz : Sz 2000 (ss (o.filter (leq v))) := gsb.s (Dd_pos _) (Nat.lt_of_lt_of_le ko.dn (Nat.pow_le_pow_right (by decide) (by decide))) (by decide)
      refine ⟨_, [some (dealD os), some (.int v), some (fr (nmS v s o)), some (offD o), a4, a5], h', rfl, ?_, ⟨⟨_, _, _, rfl⟩, rfl⟩, fun q hq => j1 q (List.mem_cons_of_mem _ hq), F * Do o, F', FE', sb.mul gsb⟩
      simp only [List.set_cons_zero, List.set_cons_succ, eV0, eVs, bind_ok', then_ok, q_e2, q_e1, q_eC, q_aC, q_aN, q_sPar2, q_sPar3, q_sSet, q_sRet, q_eBf, q_nBf, q_eCall, q_tst, q_tru, q_ifV, q_sIf, q_eTup, q_sPass, q_sExp, q_eLm, q_nLst, q_frz, q_thaw, q_iSeq, q_iR2, q_iR3, q_iEnumD, q_iZip, q_andX, q_andT, q_orT, q_notT, q_eCh, q_sPat, q_eSl, q_nSl, q_pS, q_pN, q_sRetN, q_tYes, q_eDct0, okL0, okL1, okL2, okL3, okL4, okL5, okL6, ent, List.map_cons, List.map_nil, List.length_cons, List.length_nil, List.set_cons_zero, List.set_cons_succ, List.replicate, List.cons_append, List.nil_append, Nat.reduceAdd, Nat.reduceSub, Nat.sub_self, Nat.sub_zero, zero_add', ↓reduceIte, Bool.false_eq_true, item0, item1, addD_ii, subD_ii, negD_i, absD_i, ltD_ii, leD_ii, gtD_ii, geD_ii, truD_bl, decide_true, decide_false, c, su, product_eq sy ssz (by decide)]
      rfl)
    os 1 [some (dealD os), some (.int v), some (fr 1), none, none, none] h ⟨k, 1, Nat.one_pos, by rw [Nat.one_mul]; exact De_500 k l8, Bq.one' Nat.one_pos⟩ ⟨⟨_, _, _, rfl⟩, rfl⟩
  obtain ⟨⟨a3, a4, a5, er⟩, eh⟩ := st
  subst er eh
  have fin := (nm_fold v os 1).trans (Rat.one_mul _)
  rw [en, seq_nx s0, seq_nx (by rw [for_of it]; exact el), fin]
  simp only [eV0, eVs, bind_ok', then_ok, q_e2, q_e1, q_eC, q_aC, q_aN, q_sPar2, q_sPar3, q_sSet, q_sRet, q_eBf, q_nBf, q_eCall, q_tst, q_tru, q_ifV, q_sIf, q_eTup, q_sPass, q_sExp, q_eLm, q_nLst, q_frz, q_thaw, q_iSeq, q_iR2, q_iR3, q_iEnumD, q_iZip, q_andX, q_andT, q_orT, q_notT, q_eCh, q_sPat, q_eSl, q_nSl, q_pS, q_pN, q_sRetN, q_tYes, q_eDct0, okL0, okL1, okL2, okL3, okL4, okL5, okL6, ent, List.map_cons, List.map_nil, List.length_cons, List.length_nil, List.set_cons_zero, List.set_cons_succ, List.replicate, List.cons_append, List.nil_append, Nat.reduceAdd, Nat.reduceSub, Nat.sub_self, Nat.sub_zero, zero_add', ↓reduceIte, Bool.false_eq_true, item0, item1, addD_ii, subD_ii, negD_i, absD_i, ltD_ii, leD_ii, gtD_ii, geD_ii, truD_bl, decide_true, decide_false]
/-! ### all values -/
def addK (ks : List Int) (v : Int) : List Int := if v ∈ ks then ks else ks ++ [v]
def kv (ks : List Int) : List (L2.Key × D) := ks.map fun k => (.inl k, .bl true)
theorem addK_mem {ks : List Int} {v z : Int} : z ∈ addK ks v ↔ z ∈ ks ∨ z = v := by
  unfold addK
  split
  · rename_i h
    refine ⟨.inl, fun y => y.elim id fun e => by rw [e]; exact h⟩
  · simp
theorem addK_nd {ks : List Int} {v : Int} (h : ks.Nodup) : (addK ks v).Nodup := by
  unfold addK
  split
  · exact h
  · rename_i n
    rw [List.nodup_append]
    refine ⟨h, by simp, fun a ha b hb e => ?_⟩
    rw [List.mem_singleton.mp hb] at e
    exact n (e ▸ ha)
theorem addK_len {ks : List Int} {v : Int} : (addK ks v).length ≤ ks.length + 1 := by
  unfold addK
  split
  · omega
  · simp
theorem addKs : ∀ (vs ks : List Int), ks.Nodup → (vs.foldl addK ks).Nodup ∧ (∀ z, z ∈ vs.foldl addK ks ↔ z ∈ ks ∨ z ∈ vs) ∧ (vs.foldl addK ks).length ≤ ks.length + vs.length
  | [], ks, h => ⟨h, fun z => by simp, by simp⟩
  | v :: vs, ks, h => by
    obtain ⟨h1, h2, h3⟩ := addKs vs (addK ks v) (addK_nd h)
    refine ⟨h1, fun z => ?_, ?_⟩
    · rw [List.foldl_cons, h2 z, addK_mem, List.mem_cons]
      exact or_assoc
    · have := addK_len (ks := ks) (v := v)
      rw [List.foldl_cons, List.length_cons]
      omega
theorem put_kv (ks : List Int) (v : Int) : putKD (kv ks) (.inl v) (.bl true) = kv (addK ks v) := by
  unfold putKD addK kv
  have a : ((ks.map fun k => ((.inl k : L2.Key), D.bl true)).any fun kv => decide (kv.1 = .inl v)) = decide (v ∈ ks) := by
    rw [List.any_map]
    induction ks with
    | nil => rfl
    | cons k ks ih =>
      rw [List.any_cons, ih]
      by_cases e : k = v
      · subst e; simp
      · have e' : ¬ v = k := fun z => e z.symm
        simp [e, e']
  rw [a]
  by_cases m : v ∈ ks
  · rw [if_pos (decide_eq_true m), if_pos m, List.map_map]
    refine List.map_congr_left fun k _ => ?_
    show (if (Sum.inl k : L2.Key) = .inl v then ((Sum.inl k : L2.Key), D.bl true) else (.inl k, .bl true)) = _
    split <;> rfl
  · rw [if_neg (by simpa using m), if_neg m, List.map_append]
    rfl
theorem set_kv {h : Hs} {n : Nat} {ks : List Int} {v : Int} (e : h[n]? = some (.dI (kv ks))) (l : ks.length < 1000) : setItemD (.obj n) (.int v) (.bl true) h = some (h.set n (.dI (kv (addK ks v)))) := by
  show (match h[n]? with
    | some (.lst xs) => (L2.ixN xs.length v).map fun j => h.set n (.lst (xs.set j (.bl true)))
    | some (.dI kvs) => (match keyOf (.int v) with
      | some k => if decide (kvs.length < 16777216) then some (h.set n (.dI (putKD kvs k (.bl true)))) else none
      | none => none)
    | _ => none) = _
  rw [e]
  show (if decide ((kv ks).length < 16777216) = true then some (h.set n (.dI (putKD (kv ks) (.inl v) (.bl true)))) else none) = _
  rw [if_pos (decide_eq_true (by unfold kv; rw [List.length_map]; omega)), put_kv]
theorem intKeys_kv : ∀ ks : List Int, intKeys (kv ks) = some ks
  | [] => rfl
  | k :: ks => by
    show (intKeys (kv ks)).map (k :: ·) = _
    rw [intKeys_kv ks]
    rfl
theorem sort_kv {h : Hs} {n : Nat} {ks : List Int} (e : h[n]? = some (.dI (kv ks))) (nd : ks.Nodup) (l : ks.length < 64) : sortDF [.obj n] h = .ok ((usort ks).map D.int) h := by
  have d : dctAt h (.obj n) = some (kv ks) := by
    show (match h[n]? with
    | some (.dI kvs) => some kvs
    | _ => none) = _
    rw [e]
  show (match (dctAt h (.obj n)).bind intKeys with
    | some ks => if decide (ks.Nodup ∧ ks.length < 64) then Dl.R.ok ((usort ks).map D.int) h else .bad
    | none => .bad) = _
  rw [d, Option.bind_some, intKeys_kv]
  exact if_pos (decide_eq_true ⟨nd, l⟩)
def allv (os : List Offer) : List Int := (os.map fun o => o.map (·.1)).flatten
def vals (os : List Offer) : List Int := usort (allv os)
theorem allv_len : ∀ {os : List Offer}, (∀ o ∈ os, Ofr o) → (allv os).length ≤ 5 * os.length
  | [], _ => Nat.le_refl _
  | o :: os, h => by
    have h1 := (h o List.mem_cons_self).l5
    have h2 := allv_len fun x hx => h x (List.mem_cons_of_mem _ hx)
    show (o.map (·.1) ++ allv os).length ≤ _
    rw [List.length_append, List.length_map, List.length_cons]
    omega
theorem insU_len {x : Int} : ∀ {ys : List Int}, (insU x ys).length ≤ ys.length + 1
  | [] => Nat.le_refl _
  | y :: ys => by
    unfold insU
    split
    · simp
    · split
      · simp
      · rw [List.length_cons, List.length_cons]
        exact Nat.succ_le_succ insU_len
theorem usort_len : ∀ xs : List Int, (usort xs).length ≤ xs.length
  | [] => Nat.le_refl _
  | x :: xs => Nat.le_trans insU_len (Nat.succ_le_succ (usort_len xs))
theorem usort_eq {xs ys : List Int} (h : ∀ z, z ∈ xs ↔ z ∈ ys) : usort xs = usort ys := up_eq (usort_up _) (usort_up _) fun z => by rw [usort_mem, usort_mem, h]
theorem vals_mem {os : List Offer} {v : Int} : v ∈ vals os ↔ ∃ o ∈ os, ∃ p ∈ o, p.1 = v := by
  unfold vals allv
  rw [usort_mem, List.mem_flatten]
  constructor
  · rintro ⟨l, hl, hv⟩
    obtain ⟨o, ho, rfl⟩ := List.mem_map.mp hl
    obtain ⟨p, hp, rfl⟩ := List.mem_map.mp hv
    exact ⟨o, ho, p, hp, rfl⟩
  · rintro ⟨o, ho, p, hp, rfl⟩
    exact ⟨_, List.mem_map.mpr ⟨o, ho, rfl⟩, List.mem_map.mpr ⟨p, hp, rfl⟩⟩
/-- the two loops that gather all values in a dict -/
theorem gather {bi bo : SM} {pi po : Pat} {h : Hs} {n : Nat} {g1 : Offer → D} {g2 : Int × Rat → D} (E : Env → Prop) (hn : n < h.length) (hd : ∃ ks0, h[n]? = some (.dI (kv ks0)))
    (ki : ∀ p ρ h' ks, E ρ → h'[n]? = some (.dI (kv ks)) → ks.length < 1000 → ∃ ρ1 ρ2, patD pi (g2 p) ρ = some ρ1 ∧ bi ρ1 h' = .nx ρ2 (h'.set n (.dI (kv (addK ks p.1)))) ∧ E ρ2)
    (ko : ∀ o ρ h', E ρ → ∃ ρ1, patD po (g1 o) ρ = some ρ1 ∧ E ρ1 ∧ bo ρ1 h' = loopF pi bi [] (o.map g2) ρ1 h') :
    ∀ (os : List Offer) (ρ : Env) (ks : List Int), E ρ → ks.length + (allv os).length < 1000 → ∃ ρ', E ρ' ∧ loopF po bo [] (os.map g1) ρ (h.set n (.dI (kv ks))) = .nx ρ' (h.set n (.dI (kv ((allv os).foldl addK ks)))) := by
  have get : ∀ ks, (h.set n (.dI (kv ks)))[n]? = some (.dI (kv ks)) := fun ks => List.getElem?_set_self hn
  have inner : ∀ (o : Offer) (ρ : Env) (ks : List Int), E ρ → ks.length + o.length < 1000 → ∃ ρ', E ρ' ∧ loopF pi bi [] (o.map g2) ρ (h.set n (.dI (kv ks))) = .nx ρ' (h.set n (.dI (kv ((o.map (·.1)).foldl addK ks)))) := by
    intro o
    induction o with
    | nil => intro ρ ks e _; exact ⟨ρ, e, by rw [List.map_nil]; unfold loopF; rfl⟩
    | cons p o ih =>
      intro ρ ks e l
      obtain ⟨ρ1, ρ2, a1, a2, a3⟩ := ki p ρ (h.set n (.dI (kv ks))) ks e (get ks) (by omega)
      have al := addK_len (ks := ks) (v := p.1)
      obtain ⟨ρ', b1, b2⟩ := ih ρ2 (addK ks p.1) a3 (by rw [List.length_cons] at l; omega)
      refine ⟨ρ', b1, ?_⟩
      rw [List.map_cons]
      unfold loopF
      rw [if_pos okG_nil, a1]
      show (match bi ρ1 (h.set n (.dI (kv ks))) with
        | .nx ρ2 h2 => loopF pi bi [] (o.map g2) ρ2 h2
        | .ct ρ2 h2 => loopF pi bi [] (o.map g2) ρ2 h2
        | .bk ρ2 h2 => .nx ρ2 h2
        | r => r) = _
      rw [a2, List.set_set]
      exact b2
  intro os
  induction os with
  | nil => intro ρ ks e _; exact ⟨ρ, e, by rw [List.map_nil]; unfold loopF; rfl⟩
  | cons o os ih =>
    intro ρ ks e l
    have la : (allv (o :: os)).length = o.length + (allv os).length := by
      show (o.map (·.1) ++ allv os).length = _
      rw [List.length_append, List.length_map]
    have fa : (allv (o :: os)).foldl addK ks = (allv os).foldl addK ((o.map (·.1)).foldl addK ks) := by
      show (o.map (·.1) ++ allv os).foldl addK ks = _
      rw [List.foldl_append]
    obtain ⟨ρ1, a1, a2, a3⟩ := ko o ρ (h.set n (.dI (kv ks))) e
    obtain ⟨ρ2, b1, b2⟩ := inner o ρ1 ks a2 (by omega)
    have lk : ((o.map (·.1)).foldl addK ks).length ≤ ks.length + o.length := by
      have : ∀ (vs ks : List Int), (vs.foldl addK ks).length ≤ ks.length + vs.length := by
        intro vs
        induction vs with
        | nil => intro ks; simp
        | cons v vs ih =>
          intro ks
          have := ih (addK ks v)
          have := addK_len (ks := ks) (v := v)
          rw [List.foldl_cons, List.length_cons]
          omega
      have z := this (o.map (·.1)) ks
      rwa [List.length_map] at z
    obtain ⟨ρ', c1, c2⟩ := ih ρ2 ((o.map (·.1)).foldl addK ks) b1 (by omega)
    refine ⟨ρ', c1, ?_⟩
    rw [List.map_cons]
    unfold loopF
    rw [if_pos okG_nil, a1]
    show (match bo ρ1 (h.set n (.dI (kv ks))) with
      | .nx ρ2 h2 => loopF po bo [] (os.map g1) ρ2 h2
      | .ct ρ2 h2 => loopF po bo [] (os.map g1) ρ2 h2
      | .bk ρ2 h2 => .nx ρ2 h2
      | r => r) = _
    rw [a3, b2, fa]
    exact c2
theorem values_of_eq {os : List Offer} (k : ∀ o ∈ os, Ofr o) (l8 : os.length ≤ 8) (h : Hs) : ∃ u, m_values_of [dealD os] h = .ok (.lst ((vals os).map D.int)) (h ++ [u]) := by
  have en : ent 5 [dealD os] = [some (dealD os), none, none, none, none] := rfl
  have al := allv_len k
  have s0 : sSet 1 (eDct0) [some (dealD os), none, none, none, none] h = .nx [some (dealD os), some (.obj h.length), none, none, none] (h ++ [.dI []]) := by
    simp only [eV0, eVs, bind_ok', then_ok, q_e2, q_e1, q_eC, q_aC, q_aN, q_sPar2, q_sPar3, q_sSet, q_sRet, q_eBf, q_nBf, q_eCall, q_tst, q_tru, q_ifV, q_sIf, q_eTup, q_sPass, q_sExp, q_eLm, q_nLst, q_frz, q_thaw, q_iSeq, q_iR2, q_iR3, q_iEnumD, q_iZip, q_andX, q_andT, q_orT, q_notT, q_eCh, q_sPat, q_eSl, q_nSl, q_pS, q_pN, q_sRetN, q_tYes, q_eDct0, okL0, okL1, okL2, okL3, okL4, okL5, okL6, ent, List.map_cons, List.map_nil, List.length_cons, List.length_nil, List.set_cons_zero, List.set_cons_succ, List.replicate, List.cons_append, List.nil_append, Nat.reduceAdd, Nat.reduceSub, Nat.sub_self, Nat.sub_zero, zero_add', ↓reduceIte, Bool.false_eq_true, item0, item1, addD_ii, subD_ii, negD_i, absD_i, ltD_ii, leD_ii, gtD_ii, geD_ii, truD_bl, decide_true, decide_false]
  have it : iSeq (eV 0) [some (dealD os), some (.obj h.length), none, none, none] (h ++ [.dI []]) = .ok ⟨os.map offD, []⟩ (h ++ [.dI []]) := seq_tup rfl
  obtain ⟨ρ', ⟨a2, a3, a4, er⟩, el⟩ := gather (bi := sStore (eC (.bl true)) (eV 1) (eV 3)) (bo := sFor (iSeq (eV 2)) (.tp [.nm 3, .nm 4]) (sStore (eC (.bl true)) (eV 1) (eV 3))) (pi := .tp [.nm 3, .nm 4]) (po := .nm 2) (h := h ++ [.dI []]) (n := h.length) (g1 := offD) (g2 := pairD)
    (fun ρ => ∃ a2 a3 a4, ρ = [some (dealD os), some (.obj h.length), a2, a3, a4]) (by rw [List.length_append, List.length_singleton]; omega) ⟨[], get_last⟩
    (fun p ρ h' ks ⟨a2, a3, a4, er⟩ eh lk => by
      subst er
      refine ⟨_, [some (dealD os), some (.obj h.length), a2, some (.int p.1), some (fr p.2)], rfl, ?_, ⟨_, _, _, rfl⟩⟩
      have st := set_kv (v := p.1) eh lk
      unfold sStore
      simp only [eV0, eVs, bind_ok', then_ok, q_e2, q_e1, q_eC, q_aC, q_aN, q_sPar2, q_sPar3, q_sSet, q_sRet, q_eBf, q_nBf, q_eCall, q_tst, q_tru, q_ifV, q_sIf, q_eTup, q_sPass, q_sExp, q_eLm, q_nLst, q_frz, q_thaw, q_iSeq, q_iR2, q_iR3, q_iEnumD, q_iZip, q_andX, q_andT, q_orT, q_notT, q_eCh, q_sPat, q_eSl, q_nSl, q_pS, q_pN, q_sRetN, q_tYes, q_eDct0, okL0, okL1, okL2, okL3, okL4, okL5, okL6, ent, List.map_cons, List.map_nil, List.length_cons, List.length_nil, List.set_cons_zero, List.set_cons_succ, List.replicate, List.cons_append, List.nil_append, Nat.reduceAdd, Nat.reduceSub, Nat.sub_self, Nat.sub_zero, zero_add', ↓reduceIte, Bool.false_eq_true, item0, item1, addD_ii, subD_ii, negD_i, absD_i, ltD_ii, leD_ii, gtD_ii, geD_ii, truD_bl, decide_true, decide_false, st])
    (fun o ρ h' ⟨a2, a3, a4, er⟩ => by
      subst er
      exact ⟨[some (dealD os), some (.obj h.length), some (offD o), a3, a4], rfl, ⟨_, _, _, rfl⟩, for_of (seq_tup rfl)⟩)
    os [some (dealD os), some (.obj h.length), none, none, none] [] ⟨_, _, _, rfl⟩ (by simp; omega)
  subst er
  have se : ∀ x : DO, (h ++ [DO.dI []]).set h.length x = h ++ [x] := fun x => set_last
  rw [se, se] at el
  obtain ⟨n1, n2, n3⟩ := addKs (allv os) [] List.nodup_nil
  have so := sort_kv (h := h ++ [.dI (kv ((allv os).foldl addK []))]) (n := h.length) (ks := (allv os).foldl addK []) get_last n1 (by simp at n3; omega)
  have ue : usort ((allv os).foldl addK []) = vals os := usort_eq fun z => by rw [n2 z]; simp
  rw [ue] at so
  refine ⟨.dI (kv ((allv os).foldl addK [])), mdef_ret ?_⟩
  unfold c_values_of
  rw [en, seq_nx s0, seq_nx (by rw [for_of it]; exact el)]
  simp only [eV0, eVs, bind_ok', then_ok, q_e2, q_e1, q_eC, q_aC, q_aN, q_sPar2, q_sPar3, q_sSet, q_sRet, q_eBf, q_nBf, q_eCall, q_tst, q_tru, q_ifV, q_sIf, q_eTup, q_sPass, q_sExp, q_eLm, q_nLst, q_frz, q_thaw, q_iSeq, q_iR2, q_iR3, q_iEnumD, q_iZip, q_andX, q_andT, q_orT, q_notT, q_eCh, q_sPat, q_eSl, q_nSl, q_pS, q_pN, q_sRetN, q_tYes, q_eDct0, okL0, okL1, okL2, okL3, okL4, okL5, okL6, ent, List.map_cons, List.map_nil, List.length_cons, List.length_nil, List.set_cons_zero, List.set_cons_succ, List.replicate, List.cons_append, List.nil_append, Nat.reduceAdd, Nat.reduceSub, Nat.sub_self, Nat.sub_zero, zero_add', ↓reduceIte, Bool.false_eq_true, item0, item1, addD_ii, subD_ii, negD_i, absD_i, ltD_ii, leD_ii, gtD_ii, geD_ii, truD_bl, decide_true, decide_false, so]
end Pl

/-! Plain laws, deals 5: the mean of the greatest; the best floor; the law's own ways. -/
namespace Pl
open Dl Sh

/-- of a bottom, and of a size to both sides -/
structure Bz (E M : Nat) (q : Rat) : Prop where
  iq : Iq E q
  lo : -((M : Int) : Rat) ≤ q
  hi : q ≤ ((M : Int) : Rat)
section
variable {E M N : Nat} {p q : Rat}
theorem Sz.neg {b : Nat} (h : Sz b (-q)) : Sz b q := by
  obtain ⟨h1, h2⟩ := h
  rw [Rat.neg_num, Int.natAbs_neg] at h1
  rw [Rat.neg_den] at h2
  exact ⟨h1, h2⟩
theorem Bz.s (h : Bz E M q) (h0 : 0 < E) (hE : E < 2 ^ 1500) (hM : M < 2 ^ 60) : Sz 2000 q := by
  rcases Rat.le_total (a := 0) (b := q) with z | z
  · exact (Bq.mk h.iq z h.hi).s h0 hE hM
  · refine Sz.neg ((Bq.mk (M := M) h.iq.neg (by grind) ?_).s h0 hE hM)
    have := h.lo
    grind
theorem Bq.z (h : Bq E M q) : Bz E M q := ⟨h.iq, by
  have := h.lo
  have := nat_rat_nn M
  grind, h.hi⟩
theorem Bz.add (h : Bz E M p) (k : Bz E N q) : Bz E (M + N) (p + q) := ⟨h.iq.add k.iq, by
  have := h.lo
  have := k.lo
  rw [nat_rat]
  grind, by
  have := h.hi
  have := k.hi
  rw [nat_rat]
  grind⟩
theorem Bz.sub (h : Bz E M p) (k : Bz E N q) : Bz E (M + N) (p - q) := ⟨h.iq.sub k.iq, by
  have := h.lo
  have := k.hi
  rw [nat_rat]
  grind, by
  have := h.hi
  have := k.lo
  rw [nat_rat]
  grind⟩
theorem Bz.diff (h : Bq E M p) (k : Bq E M q) : Bz E M (p - q) := ⟨h.iq.sub k.iq, by
  have := h.lo
  have := k.hi
  grind, by
  have := h.hi
  have := k.lo
  grind⟩
theorem Bz.imul {v : Int} (h0 : 0 ≤ v) (h1 : v ≤ (M : Int)) (k : Bz E N q) : Bz E (M * N) ((v : Rat) * q) := by
  have v0 : (0 : Rat) ≤ (v : Rat) := by
    have := Rat.intCast_le_intCast (a := 0) (b := v) |>.mpr h0
    simpa using this
  have v1 : (v : Rat) ≤ ((M : Int) : Rat) := Rat.intCast_le_intCast.mpr h1
  have a := Rat.mul_le_mul_of_nonneg_left k.hi v0
  have b := Rat.mul_le_mul_of_nonneg_left k.lo v0
  have c := Rat.mul_le_mul_of_nonneg_right v1 (nat_rat_nn N)
  have i : Iq E ((v : Rat) * q) := by
    have z := (Bq.int (M := M) h0 h1).iq.mul k.iq
    rwa [Nat.one_mul] at z
  refine ⟨i, ?_, ?_⟩
  · rw [nat_mul_rat]
    grind
  · rw [nat_mul_rat]
    grind
theorem Bz.up (h : Bz E M q) (l : M ≤ N) : Bz E N q := ⟨h.iq, by
  have := h.lo
  have := nat_rat_le l
  grind, Rat.le_trans h.hi (nat_rat_le l)⟩
end
/-! ### the mean of the greatest -/
def gmS (os : List Offer) (s : Rat × Rat) (v : Int) : Rat × Rat := (s.1 + (v : Rat) * (nm os v - s.2), nm os v)
def gme (os : List Offer) : Rat := ((vals os).foldl (gmS os) (0, 0)).1
theorem vals_ok {os : List Offer} (k : ∀ o ∈ os, Ofr o) {v : Int} (hv : v ∈ vals os) : 0 ≤ v ∧ v ≤ 1000 := by
  obtain ⟨o, ho, p, hp, rfl⟩ := vals_mem.mp hv
  exact (k o ho).val p hp
theorem vals_len {os : List Offer} (k : ∀ o ∈ os, Ofr o) : (vals os).length ≤ 5 * os.length := Nat.le_trans (usort_len _) (allv_len k)
theorem greatest_mean_eq {os : List Offer} (k : ∀ o ∈ os, Ofr o) (l8 : os.length ≤ 8) (h : Hs) : ∃ u, m_greatest_mean [dealD os] h = .ok (fr (gme os)) (h ++ [u]) := by
  obtain ⟨u, ev⟩ := values_of_eq k l8 h
  refine ⟨u, mdef_ret ?_⟩
  unfold c_greatest_mean
  have en : ent 5 [dealD os] = [some (dealD os), none, none, none, none] := rfl
  have s0 : sPar2 1 2 (aC (eC (.tup [.int 0, .int 1])) (aC (eC (.tup [.int 0, .int 1])) aN)) [some (dealD os), none, none, none, none] h = .nx [some (dealD os), some (fr 0), some (fr 0), none, none] h := by
    simp only [eV0, eVs, bind_ok', then_ok, q_e2, q_e1, q_eC, q_aC, q_aN, q_sPar2, q_sPar3, q_sSet, q_sRet, q_eBf, q_nBf, q_eCall, q_tst, q_tru, q_ifV, q_sIf, q_eTup, q_sPass, q_sExp, q_eLm, q_nLst, q_frz, q_thaw, q_iSeq, q_iR2, q_iR3, q_iEnumD, q_iZip, q_andX, q_andT, q_orT, q_notT, q_eCh, q_sPat, q_eSl, q_nSl, q_pS, q_pN, q_sRetN, q_tYes, q_eDct0, okL0, okL1, okL2, okL3, okL4, okL5, okL6, ent, List.map_cons, List.map_nil, List.length_cons, List.length_nil, List.set_cons_zero, List.set_cons_succ, List.replicate, List.cons_append, List.nil_append, Nat.reduceAdd, Nat.reduceSub, Nat.sub_self, Nat.sub_zero, zero_add', ↓reduceIte, Bool.false_eq_true, item0, item1, addD_ii, subD_ii, negD_i, absD_i, ltD_ii, leD_ii, gtD_ii, geD_ii, truD_bl, decide_true, decide_false]
    rfl
  have it : iSeq (eCall 1 m_values_of (aC (eV 0) aN)) [some (dealD os), some (fr 0), some (fr 0), none, none] h = .ok ⟨(vals os).map D.int, []⟩ (h ++ [u]) := seq_it (x := .lst ((vals os).map D.int)) (by simp only [eV0, eVs, bind_ok', then_ok, q_e2, q_e1, q_eC, q_aC, q_aN, q_sPar2, q_sPar3, q_sSet, q_sRet, q_eBf, q_nBf, q_eCall, q_tst, q_tru, q_ifV, q_sIf, q_eTup, q_sPass, q_sExp, q_eLm, q_nLst, q_frz, q_thaw, q_iSeq, q_iR2, q_iR3, q_iEnumD, q_iZip, q_andX, q_andT, q_orT, q_notT, q_eCh, q_sPat, q_eSl, q_nSl, q_pS, q_pN, q_sRetN, q_tYes, q_eDct0, okL0, okL1, okL2, okL3, okL4, okL5, okL6, ent, List.map_cons, List.map_nil, List.length_cons, List.length_nil, List.set_cons_zero, List.set_cons_succ, List.replicate, List.cons_append, List.nil_append, Nat.reduceAdd, Nat.reduceSub, Nat.sub_self, Nat.sub_zero, zero_add', ↓reduceIte, Bool.false_eq_true, item0, item1, addD_ii, subD_ii, negD_i, absD_i, ltD_ii, leD_ii, gtD_ii, geD_ii, truD_bl, decide_true, decide_false, ev]) (.inr rfl)
  have E0 := De_pos os
  have E5 := De_500 k l8
  have vl := vals_len k
  obtain ⟨ρ', h', el, st, jb⟩ := loop_st (p := .nm 3) (g := D.int) (body := sSeq (sSet 4 (eCall 2 m_no_more (aC (eV 0) (aC (eV 3) aN)))) (sSeq (sSet 1 (eCall 2 m_plus (aC (eV 1) (aC (eCall 2 m_product (aC (eTup (aC (eV 3) (aC (eC (.int 1)) aN))) (aC (eCall 2 m_minus (aC (eV 4) (aC (eV 2) aN))) aN))) aN)))) (sSet 2 (eV 4))))
    (fun (s : Rat × Rat) ρ h' => (∃ a3 a4, ρ = [some (dealD os), some (fr s.1), some (fr s.2), a3, a4]) ∧ h' = h ++ [u]) (gmS os)
    (fun s rest => (∀ v ∈ rest, 0 ≤ v ∧ v ≤ 1000) ∧ Bq (De os) 1 s.2 ∧ ∃ m, Bz (De os) m s.1 ∧ m + 1000 * rest.length ≤ 100000)
    (fun s v rest ρ h' ⟨j1, eb, m, xb, ml⟩ ⟨⟨a3, a4, er⟩, eh⟩ => by
      subst er eh
      obtain ⟨x, e⟩ := s
      have v1 := j1 v List.mem_cons_self
      rw [List.length_cons] at ml
      have nb := nm_bq v k
      have db := Bz.diff nb eb
      have pb := Bz.imul (M := 1000) v1.1 v1.2 db
      have ns : Sz 2000 (nm os v) := nb.s E0 (p500 E5) (by decide)
      have es : Sz 2000 e := eb.s E0 (p500 E5) (by decide)
      have ds : Sz 2000 (nm os v - e) := db.s E0 (p500 E5) (by decide)
      have ps : Sz 2000 ((v : Rat) * (nm os v - e)) := pb.s E0 (p500 E5) (by decide)
      have xs : Sz 2000 x := xb.s E0 (p500 E5) (by omega)
      refine ⟨_, [some (dealD os), some (fr (gmS os (x, e) v).1), some (fr (gmS os (x, e) v).2), some (.int v), some (fr (nm os v))], h ++ [u], rfl, ?_, ⟨⟨_, _, rfl⟩, rfl⟩, fun q hq => j1 q (List.mem_cons_of_mem _ hq), nb, m + 1000, xb.add pb, by omega⟩
      simp only [List.set_cons_zero, List.set_cons_succ]
      rw [seq_nx (ρ1 := [some (dealD os), some (fr x), some (fr e), some (.int v), some (fr (nm os v))]) (h1 := h ++ [u]) (by simp only [eV0, eVs, bind_ok', then_ok, q_e2, q_e1, q_eC, q_aC, q_aN, q_sPar2, q_sPar3, q_sSet, q_sRet, q_eBf, q_nBf, q_eCall, q_tst, q_tru, q_ifV, q_sIf, q_eTup, q_sPass, q_sExp, q_eLm, q_nLst, q_frz, q_thaw, q_iSeq, q_iR2, q_iR3, q_iEnumD, q_iZip, q_andX, q_andT, q_orT, q_notT, q_eCh, q_sPat, q_eSl, q_nSl, q_pS, q_pN, q_sRetN, q_tYes, q_eDct0, okL0, okL1, okL2, okL3, okL4, okL5, okL6, ent, List.map_cons, List.map_nil, List.length_cons, List.length_nil, List.set_cons_zero, List.set_cons_succ, List.replicate, List.cons_append, List.nil_append, Nat.reduceAdd, Nat.reduceSub, Nat.sub_self, Nat.sub_zero, zero_add', ↓reduceIte, Bool.false_eq_true, item0, item1, addD_ii, subD_ii, negD_i, absD_i, ltD_ii, leD_ii, gtD_ii, geD_ii, truD_bl, decide_true, decide_false, no_more_eq k l8])]
      rw [seq_nx (ρ1 := [some (dealD os), some (fr (x + (v : Rat) * (nm os v - e))), some (fr e), some (.int v), some (fr (nm os v))]) (h1 := h ++ [u]) (by simp only [eV0, eVs, bind_ok', then_ok, q_e2, q_e1, q_eC, q_aC, q_aN, q_sPar2, q_sPar3, q_sSet, q_sRet, q_eBf, q_nBf, q_eCall, q_tst, q_tru, q_ifV, q_sIf, q_eTup, q_sPass, q_sExp, q_eLm, q_nLst, q_frz, q_thaw, q_iSeq, q_iR2, q_iR3, q_iEnumD, q_iZip, q_andX, q_andT, q_orT, q_notT, q_eCh, q_sPat, q_eSl, q_nSl, q_pS, q_pN, q_sRetN, q_tYes, q_eDct0, okL0, okL1, okL2, okL3, okL4, okL5, okL6, ent, List.map_cons, List.map_nil, List.length_cons, List.length_nil, List.set_cons_zero, List.set_cons_succ, List.replicate, List.cons_append, List.nil_append, Nat.reduceAdd, Nat.reduceSub, Nat.sub_self, Nat.sub_zero, zero_add', ↓reduceIte, Bool.false_eq_true, item0, item1, addD_ii, subD_ii, negD_i, absD_i, ltD_ii, leD_ii, gtD_ii, geD_ii, truD_bl, decide_true, decide_false, fr_int, minus_eq ns es (by decide), product_eq (int_s v1.1 (by omega)) ds (by decide), plus_eq xs ps (by decide)])]
      simp only [eV0, eVs, bind_ok', then_ok, q_e2, q_e1, q_eC, q_aC, q_aN, q_sPar2, q_sPar3, q_sSet, q_sRet, q_eBf, q_nBf, q_eCall, q_tst, q_tru, q_ifV, q_sIf, q_eTup, q_sPass, q_sExp, q_eLm, q_nLst, q_frz, q_thaw, q_iSeq, q_iR2, q_iR3, q_iEnumD, q_iZip, q_andX, q_andT, q_orT, q_notT, q_eCh, q_sPat, q_eSl, q_nSl, q_pS, q_pN, q_sRetN, q_tYes, q_eDct0, okL0, okL1, okL2, okL3, okL4, okL5, okL6, ent, List.map_cons, List.map_nil, List.length_cons, List.length_nil, List.set_cons_zero, List.set_cons_succ, List.replicate, List.cons_append, List.nil_append, Nat.reduceAdd, Nat.reduceSub, Nat.sub_self, Nat.sub_zero, zero_add', ↓reduceIte, Bool.false_eq_true, item0, item1, addD_ii, subD_ii, negD_i, absD_i, ltD_ii, leD_ii, gtD_ii, geD_ii, truD_bl, decide_true, decide_false]
      rfl)
    (vals os) (0, 0) [some (dealD os), some (fr 0), some (fr 0), none, none] (h ++ [u]) ⟨fun v hv => vals_ok k hv, Bq.zero' E0 1, 0, (Bq.zero' E0 0).z, by omega⟩ ⟨⟨_, _, rfl⟩, rfl⟩
  obtain ⟨⟨a3, a4, er⟩, eh⟩ := st
  subst er eh
  rw [en, seq_nx s0, seq_nx (by rw [for_of it]; exact el)]
  simp only [eV0, eVs, bind_ok', then_ok, q_e2, q_e1, q_eC, q_aC, q_aN, q_sPar2, q_sPar3, q_sSet, q_sRet, q_eBf, q_nBf, q_eCall, q_tst, q_tru, q_ifV, q_sIf, q_eTup, q_sPass, q_sExp, q_eLm, q_nLst, q_frz, q_thaw, q_iSeq, q_iR2, q_iR3, q_iEnumD, q_iZip, q_andX, q_andT, q_orT, q_notT, q_eCh, q_sPat, q_eSl, q_nSl, q_pS, q_pN, q_sRetN, q_tYes, q_eDct0, okL0, okL1, okL2, okL3, okL4, okL5, okL6, ent, List.map_cons, List.map_nil, List.length_cons, List.length_nil, List.set_cons_zero, List.set_cons_succ, List.replicate, List.cons_append, List.nil_append, Nat.reduceAdd, Nat.reduceSub, Nat.sub_self, Nat.sub_zero, zero_add', ↓reduceIte, Bool.false_eq_true, item0, item1, addD_ii, subD_ii, negD_i, absD_i, ltD_ii, leD_ii, gtD_ii, geD_ii, truD_bl, decide_true, decide_false]
  rfl
theorem gme_bz {os : List Offer} (k : ∀ o ∈ os, Ofr o) (l8 : os.length ≤ 8) : Bz (De os) 100000 (gme os) := by
  have vl := vals_len k
  have f : ∀ (vs : List Int) (s : Rat × Rat) (m : Nat), (∀ v ∈ vs, 0 ≤ v ∧ v ≤ 1000) → Bq (De os) 1 s.2 → Bz (De os) m s.1 → Bz (De os) (m + 1000 * vs.length) (vs.foldl (gmS os) s).1 := by
    intro vs
    induction vs with
    | nil => intro s m _ _ h; exact h.up (by simp)
    | cons v vs ih =>
      intro s m hv e x
      have v1 := hv v List.mem_cons_self
      have nb := nm_bq v k
      have z := ih (gmS os s v) (m + 1000) (fun q hq => hv q (List.mem_cons_of_mem _ hq)) nb (x.add (Bz.imul (M := 1000) v1.1 v1.2 (Bz.diff nb e)))
      exact z.up (by rw [List.length_cons]; omega)
  exact (f (vals os) (0, 0) 0 (fun v hv => vals_ok k hv) (Bq.zero' (De_pos os) 1) (Bq.zero' (De_pos os) 0).z).up (by omega)
theorem gme_s {os : List Offer} (k : Dl8 os) : Sz 2000 (gme os) := (gme_bz k.ofr k.l8).s (De_pos os) (p500 (De_500 k.ofr k.l8)) (by decide)
theorem w_s {os : List Offer} (k : Dl8 os) : Sz 2000 (w os) := (w_bq k.ofr).s (De_pos os) (p500 (De_500 k.ofr k.l8)) (by decide)
theorem ofl_s {os : List Offer} (k : Dl8 os) (f : Rat) : Sz 2000 (ofl os f) := (ofl_bq f k.ofr).s (De_pos os) (p500 (De_500 k.ofr k.l8)) (by decide)
theorem foreseen_eq {os : List Offer} (k : Dl8 os) {h : Hs} {i : Nat} (t : DealAt h i os) : ∃ u, m_foreseen [.obj i] h = .ok (fr (gme os)) (h ++ [u]) := by
  obtain ⟨u, e⟩ := greatest_mean_eq k.ofr k.l8 h
  refine ⟨u, mdef_ret ?_⟩
  unfold c_foreseen
  have f : ∀ ρ : Env, eFld "Deal" "offers" (eV 0) (some (.obj i) :: ρ) h = .ok (dealD os) h := fun ρ => fld_of t eV0
  simp only [eV0, eVs, bind_ok', then_ok, q_e2, q_e1, q_eC, q_aC, q_aN, q_sPar2, q_sPar3, q_sSet, q_sRet, q_eBf, q_nBf, q_eCall, q_tst, q_tru, q_ifV, q_sIf, q_eTup, q_sPass, q_sExp, q_eLm, q_nLst, q_frz, q_thaw, q_iSeq, q_iR2, q_iR3, q_iEnumD, q_iZip, q_andX, q_andT, q_orT, q_notT, q_eCh, q_sPat, q_eSl, q_nSl, q_pS, q_pN, q_sRetN, q_tYes, q_eDct0, okL0, okL1, okL2, okL3, okL4, okL5, okL6, ent, List.map_cons, List.map_nil, List.length_cons, List.length_nil, List.set_cons_zero, List.set_cons_succ, List.replicate, List.cons_append, List.nil_append, Nat.reduceAdd, Nat.reduceSub, Nat.sub_self, Nat.sub_zero, zero_add', ↓reduceIte, Bool.false_eq_true, item0, item1, addD_ii, subD_ii, negD_i, absD_i, ltD_ii, leD_ii, gtD_ii, geD_ii, truD_bl, decide_true, decide_false, f, e]
theorem half_fr : D.tup [.int 1, .int 2] = fr (1 / 2) := by decide +kernel
theorem half_s : Sz 2000 (1 / 2) := Sz.mono (m := 3) ⟨by decide +kernel, by decide +kernel⟩ (by decide)
theorem half_floor_eq {os : List Offer} (k : Dl8 os) {h : Hs} {i : Nat} (t : DealAt h i os) : ∃ u, m_half_floor [.obj i] h = .ok (fr (1 / 2 * gme os)) (h ++ [u]) := by
  obtain ⟨u, e⟩ := greatest_mean_eq k.ofr k.l8 h
  refine ⟨u, mdef_ret ?_⟩
  unfold c_half_floor
  have f : ∀ ρ : Env, eFld "Deal" "offers" (eV 0) (some (.obj i) :: ρ) h = .ok (dealD os) h := fun ρ => fld_of t eV0
  simp only [eV0, eVs, bind_ok', then_ok, q_e2, q_e1, q_eC, q_aC, q_aN, q_sPar2, q_sPar3, q_sSet, q_sRet, q_eBf, q_nBf, q_eCall, q_tst, q_tru, q_ifV, q_sIf, q_eTup, q_sPass, q_sExp, q_eLm, q_nLst, q_frz, q_thaw, q_iSeq, q_iR2, q_iR3, q_iEnumD, q_iZip, q_andX, q_andT, q_orT, q_notT, q_eCh, q_sPat, q_eSl, q_nSl, q_pS, q_pN, q_sRetN, q_tYes, q_eDct0, okL0, okL1, okL2, okL3, okL4, okL5, okL6, ent, List.map_cons, List.map_nil, List.length_cons, List.length_nil, List.set_cons_zero, List.set_cons_succ, List.replicate, List.cons_append, List.nil_append, Nat.reduceAdd, Nat.reduceSub, Nat.sub_self, Nat.sub_zero, zero_add', ↓reduceIte, Bool.false_eq_true, item0, item1, addD_ii, subD_ii, negD_i, absD_i, ltD_ii, leD_ii, gtD_ii, geD_ii, truD_bl, decide_true, decide_false, f, e, half_fr, product_eq half_s (gme_s k) (by decide)]
/-! ### the best floor -/
def rowD (r : Rat × Int) : D := .tup [fr r.1, .tup [.int r.2, .int 1]]
def bfS (os : List Offer) (t : Rat × Int) (v : Int) : Rat × Int := if t.1 < ofl os (v : Rat) then (ofl os (v : Rat), v) else t
def bfl (os : List Offer) : List Int → Rat × Int
  | [] => (0, 0)
  | v :: vs => vs.foldl (bfS os) (ofl os (v : Rat), v)
theorem vals_ne {os : List Offer} (k : Dl8 os) : ∃ v vs, vals os = v :: vs := by
  have l1 := k.l1
  cases os with
  | nil => simp at l1
  | cons o os =>
    have ko := k.ofr o List.mem_cons_self
    cases o with
    | nil => have := ko.l1; simp at this
    | cons p o =>
      have m : p.1 ∈ vals ((p :: o) :: os) := vals_mem.mpr ⟨_, List.mem_cons_self, p, List.mem_cons_self, rfl⟩
      cases q : vals ((p :: o) :: os) with
      | nil => rw [q] at m; simp at m
      | cons v vs => exact ⟨v, vs, rfl⟩
theorem best_floor_eq {os : List Offer} (k : Dl8 os) {h : Hs} {i : Nat} (t : DealAt h i os) : ∃ u, m_best_floor [.obj i] h = .ok (rowD (bfl os (vals os))) (h ++ [u]) := by
  obtain ⟨u, ev⟩ := values_of_eq k.ofr k.l8 h
  obtain ⟨v0, vs, e0⟩ := vals_ne k
  have vl := vals_len k.ofr
  have l8 := k.l8
  refine ⟨u, mdef_ret ?_⟩
  unfold c_best_floor
  have en : ent 5 [D.obj i] = [some (.obj i), none, none, none, none] := rfl
  have f : ∀ ρ : Env, eFld "Deal" "offers" (eV 0) (some (.obj i) :: ρ) h = .ok (dealD os) h := fun ρ => fld_of t eV0
  have f2 : ∀ ρ : Env, eFld "Deal" "offers" (eV 0) (some (.obj i) :: ρ) (h ++ [u]) = .ok (dealD os) (h ++ [u]) := fun ρ => fld_of t.app eV0
  have c : nLc (iSeq (eCall 1 m_values_of (aC (eFld "Deal" "offers" (eV 0)) aN))) (.nm 4) [4] (tYes') (eTup (aC (eCall 2 m_one_floor (aC (eFld "Deal" "offers" (eV 0)) (aC (eTup (aC (eV 4) (aC (eC (.int 1)) aN))) aN))) (aC (eTup (aC (eV 4) (aC (eC (.int 1)) aN))) aN))) [some (.obj i), none, none, none, none] h = .ok ((vals os).map fun v : Int => rowD (ofl os (v : Rat), v)) (h ++ [u]) := by
    have it : iSeq (eCall 1 m_values_of (aC (eFld "Deal" "offers" (eV 0)) aN)) [some (.obj i), none, none, none, none] h = .ok ⟨(vals os).map D.int, []⟩ (h ++ [u]) := seq_it (x := .lst ((vals os).map D.int)) (by simp only [eV0, eVs, bind_ok', then_ok, q_e2, q_e1, q_eC, q_aC, q_aN, q_sPar2, q_sPar3, q_sSet, q_sRet, q_eBf, q_nBf, q_eCall, q_tst, q_tru, q_ifV, q_sIf, q_eTup, q_sPass, q_sExp, q_eLm, q_nLst, q_frz, q_thaw, q_iSeq, q_iR2, q_iR3, q_iEnumD, q_iZip, q_andX, q_andT, q_orT, q_notT, q_eCh, q_sPat, q_eSl, q_nSl, q_pS, q_pN, q_sRetN, q_tYes, q_eDct0, okL0, okL1, okL2, okL3, okL4, okL5, okL6, ent, List.map_cons, List.map_nil, List.length_cons, List.length_nil, List.set_cons_zero, List.set_cons_succ, List.replicate, List.cons_append, List.nil_append, Nat.reduceAdd, Nat.reduceSub, Nat.sub_self, Nat.sub_zero, zero_add', ↓reduceIte, Bool.false_eq_true, item0, item1, addD_ii, subD_ii, negD_i, absD_i, ltD_ii, leD_ii, gtD_ii, geD_ii, truD_bl, decide_true, decide_false, f, ev]) (.inr rfl)
    rw [nLc_eq, it, bind_ok']
    show (if okLen ((vals os).map D.int).length = true then _ else _) = _
    rw [if_pos (okLen_of (by rw [List.length_map]; omega))]
    refine lcM fun v hv => ⟨_, rfl, ?_⟩
    have v1 := vals_ok k.ofr hv
    simp only [wipeD, eV0, eVs, bind_ok', then_ok, q_e2, q_e1, q_eC, q_aC, q_aN, q_sPar2, q_sPar3, q_sSet, q_sRet, q_eBf, q_nBf, q_eCall, q_tst, q_tru, q_ifV, q_sIf, q_eTup, q_sPass, q_sExp, q_eLm, q_nLst, q_frz, q_thaw, q_iSeq, q_iR2, q_iR3, q_iEnumD, q_iZip, q_andX, q_andT, q_orT, q_notT, q_eCh, q_sPat, q_eSl, q_nSl, q_pS, q_pN, q_sRetN, q_tYes, q_eDct0, okL0, okL1, okL2, okL3, okL4, okL5, okL6, ent, List.map_cons, List.map_nil, List.length_cons, List.length_nil, List.set_cons_zero, List.set_cons_succ, List.replicate, List.cons_append, List.nil_append, Nat.reduceAdd, Nat.reduceSub, Nat.sub_self, Nat.sub_zero, zero_add', ↓reduceIte, Bool.false_eq_true, item0, item1, addD_ii, subD_ii, negD_i, absD_i, ltD_ii, leD_ii, gtD_ii, geD_ii, truD_bl, decide_true, decide_false, f2]
    rw [fr_int, one_floor_eq k.ofr k.l8 (int_s v1.1 (by omega))]
    rfl
  have it0 : itemD (.lst ((vals os).map fun v : Int => rowD (ofl os (v : Rat), v))) (.int 0) (h ++ [u]) = .ok (rowD (ofl os (v0 : Rat), v0)) (h ++ [u]) := item_lst (i := 0) (by rw [e0]; rfl)
  have it1 : iSeq (eSl (eV 1) (pS (eC (.int 1))) pN) [some (.obj i), some (.lst ((vals os).map fun v : Int => rowD (ofl os (v : Rat), v))), some (rowD (ofl os (v0 : Rat), v0)), none, none] (h ++ [u]) = .ok ⟨vs.map fun v : Int => rowD (ofl os (v : Rat), v), []⟩ (h ++ [u]) := by
    refine seq_lst ?_
    have sl : sliceD (.lst ((vals os).map fun v : Int => rowD (ofl os (v : Rat), v))) (some 1) none (h ++ [u]) = .ok (.lst (vs.map fun v : Int => rowD (ofl os (v : Rat), v))) (h ++ [u]) := by
      show Dl.R.ok (D.lst (cutL ((vals os).map fun v : Int => rowD (ofl os (v : Rat), v)) (some ((1 : Nat) : Int)) none)) (h ++ [u]) = _
      rw [cutL_from, e0]
      rfl
    simp only [eV0, eVs, bind_ok', then_ok, q_e2, q_e1, q_eC, q_aC, q_aN, q_sPar2, q_sPar3, q_sSet, q_sRet, q_eBf, q_nBf, q_eCall, q_tst, q_tru, q_ifV, q_sIf, q_eTup, q_sPass, q_sExp, q_eLm, q_nLst, q_frz, q_thaw, q_iSeq, q_iR2, q_iR3, q_iEnumD, q_iZip, q_andX, q_andT, q_orT, q_notT, q_eCh, q_sPat, q_eSl, q_nSl, q_pS, q_pN, q_sRetN, q_tYes, q_eDct0, okL0, okL1, okL2, okL3, okL4, okL5, okL6, ent, List.map_cons, List.map_nil, List.length_cons, List.length_nil, List.set_cons_zero, List.set_cons_succ, List.replicate, List.cons_append, List.nil_append, Nat.reduceAdd, Nat.reduceSub, Nat.sub_self, Nat.sub_zero, zero_add', ↓reduceIte, Bool.false_eq_true, item0, item1, addD_ii, subD_ii, negD_i, absD_i, ltD_ii, leD_ii, gtD_ii, geD_ii, truD_bl, decide_true, decide_false, sl]
  have r0 : ∀ (r : Rat × Int) (g : Hs), itemD (rowD r) (.int 0) g = .ok (fr r.1) g := fun r g => item0
  obtain ⟨ρ', h', el, ⟨a3, a4, er, eh⟩, jr⟩ := loop_st (p := .nm 3) (g := fun v : Int => rowD (ofl os (v : Rat), v)) (body := sIf (tru (eCall 2 m_is_less (aC (e2 itemD (eV 2) (eC (.int 0))) (aC (e2 itemD (eV 3) (eC (.int 0))) aN)))) (sSet 2 (eV 3)) (sPass))
    (fun (s : Rat × Int) ρ h' => ∃ a3 a4, ρ = [some (.obj i), some (.lst ((vals os).map fun v : Int => rowD (ofl os (v : Rat), v))), some (rowD s), a3, a4] ∧ h' = h ++ [u]) (bfS os)
    (fun s _ => ∃ f, s.1 = ofl os f)
    (fun s v rest ρ h' ⟨f0, ef⟩ ⟨a3, a4, er, eh⟩ => by
      subst er eh
      have s1 : Sz 2000 s.1 := by rw [ef]; exact ofl_s k f0
      have le := less_eq s1 (ofl_s k (v : Rat)) (by decide) (h ++ [u])
      refine ⟨_, [some (.obj i), some (.lst ((vals os).map fun v : Int => rowD (ofl os (v : Rat), v))), some (rowD (bfS os s v)), some (rowD (ofl os (v : Rat), v)), a4], h ++ [u], rfl, ?_, ⟨_, _, rfl, rfl⟩, ?_⟩
      · unfold bfS
        by_cases z : s.1 < ofl os (v : Rat)
        · simp only [List.set_cons_zero, List.set_cons_succ, eV0, eVs, bind_ok', then_ok, q_e2, q_e1, q_eC, q_aC, q_aN, q_sPar2, q_sPar3, q_sSet, q_sRet, q_eBf, q_nBf, q_eCall, q_tst, q_tru, q_ifV, q_sIf, q_eTup, q_sPass, q_sExp, q_eLm, q_nLst, q_frz, q_thaw, q_iSeq, q_iR2, q_iR3, q_iEnumD, q_iZip, q_andX, q_andT, q_orT, q_notT, q_eCh, q_sPat, q_eSl, q_nSl, q_pS, q_pN, q_sRetN, q_tYes, q_eDct0, okL0, okL1, okL2, okL3, okL4, okL5, okL6, ent, List.map_cons, List.map_nil, List.length_cons, List.length_nil, List.set_cons_zero, List.set_cons_succ, List.replicate, List.cons_append, List.nil_append, Nat.reduceAdd, Nat.reduceSub, Nat.sub_self, Nat.sub_zero, zero_add', ↓reduceIte, Bool.false_eq_true, item0, item1, addD_ii, subD_ii, negD_i, absD_i, ltD_ii, leD_ii, gtD_ii, geD_ii, truD_bl, decide_true, decide_false, r0, le, truD_bl, decide_eq_true z, z]
        · simp only [List.set_cons_zero, List.set_cons_succ, eV0, eVs, bind_ok', then_ok, q_e2, q_e1, q_eC, q_aC, q_aN, q_sPar2, q_sPar3, q_sSet, q_sRet, q_eBf, q_nBf, q_eCall, q_tst, q_tru, q_ifV, q_sIf, q_eTup, q_sPass, q_sExp, q_eLm, q_nLst, q_frz, q_thaw, q_iSeq, q_iR2, q_iR3, q_iEnumD, q_iZip, q_andX, q_andT, q_orT, q_notT, q_eCh, q_sPat, q_eSl, q_nSl, q_pS, q_pN, q_sRetN, q_tYes, q_eDct0, okL0, okL1, okL2, okL3, okL4, okL5, okL6, ent, List.map_cons, List.map_nil, List.length_cons, List.length_nil, List.set_cons_zero, List.set_cons_succ, List.replicate, List.cons_append, List.nil_append, Nat.reduceAdd, Nat.reduceSub, Nat.sub_self, Nat.sub_zero, zero_add', ↓reduceIte, Bool.false_eq_true, item0, item1, addD_ii, subD_ii, negD_i, absD_i, ltD_ii, leD_ii, gtD_ii, geD_ii, truD_bl, decide_true, decide_false, r0, le, truD_bl, decide_eq_false z, z]
      · unfold bfS
        split
        · exact ⟨_, rfl⟩
        · exact ⟨f0, ef⟩)
    vs (ofl os (v0 : Rat), v0) [some (.obj i), some (.lst ((vals os).map fun v : Int => rowD (ofl os (v : Rat), v))), some (rowD (ofl os (v0 : Rat), v0)), none, none] (h ++ [u]) ⟨_, rfl⟩ ⟨_, _, rfl, rfl⟩
  subst er eh
  rw [en, seq_nx (ρ1 := [some (.obj i), some (.lst ((vals os).map fun v : Int => rowD (ofl os (v : Rat), v))), none, none, none]) (h1 := h ++ [u]) (by simp only [eV0, eVs, bind_ok', then_ok, q_e2, q_e1, q_eC, q_aC, q_aN, q_sPar2, q_sPar3, q_sSet, q_sRet, q_eBf, q_nBf, q_eCall, q_tst, q_tru, q_ifV, q_sIf, q_eTup, q_sPass, q_sExp, q_eLm, q_nLst, q_frz, q_thaw, q_iSeq, q_iR2, q_iR3, q_iEnumD, q_iZip, q_andX, q_andT, q_orT, q_notT, q_eCh, q_sPat, q_eSl, q_nSl, q_pS, q_pN, q_sRetN, q_tYes, q_eDct0, okL0, okL1, okL2, okL3, okL4, okL5, okL6, ent, List.map_cons, List.map_nil, List.length_cons, List.length_nil, List.set_cons_zero, List.set_cons_succ, List.replicate, List.cons_append, List.nil_append, Nat.reduceAdd, Nat.reduceSub, Nat.sub_self, Nat.sub_zero, zero_add', ↓reduceIte, Bool.false_eq_true, item0, item1, addD_ii, subD_ii, negD_i, absD_i, ltD_ii, leD_ii, gtD_ii, geD_ii, truD_bl, decide_true, decide_false, c]),
    seq_nx (ρ1 := [some (.obj i), some (.lst ((vals os).map fun v : Int => rowD (ofl os (v : Rat), v))), some (rowD (ofl os (v0 : Rat), v0)), none, none]) (h1 := h ++ [u]) (by simp only [eV0, eVs, bind_ok', then_ok, q_e2, q_e1, q_eC, q_aC, q_aN, q_sPar2, q_sPar3, q_sSet, q_sRet, q_eBf, q_nBf, q_eCall, q_tst, q_tru, q_ifV, q_sIf, q_eTup, q_sPass, q_sExp, q_eLm, q_nLst, q_frz, q_thaw, q_iSeq, q_iR2, q_iR3, q_iEnumD, q_iZip, q_andX, q_andT, q_orT, q_notT, q_eCh, q_sPat, q_eSl, q_nSl, q_pS, q_pN, q_sRetN, q_tYes, q_eDct0, okL0, okL1, okL2, okL3, okL4, okL5, okL6, ent, List.map_cons, List.map_nil, List.length_cons, List.length_nil, List.set_cons_zero, List.set_cons_succ, List.replicate, List.cons_append, List.nil_append, Nat.reduceAdd, Nat.reduceSub, Nat.sub_self, Nat.sub_zero, zero_add', ↓reduceIte, Bool.false_eq_true, item0, item1, addD_ii, subD_ii, negD_i, absD_i, ltD_ii, leD_ii, gtD_ii, geD_ii, truD_bl, decide_true, decide_false, it0]),
    seq_nx (by rw [for_of it1]; exact el)]
  simp only [eV0, eVs, bind_ok', then_ok, q_e2, q_e1, q_eC, q_aC, q_aN, q_sPar2, q_sPar3, q_sSet, q_sRet, q_eBf, q_nBf, q_eCall, q_tst, q_tru, q_ifV, q_sIf, q_eTup, q_sPass, q_sExp, q_eLm, q_nLst, q_frz, q_thaw, q_iSeq, q_iR2, q_iR3, q_iEnumD, q_iZip, q_andX, q_andT, q_orT, q_notT, q_eCh, q_sPat, q_eSl, q_nSl, q_pS, q_pN, q_sRetN, q_tYes, q_eDct0, okL0, okL1, okL2, okL3, okL4, okL5, okL6, ent, List.map_cons, List.map_nil, List.length_cons, List.length_nil, List.set_cons_zero, List.set_cons_succ, List.replicate, List.cons_append, List.nil_append, Nat.reduceAdd, Nat.reduceSub, Nat.sub_self, Nat.sub_zero, zero_add', ↓reduceIte, Bool.false_eq_true, item0, item1, addD_ii, subD_ii, negD_i, absD_i, ltD_ii, leD_ii, gtD_ii, geD_ii, truD_bl, decide_true, decide_false, e0, bfl]
theorem mean_eq {os : List Offer} (k : Dl8 os) {h : Hs} {i : Nat} (t : DealAt h i os) {j : Nat} {o : Offer} (e : os[j]? = some o) : m_mean [.obj i, .int j] h = .ok (fr (me o)) h := by
  have hj := (List.getElem?_eq_some_iff.mp e).1
  have f : ∀ ρ : Env, eFld "Deal" "offers" (eV 0) (some (.obj i) :: ρ) h = .ok (dealD os) h := fun ρ => fld_of t eV0
  have wi := iswithin_eq (i := j) (lo := 0) (hi := (os.length : Int) - 1) (h := h) (by omega) (by omega)
  have it : itemD (dealD os) (.int j) h = .ok (offD o) h := item_at (by rw [List.getElem?_map, e]; rfl)
  have ln : lenD [dealD os] h = .ok (.int os.length) h := by
    have z : lenD [dealD os] h = .ok (.int ((os.map offD).length : Nat)) h := lenD_tup
    rwa [List.length_map] at z
  have ko := k.ofr o (List.mem_of_getElem? e)
  have mo := meanof_eq ko.prs (h := h) (p60 ko.dn) (x := offD o) (.inl rfl)
  refine eq_of_wp ?_
  unfold m_mean c_mean
  simp only [eV0, eVs, bind_ok', then_ok, q_e2, q_e1, q_eC, q_aC, q_aN, q_sPar2, q_sPar3, q_sSet, q_sRet, q_eBf, q_nBf, q_eCall, q_tst, q_tru, q_ifV, q_sIf, q_eTup, q_sPass, q_sExp, q_eLm, q_nLst, q_frz, q_thaw, q_iSeq, q_iR2, q_iR3, q_iEnumD, q_iZip, q_andX, q_andT, q_orT, q_notT, q_eCh, q_sPat, q_eSl, q_nSl, q_pS, q_pN, q_sRetN, q_tYes, q_eDct0, okL0, okL1, okL2, okL3, okL4, okL5, okL6, ent, List.map_cons, List.map_nil, List.length_cons, List.length_nil, List.set_cons_zero, List.set_cons_succ, List.replicate, List.cons_append, List.nil_append, Nat.reduceAdd, Nat.reduceSub, Nat.sub_self, Nat.sub_zero, zero_add', ↓reduceIte, Bool.false_eq_true, item0, item1, addD_ii, subD_ii, negD_i, absD_i, ltD_ii, leD_ii, gtD_ii, geD_ii, truD_bl, decide_true, decide_false, wp_ok, wp_bad, wp_bind, wp_nox, wp_def, wps_then, wps_seq, wps_nx, wps_ret, wp_ite, wps_ite, f, ln, wi, it, mo, Bool.not_true, sPass]
  exact ⟨trivial, trivial⟩
end Pl

/-! Plain laws, deals 6: the second hand: offers, deals that are drawn; equal things. -/
namespace Pl
open Dl Sh

def e3b : Env → M D := e2 addD (e2 addD (e2 mulD (e2 itemD (eV 0) (eC (.int 3))) (eC (.int 69621))) (eV 2)) (eC (.int 29))
theorem hand_b : Dr m__law_draw_v3 (.obj 0) 1 Hd := by
  have z : Dr (mDef 5 (cHand e3b)) (.obj 0) 1 Hd := hand_dr fun h l z n p s c a b d e s0 s1 c0 cb => by
    have i3 : itemD (.obj 0) (.int 3) h = .ok (.int s) h := item_obj (i := 3) e rfl
    have m : okMul s 69621 = true := okMul_small (small_lt (by omega)) (by decide +kernel)
    refine ⟨s * 69621 + c + 29, ?_⟩
    unfold e3b
    simp only [eV0, eVs, bind_ok', then_ok, q_e2, q_e1, q_eC, q_aC, q_aN, q_sPar2, q_sPar3, q_sSet, q_sRet, q_eBf, q_nBf, q_eCall, q_tst, q_tru, q_ifV, q_sIf, q_eTup, q_sPass, q_sExp, q_eLm, q_nLst, q_frz, q_thaw, q_iSeq, q_iR2, q_iR3, q_iEnumD, q_iZip, q_andX, q_andT, q_orT, q_notT, q_eCh, q_sPat, q_eSl, q_nSl, q_pS, q_pN, q_sRetN, q_tYes, q_eDct0, okL0, okL1, okL2, okL3, okL4, okL5, okL6, ent, List.map_cons, List.map_nil, List.length_cons, List.length_nil, List.set_cons_zero, List.set_cons_succ, List.replicate, List.cons_append, List.nil_append, Nat.reduceAdd, Nat.reduceSub, Nat.sub_self, Nat.sub_zero, zero_add', ↓reduceIte, Bool.false_eq_true, item0, item1, addD_ii, subD_ii, negD_i, absD_i, ltD_ii, leD_ii, gtD_ii, geD_ii, truD_bl, decide_true, decide_false, i3, mulD_ii m]
  exact z
theorem hand_spec2 {ns : List Int} {Q : D → Hs → Prop} (hl : ns.length ≤ 63) (hb : ∀ z ∈ ns, PySem.Builtin.Int.intBits z ≤ 1048576) (k : ∀ h, Hd h 0 → h.length = 1 → Q (.obj 0) h) : Wp (m__law_hand_v2 [.scr ns] []) Q := by
  unfold m__law_hand_v2 c__law_hand_v2
  have e1 : ent 3 [D.scr ns] = [some (.scr ns), none, none] := rfl
  have s63 : ∀ ρ : Env, eSl (eV 0) pN (pS (eC (.int 63))) (some (.scr ns) :: ρ) [] = .ok (.lst ((ns.take 63).map D.int)) [] := fun ρ => by
    have z : sliceD (.scr ns) none (some 63) [] = .ok (.lst ((ns.take 63).map D.int)) [] := slD_scr_to (m := 63)
    simp only [eV0, eVs, bind_ok', then_ok, q_e2, q_e1, q_eC, q_aC, q_aN, q_sPar2, q_sPar3, q_sSet, q_sRet, q_eBf, q_nBf, q_eCall, q_tst, q_tru, q_ifV, q_sIf, q_eTup, q_sPass, q_sExp, q_eLm, q_nLst, q_frz, q_thaw, q_iSeq, q_iR2, q_iR3, q_iEnumD, q_iZip, q_andX, q_andT, q_orT, q_notT, q_eCh, q_sPat, q_eSl, q_nSl, q_pS, q_pN, q_sRetN, q_tYes, q_eDct0, okL0, okL1, okL2, okL3, okL4, okL5, okL6, ent, List.map_cons, List.map_nil, List.length_cons, List.length_nil, List.set_cons_zero, List.set_cons_succ, List.replicate, List.cons_append, List.nil_append, Nat.reduceAdd, Nat.reduceSub, Nat.sub_self, Nat.sub_zero, zero_add', ↓reduceIte, Bool.false_eq_true, item0, item1, addD_ii, subD_ii, negD_i, absD_i, ltD_ii, leD_ii, gtD_ii, geD_ii, truD_bl, decide_true, decide_false, z]
  have c := compM (α := Int) (ci := iSeq (eSl (eV 0) pN (pS (eC (.int 63))))) (p := .nm 2) (own := [2]) (ce := eBf absD (aC (eBf intD (aC (eV 2) aN)) aN)) (ρ := [some (.scr ns), none, none]) (h := []) (xs := ns.take 63) (g := D.int) (f := fun i => .int i.natAbs)
    (seq_lst (s63 _)) (by rw [List.length_take]; omega) fun i hi => ⟨_, rfl, by simp only [wipeD, eV0, eVs, bind_ok', then_ok, q_e2, q_e1, q_eC, q_aC, q_aN, q_sPar2, q_sPar3, q_sSet, q_sRet, q_eBf, q_nBf, q_eCall, q_tst, q_tru, q_ifV, q_sIf, q_eTup, q_sPass, q_sExp, q_eLm, q_nLst, q_frz, q_thaw, q_iSeq, q_iR2, q_iR3, q_iEnumD, q_iZip, q_andX, q_andT, q_orT, q_notT, q_eCh, q_sPat, q_eSl, q_nSl, q_pS, q_pN, q_sRetN, q_tYes, q_eDct0, okL0, okL1, okL2, okL3, okL4, okL5, okL6, ent, List.map_cons, List.map_nil, List.length_cons, List.length_nil, List.set_cons_zero, List.set_cons_succ, List.replicate, List.cons_append, List.nil_append, Nat.reduceAdd, Nat.reduceSub, Nat.sub_self, Nat.sub_zero, zero_add', ↓reduceIte, Bool.false_eq_true, item0, item1, addD_ii, subD_ii, negD_i, absD_i, ltD_ii, leD_ii, gtD_ii, geD_ii, truD_bl, decide_true, decide_false, intD_i]⟩
  have m37 : okMul 37 (((ns.take 63).length : Nat) : Int) = true := okMul_small (by decide +kernel) (small_lt (by rw [List.length_take]; omega))
  rw [wp_def, e1]
  simp only [eV0, eVs, bind_ok', then_ok, q_e2, q_e1, q_eC, q_aC, q_aN, q_sPar2, q_sPar3, q_sSet, q_sRet, q_eBf, q_nBf, q_eCall, q_tst, q_tru, q_ifV, q_sIf, q_eTup, q_sPass, q_sExp, q_eLm, q_nLst, q_frz, q_thaw, q_iSeq, q_iR2, q_iR3, q_iEnumD, q_iZip, q_andX, q_andT, q_orT, q_notT, q_eCh, q_sPat, q_eSl, q_nSl, q_pS, q_pN, q_sRetN, q_tYes, q_eDct0, okL0, okL1, okL2, okL3, okL4, okL5, okL6, ent, List.map_cons, List.map_nil, List.length_cons, List.length_nil, List.set_cons_zero, List.set_cons_succ, List.replicate, List.cons_append, List.nil_append, Nat.reduceAdd, Nat.reduceSub, Nat.sub_self, Nat.sub_zero, zero_add', ↓reduceIte, Bool.false_eq_true, item0, item1, addD_ii, subD_ii, negD_i, absD_i, ltD_ii, leD_ii, gtD_ii, geD_ii, truD_bl, decide_true, decide_false, wp_ok, wp_bad, wp_bind, wp_nox, wp_def, wps_then, wps_seq, wps_nx, wps_ret, wp_ite, wps_ite, c, lenD_lst, List.length_map, mulD_ii m37]
  refine k _ ⟨(ns.take 63).map fun i => (i.natAbs : Int), 0, 0, 251 + 37 * ((ns.take 63).length : Int), 0, ?_, ?_, Int.le_refl _, by omega, ?_, Int.le_refl _, Int.le_refl _⟩ rfl
  · rw [List.map_map]
    rfl
  · intro c hc
    obtain ⟨i, hi, rfl⟩ := List.mem_map.mp hc
    exact ⟨Int.natCast_nonneg _, by rw [intBits_abs]; exact hb i (List.mem_of_mem_take hi)⟩
  · rw [List.length_take]
    omega
theorem some_spec {h : Hs} {N : Nat} {xs : List D} {Q : D → Hs → Prop} (t : Hd h N) (hx : xs ≠ []) (hl : xs.length ≤ 1000000) (hN : N < 1000000) (k : ∀ d h', d ∈ xs → Hd h' (N + 1) → Gb 1 h h' → Q d h') : Wp (m__law_some [.obj 0, .lst xs] h) Q := hand_b.any t hx hl hN k
/-! ### an offer that is drawn -/
theorem sumB_le {a b : Int} : ∀ {ws : List Int}, (∀ x ∈ ws, a ≤ x ∧ x ≤ b) → a * ws.length ≤ ws.sum ∧ ws.sum ≤ b * ws.length
  | [], _ => by simp
  | x :: ws, h => by
    have h1 := h x List.mem_cons_self
    have h2 := sumB_le fun y hy => h y (List.mem_cons_of_mem _ hy)
    rw [List.sum_cons, List.length_cons, Int.natCast_succ, Int.mul_add, Int.mul_add, Int.mul_one, Int.mul_one]
    omega
theorem sum_mem {x : Int} : ∀ {ws : List Int}, (∀ y ∈ ws, 0 ≤ y) → x ∈ ws → x ≤ ws.sum
  | [], _, h => by simp at h
  | y :: ws, k, h => by
    have k1 := k y List.mem_cons_self
    have k2 : 0 ≤ ws.sum := by
      have : ∀ {l : List Int}, (∀ y ∈ l, 0 ≤ y) → 0 ≤ l.sum := by
        intro l
        induction l with
        | nil => intro _; simp
        | cons a l ih =>
          intro q
          have := q a List.mem_cons_self
          have := ih fun z hz => q z (List.mem_cons_of_mem _ hz)
          rw [List.sum_cons]
          omega
      exact this fun z hz => k z (List.mem_cons_of_mem _ hz)
    rw [List.sum_cons]
    rcases List.mem_cons.mp h with e | e
    · omega
    · have := sum_mem (fun z hz => k z (List.mem_cons_of_mem _ hz)) e
      omega
theorem sm_divInt (S : Int) : ∀ ws : List Int, sm (ws.map fun x => Rat.divInt x S) = Rat.divInt ws.sum S
  | [] => by
    show (0 : Rat) = Rat.divInt ([] : List Int).sum S
    rw [List.sum_nil, Rat.zero_divInt]
  | x :: ws => by
    show Rat.divInt x S + sm (ws.map fun x => Rat.divInt x S) = _
    rw [sm_divInt S ws, List.sum_cons, Rat.divInt_eq_div, Rat.divInt_eq_div, Rat.divInt_eq_div, Rat.div_def, Rat.div_def, Rat.div_def, ← Rat.add_mul, Rat.intCast_add]
/-- the pairs of values and weights -/
def mkO (vs ws : List Int) : Offer := (vs.zip ws).map fun p => (p.1, Rat.divInt p.2 ws.sum)
theorem mkO_fst : ∀ {vs ws : List Int} (S : Int), vs.length = ws.length → ((vs.zip ws).map fun p => (p.1, Rat.divInt p.2 S)).map (·.1) = vs ∧ ((vs.zip ws).map fun p => (p.1, Rat.divInt p.2 S)).map (·.2) = ws.map fun x => Rat.divInt x S
  | [], [], _, _ => ⟨rfl, rfl⟩
  | [], _ :: _, _, h => by simp at h
  | _ :: _, [], _, h => by simp at h
  | v :: vs, x :: ws, S, h => by
    obtain ⟨h1, h2⟩ := mkO_fst (vs := vs) (ws := ws) S (by simpa using h)
    constructor
    · show v :: ((vs.zip ws).map fun p => (p.1, Rat.divInt p.2 S)).map (·.1) = _
      rw [h1]
    · show Rat.divInt x S :: ((vs.zip ws).map fun p => (p.1, Rat.divInt p.2 S)).map (·.2) = _
      rw [h2]
      rfl
theorem mkO_ok {vs ws : List Int} (hl : vs.length = ws.length) (h1 : 1 ≤ vs.length) (h5 : vs.length ≤ 5) (hv : ∀ v ∈ vs, 0 ≤ v ∧ v ≤ 1000) (up : vs.Pairwise (· < ·)) (hw : ∀ x ∈ ws, 1 ≤ x ∧ x ≤ 4) : Ofr (mkO vs ws) := by
  obtain ⟨e1, e2⟩ := mkO_fst (vs := vs) (ws := ws) ws.sum hl
  have sl := sumB_le (a := 1) (b := 4) hw
  have S1 : 1 ≤ ws.sum := by omega
  have S2 : ws.sum ≤ 20 := by omega
  have S0 : (0 : Rat) < ((ws.sum : Int) : Rat) := Rat.intCast_pos.mpr (by omega)
  have sh : ∀ q ∈ (mkO vs ws).map (·.2), 0 < q ∧ q ≤ 1 ∧ q.den < 2 ^ 5 := fun q hq => by
    have hq' : q ∈ ws.map fun x => Rat.divInt x ws.sum := by rw [← e2]; exact hq
    obtain ⟨x, hx, rfl⟩ := List.mem_map.mp hq'
    have x1 := hw x hx
    have x2 : x ≤ ws.sum := sum_mem (fun y hy => by have := hw y hy; omega) hx
    refine ⟨?_, (div_sh (by omega) x2 (by omega) (by omega)).2.1, ?_⟩
    · rw [Rat.divInt_eq_div, Rat.div_def]
      exact Rat.mul_pos (Rat.intCast_pos.mpr (by omega)) (Rat.inv_pos.mpr S0)
    · rw [Rat.den_divInt, if_neg (by omega)]
      exact Nat.lt_of_le_of_lt (Nat.div_le_self _ _) (by omega)
  refine ⟨?_, ?_, ?_, ?_, ?_, ?_, ?_⟩
  · unfold mkO
    rw [List.length_map, List.length_zip]
    omega
  · unfold mkO
    rw [List.length_map, List.length_zip]
    omega
  · intro p hp
    have m : p.1 ∈ (mkO vs ws).map (·.1) := List.mem_map.mpr ⟨p, hp, rfl⟩
    have m' : p.1 ∈ vs := by rw [← e1]; exact m
    exact hv _ m'
  · intro p hp
    have z := sh p.2 (List.mem_map.mpr ⟨p, hp, rfl⟩)
    exact ⟨z.1, z.2.1⟩
  · have e : (mkO vs ws).map (·.1) = vs := e1
    rw [e]
    exact up
  · have e : (mkO vs ws).map (·.2) = ws.map fun x => Rat.divInt x ws.sum := e2
    rw [e, sm_divInt, Rat.divInt_eq_div, Rat.div_def, Rat.mul_inv_cancel _ (by grind)]
  · have z := Dd_le (a := 5) (cs := (mkO vs ws).map (·.2)) fun q hq => ⟨by
      obtain ⟨a, b, c⟩ := sh q hq
      have n0 := Rat.num_nonneg.mpr (Rat.le_of_lt a)
      have n1 : q.num ≤ q.den := by
        have y := (Rat.le_iff q 1).mp b
        simpa using y
      omega, (sh q hq).2.2⟩
    have l : ((mkO vs ws).map (·.2)).length ≤ 5 := by
      rw [List.length_map]
      unfold mkO
      rw [List.length_map, List.length_zip]
      omega
    exact Nat.lt_of_le_of_lt z (Nat.pow_lt_pow_right (by decide) (by omega))
theorem zipD_ints : ∀ (vs ws : List Int), zipD (vs.map D.int) (ws.map D.int) = (vs.zip ws).map fun p => .tup [.int p.1, .int p.2]
  | [], _ => rfl
  | _ :: _, [] => rfl
  | v :: vs, x :: ws => by
    show .tup [.int v, .int x] :: zipD (vs.map D.int) (ws.map D.int) = _
    rw [zipD_ints vs ws]
    rfl
theorem offer_spec {h : Hs} {N : Nat} {most : Int} {Q : D → Hs → Prop} (t : Hd h N) (m1 : 1 ≤ most) (m5 : most ≤ 5) (hN : N + 30 ≤ 1000000) (k : ∀ o h', Ofr o → Hd h' (N + 30) → Gb 1 h h' → Q (offD o) h') : Wp (m__law_offer [.obj 0, .int most] h) Q := by
  unfold m__law_offer c__law_offer
  have en : ent 7 [D.obj 0, .int most] = [some (.obj 0), some (.int most), none, none, none, none, none] := rfl
  have one := t.one
  rw [wp_def, en, wps_seq, q_sSet, wps_then]
  simp only [eV0, eVs, bind_ok', then_ok, q_e2, q_e1, q_eC, q_aC, q_aN, q_sPar2, q_sPar3, q_sSet, q_sRet, q_eBf, q_nBf, q_eCall, q_tst, q_tru, q_ifV, q_sIf, q_eTup, q_sPass, q_sExp, q_eLm, q_nLst, q_frz, q_thaw, q_iSeq, q_iR2, q_iR3, q_iEnumD, q_iZip, q_andX, q_andT, q_orT, q_notT, q_eCh, q_sPat, q_eSl, q_nSl, q_pS, q_pN, q_sRetN, q_tYes, q_eDct0, okL0, okL1, okL2, okL3, okL4, okL5, okL6, ent, List.map_cons, List.map_nil, List.length_cons, List.length_nil, List.set_cons_zero, List.set_cons_succ, List.replicate, List.cons_append, List.nil_append, Nat.reduceAdd, Nat.reduceSub, Nat.sub_self, Nat.sub_zero, zero_add', ↓reduceIte, Bool.false_eq_true, item0, item1, addD_ii, subD_ii, negD_i, absD_i, ltD_ii, leD_ii, gtD_ii, geD_ii, truD_bl, decide_true, decide_false, wp_ok, wps_nx]
  rw [wps_seq, wps_for]
  refine hand_b.range1 (hand_b.app (l := [.lst []]) t) (s := most) (by omega) (by omega) (by omega) rfl rfl fun n h1 n1 n2 t1 g1 => ?_
  have gg : Gb 1 h h1 := (Gb.app (l := [.lst []])).trans g1
  have f0 : h1[h.length]? = some (.lst []) := g1.at one get_last
  refine wps_loop (fun j ρ h' => Hd h' (N + 1 + 2 * j) ∧ Gb 1 h h' ∧ ∃ (vs : List Int) (z : Option D), ρ = [some (.obj 0), some (.int most), some (.obj h.length), z, none, none, none] ∧ h'[h.length]? = some (.lst (vs.map D.int)) ∧ vs.length = j ∧ ∀ v ∈ vs, 0 ≤ v ∧ v ≤ 1000) _ 0 _ _ ?_ ?_ ⟨t1, gg, [], none, rfl, f0, rfl, by simp⟩
  · rintro j x ρ h2 hx ⟨t2, g2, vs, z, rfl, fq, lq, sq⟩
    rw [Nat.zero_add] at t2 lq ⊢
    have hj : j < n := by
      have := (List.getElem?_eq_some_iff.mp hx).1
      rwa [rng_len] at this
    refine ⟨rfl, [some (.obj 0), some (.int most), some (.obj h.length), some x, none, none, none], rfl, ?_⟩
    simp only [eV0, eVs, bind_ok', then_ok, q_e2, q_e1, q_eC, q_aC, q_aN, q_sPar2, q_sPar3, q_sSet, q_sRet, q_eBf, q_nBf, q_eCall, q_tst, q_tru, q_ifV, q_sIf, q_eTup, q_sPass, q_sExp, q_eLm, q_nLst, q_frz, q_thaw, q_iSeq, q_iR2, q_iR3, q_iEnumD, q_iZip, q_andX, q_andT, q_orT, q_notT, q_eCh, q_sPat, q_eSl, q_nSl, q_pS, q_pN, q_sRetN, q_tYes, q_eDct0, okL0, okL1, okL2, okL3, okL4, okL5, okL6, ent, List.map_cons, List.map_nil, List.length_cons, List.length_nil, List.set_cons_zero, List.set_cons_succ, List.replicate, List.cons_append, List.nil_append, Nat.reduceAdd, Nat.reduceSub, Nat.sub_self, Nat.sub_zero, zero_add', ↓reduceIte, Bool.false_eq_true, item0, item1, addD_ii, subD_ii, negD_i, absD_i, ltD_ii, leD_ii, gtD_ii, geD_ii, truD_bl, decide_true, decide_false, wp_ok, wp_bad, wp_bind, wp_nox, wp_def, wps_then, wps_seq, wps_nx, wps_ret, wp_ite, wps_ite, lstAt_obj fq]
    refine hand_b.draw t2 (sides := 6) (by decide) (by decide) (by omega) fun d h3 d0 d1 t3 g3 => ?_
    have fin : ∀ v9 : Int, 0 ≤ v9 ∧ v9 ≤ 1000 → Wp (m__law_some [.obj 0, .lst [.int 0, .int 1, .int 2, .int 3, .int 5, .int 8, .int 9, .int 20, .int v9]] h3) fun a h4 => Wp (appD (.obj h.length) [a] h4) fun _ h5 => Hd h5 (N + 1 + 2 * (j + 1)) ∧ Gb 1 h h5 ∧ ∃ (vs : List Int) (z : Option D), [some (.obj 0), some (.int most), some (.obj h.length), some x, none, none, none] = [some (.obj 0), some (.int most), some (.obj h.length), z, none, none, none] ∧ h5[h.length]? = some (.lst (vs.map D.int)) ∧ vs.length = j + 1 ∧ ∀ v ∈ vs, 0 ≤ v ∧ v ≤ 1000 := fun v9 hv9 => by
      refine some_spec t3 (by simp) (by simp) (by omega) fun b h4 hb t4 g4 => ?_
      have g34 := g3.trans g4
      have f4 : h4[h.length]? = some (.lst (vs.map D.int)) := g34.at one fq
      obtain ⟨v, rfl, hv⟩ : ∃ v : Int, b = .int v ∧ 0 ≤ v ∧ v ≤ 1000 := by
        simp only [List.mem_cons, List.not_mem_nil, or_false] at hb
        rcases hb with e | e | e | e | e | e | e | e | e <;> first | exact ⟨_, e, by decide, by decide⟩ | exact ⟨v9, e, hv9⟩
      rw [app_obj f4 (by rw [List.length_map]; omega), wp_ok]
      have l4 : h.length < h4.length := (List.getElem?_eq_some_iff.mp f4).1
      refine ⟨hand_b.set (hand_b.mono t4 (by omega)) one, (g2.trans g34).set' (Nat.le_refl _), vs ++ [v], _, rfl, by rw [List.getElem?_set_self l4, List.map_append]; rfl, by rw [List.length_append, lq]; rfl, fun y hy => ?_⟩
      rcases List.mem_append.mp hy with e | e
      · exact sq y e
      · rw [List.mem_singleton.mp e]; exact hv
    have ok9 : okLen 9 = true := rfl
    by_cases z6 : d = 0
    · simp only [eqD_ii, decide_eq_true z6, wp_ok, ↓reduceIte, eV0, eVs, bind_ok', then_ok, q_e2, q_e1, q_eC, q_aC, q_aN, q_sPar2, q_sPar3, q_sSet, q_sRet, q_eBf, q_nBf, q_eCall, q_tst, q_tru, q_ifV, q_sIf, q_eTup, q_sPass, q_sExp, q_eLm, q_nLst, q_frz, q_thaw, q_iSeq, q_iR2, q_iR3, q_iEnumD, q_iZip, q_andX, q_andT, q_orT, q_notT, q_eCh, q_sPat, q_eSl, q_nSl, q_pS, q_pN, q_sRetN, q_tYes, q_eDct0, okL0, okL1, okL2, okL3, okL4, okL5, okL6, ent, List.map_cons, List.map_nil, List.length_cons, List.length_nil, List.set_cons_zero, List.set_cons_succ, List.replicate, List.cons_append, List.nil_append, Nat.reduceAdd, Nat.reduceSub, Nat.sub_self, Nat.sub_zero, zero_add', ↓reduceIte, Bool.false_eq_true, item0, item1, addD_ii, subD_ii, negD_i, absD_i, ltD_ii, leD_ii, gtD_ii, geD_ii, truD_bl, decide_true, decide_false, wp_ok, wp_bad, wp_bind, wp_nox, wp_def, wps_then, wps_seq, wps_nx, wps_ret, wp_ite, wps_ite, ok9]
      exact fin 1000 (by decide)
    · simp only [eqD_ii, decide_eq_false z6, wp_ok, Bool.false_eq_true, ↓reduceIte, eV0, eVs, bind_ok', then_ok, q_e2, q_e1, q_eC, q_aC, q_aN, q_sPar2, q_sPar3, q_sSet, q_sRet, q_eBf, q_nBf, q_eCall, q_tst, q_tru, q_ifV, q_sIf, q_eTup, q_sPass, q_sExp, q_eLm, q_nLst, q_frz, q_thaw, q_iSeq, q_iR2, q_iR3, q_iEnumD, q_iZip, q_andX, q_andT, q_orT, q_notT, q_eCh, q_sPat, q_eSl, q_nSl, q_pS, q_pN, q_sRetN, q_tYes, q_eDct0, okL0, okL1, okL2, okL3, okL4, okL5, okL6, ent, List.map_cons, List.map_nil, List.length_cons, List.length_nil, List.set_cons_zero, List.set_cons_succ, List.replicate, List.cons_append, List.nil_append, Nat.reduceAdd, Nat.reduceSub, Nat.sub_self, Nat.sub_zero, zero_add', ↓reduceIte, Bool.false_eq_true, item0, item1, addD_ii, subD_ii, negD_i, absD_i, ltD_ii, leD_ii, gtD_ii, geD_ii, truD_bl, decide_true, decide_false, wp_ok, wp_bad, wp_bind, wp_nox, wp_def, wps_then, wps_seq, wps_nx, wps_ret, wp_ite, wps_ite, ok9]
      exact fin 4 (by decide)
  · rintro ρ h2 ⟨t2, g2, vs, z, rfl, fq, lq, sq⟩
    rw [Nat.zero_add, rng_len] at t2 lq
    refine ⟨rfl, ?_⟩
    have l60 : vs.length < 60 := by omega
    have so : nSortU (eV 2) [some (.obj 0), some (.int most), some (.obj h.length), z, none, none, none] h2 = .ok ((usort vs).map D.int) h2 := by
      show ((Dl.R.ok (D.obj h.length) h2 : Dl.R D).bind sortUN) = _
      rw [bind_ok']
      show (match (items h2 (.obj h.length)).bind allInt with
        | some ns => if decide (ns.length < 60) then Dl.R.ok ((usort ns).map D.int) h2 else .bad
        | none => .bad) = _
      rw [items_obj fq, Option.bind_some, allInt_map]
      exact if_pos (decide_eq_true l60)
    have ul := usort_len vs
    have u1 : 1 ≤ (usort vs).length := by
      cases q : usort vs with
      | nil =>
        cases vs with
        | nil => simp at lq; omega
        | cons v vs =>
          have m : v ∈ usort (v :: vs) := usort_mem.mpr List.mem_cons_self
          rw [q] at m
          simp at m
      | cons a b => simp
    rw [wps_seq, q_sSet, q_thaw, so, bind_ok', then_ok, wps_nx]
    simp only [List.set_cons_zero, List.set_cons_succ]
    have f3 : (h2 ++ [DO.lst ((usort vs).map D.int)])[h2.length]? = some (.lst ((usort vs).map D.int)) := get_last
    have t3 := hand_b.app (l := [.lst ((usort vs).map D.int)]) t2
    have g3 : Gb 1 h (h2 ++ [.lst ((usort vs).map D.int)]) := g2.trans .app
    have one2 : 1 ≤ h2.length := Nat.le_trans one g2.len
    generalize hi : h2.length = i at f3 one2 ⊢
    generalize h2 ++ [DO.lst ((usort vs).map D.int)] = h3 at f3 t3 g3 ⊢
    have io : itOf h3 (.obj i) = some ⟨(usort vs).map D.int, [(i, (usort vs).map D.int)]⟩ := by
      show (match h3[i]? with
        | some (.lst xs) => some (ItD.mk xs [(i, xs)])
        | _ => none) = _
      rw [f3]
    have gok : ∀ g : Hs, Gb 1 h3 g → okG [(i, (usort vs).map D.int)] g = true := fun g gg => by
      unfold okG
      simp only [List.all_cons, List.all_nil, Bool.and_true]
      rw [gg.at one2 f3]
      exact D.beqs_refl _
    rw [wps_seq, q_sSet, wps_then, q_frz, wp_bind, nLc_eq, wp_bind]
    have si : iSeq (eV 2) [some (.obj 0), some (.int most), some (.obj i), z, none, none, none] h3 = .ok ⟨(usort vs).map D.int, [(i, (usort vs).map D.int)]⟩ h3 := by
      rw [q_iSeq]
      show (match itOf h3 (.obj i) with
        | some it => if okG it.gs h3 then Dl.R.ok it h3 else .bad
        | none => .bad) = _
      rw [io]
      exact if_pos (gok h3 .refl)
    rw [si, wp_ok]
    show Wp (if okLen ((usort vs).map D.int).length = true then _ else _) _
    rw [if_pos (okLen_of (by rw [List.length_map]; omega))]
    refine wp_lc (fun j h' => Hd h' (N + 1 + 2 * n + j) ∧ Gb 1 h3 h') (fun d => ∃ x : Int, d = .int x ∧ 1 ≤ x ∧ x ≤ 4) _ 0 h3 ?_ (fun h' ⟨_, g⟩ => gok h' g) ⟨t3, .refl⟩ ?_
    · rintro j x h' hx ⟨t', g'⟩
      rw [Nat.zero_add] at t' ⊢
      have hj := (List.getElem?_eq_some_iff.mp hx).1
      rw [List.length_map] at hj
      refine ⟨gok h' g', _, rfl, ?_⟩
      simp only [wipeD, eV0, eVs, bind_ok', then_ok, q_e2, q_e1, q_eC, q_aC, q_aN, q_sPar2, q_sPar3, q_sSet, q_sRet, q_eBf, q_nBf, q_eCall, q_tst, q_tru, q_ifV, q_sIf, q_eTup, q_sPass, q_sExp, q_eLm, q_nLst, q_frz, q_thaw, q_iSeq, q_iR2, q_iR3, q_iEnumD, q_iZip, q_andX, q_andT, q_orT, q_notT, q_eCh, q_sPat, q_eSl, q_nSl, q_pS, q_pN, q_sRetN, q_tYes, q_eDct0, okL0, okL1, okL2, okL3, okL4, okL5, okL6, ent, List.map_cons, List.map_nil, List.length_cons, List.length_nil, List.set_cons_zero, List.set_cons_succ, List.replicate, List.cons_append, List.nil_append, Nat.reduceAdd, Nat.reduceSub, Nat.sub_self, Nat.sub_zero, zero_add', ↓reduceIte, Bool.false_eq_true, item0, item1, addD_ii, subD_ii, negD_i, absD_i, ltD_ii, leD_ii, gtD_ii, geD_ii, truD_bl, decide_true, decide_false, wp_ok, wp_bad, wp_bind, wp_nox, wp_def, wps_then, wps_seq, wps_nx, wps_ret, wp_ite, wps_ite]
      refine hand_b.draw t' (sides := 4) (by decide) (by decide) (by omega) fun d h4 d0 d1 t4 g4 => ?_
      simp only [addD_ii, wp_ok]
      exact ⟨⟨1 + d, rfl, by omega, by omega⟩, t4, g'.trans g4⟩
    · intro ds h4 hl hp ⟨t4, g4⟩
      rw [List.length_map] at hl
      rw [Nat.zero_add, List.length_map] at t4
      obtain ⟨ws, rfl⟩ := all_ints fun d hd => by
        obtain ⟨x, e, _⟩ := hp d hd
        exact ⟨x, e⟩
      rw [List.length_map] at hl
      have hw : ∀ x ∈ ws, 1 ≤ x ∧ x ≤ 4 := fun x hx => by
        obtain ⟨y, e, b⟩ := hp _ (List.mem_map.mpr ⟨x, hx, rfl⟩)
        cases e
        exact b
      have sl := sumB_le (a := 1) (b := 4) hw
      have f4 : h4[i]? = some (.lst ((usort vs).map D.int)) := g4.at one2 f3
      have io4 : itOf h4 (.obj i) = some ⟨(usort vs).map D.int, [(i, (usort vs).map D.int)]⟩ := by
        show (match h4[i]? with
          | some (.lst xs) => some (ItD.mk xs [(i, xs)])
          | _ => none) = _
        rw [f4]
      have zi : iZip (aC (eV 2) (aC (eV 4) aN)) [some (.obj 0), some (.int most), some (.obj i), z, some (.lst (ws.map D.int)), none, none] h4 = .ok ⟨((usort vs).zip ws).map fun p => .tup [.int p.1, .int p.2], [(i, (usort vs).map D.int)]⟩ h4 := by
        rw [q_iZip]
        simp only [q_aC, q_aN, eV0, eVs, bind_ok']
        show (match itOf h4 (.obj i), itOf h4 (.lst (ws.map D.int)) with
          | some it, some jt => if okG it.gs h4 && okG jt.gs h4 then Dl.R.ok (ItD.mk (zipD it.items jt.items) (it.gs ++ jt.gs)) h4 else .bad
          | _, _ => .bad) = _
        rw [io4]
        show (if (okG [(i, (usort vs).map D.int)] h4 && okG [] h4) = true then Dl.R.ok (ItD.mk (zipD ((usort vs).map D.int) (ws.map D.int)) ([(i, (usort vs).map D.int)] ++ [])) h4 else .bad) = _
        rw [gok h4 g4, zipD_ints]
        rfl
      have cc : nLc (iZip (aC (eV 2) (aC (eV 4) aN))) (.tp [.nm 5, .nm 6]) [5, 6] (tYes') (eTup (aC (eV 5) (aC (eCall 2 m__law_low (aC (eV 6) (aC (eBf sumD (aC (eV 4) aN)) aN))) aN))) [some (.obj 0), some (.int most), some (.obj i), z, some (.lst (ws.map D.int)), none, none] h4 = .ok ((mkO (usort vs) ws).map pairD) h4 := by
        rw [nLc_eq, zi, bind_ok']
        show (if okLen (((usort vs).zip ws).map fun p => D.tup [.int p.1, .int p.2]).length = true then _ else _) = _
        rw [if_pos (okLen_of (by rw [List.length_map, List.length_zip]; omega))]
        have lp := lcF_pure (p := .tp [.nm 5, .nm 6]) (ce := eTup (aC (eV 5) (aC (eCall 2 m__law_low (aC (eV 6) (aC (eBf sumD (aC (eV 4) aN)) aN))) aN))) (ρ := wipeD [some (.obj 0), some (.int most), some (.obj i), z, some (.lst (ws.map D.int)), none, none] [5, 6]) (h := h4) (f := fun d => match d with
            | .tup [.int a, .int b] => .tup [.int a, fr (Rat.divInt b ws.sum)]
            | _ => .non) (gok h4 g4) (xs := ((usort vs).zip ws).map fun p => D.tup [.int p.1, .int p.2]) fun x hx => by
          obtain ⟨⟨a, b⟩, hp', rfl⟩ := List.mem_map.mp hx
          have b1 := hw b (List.of_mem_zip hp').2
          refine ⟨_, rfl, ?_⟩
          have su := sumD_ints ws h4
          have le := low_eq b ws.sum h4 (by omega) (Nat.lt_of_lt_of_le (show ws.sum.natAbs < 2 ^ 64 by omega) pow18)
          simp only [wipeD, eV0, eVs, bind_ok', then_ok, q_e2, q_e1, q_eC, q_aC, q_aN, q_sPar2, q_sPar3, q_sSet, q_sRet, q_eBf, q_nBf, q_eCall, q_tst, q_tru, q_ifV, q_sIf, q_eTup, q_sPass, q_sExp, q_eLm, q_nLst, q_frz, q_thaw, q_iSeq, q_iR2, q_iR3, q_iEnumD, q_iZip, q_andX, q_andT, q_orT, q_notT, q_eCh, q_sPat, q_eSl, q_nSl, q_pS, q_pN, q_sRetN, q_tYes, q_eDct0, okL0, okL1, okL2, okL3, okL4, okL5, okL6, ent, List.map_cons, List.map_nil, List.length_cons, List.length_nil, List.set_cons_zero, List.set_cons_succ, List.replicate, List.cons_append, List.nil_append, Nat.reduceAdd, Nat.reduceSub, Nat.sub_self, Nat.sub_zero, zero_add', ↓reduceIte, Bool.false_eq_true, item0, item1, addD_ii, subD_ii, negD_i, absD_i, ltD_ii, leD_ii, gtD_ii, geD_ii, truD_bl, decide_true, decide_false, su, le]
        rw [lp, List.map_map]
        unfold mkO
        rw [List.map_map]
        rfl
      rw [wp_ok, wps_nx]
      simp only [List.set_cons_zero, List.set_cons_succ]
      rw [q_sRet, wps_then, q_eBf]
      simp only [q_aC, q_aN, q_frz, cc, bind_ok', tupD_lst, wp_ok, wps_ret]
      refine k _ h4 (mkO_ok (by omega) u1 (by omega) (fun v hv => sq v (usort_mem.mp hv)) (usort_up vs) hw) (hand_b.mono t4 (by omega)) (g3.trans g4)
theorem gatherO : ∀ {ds : List D}, (∀ d ∈ ds, ∃ o, d = offD o ∧ Ofr o) → ∃ os : List Offer, ds = os.map offD ∧ ∀ o ∈ os, Ofr o
  | [], _ => ⟨[], rfl, by simp⟩
  | d :: ds, h => by
    obtain ⟨o, rfl, ko⟩ := h d List.mem_cons_self
    obtain ⟨os, rfl, k⟩ := gatherO fun x hx => h x (List.mem_cons_of_mem _ hx)
    exact ⟨o :: os, rfl, fun x hx => by
      rcases List.mem_cons.mp hx with e | e
      · rw [e]; exact ko
      · exact k x e⟩
theorem deal_spec {h : Hs} {N : Nat} {most pairs : Int} {Q : D → Hs → Prop} (t : Hd h N) (m1 : 1 ≤ most) (m8 : most ≤ 8) (p1 : 1 ≤ pairs) (p5 : pairs ≤ 5) (hN : N + 300 ≤ 1000000) (k : ∀ os h', Dl8 os → (os.length : Int) ≤ most → Hd h' (N + 300) → Gb 1 h h' → Q (dealD os) h') : Wp (m__law_deal [.obj 0, .int most, .int pairs] h) Q := by
  unfold m__law_deal c__law_deal
  have en : ent 4 [D.obj 0, .int most, .int pairs] = [some (.obj 0), some (.int most), some (.int pairs), none] := rfl
  rw [wp_def, en, q_sRet, wps_then, q_eBf, wp_bind, q_aC, wp_bind, q_frz, wp_bind, nLc_eq, wp_bind]
  refine hand_b.range1 t (s := most) (by omega) (by omega) (by omega) rfl rfl fun n h1 n1 n2 t1 g1 => ?_
  show Wp (if okLen (rng 0 1 n).length = true then _ else _) _
  rw [rng_len, if_pos (okLen_of (by omega))]
  refine hand_b.comp (c := 30) (fun d => ∃ o, d = offD o ∧ Ofr o) t1 (fun j x h' hx t' g' => ?_) fun ds h2 hl hp t2 g2 => ?_
  · have hj := (List.getElem?_eq_some_iff.mp hx).1
    rw [rng_len] at hj
    refine ⟨_, rfl, ?_⟩
    simp only [wipeD, eV0, eVs, bind_ok', then_ok, q_e2, q_e1, q_eC, q_aC, q_aN, q_sPar2, q_sPar3, q_sSet, q_sRet, q_eBf, q_nBf, q_eCall, q_tst, q_tru, q_ifV, q_sIf, q_eTup, q_sPass, q_sExp, q_eLm, q_nLst, q_frz, q_thaw, q_iSeq, q_iR2, q_iR3, q_iEnumD, q_iZip, q_andX, q_andT, q_orT, q_notT, q_eCh, q_sPat, q_eSl, q_nSl, q_pS, q_pN, q_sRetN, q_tYes, q_eDct0, okL0, okL1, okL2, okL3, okL4, okL5, okL6, ent, List.map_cons, List.map_nil, List.length_cons, List.length_nil, List.set_cons_zero, List.set_cons_succ, List.replicate, List.cons_append, List.nil_append, Nat.reduceAdd, Nat.reduceSub, Nat.sub_self, Nat.sub_zero, zero_add', ↓reduceIte, Bool.false_eq_true, item0, item1, addD_ii, subD_ii, negD_i, absD_i, ltD_ii, leD_ii, gtD_ii, geD_ii, truD_bl, decide_true, decide_false]
    exact offer_spec t' p1 p5 (by omega) fun o h3 ko t3 g3 => ⟨⟨o, rfl, ko⟩, t3, g3⟩
  rw [rng_len] at hl t2
  obtain ⟨os, rfl, ko⟩ := gatherO hp
  rw [List.length_map] at hl
  simp only [eV0, eVs, bind_ok', then_ok, q_e2, q_e1, q_eC, q_aC, q_aN, q_sPar2, q_sPar3, q_sSet, q_sRet, q_eBf, q_nBf, q_eCall, q_tst, q_tru, q_ifV, q_sIf, q_eTup, q_sPass, q_sExp, q_eLm, q_nLst, q_frz, q_thaw, q_iSeq, q_iR2, q_iR3, q_iEnumD, q_iZip, q_andX, q_andT, q_orT, q_notT, q_eCh, q_sPat, q_eSl, q_nSl, q_pS, q_pN, q_sRetN, q_tYes, q_eDct0, okL0, okL1, okL2, okL3, okL4, okL5, okL6, ent, List.map_cons, List.map_nil, List.length_cons, List.length_nil, List.set_cons_zero, List.set_cons_succ, List.replicate, List.cons_append, List.nil_append, Nat.reduceAdd, Nat.reduceSub, Nat.sub_self, Nat.sub_zero, zero_add', ↓reduceIte, Bool.false_eq_true, item0, item1, addD_ii, subD_ii, negD_i, absD_i, ltD_ii, leD_ii, gtD_ii, geD_ii, truD_bl, decide_true, decide_false, wp_ok, wp_bad, wp_bind, wp_nox, wp_def, wps_then, wps_seq, wps_nx, wps_ret, wp_ite, wps_ite, tupD_lst]
  exact k os h2 ⟨by omega, by omega, ko⟩ (by omega) (hand_b.mono t2 (by omega)) (g1.trans g2)
/-! ### equal things -/
theorem neD_bb {a b : Bool} {h : Hs} : neD (.bl a) (.bl b) h = .ok (.bl (a != b)) h := by cases a <;> cases b <;> rfl
theorem eqD_bb {a b : Bool} {h : Hs} : eqD (.bl a) (.bl b) h = .ok (.bl (a == b)) h := by cases a <;> cases b <;> rfl
theorem zipD_self : ∀ xs : List D, zipD xs xs = xs.map fun x => .tup [x, x]
  | [] => rfl
  | x :: xs => by
    show .tup [x, x] :: zipD xs xs = _
    rw [zipD_self xs]
    rfl
/-- ints, tuples and lists of such, short -/
inductive Lw : Nat → D → Prop
  | int {n : Nat} (i : Int) : Lw n (.int i)
  | tup {n : Nat} {xs : List D} : xs.length ≤ 1000 → (∀ x ∈ xs, Lw n x) → Lw (n + 1) (.tup xs)
  | lst {n : Nat} {xs : List D} : xs.length ≤ 1000 → (∀ x ∈ xs, Lw n x) → Lw (n + 1) (.lst xs)
theorem is_refl {n : Nat} {x : D} (f : Lw n x) : ∀ {m : Nat} {h : Hs}, n < m → r__law_is m [x, x] h = .ok (.bl true) h := by
  induction f with
  | @int n i =>
    intro m h hm
    obtain ⟨m, rfl⟩ : ∃ k, m = k + 1 := ⟨m - 1, by omega⟩
    refine mdef_ret (h' := h) ?_
    unfold c__law_is
    have en : ent 5 [D.int i, .int i] = [some (.int i), some (.int i), none, none, none] := rfl
    have i1 : isiD [] [.int i, .ty "bool"] h = .ok (.bl false) h := rfl
    have i2 : isiD [] [.int i, .ty "tuple"] h = .ok (.bl false) h := rfl
    have i3 : isiD [] [.int i, .ty "list"] h = .ok (.bl false) h := rfl
    have i4 : isiD [] [.int i, .ty "dict"] h = .ok (.bl false) h := rfl
    have i5 : isiD [] [.int i, .ty "int"] h = .ok (.bl true) h := rfl
    rw [en, seq_nx (ρ1 := [some (.int i), some (.int i), none, none, none]) (h1 := h) (by simp only [eV0, eVs, bind_ok', then_ok, q_e2, q_e1, q_eC, q_aC, q_aN, q_sPar2, q_sPar3, q_sSet, q_sRet, q_eBf, q_nBf, q_eCall, q_tst, q_tru, q_ifV, q_sIf, q_eTup, q_sPass, q_sExp, q_eLm, q_nLst, q_frz, q_thaw, q_iSeq, q_iR2, q_iR3, q_iEnumD, q_iZip, q_andX, q_andT, q_orT, q_notT, q_eCh, q_sPat, q_eSl, q_nSl, q_pS, q_pN, q_sRetN, q_tYes, q_eDct0, okL0, okL1, okL2, okL3, okL4, okL5, okL6, ent, List.map_cons, List.map_nil, List.length_cons, List.length_nil, List.set_cons_zero, List.set_cons_succ, List.replicate, List.cons_append, List.nil_append, Nat.reduceAdd, Nat.reduceSub, Nat.sub_self, Nat.sub_zero, zero_add', ↓reduceIte, Bool.false_eq_true, item0, item1, addD_ii, subD_ii, negD_i, absD_i, ltD_ii, leD_ii, gtD_ii, geD_ii, truD_bl, decide_true, decide_false, i1]), seq_nx (ρ1 := [some (.int i), some (.int i), none, none, none]) (h1 := h) (by simp only [eV0, eVs, bind_ok', then_ok, q_e2, q_e1, q_eC, q_aC, q_aN, q_sPar2, q_sPar3, q_sSet, q_sRet, q_eBf, q_nBf, q_eCall, q_tst, q_tru, q_ifV, q_sIf, q_eTup, q_sPass, q_sExp, q_eLm, q_nLst, q_frz, q_thaw, q_iSeq, q_iR2, q_iR3, q_iEnumD, q_iZip, q_andX, q_andT, q_orT, q_notT, q_eCh, q_sPat, q_eSl, q_nSl, q_pS, q_pN, q_sRetN, q_tYes, q_eDct0, okL0, okL1, okL2, okL3, okL4, okL5, okL6, ent, List.map_cons, List.map_nil, List.length_cons, List.length_nil, List.set_cons_zero, List.set_cons_succ, List.replicate, List.cons_append, List.nil_append, Nat.reduceAdd, Nat.reduceSub, Nat.sub_self, Nat.sub_zero, zero_add', ↓reduceIte, Bool.false_eq_true, item0, item1, addD_ii, subD_ii, negD_i, absD_i, ltD_ii, leD_ii, gtD_ii, geD_ii, truD_bl, decide_true, decide_false, i2, i3]), seq_nx (ρ1 := [some (.int i), some (.int i), none, none, none]) (h1 := h) (by simp only [eV0, eVs, bind_ok', then_ok, q_e2, q_e1, q_eC, q_aC, q_aN, q_sPar2, q_sPar3, q_sSet, q_sRet, q_eBf, q_nBf, q_eCall, q_tst, q_tru, q_ifV, q_sIf, q_eTup, q_sPass, q_sExp, q_eLm, q_nLst, q_frz, q_thaw, q_iSeq, q_iR2, q_iR3, q_iEnumD, q_iZip, q_andX, q_andT, q_orT, q_notT, q_eCh, q_sPat, q_eSl, q_nSl, q_pS, q_pN, q_sRetN, q_tYes, q_eDct0, okL0, okL1, okL2, okL3, okL4, okL5, okL6, ent, List.map_cons, List.map_nil, List.length_cons, List.length_nil, List.set_cons_zero, List.set_cons_succ, List.replicate, List.cons_append, List.nil_append, Nat.reduceAdd, Nat.reduceSub, Nat.sub_self, Nat.sub_zero, zero_add', ↓reduceIte, Bool.false_eq_true, item0, item1, addD_ii, subD_ii, negD_i, absD_i, ltD_ii, leD_ii, gtD_ii, geD_ii, truD_bl, decide_true, decide_false, i4])]
    simp only [eV0, eVs, bind_ok', then_ok, q_e2, q_e1, q_eC, q_aC, q_aN, q_sPar2, q_sPar3, q_sSet, q_sRet, q_eBf, q_nBf, q_eCall, q_tst, q_tru, q_ifV, q_sIf, q_eTup, q_sPass, q_sExp, q_eLm, q_nLst, q_frz, q_thaw, q_iSeq, q_iR2, q_iR3, q_iEnumD, q_iZip, q_andX, q_andT, q_orT, q_notT, q_eCh, q_sPat, q_eSl, q_nSl, q_pS, q_pN, q_sRetN, q_tYes, q_eDct0, okL0, okL1, okL2, okL3, okL4, okL5, okL6, ent, List.map_cons, List.map_nil, List.length_cons, List.length_nil, List.set_cons_zero, List.set_cons_succ, List.replicate, List.cons_append, List.nil_append, Nat.reduceAdd, Nat.reduceSub, Nat.sub_self, Nat.sub_zero, zero_add', ↓reduceIte, Bool.false_eq_true, item0, item1, addD_ii, subD_ii, negD_i, absD_i, ltD_ii, leD_ii, gtD_ii, geD_ii, truD_bl, decide_true, decide_false, i5, eqD_bb, eqD_ii, beq_self_eq_true]
  | @tup n xs l _ ih =>
    intro m h hm
    obtain ⟨m, rfl⟩ : ∃ k, m = k + 1 := ⟨m - 1, by omega⟩
    refine eq_of_wp ?_
    show Wp (mDef 5 (c__law_is (r__law_is m)) [.tup xs, .tup xs] h) _
    unfold c__law_is
    have en : ent 5 [D.tup xs, .tup xs] = [some (.tup xs), some (.tup xs), none, none, none] := rfl
    have i1 : isiD [] [.tup xs, .ty "bool"] h = .ok (.bl false) h := rfl
    have i2 : isiD [] [.tup xs, .ty "tuple"] h = .ok (.bl true) h := rfl
    have i3 : isiD [] [.tup xs, .ty "list"] h = .ok (.bl false) h := rfl
    have zi : iZip (aC (eV 0) (aC (eV 1) aN)) [some (.tup xs), some (.tup xs), none, none, none] h = .ok ⟨xs.map fun x => .tup [x, x], []⟩ h := by
      rw [← zipD_self]
      simp only [eV0, eVs, bind_ok', then_ok, q_e2, q_e1, q_eC, q_aC, q_aN, q_sPar2, q_sPar3, q_sSet, q_sRet, q_eBf, q_nBf, q_eCall, q_tst, q_tru, q_ifV, q_sIf, q_eTup, q_sPass, q_sExp, q_eLm, q_nLst, q_frz, q_thaw, q_iSeq, q_iR2, q_iR3, q_iEnumD, q_iZip, q_andX, q_andT, q_orT, q_notT, q_eCh, q_sPat, q_eSl, q_nSl, q_pS, q_pN, q_sRetN, q_tYes, q_eDct0, okL0, okL1, okL2, okL3, okL4, okL5, okL6, ent, List.map_cons, List.map_nil, List.length_cons, List.length_nil, List.set_cons_zero, List.set_cons_succ, List.replicate, List.cons_append, List.nil_append, Nat.reduceAdd, Nat.reduceSub, Nat.sub_self, Nat.sub_zero, zero_add', ↓reduceIte, Bool.false_eq_true, item0, item1, addD_ii, subD_ii, negD_i, absD_i, ltD_ii, leD_ii, gtD_ii, geD_ii, truD_bl, decide_true, decide_false]
      rfl
    have c := compM (α := D) (ci := iZip (aC (eV 0) (aC (eV 1) aN))) (p := .tp [.nm 2, .nm 3]) (own := [2, 3]) (ce := eCall 2 (r__law_is m) (aC (eV 2) (aC (eV 3) aN))) (ρ := [some (.tup xs), some (.tup xs), none, none, none]) (h := h) (xs := xs) (g := fun x => .tup [x, x]) (f := fun _ => .bl true)
      zi (by omega) fun x hx => ⟨_, rfl, by simp only [wipeD, eV0, eVs, bind_ok', then_ok, q_e2, q_e1, q_eC, q_aC, q_aN, q_sPar2, q_sPar3, q_sSet, q_sRet, q_eBf, q_nBf, q_eCall, q_tst, q_tru, q_ifV, q_sIf, q_eTup, q_sPass, q_sExp, q_eLm, q_nLst, q_frz, q_thaw, q_iSeq, q_iR2, q_iR3, q_iEnumD, q_iZip, q_andX, q_andT, q_orT, q_notT, q_eCh, q_sPat, q_eSl, q_nSl, q_pS, q_pN, q_sRetN, q_tYes, q_eDct0, okL0, okL1, okL2, okL3, okL4, okL5, okL6, ent, List.map_cons, List.map_nil, List.length_cons, List.length_nil, List.set_cons_zero, List.set_cons_succ, List.replicate, List.cons_append, List.nil_append, Nat.reduceAdd, Nat.reduceSub, Nat.sub_self, Nat.sub_zero, zero_add', ↓reduceIte, Bool.false_eq_true, item0, item1, addD_ii, subD_ii, negD_i, absD_i, ltD_ii, leD_ii, gtD_ii, geD_ii, truD_bl, decide_true, decide_false, ih x hx (show n < m by omega)]⟩
    have a1 : allD [.lst (xs.map fun _ => D.bl true)] h = .ok (.bl true) h := by
      rw [allD_map (fun _ => true) xs h]
      simp
    rw [wp_def, en]
    simp only [eV0, eVs, bind_ok', then_ok, q_e2, q_e1, q_eC, q_aC, q_aN, q_sPar2, q_sPar3, q_sSet, q_sRet, q_eBf, q_nBf, q_eCall, q_tst, q_tru, q_ifV, q_sIf, q_eTup, q_sPass, q_sExp, q_eLm, q_nLst, q_frz, q_thaw, q_iSeq, q_iR2, q_iR3, q_iEnumD, q_iZip, q_andX, q_andT, q_orT, q_notT, q_eCh, q_sPat, q_eSl, q_nSl, q_pS, q_pN, q_sRetN, q_tYes, q_eDct0, okL0, okL1, okL2, okL3, okL4, okL5, okL6, ent, List.map_cons, List.map_nil, List.length_cons, List.length_nil, List.set_cons_zero, List.set_cons_succ, List.replicate, List.cons_append, List.nil_append, Nat.reduceAdd, Nat.reduceSub, Nat.sub_self, Nat.sub_zero, zero_add', ↓reduceIte, Bool.false_eq_true, item0, item1, addD_ii, subD_ii, negD_i, absD_i, ltD_ii, leD_ii, gtD_ii, geD_ii, truD_bl, decide_true, decide_false, wp_ok, wp_bad, wp_bind, wp_nox, wp_def, wps_then, wps_seq, wps_nx, wps_ret, wp_ite, wps_ite, i1, i2, i3, neD_bb, bne_self_eq_false, lenD_tup, eqD_ii, decide_true, c, a1, sPass]
    exact ⟨trivial, trivial⟩
  | @lst n xs l _ ih =>
    intro m h hm
    obtain ⟨m, rfl⟩ : ∃ k, m = k + 1 := ⟨m - 1, by omega⟩
    refine eq_of_wp ?_
    show Wp (mDef 5 (c__law_is (r__law_is m)) [.lst xs, .lst xs] h) _
    unfold c__law_is
    have en : ent 5 [D.lst xs, .lst xs] = [some (.lst xs), some (.lst xs), none, none, none] := rfl
    have i1 : isiD [] [.lst xs, .ty "bool"] h = .ok (.bl false) h := rfl
    have i2 : isiD [] [.lst xs, .ty "tuple"] h = .ok (.bl false) h := rfl
    have i3 : isiD [] [.lst xs, .ty "list"] h = .ok (.bl true) h := rfl
    have zi : iZip (aC (eV 0) (aC (eV 1) aN)) [some (.lst xs), some (.lst xs), none, none, none] h = .ok ⟨xs.map fun x => .tup [x, x], []⟩ h := by
      rw [← zipD_self]
      simp only [eV0, eVs, bind_ok', then_ok, q_e2, q_e1, q_eC, q_aC, q_aN, q_sPar2, q_sPar3, q_sSet, q_sRet, q_eBf, q_nBf, q_eCall, q_tst, q_tru, q_ifV, q_sIf, q_eTup, q_sPass, q_sExp, q_eLm, q_nLst, q_frz, q_thaw, q_iSeq, q_iR2, q_iR3, q_iEnumD, q_iZip, q_andX, q_andT, q_orT, q_notT, q_eCh, q_sPat, q_eSl, q_nSl, q_pS, q_pN, q_sRetN, q_tYes, q_eDct0, okL0, okL1, okL2, okL3, okL4, okL5, okL6, ent, List.map_cons, List.map_nil, List.length_cons, List.length_nil, List.set_cons_zero, List.set_cons_succ, List.replicate, List.cons_append, List.nil_append, Nat.reduceAdd, Nat.reduceSub, Nat.sub_self, Nat.sub_zero, zero_add', ↓reduceIte, Bool.false_eq_true, item0, item1, addD_ii, subD_ii, negD_i, absD_i, ltD_ii, leD_ii, gtD_ii, geD_ii, truD_bl, decide_true, decide_false]
      rfl
    have c := compM (α := D) (ci := iZip (aC (eV 0) (aC (eV 1) aN))) (p := .tp [.nm 2, .nm 3]) (own := [2, 3]) (ce := eCall 2 (r__law_is m) (aC (eV 2) (aC (eV 3) aN))) (ρ := [some (.lst xs), some (.lst xs), none, none, none]) (h := h) (xs := xs) (g := fun x => .tup [x, x]) (f := fun _ => .bl true)
      zi (by omega) fun x hx => ⟨_, rfl, by simp only [wipeD, eV0, eVs, bind_ok', then_ok, q_e2, q_e1, q_eC, q_aC, q_aN, q_sPar2, q_sPar3, q_sSet, q_sRet, q_eBf, q_nBf, q_eCall, q_tst, q_tru, q_ifV, q_sIf, q_eTup, q_sPass, q_sExp, q_eLm, q_nLst, q_frz, q_thaw, q_iSeq, q_iR2, q_iR3, q_iEnumD, q_iZip, q_andX, q_andT, q_orT, q_notT, q_eCh, q_sPat, q_eSl, q_nSl, q_pS, q_pN, q_sRetN, q_tYes, q_eDct0, okL0, okL1, okL2, okL3, okL4, okL5, okL6, ent, List.map_cons, List.map_nil, List.length_cons, List.length_nil, List.set_cons_zero, List.set_cons_succ, List.replicate, List.cons_append, List.nil_append, Nat.reduceAdd, Nat.reduceSub, Nat.sub_self, Nat.sub_zero, zero_add', ↓reduceIte, Bool.false_eq_true, item0, item1, addD_ii, subD_ii, negD_i, absD_i, ltD_ii, leD_ii, gtD_ii, geD_ii, truD_bl, decide_true, decide_false, ih x hx (show n < m by omega)]⟩
    have a1 : allD [.lst (xs.map fun _ => D.bl true)] h = .ok (.bl true) h := by
      rw [allD_map (fun _ => true) xs h]
      simp
    rw [wp_def, en]
    simp only [eV0, eVs, bind_ok', then_ok, q_e2, q_e1, q_eC, q_aC, q_aN, q_sPar2, q_sPar3, q_sSet, q_sRet, q_eBf, q_nBf, q_eCall, q_tst, q_tru, q_ifV, q_sIf, q_eTup, q_sPass, q_sExp, q_eLm, q_nLst, q_frz, q_thaw, q_iSeq, q_iR2, q_iR3, q_iEnumD, q_iZip, q_andX, q_andT, q_orT, q_notT, q_eCh, q_sPat, q_eSl, q_nSl, q_pS, q_pN, q_sRetN, q_tYes, q_eDct0, okL0, okL1, okL2, okL3, okL4, okL5, okL6, ent, List.map_cons, List.map_nil, List.length_cons, List.length_nil, List.set_cons_zero, List.set_cons_succ, List.replicate, List.cons_append, List.nil_append, Nat.reduceAdd, Nat.reduceSub, Nat.sub_self, Nat.sub_zero, zero_add', ↓reduceIte, Bool.false_eq_true, item0, item1, addD_ii, subD_ii, negD_i, absD_i, ltD_ii, leD_ii, gtD_ii, geD_ii, truD_bl, decide_true, decide_false, wp_ok, wp_bad, wp_bind, wp_nox, wp_def, wps_then, wps_seq, wps_nx, wps_ret, wp_ite, wps_ite, i1, i2, i3, neD_bb, bne_self_eq_false, lenD_lst, eqD_ii, decide_true, c, a1, sPass]
    exact ⟨trivial, trivial⟩
theorem lw_fr (q : Rat) : Lw 1 (fr q) := .tup (by simp) fun x hx => by
  rcases List.mem_cons.mp hx with e | hx
  · subst e; exact .int _
  · rw [List.mem_singleton.mp hx]; exact .int _
theorem is_fr {q : Rat} {h : Hs} : m__law_is [fr q, fr q] h = .ok (.bl true) h := is_refl (lw_fr q) (by decide)
end Pl

/-! Plain laws, deals 7: loops as wished; the law's own way by a floor; what is more. -/
namespace Pl
open Dl Sh

theorem wps_loop_st {α σ : Type} {p : Pat} {body : SM} {g : α → D} {N : Env → Hs → Prop} {T : D → Hs → Prop} (st : σ → Env → Hs → Prop) (step : σ → α → σ) (J : σ → List α → Prop)
    (k : ∀ s x xs ρ h, J s (x :: xs) → st s ρ h → ∃ ρ1, patD p (g x) ρ = some ρ1 ∧ WpS (body ρ1 h) (fun ρ2 h2 => st (step s x) ρ2 h2 ∧ J (step s x) xs) T) :
    ∀ (xs : List α) (s : σ) (ρ : Env) (h : Hs), J s xs → st s ρ h → (∀ ρ' h', st (xs.foldl step s) ρ' h' → J (xs.foldl step s) [] → N ρ' h') → WpS (loopF p body [] (xs.map g) ρ h) N T
  | [], s, ρ, h, j, e, fin => by
    rw [List.map_nil]
    unfold loopF
    exact fin ρ h e j
  | x :: xs, s, ρ, h, j, e, fin => by
    obtain ⟨ρ1, e1, w⟩ := k s x xs ρ h j e
    rw [List.map_cons]
    unfold loopF
    rw [if_pos okG_nil, e1]
    show WpS (match body ρ1 h with
      | .nx ρ2 h2 => loopF p body [] (xs.map g) ρ2 h2
      | .ct ρ2 h2 => loopF p body [] (xs.map g) ρ2 h2
      | .bk ρ2 h2 => .nx ρ2 h2
      | r => r) N T
    cases q : body ρ1 h with
    | nx ρ2 h2 =>
      rw [q] at w
      obtain ⟨w1, w2⟩ := w
      exact wps_loop_st st step J k xs (step s x) ρ2 h2 w2 w1 fin
    | ret d h2 => rw [q] at w; exact w
    | bk ρ2 h2 => rw [q] at w; exact w.elim
    | ct ρ2 h2 => rw [q] at w; exact w.elim
    | exc ρ2 C fs h2 => rw [q] at w; exact w.elim
    | bad => rw [q] at w; exact w.elim
theorem wps_for_st {α σ : Type} {ci : Env → M ItD} {p : Pat} {body : SM} {g : α → D} {ρ : Env} {h h1 : Hs} {N : Env → Hs → Prop} {T : D → Hs → Prop} {xs : List α} (e : ci ρ h = .ok ⟨xs.map g, []⟩ h1) (s : σ) (st : σ → Env → Hs → Prop) (step : σ → α → σ) (J : σ → List α → Prop) (j0 : J s xs) (s0 : st s ρ h1)
    (k : ∀ s x xs ρ h, J s (x :: xs) → st s ρ h → ∃ ρ1, patD p (g x) ρ = some ρ1 ∧ WpS (body ρ1 h) (fun ρ2 h2 => st (step s x) ρ2 h2 ∧ J (step s x) xs) T)
    (fin : ∀ ρ' h', st (xs.foldl step s) ρ' h' → J (xs.foldl step s) [] → N ρ' h') : WpS (sFor ci p body ρ h) N T := by
  rw [for_of e]
  exact wps_loop_st st step J k xs s ρ h1 j0 s0 fin
theorem wps_of {r : SR} {ρ : Env} {h : Hs} {N : Env → Hs → Prop} {T : D → Hs → Prop} (e : r = .nx ρ h) (n : N ρ h) : WpS r N T := by rw [e]; exact n
theorem seq_of_wps {r : SR} {ρ : Env} {h : Hs} (w : WpS r (fun ρ' h' => ρ' = ρ ∧ h' = h) fun _ _ => False) : r = .nx ρ h := by
  cases r with
  | nx a b => obtain ⟨rfl, rfl⟩ := w; rfl
  | _ => exact w.elim
/-! ### by a floor, the law's own way -/
def inS (y : Rat) (s : Rat × Rat) (p : Int × Rat) : Rat × Rat := (s.1 + y * ((p.1 : Rat) * p.2), s.2 + p.2)
theorem in_fold (y : Rat) : ∀ (g : Offer) (s : Rat × Rat), g.foldl (inS y) s = (s.1 + y * me g, s.2 + ss g)
  | [], s => by
    have e1 : s.1 + y * me [] = s.1 := by
      show s.1 + y * 0 = s.1
      grind
    have e2 : s.2 + ss [] = s.2 := by
      show s.2 + 0 = s.2
      grind
    rw [e1, e2]
    rfl
  | p :: g, s => by
    rw [List.foldl_cons, in_fold y g]
    have e1 : me (p :: g) = (p.1 : Rat) * p.2 + me g := rfl
    have e2 : ss (p :: g) = p.2 + ss g := rfl
    rw [e1, e2]
    show (s.1 + y * ((p.1 : Rat) * p.2) + y * me g, s.2 + p.2 + ss g) = _
    rw [show s.1 + y * ((p.1 : Rat) * p.2) + y * me g = s.1 + y * ((p.1 : Rat) * p.2 + me g) by grind, show s.2 + p.2 + ss g = s.2 + (p.2 + ss g) by grind]
theorem law_by_floor_eq {os : List Offer} (k : ∀ o ∈ os, Ofr o) (l8 : os.length ≤ 8) {f : Rat} (sf : Sz 2000 f) (h : Hs) : m__law_by_floor [dealD os, fr f] h = .ok (fr (ofl os f)) h := by
  refine eq_of_wp ?_
  unfold m__law_by_floor c__law_by_floor
  have en : ent 9 [dealD os, fr f] = [some (dealD os), some (fr f), none, none, none, none, none, none, none] := rfl
  rw [wp_def, en, wps_seq]
  have s0 : sPat (.tp [.nm 2, .nm 3]) (eTup (aC (eTup (aC (eC (.int 0)) (aC (eC (.int 1)) aN))) (aC (eTup (aC (eC (.int 1)) (aC (eC (.int 1)) aN))) aN))) [some (dealD os), some (fr f), none, none, none, none, none, none, none] h = .nx [some (dealD os), some (fr f), some (fr 0), some (fr 1), none, none, none, none, none] h := by
    simp only [eV0, eVs, bind_ok', then_ok, q_e2, q_e1, q_eC, q_aC, q_aN, q_sPar2, q_sPar3, q_sSet, q_sRet, q_eBf, q_nBf, q_eCall, q_tst, q_tru, q_ifV, q_sIf, q_eTup, q_sPass, q_sExp, q_eLm, q_nLst, q_frz, q_thaw, q_iSeq, q_iR2, q_iR3, q_iEnumD, q_iZip, q_andX, q_andT, q_orT, q_notT, q_eCh, q_sPat, q_eSl, q_nSl, q_pS, q_pN, q_sRetN, q_tYes, q_eDct0, okL0, okL1, okL2, okL3, okL4, okL5, okL6, ent, List.map_cons, List.map_nil, List.length_cons, List.length_nil, List.set_cons_zero, List.set_cons_succ, List.replicate, List.cons_append, List.nil_append, Nat.reduceAdd, Nat.reduceSub, Nat.sub_self, Nat.sub_zero, zero_add', ↓reduceIte, Bool.false_eq_true, item0, item1, addD_ii, subD_ii, negD_i, absD_i, ltD_ii, leD_ii, gtD_ii, geD_ii, truD_bl, decide_true, decide_false]
    rfl
  rw [s0, wps_nx, wps_seq]
  refine wps_for_st (xs := os) (g := offD) (h1 := h) (seq_tup rfl) ((0, 1) : Rat × Rat) (fun s ρ h' => (∃ a4 a5 a6 a7 a8, ρ = [some (dealD os), some (fr f), some (fr s.1), some (fr s.2), a4, a5, a6, a7, a8]) ∧ h' = h) (ofS f)
    (fun s rest => (∀ o ∈ rest, Ofr o) ∧ ∃ F, 0 < F ∧ F * De rest < 2 ^ 500 ∧ Bq F 1 s.2 ∧ Iq F s.1 ∧ 0 ≤ s.1 ∧ s.1 + 1000 * s.2 ≤ 1000) ⟨k, 1, Nat.one_pos, by rw [Nat.one_mul]; exact De_500 k l8, Bq.one' Nat.one_pos, Iq.zero, Rat.le_refl, by decide +kernel⟩ ⟨⟨_, _, _, _, _, rfl⟩, rfl⟩ ?_ ?_
  · rintro ⟨x, y⟩ o rest ρ h' ⟨j1, F, F0, FE, yb, xi, x0, xl⟩ ⟨⟨a4, a5, a6, a7, a8, rfl⟩, rfl⟩
    have ko := j1 o List.mem_cons_self
    have l5 := ko.l5
    have F' : 0 < F * Do o := Nat.mul_pos F0 (Dd_pos _)
    have FE' : F * Do o * De rest < 2 ^ 500 := by rw [Nat.mul_assoc]; exact FE
    have FB := lt_of_mul (De_pos rest) FE'
    have FA := lt_of_mul (Dd_pos _) FB
    have kf := ko.prs.filter (geq f)
    have gsb := gs_in ko (geq f)
    have meb := kf.me
    have mel := me_le ko (geq f)
    have y0 : 0 ≤ y := yb.lo
    have xl' : x + 1000 * y ≤ 1000 := xl
    have x0' : 0 ≤ x := x0
    have xb : Bq F 1000 x := ⟨xi, x0', by
      have : x ≤ 1000 := by grind
      simpa using this⟩
    have dO : Do o < 2 ^ 1500 := Nat.lt_of_lt_of_le ko.dn (Nat.pow_le_pow_right (by decide) (by decide))
    have sy : Sz 2000 y := yb.s F0 (p500 FA) (by decide)
    refine ⟨[some (dealD os), some (fr f), some (fr x), some (fr y), some (offD o), a5, a6, a7, a8], rfl, ?_⟩
    have c := compT (α := Int × Rat) (ci := iSeq (eV 4)) (p := .tp [.nm 7, .nm 8]) (own := [7, 8]) (ct := notT (tru (eCall 2 m__law_less (aC (eTup (aC (eV 7) (aC (eC (.int 1)) aN))) (aC (eV 1) aN))))) (t := geq f) (ce := eTup (aC (eV 7) (aC (eV 8) aN))) (ρ := [some (dealD os), some (fr f), some (fr x), some (fr y), some (offD o), a5, a6, a7, a8]) (h := h') (xs := o) (g := pairD) (f := pairD)
      (seq_tup rfl) (by omega) fun p hp => ⟨_, rfl, by
        have v := ko.val p hp
        simp only [wipeD, eV0, eVs, bind_ok', then_ok, q_e2, q_e1, q_eC, q_aC, q_aN, q_sPar2, q_sPar3, q_sSet, q_sRet, q_eBf, q_nBf, q_eCall, q_tst, q_tru, q_ifV, q_sIf, q_eTup, q_sPass, q_sExp, q_eLm, q_nLst, q_frz, q_thaw, q_iSeq, q_iR2, q_iR3, q_iEnumD, q_iZip, q_andX, q_andT, q_orT, q_notT, q_eCh, q_sPat, q_eSl, q_nSl, q_pS, q_pN, q_sRetN, q_tYes, q_eDct0, okL0, okL1, okL2, okL3, okL4, okL5, okL6, ent, List.map_cons, List.map_nil, List.length_cons, List.length_nil, List.set_cons_zero, List.set_cons_succ, List.replicate, List.cons_append, List.nil_append, Nat.reduceAdd, Nat.reduceSub, Nat.sub_self, Nat.sub_zero, zero_add', ↓reduceIte, Bool.false_eq_true, item0, item1, addD_ii, subD_ii, negD_i, absD_i, ltD_ii, leD_ii, gtD_ii, geD_ii, truD_bl, decide_true, decide_false, fr_int, lless_eq (int_s v.1 (by omega)) sf (by decide), truD_bl]
        rfl, fun _ => by simp only [wipeD, eV0, eVs, bind_ok', then_ok, q_e2, q_e1, q_eC, q_aC, q_aN, q_sPar2, q_sPar3, q_sSet, q_sRet, q_eBf, q_nBf, q_eCall, q_tst, q_tru, q_ifV, q_sIf, q_eTup, q_sPass, q_sExp, q_eLm, q_nLst, q_frz, q_thaw, q_iSeq, q_iR2, q_iR3, q_iEnumD, q_iZip, q_andX, q_andT, q_orT, q_notT, q_eCh, q_sPat, q_eSl, q_nSl, q_pS, q_pN, q_sRetN, q_tYes, q_eDct0, okL0, okL1, okL2, okL3, okL4, okL5, okL6, ent, List.map_cons, List.map_nil, List.length_cons, List.length_nil, List.set_cons_zero, List.set_cons_succ, List.replicate, List.cons_append, List.nil_append, Nat.reduceAdd, Nat.reduceSub, Nat.sub_self, Nat.sub_zero, zero_add', ↓reduceIte, Bool.false_eq_true, item0, item1, addD_ii, subD_ii, negD_i, absD_i, ltD_ii, leD_ii, gtD_ii, geD_ii, truD_bl, decide_true, decide_false]; rfl⟩
    rw [wps_seq, q_sSet, q_frz, c, bind_ok', then_ok, wps_nx, wps_seq]
    simp only [List.set_cons_zero, List.set_cons_succ]
    have g0 : sSet 6 (eTup (aC (eC (.int 0)) (aC (eC (.int 1)) aN))) [some (dealD os), some (fr f), some (fr x), some (fr y), some (offD o), some (.lst ((o.filter (geq f)).map pairD)), a6, a7, a8] h' = .nx [some (dealD os), some (fr f), some (fr x), some (fr y), some (offD o), some (.lst ((o.filter (geq f)).map pairD)), some (fr 0), a7, a8] h' := by
      simp only [eV0, eVs, bind_ok', then_ok, q_e2, q_e1, q_eC, q_aC, q_aN, q_sPar2, q_sPar3, q_sSet, q_sRet, q_eBf, q_nBf, q_eCall, q_tst, q_tru, q_ifV, q_sIf, q_eTup, q_sPass, q_sExp, q_eLm, q_nLst, q_frz, q_thaw, q_iSeq, q_iR2, q_iR3, q_iEnumD, q_iZip, q_andX, q_andT, q_orT, q_notT, q_eCh, q_sPat, q_eSl, q_nSl, q_pS, q_pN, q_sRetN, q_tYes, q_eDct0, okL0, okL1, okL2, okL3, okL4, okL5, okL6, ent, List.map_cons, List.map_nil, List.length_cons, List.length_nil, List.set_cons_zero, List.set_cons_succ, List.replicate, List.cons_append, List.nil_append, Nat.reduceAdd, Nat.reduceSub, Nat.sub_self, Nat.sub_zero, zero_add', ↓reduceIte, Bool.false_eq_true, item0, item1, addD_ii, subD_ii, negD_i, absD_i, ltD_ii, leD_ii, gtD_ii, geD_ii, truD_bl, decide_true, decide_false]
      rfl
    rw [g0, wps_nx, wps_seq]
    refine wps_for_st (xs := o.filter (geq f)) (g := pairD) (h1 := h') (seq_lst (by simp only [eV0, eVs, bind_ok', then_ok, q_e2, q_e1, q_eC, q_aC, q_aN, q_sPar2, q_sPar3, q_sSet, q_sRet, q_eBf, q_nBf, q_eCall, q_tst, q_tru, q_ifV, q_sIf, q_eTup, q_sPass, q_sExp, q_eLm, q_nLst, q_frz, q_thaw, q_iSeq, q_iR2, q_iR3, q_iEnumD, q_iZip, q_andX, q_andT, q_orT, q_notT, q_eCh, q_sPat, q_eSl, q_nSl, q_pS, q_pN, q_sRetN, q_tYes, q_eDct0, okL0, okL1, okL2, okL3, okL4, okL5, okL6, ent, List.map_cons, List.map_nil, List.length_cons, List.length_nil, List.set_cons_zero, List.set_cons_succ, List.replicate, List.cons_append, List.nil_append, Nat.reduceAdd, Nat.reduceSub, Nat.sub_self, Nat.sub_zero, zero_add', ↓reduceIte, Bool.false_eq_true, item0, item1, addD_ii, subD_ii, negD_i, absD_i, ltD_ii, leD_ii, gtD_ii, geD_ii, truD_bl, decide_true, decide_false])) ((x, 0) : Rat × Rat) (fun s ρ g => (∃ a7 a8, ρ = [some (dealD os), some (fr f), some (fr s.1), some (fr y), some (offD o), some (.lst ((o.filter (geq f)).map pairD)), some (fr s.2), a7, a8]) ∧ g = h') (inS y)
      (fun s rest => (∀ p ∈ rest, p ∈ o) ∧ ∃ m, Bq (F * Do o) m s.1 ∧ Bq (Do o) m s.2 ∧ m + 1000 * rest.length ≤ 100000) ⟨fun p hp => (List.mem_filter.mp hp).1, 1000, xb.up (Nat.dvd_mul_right _ _) F' (Nat.le_refl _), Bq.zero' (Dd_pos _) _, by have := kf.len; omega⟩ ⟨⟨_, _, rfl⟩, rfl⟩ ?_ ?_
    · rintro ⟨x1, g1⟩ p rest2 ρ g ⟨i1, m, xb1, gb1, ml⟩ ⟨⟨a7, a8, rfl⟩, rfl⟩
      rw [List.length_cons] at ml
      have hp := i1 p List.mem_cons_self
      have v := ko.val p hp
      have tb := ko.prs.term hp
      have ts : Sz 2000 ((p.1 : Rat) * p.2) := tb.s (Dd_pos _) dO (by decide)
      have pb := yb.mul tb
      have ps : Sz 2000 (y * ((p.1 : Rat) * p.2)) := pb.s F' (p500 FB) (by decide)
      have xs1 : Sz 2000 x1 := xb1.s F' (p500 FB) (by omega)
      have gs1 : Sz 2000 g1 := gb1.s (Dd_pos _) dO (by omega)
      have shb := ko.prs.sh p hp
      refine ⟨_, rfl, ?_⟩
      rw [wps_seq]
      simp only [eV0, eVs, bind_ok', then_ok, q_e2, q_e1, q_eC, q_aC, q_aN, q_sPar2, q_sPar3, q_sSet, q_sRet, q_eBf, q_nBf, q_eCall, q_tst, q_tru, q_ifV, q_sIf, q_eTup, q_sPass, q_sExp, q_eLm, q_nLst, q_frz, q_thaw, q_iSeq, q_iR2, q_iR3, q_iEnumD, q_iZip, q_andX, q_andT, q_orT, q_notT, q_eCh, q_sPat, q_eSl, q_nSl, q_pS, q_pN, q_sRetN, q_tYes, q_eDct0, okL0, okL1, okL2, okL3, okL4, okL5, okL6, ent, List.map_cons, List.map_nil, List.length_cons, List.length_nil, List.set_cons_zero, List.set_cons_succ, List.replicate, List.cons_append, List.nil_append, Nat.reduceAdd, Nat.reduceSub, Nat.sub_self, Nat.sub_zero, zero_add', ↓reduceIte, Bool.false_eq_true, item0, item1, addD_ii, subD_ii, negD_i, absD_i, ltD_ii, leD_ii, gtD_ii, geD_ii, truD_bl, decide_true, decide_false, wp_ok, wp_bad, wp_bind, wp_nox, wp_def, wps_then, wps_seq, wps_nx, wps_ret, wp_ite, wps_ite, List.set_cons_zero, List.set_cons_succ, fr_int, lprod_eq (int_s v.1 (by omega)) (share_s ko hp) (by decide), lprod_eq sy ts (by decide), lsum_eq xs1 ps (by decide), lsum_eq gs1 (share_s ko hp) (by decide)]
      refine ⟨⟨⟨_, _, rfl⟩, trivial⟩, fun q hq => i1 q (List.mem_cons_of_mem _ hq), m + 1000, ?_, gb1.add (shb.up (Nat.dvd_refl _) (Dd_pos _) (by decide)), by omega⟩
      exact xb1.add (pb.up (Nat.dvd_refl _) F' (by omega))
    · rintro ρ g ⟨⟨a7, a8, rfl⟩, rfl⟩ -
      rw [in_fold]
      have e0 : (0 : Rat) + ss (o.filter (geq f)) = ss (o.filter (geq f)) := by grind
      rw [e0]
      have rb := gsb.rest (Dd_pos _)
      have rs : Sz 2000 (1 - ss (o.filter (geq f))) := rb.s (Dd_pos _) dO (by decide)
      have ssz : Sz 2000 (ss (o.filter (geq f))) := gsb.s (Dd_pos _) dO (by decide)
      have dp := den_pos (ss (o.filter (geq f)))
      have le := low_eq ((ss (o.filter (geq f))).den - (ss (o.filter (geq f))).num) (ss (o.filter (geq f))).den g (by omega) (Nat.lt_of_lt_of_le (show (((ss (o.filter (geq f))).den : Int)).natAbs < 2 ^ 2000 from ssz.2) (Nat.pow_le_pow_right (by decide) (by decide)))
      rw [← one_sub] at le
      simp only [eV0, eVs, bind_ok', then_ok, q_e2, q_e1, q_eC, q_aC, q_aN, q_sPar2, q_sPar3, q_sSet, q_sRet, q_eBf, q_nBf, q_eCall, q_tst, q_tru, q_ifV, q_sIf, q_eTup, q_sPass, q_sExp, q_eLm, q_nLst, q_frz, q_thaw, q_iSeq, q_iR2, q_iR3, q_iEnumD, q_iZip, q_andX, q_andT, q_orT, q_notT, q_eCh, q_sPat, q_eSl, q_nSl, q_pS, q_pN, q_sRetN, q_tYes, q_eDct0, okL0, okL1, okL2, okL3, okL4, okL5, okL6, ent, List.map_cons, List.map_nil, List.length_cons, List.length_nil, List.set_cons_zero, List.set_cons_succ, List.replicate, List.cons_append, List.nil_append, Nat.reduceAdd, Nat.reduceSub, Nat.sub_self, Nat.sub_zero, zero_add', ↓reduceIte, Bool.false_eq_true, item0, item1, addD_ii, subD_ii, negD_i, absD_i, ltD_ii, leD_ii, gtD_ii, geD_ii, truD_bl, decide_true, decide_false, wp_ok, wp_bad, wp_bind, wp_nox, wp_def, wps_then, wps_seq, wps_nx, wps_ret, wp_ite, wps_ite, List.set_cons_zero, List.set_cons_succ, fr_num, fr_den, le, lprod_eq sy rs (by decide)]
      have pb := yb.mul meb
      have yb' := yb.mul rb
      refine ⟨⟨⟨_, _, _, _, _, rfl⟩, trivial⟩, fun q hq => j1 q (List.mem_cons_of_mem _ hq), F * Do o, F', FE', yb', (xi.up (Nat.dvd_mul_right _ _) F').add (by simpa using pb.iq), ?_, ?_⟩
      · have := pb.lo
        show 0 ≤ x + y * me (o.filter (geq f))
        grind
      · show x + y * me (o.filter (geq f)) + 1000 * (y * (1 - ss (o.filter (geq f)))) ≤ 1000
        have z := Rat.mul_le_mul_of_nonneg_left mel y0
        have e : y * (1000 * ss (o.filter (geq f))) = 1000 * (y * ss (o.filter (geq f))) := by grind
        have e2 : y * (1 - ss (o.filter (geq f))) = y - y * ss (o.filter (geq f)) := by grind
        have z' : y * me (o.filter (geq f)) ≤ 1000 * (y * ss (o.filter (geq f))) := by rw [← e]; exact z
        rw [e2]
        grind
  · rintro ρ g ⟨⟨a4, a5, a6, a7, a8, rfl⟩, rfl⟩ -
    have e : (os.foldl (ofS f) (0, 1)).1 = ofl os f := by
      rw [of_fold f os (0, 1) k]
      show (0 : Rat) + 1 * ofl os f = ofl os f
      grind
    rw [e]
    simp only [eV0, eVs, bind_ok', then_ok, q_e2, q_e1, q_eC, q_aC, q_aN, q_sPar2, q_sPar3, q_sSet, q_sRet, q_eBf, q_nBf, q_eCall, q_tst, q_tru, q_ifV, q_sIf, q_eTup, q_sPass, q_sExp, q_eLm, q_nLst, q_frz, q_thaw, q_iSeq, q_iR2, q_iR3, q_iEnumD, q_iZip, q_andX, q_andT, q_orT, q_notT, q_eCh, q_sPat, q_eSl, q_nSl, q_pS, q_pN, q_sRetN, q_tYes, q_eDct0, okL0, okL1, okL2, okL3, okL4, okL5, okL6, ent, List.map_cons, List.map_nil, List.length_cons, List.length_nil, List.set_cons_zero, List.set_cons_succ, List.replicate, List.cons_append, List.nil_append, Nat.reduceAdd, Nat.reduceSub, Nat.sub_self, Nat.sub_zero, zero_add', ↓reduceIte, Bool.false_eq_true, item0, item1, addD_ii, subD_ii, negD_i, absD_i, ltD_ii, leD_ii, gtD_ii, geD_ii, truD_bl, decide_true, decide_false, wp_ok, wp_bad, wp_bind, wp_nox, wp_def, wps_then, wps_seq, wps_nx, wps_ret, wp_ite, wps_ite]
    exact ⟨trivial, trivial⟩
/-! ### no floor has more than the worth -/
theorem ofl_le_w : ∀ {os : List Offer} (f : Rat), (∀ o ∈ os, Ofr o) → ofl os f ≤ w os
  | [], _, _ => Rat.le_refl
  | o :: os, f, h => ex_mono (h o List.mem_cons_self) fun p hp => by
    have z := ofl_le_w f fun x hx => h x (List.mem_cons_of_mem _ hx)
    have m := mxq_ge (p.1 : Rat) (w os)
    split
    · exact Rat.le_trans z m.2
    · exact m.1
theorem ofl_above : ∀ {os : List Offer} {f : Rat}, (∀ o ∈ os, Ofr o) → 1000 < f → ofl os f = 0
  | [], _, _, _ => rfl
  | o :: os, f, h, l => by
    have ko := h o List.mem_cons_self
    have e : (ex o fun v => if (v : Rat) < f then ofl os f else v) = ex o fun _ => (0 : Rat) := ex_congr fun p hp => by
      have v := Rat.intCast_le_intCast.mpr (ko.val p hp).2
      have lt : (p.1 : Rat) < f := by
        have v' : (p.1 : Rat) ≤ 1000 := by simpa using v
        grind
      show (if (p.1 : Rat) < f then ofl os f else (p.1 : Rat)) = 0
      rw [if_pos lt, ofl_above (fun x hx => h x (List.mem_cons_of_mem _ hx)) l]
    show (ex o fun v => if (v : Rat) < f then ofl os f else v) = 0
    rw [e, ex_const ko]
end Pl

/-! The law k13, plainly. -/
namespace Pl
open Dl Sh

def optRow : Option (Rat × Int) → D
  | none => .non
  | some r => rowD r
def bfO (os : List Offer) (s : Option (Rat × Int)) (v : Int) : Option (Rat × Int) := match s with
  | none => some (ofl os (v : Rat), v)
  | some t => some (bfS os t v)
theorem bfO_fold (os : List Offer) : ∀ (vs : List Int) (t : Rat × Int), vs.foldl (bfO os) (some t) = some (vs.foldl (bfS os) t)
  | [], _ => rfl
  | v :: vs, t => bfO_fold os vs (bfS os t v)
theorem bfO_all {os : List Offer} (k : Dl8 os) : (vals os).foldl (bfO os) none = some (bfl os (vals os)) := by
  obtain ⟨v, vs, e⟩ := vals_ne k
  rw [e]
  exact bfO_fold os vs _
theorem bfS_at (os : List Offer) : ∀ (vs : List Int) (t : Rat × Int), (∃ f, t.1 = ofl os f) → ∃ f, (vs.foldl (bfS os) t).1 = ofl os f
  | [], _, h => h
  | v :: vs, t, h => by
    refine bfS_at os vs _ ?_
    unfold bfS
    split
    · exact ⟨_, rfl⟩
    · exact h
theorem bfl_at {os : List Offer} (k : Dl8 os) : ∃ f, (bfl os (vals os)).1 = ofl os f := by
  obtain ⟨v, vs, e⟩ := vals_ne k
  rw [e]
  exact bfS_at os vs _ ⟨_, rfl⟩
theorem lw_row (r : Rat × Int) : Lw 2 (rowD r) := .tup (by simp) fun x hx => by
  rcases List.mem_cons.mp hx with e | hx
  · subst e; exact lw_fr _
  · rw [List.mem_singleton.mp hx]
    exact .tup (by simp) fun y hy => by
      rcases List.mem_cons.mp hy with e | hy
      · subst e; exact .int _
      · rw [List.mem_singleton.mp hy]; exact .int _
def coin : Offer := [(0, 1 / 2), (4, 1 / 2)]
theorem coin_ok : Ofr coin := ⟨by decide, by decide, by decide +kernel, by decide +kernel, by decide +kernel, by decide +kernel, by decide +kernel⟩
theorem coins_ok : Dl8 [coin, coin] := ⟨by decide, by decide, fun o ho => by
  rcases List.mem_cons.mp ho with e | e
  · rw [e]; exact coin_ok
  · rw [List.mem_singleton.mp e]; exact coin_ok⟩
theorem coin_D : D.tup [.tup [.int 0, .tup [.int 1, .int 2]], .tup [.int 4, .tup [.int 1, .int 2]]] = offD coin := by decide +kernel
theorem pos_frac {d e : Int} (h0 : 0 ≤ d) (h1 : d < 1000) (e0 : 1 ≤ e) (e1 : e < 1000) : 0 ≤ Rat.divInt d e ∧ Sz 2000 (Rat.divInt d e) := by
  refine ⟨Rat.divInt_nonneg h0 (by omega), (sz_divInt (k := 20) ?_ ?_ (by omega)).mono (by decide)⟩
  · have : (2 : Nat) ^ 20 = 1048576 := by decide
    omega
  · have : (2 : Nat) ^ 20 = 1048576 := by decide
    omega
theorem law_k13 (ns : List Int) (hl : ns.length ≤ 63) (hb : ∀ z ∈ ns, PySem.Builtin.Int.intBits z ≤ 1048576) : ∃ h', m_law_k13 [.scr ns] [] = .ok (.bl true) h' := by
  suffices wq : Wp (m_law_k13 [.scr ns] []) fun d _ => d = .bl true by
    obtain ⟨d, h', e, rfl⟩ := wp_ex wq
    exact ⟨h', e⟩
  unfold m_law_k13 c_law_k13
  have en : ent 14 [D.scr ns] = [some (.scr ns), none, none, none, none, none, none, none, none, none, none, none, none, none] := rfl
  rw [wp_def, en, wps_seq]
  simp only [q_sSet, q_eCall, q_aC, q_aN, eV0, bind_ok', wps_then, List.length_cons, List.length_nil, Nat.reduceAdd, decide_true, ↓reduceIte]
  refine hand_spec2 hl hb fun h t one => ?_
  simp only [wps_nx, List.set_cons_zero, List.set_cons_succ]
  rw [wps_seq, wps_for, iR1_eq (n := 3) (h' := h) (by simp only [eV0, eVs, bind_ok', then_ok, q_e2, q_e1, q_eC, q_aC, q_aN, q_sPar2, q_sPar3, q_sSet, q_sRet, q_eBf, q_nBf, q_eCall, q_tst, q_tru, q_ifV, q_sIf, q_eTup, q_sPass, q_sExp, q_eLm, q_nLst, q_frz, q_thaw, q_iSeq, q_iR2, q_iR3, q_iEnumD, q_iZip, q_andX, q_andT, q_orT, q_notT, q_eCh, q_sPat, q_eSl, q_nSl, q_pS, q_pN, q_sRetN, q_tYes, q_eDct0, okL0, okL1, okL2, okL3, okL4, okL5, okL6, ent, List.map_cons, List.map_nil, List.length_cons, List.length_nil, List.set_cons_zero, List.set_cons_succ, List.replicate, List.cons_append, List.nil_append, Nat.reduceAdd, Nat.reduceSub, Nat.sub_self, Nat.sub_zero, zero_add', ↓reduceIte, Bool.false_eq_true, item0, item1, addD_ii, subD_ii, negD_i, absD_i, ltD_ii, leD_ii, gtD_ii, geD_ii, truD_bl, decide_true, decide_false]; rfl) (by decide), wp_ok]
  refine wps_loop (fun j ρ h' => Hd h' (1000 * j) ∧ ∃ a2 a3 a4 a5 a6 a7 a8 a9 a10 a11 a12, ρ = [some (.scr ns), some (.obj 0), a2, a3, a4, a5, a6, a7, a8, a9, a10, a11, a12, none]) _ 0 _ _ ?_ ?_ ⟨t, _, _, _, _, _, _, _, _, _, _, _, rfl⟩
  · rintro j x ρ h1 hx ⟨t1, a2, a3, a4, a5, a6, a7, a8, a9, a10, a11, a12, rfl⟩
    rw [Nat.zero_add] at t1 ⊢
    have hj := (List.getElem?_eq_some_iff.mp hx).1
    rw [rng_len] at hj
    refine ⟨rfl, [some (.scr ns), some (.obj 0), some x, a3, a4, a5, a6, a7, a8, a9, a10, a11, a12, none], rfl, ?_⟩
    rw [wps_seq, q_sPar2, wps_then, q_aC, wp_bind]
    simp only [eV0, eVs, bind_ok', then_ok, q_e2, q_e1, q_eC, q_aC, q_aN, q_sPar2, q_sPar3, q_sSet, q_sRet, q_eBf, q_nBf, q_eCall, q_tst, q_tru, q_ifV, q_sIf, q_eTup, q_sPass, q_sExp, q_eLm, q_nLst, q_frz, q_thaw, q_iSeq, q_iR2, q_iR3, q_iEnumD, q_iZip, q_andX, q_andT, q_orT, q_notT, q_eCh, q_sPat, q_eSl, q_nSl, q_pS, q_pN, q_sRetN, q_tYes, q_eDct0, okL0, okL1, okL2, okL3, okL4, okL5, okL6, ent, List.map_cons, List.map_nil, List.length_cons, List.length_nil, List.set_cons_zero, List.set_cons_succ, List.replicate, List.cons_append, List.nil_append, Nat.reduceAdd, Nat.reduceSub, Nat.sub_self, Nat.sub_zero, zero_add', ↓reduceIte, Bool.false_eq_true, item0, item1, addD_ii, subD_ii, negD_i, absD_i, ltD_ii, leD_ii, gtD_ii, geD_ii, truD_bl, decide_true, decide_false, wp_ok, wp_bad, wp_bind, wp_nox, wp_def, wps_then, wps_seq, wps_nx, wps_ret, wp_ite, wps_ite]
    refine deal_spec t1 (by decide) (by decide) (by decide) (by decide) (by omega) fun os h2 k lm t2 g2 => ?_
    have al := allv_len k.ofr
    have l8 := k.l8
    -- the deal
    have mk := makeD_eq (ca := aC (eV 3) aN) (ρ := [some (.scr ns), some (.obj 0), some x, some (dealD os), some (.obj h2.length), a5, a6, a7, a8, a9, a10, a11, a12, none]) (h0 := h2 ++ [.dI []]) (h := h2 ++ [.dI []]) k (by simp only [eV0, eVs, bind_ok', then_ok, q_e2, q_e1, q_eC, q_aC, q_aN, q_sPar2, q_sPar3, q_sSet, q_sRet, q_eBf, q_nBf, q_eCall, q_tst, q_tru, q_ifV, q_sIf, q_eTup, q_sPass, q_sExp, q_eLm, q_nLst, q_frz, q_thaw, q_iSeq, q_iR2, q_iR3, q_iEnumD, q_iZip, q_andX, q_andT, q_orT, q_notT, q_eCh, q_sPat, q_eSl, q_nSl, q_pS, q_pN, q_sRetN, q_tYes, q_eDct0, okL0, okL1, okL2, okL3, okL4, okL5, okL6, ent, List.map_cons, List.map_nil, List.length_cons, List.length_nil, List.set_cons_zero, List.set_cons_succ, List.replicate, List.cons_append, List.nil_append, Nat.reduceAdd, Nat.reduceSub, Nat.sub_self, Nat.sub_zero, zero_add', ↓reduceIte, Bool.false_eq_true, item0, item1, addD_ii, subD_ii, negD_i, absD_i, ltD_ii, leD_ii, gtD_ii, geD_ii, truD_bl, decide_true, decide_false])
    rw [mk, wp_ok]
    have da := newD_at (h := h2 ++ [.dI []]) (os := os)
    have l2 : (h2 ++ [DO.dI []]).length = h2.length + 1 := by rw [List.length_append, List.length_singleton]
    have dc : (newD (h2 ++ [.dI []]) os)[h2.length]? = some (.dI (kv [])) := by
      unfold newD
      rw [List.append_assoc]
      exact get_last
    have t3 : Hd (newD (h2 ++ [.dI []]) os) (1000 * j + 300) := hand_b.app (hand_b.app t2)
    have ln : h2.length < (newD (h2 ++ [.dI []]) os).length := (List.getElem?_eq_some_iff.mp dc).1
    rw [l2] at da ⊢
    have one2 : 1 ≤ h2.length := t2.one
    generalize newD (h2 ++ [DO.dI []]) os = h3 at da dc t3 ln ⊢
    generalize hn : h2.length = n at da dc ln one2 ⊢
    -- its values
    obtain ⟨ρ', ⟨a6, a7, a8, rfl⟩, el⟩ := gather (bi := sStore (eC (.bl true)) (eV 4) (eV 7)) (bo := sFor (iSeq (eV 6)) (.tp [.nm 7, .nm 8]) (sStore (eC (.bl true)) (eV 4) (eV 7))) (pi := .tp [.nm 7, .nm 8]) (po := .nm 6) (h := h3) (n := n) (g1 := offD) (g2 := pairD)
      (fun ρ => ∃ a6 a7 a8, ρ = [some (.scr ns), some (.obj 0), some x, some (dealD os), some (.obj n), some (.obj (n + 1)), a6, a7, a8, a9, a10, a11, a12, none]) ln ⟨[], dc⟩
      (fun p ρ h' ks ⟨a6, a7, a8, er⟩ eh lk => by
        subst er
        refine ⟨_, [some (.scr ns), some (.obj 0), some x, some (dealD os), some (.obj n), some (.obj (n + 1)), a6, some (.int p.1), some (fr p.2), a9, a10, a11, a12, none], rfl, ?_, ⟨_, _, _, rfl⟩⟩
        have st := set_kv (v := p.1) eh lk
        unfold sStore
        simp only [eV0, eVs, bind_ok', then_ok, q_e2, q_e1, q_eC, q_aC, q_aN, q_sPar2, q_sPar3, q_sSet, q_sRet, q_eBf, q_nBf, q_eCall, q_tst, q_tru, q_ifV, q_sIf, q_eTup, q_sPass, q_sExp, q_eLm, q_nLst, q_frz, q_thaw, q_iSeq, q_iR2, q_iR3, q_iEnumD, q_iZip, q_andX, q_andT, q_orT, q_notT, q_eCh, q_sPat, q_eSl, q_nSl, q_pS, q_pN, q_sRetN, q_tYes, q_eDct0, okL0, okL1, okL2, okL3, okL4, okL5, okL6, ent, List.map_cons, List.map_nil, List.length_cons, List.length_nil, List.set_cons_zero, List.set_cons_succ, List.replicate, List.cons_append, List.nil_append, Nat.reduceAdd, Nat.reduceSub, Nat.sub_self, Nat.sub_zero, zero_add', ↓reduceIte, Bool.false_eq_true, item0, item1, addD_ii, subD_ii, negD_i, absD_i, ltD_ii, leD_ii, gtD_ii, geD_ii, truD_bl, decide_true, decide_false, st])
      (fun o ρ h' ⟨a6, a7, a8, er⟩ => by
        subst er
        exact ⟨[some (.scr ns), some (.obj 0), some x, some (dealD os), some (.obj n), some (.obj (n + 1)), some (offD o), a7, a8, a9, a10, a11, a12, none], rfl, ⟨_, _, _, rfl⟩, for_of (seq_tup rfl)⟩)
      os [some (.scr ns), some (.obj 0), some x, some (dealD os), some (.obj n), some (.obj (n + 1)), a6, a7, a8, a9, a10, a11, a12, none] [] ⟨_, _, _, rfl⟩ (by simp; omega)
    have e0 : h3.set n (.dI (kv [])) = h3 := by
      refine List.ext_getElem? fun j => ?_
      by_cases z : n = j
      · subst z
        rw [List.getElem?_set_self ln, dc]
      · rw [List.getElem?_set_ne z]
    rw [e0] at el
    rw [for_of (show iSeq (eV 3) [some (.scr ns), some (.obj 0), some x, some (dealD os), some (.obj n), some (.obj (n + 1)), _, _, _, a9, a10, a11, a12, none] h3 = .ok ⟨os.map offD, []⟩ h3 from seq_tup rfl), el, wps_nx]
    have da4 : DealAt (h3.set n (.dI (kv ((allv os).foldl addK [])))) (n + 1) os := by
      obtain ⟨fs, q1, q2⟩ := da
      exact ⟨fs, by rw [List.getElem?_set_ne (by omega)]; exact q1, q2⟩
    have t4 : Hd (h3.set n (.dI (kv ((allv os).foldl addK [])))) (1000 * j + 300) := hand_b.set t3 one2
    have dc4 : (h3.set n (.dI (kv ((allv os).foldl addK []))))[n]? = some (.dI (kv ((allv os).foldl addK []))) := List.getElem?_set_self ln
    generalize h3.set n (.dI (kv ((allv os).foldl addK []))) = h4 at da4 t4 dc4 ⊢
    obtain ⟨n1, n2, n3⟩ := addKs (allv os) [] List.nodup_nil
    have so := sort_kv (h := h4) (n := n) (ks := (allv os).foldl addK []) dc4 n1 (by simp at n3; omega)
    have ue : usort ((allv os).foldl addK []) = vals os := usort_eq fun z => by rw [n2 z]; simp
    rw [ue] at so
    simp only [List.set_cons_zero, List.set_cons_succ]
    have is : iSeq (frz (nBf sortDF (aC (eV 4) aN))) [some (.scr ns), some (.obj 0), some x, some (dealD os), some (.obj n), some (.obj (n + 1)), a6, a7, a8, some .non, a10, a11, a12, none] h4 = .ok ⟨(vals os).map D.int, []⟩ h4 := seq_lst (by simp only [eV0, eVs, bind_ok', then_ok, q_e2, q_e1, q_eC, q_aC, q_aN, q_sPar2, q_sPar3, q_sSet, q_sRet, q_eBf, q_nBf, q_eCall, q_tst, q_tru, q_ifV, q_sIf, q_eTup, q_sPass, q_sExp, q_eLm, q_nLst, q_frz, q_thaw, q_iSeq, q_iR2, q_iR3, q_iEnumD, q_iZip, q_andX, q_andT, q_orT, q_notT, q_eCh, q_sPat, q_eSl, q_nSl, q_pS, q_pN, q_sRetN, q_tYes, q_eDct0, okL0, okL1, okL2, okL3, okL4, okL5, okL6, ent, List.map_cons, List.map_nil, List.length_cons, List.length_nil, List.set_cons_zero, List.set_cons_succ, List.replicate, List.cons_append, List.nil_append, Nat.reduceAdd, Nat.reduceSub, Nat.sub_self, Nat.sub_zero, zero_add', ↓reduceIte, Bool.false_eq_true, item0, item1, addD_ii, subD_ii, negD_i, absD_i, ltD_ii, leD_ii, gtD_ii, geD_ii, truD_bl, decide_true, decide_false, so])
    refine wps_for_st (xs := vals os) (g := D.int) (h1 := h4) is (none : Option (Rat × Int)) (fun s ρ g => (∃ a7 a10, ρ = [some (.scr ns), some (.obj 0), some x, some (dealD os), some (.obj n), some (.obj (n + 1)), a6, a7, a8, some (optRow s), a10, a11, a12, none]) ∧ g = h4) (bfO os) (fun s rest => (∀ v ∈ rest, v ∈ vals os) ∧ ∀ r, s = some r → ∃ f, r.1 = ofl os f) ⟨fun _ h => h, fun _ e => nomatch e⟩ ⟨⟨_, _, rfl⟩, rfl⟩ ?_ ?_
    · rintro s v rest ρ g ⟨j1, j2⟩ ⟨⟨a7, a10, rfl⟩, rfl⟩
      have v1 := vals_ok k.ofr (j1 v List.mem_cons_self)
      have sv := int_s v1.1 (by omega)
      have lb := law_by_floor_eq k.ofr k.l8 sv g
      have bf := by_floor_eq k da4 sv (by
        have := Rat.intCast_le_intCast (a := 0) (b := v) |>.mpr v1.1
        simpa using this)
      refine ⟨_, rfl, ?_⟩
      rw [wps_seq]
      simp only [eV0, eVs, bind_ok', then_ok, q_e2, q_e1, q_eC, q_aC, q_aN, q_sPar2, q_sPar3, q_sSet, q_sRet, q_eBf, q_nBf, q_eCall, q_tst, q_tru, q_ifV, q_sIf, q_eTup, q_sPass, q_sExp, q_eLm, q_nLst, q_frz, q_thaw, q_iSeq, q_iR2, q_iR3, q_iEnumD, q_iZip, q_andX, q_andT, q_orT, q_notT, q_eCh, q_sPat, q_eSl, q_nSl, q_pS, q_pN, q_sRetN, q_tYes, q_eDct0, okL0, okL1, okL2, okL3, okL4, okL5, okL6, ent, List.map_cons, List.map_nil, List.length_cons, List.length_nil, List.set_cons_zero, List.set_cons_succ, List.replicate, List.cons_append, List.nil_append, Nat.reduceAdd, Nat.reduceSub, Nat.sub_self, Nat.sub_zero, zero_add', ↓reduceIte, Bool.false_eq_true, item0, item1, addD_ii, subD_ii, negD_i, absD_i, ltD_ii, leD_ii, gtD_ii, geD_ii, truD_bl, decide_true, decide_false, wp_ok, wp_bad, wp_bind, wp_nox, wp_def, wps_then, wps_seq, wps_nx, wps_ret, wp_ite, wps_ite, List.set_cons_zero, List.set_cons_succ, fr_int, lb, bf, is_fr, sPass, Bool.not_true]
      cases s with
      | none =>
        simp only [optRow, isD_non, isNone, wp_ok, ↓reduceIte, eV0, eVs, bind_ok', then_ok, q_e2, q_e1, q_eC, q_aC, q_aN, q_sPar2, q_sPar3, q_sSet, q_sRet, q_eBf, q_nBf, q_eCall, q_tst, q_tru, q_ifV, q_sIf, q_eTup, q_sPass, q_sExp, q_eLm, q_nLst, q_frz, q_thaw, q_iSeq, q_iR2, q_iR3, q_iEnumD, q_iZip, q_andX, q_andT, q_orT, q_notT, q_eCh, q_sPat, q_eSl, q_nSl, q_pS, q_pN, q_sRetN, q_tYes, q_eDct0, okL0, okL1, okL2, okL3, okL4, okL5, okL6, ent, List.map_cons, List.map_nil, List.length_cons, List.length_nil, List.set_cons_zero, List.set_cons_succ, List.replicate, List.cons_append, List.nil_append, Nat.reduceAdd, Nat.reduceSub, Nat.sub_self, Nat.sub_zero, zero_add', ↓reduceIte, Bool.false_eq_true, item0, item1, addD_ii, subD_ii, negD_i, absD_i, ltD_ii, leD_ii, gtD_ii, geD_ii, truD_bl, decide_true, decide_false, wp_ok, wp_bad, wp_bind, wp_nox, wp_def, wps_then, wps_seq, wps_nx, wps_ret, wp_ite, wps_ite]
        exact ⟨⟨⟨_, _, rfl⟩, trivial⟩, fun u hu => j1 u (List.mem_cons_of_mem _ hu), fun r e => by cases e; exact ⟨_, rfl⟩⟩
      | some r =>
        obtain ⟨f, ef⟩ := j2 r rfl
        have i0 : itemD (rowD r) (.int 0) g = .ok (fr r.1) g := item0
        have nn : isNone (rowD r) = false := rfl
        have s1 : Sz 2000 r.1 := by rw [ef]; exact ofl_s k f
        have le := lless_eq s1 (ofl_s k (v : Rat)) (by decide) g
        have goal : ∀ r' : Rat × Int, bfO os (some r) v = some r' → (∃ f, r'.1 = ofl os f) ∧ (∀ u ∈ rest, u ∈ vals os) := fun r' e => by
          cases e
          refine ⟨?_, fun u hu => j1 u (List.mem_cons_of_mem _ hu)⟩
          unfold bfS
          split
          · exact ⟨_, rfl⟩
          · exact ⟨f, ef⟩
        by_cases z : r.1 < ofl os (v : Rat)
        · have eb : bfO os (some r) v = some (ofl os (v : Rat), v) := by
            show some (bfS os r v) = _
            unfold bfS
            rw [if_pos z]
          simp only [optRow, isD_non, nn, wp_ok, Bool.false_eq_true, ↓reduceIte, i0, le, truD_bl, decide_eq_true z, eV0, eVs, bind_ok', then_ok, q_e2, q_e1, q_eC, q_aC, q_aN, q_sPar2, q_sPar3, q_sSet, q_sRet, q_eBf, q_nBf, q_eCall, q_tst, q_tru, q_ifV, q_sIf, q_eTup, q_sPass, q_sExp, q_eLm, q_nLst, q_frz, q_thaw, q_iSeq, q_iR2, q_iR3, q_iEnumD, q_iZip, q_andX, q_andT, q_orT, q_notT, q_eCh, q_sPat, q_eSl, q_nSl, q_pS, q_pN, q_sRetN, q_tYes, q_eDct0, okL0, okL1, okL2, okL3, okL4, okL5, okL6, ent, List.map_cons, List.map_nil, List.length_cons, List.length_nil, List.set_cons_zero, List.set_cons_succ, List.replicate, List.cons_append, List.nil_append, Nat.reduceAdd, Nat.reduceSub, Nat.sub_self, Nat.sub_zero, zero_add', ↓reduceIte, Bool.false_eq_true, item0, item1, addD_ii, subD_ii, negD_i, absD_i, ltD_ii, leD_ii, gtD_ii, geD_ii, truD_bl, decide_true, decide_false, wp_ok, wp_bad, wp_bind, wp_nox, wp_def, wps_then, wps_seq, wps_nx, wps_ret, wp_ite, wps_ite]
          refine ⟨⟨⟨some (.int v), some (fr (ofl os (v : Rat))), ?_⟩, trivial⟩, (goal _ eb).2, fun r' e => (goal r' e).1⟩
          rw [eb]
          rfl
        · have eb : bfO os (some r) v = some r := by
            show some (bfS os r v) = _
            unfold bfS
            rw [if_neg z]
          simp only [optRow, isD_non, nn, wp_ok, Bool.false_eq_true, ↓reduceIte, i0, le, truD_bl, decide_eq_false z, eV0, eVs, bind_ok', then_ok, q_e2, q_e1, q_eC, q_aC, q_aN, q_sPar2, q_sPar3, q_sSet, q_sRet, q_eBf, q_nBf, q_eCall, q_tst, q_tru, q_ifV, q_sIf, q_eTup, q_sPass, q_sExp, q_eLm, q_nLst, q_frz, q_thaw, q_iSeq, q_iR2, q_iR3, q_iEnumD, q_iZip, q_andX, q_andT, q_orT, q_notT, q_eCh, q_sPat, q_eSl, q_nSl, q_pS, q_pN, q_sRetN, q_tYes, q_eDct0, okL0, okL1, okL2, okL3, okL4, okL5, okL6, ent, List.map_cons, List.map_nil, List.length_cons, List.length_nil, List.set_cons_zero, List.set_cons_succ, List.replicate, List.cons_append, List.nil_append, Nat.reduceAdd, Nat.reduceSub, Nat.sub_self, Nat.sub_zero, zero_add', ↓reduceIte, Bool.false_eq_true, item0, item1, addD_ii, subD_ii, negD_i, absD_i, ltD_ii, leD_ii, gtD_ii, geD_ii, truD_bl, decide_true, decide_false, wp_ok, wp_bad, wp_bind, wp_nox, wp_def, wps_then, wps_seq, wps_nx, wps_ret, wp_ite, wps_ite, sPass]
          refine ⟨⟨⟨some (.int v), some (fr (ofl os (v : Rat))), ?_⟩, trivial⟩, (goal _ eb).2, fun r' e => (goal r' e).1⟩
          rw [eb]
    rintro ρ g ⟨⟨a7, a10, rfl⟩, rfl⟩ -
    rw [bfO_all k]
    obtain ⟨f, ef⟩ := bfl_at k
    obtain ⟨u, eb⟩ := best_floor_eq k da4
    obtain ⟨u2, ew⟩ := worth_eq k (da4.app (l := [u]))
    have i0 : ∀ g : Hs, itemD (rowD (bfl os (vals os))) (.int 0) g = .ok (fr (bfl os (vals os)).1) g := fun g => item0
    have ib : ∀ h : Hs, m__law_is [rowD (bfl os (vals os)), rowD (bfl os (vals os))] h = .ok (.bl true) h := fun h => is_refl (lw_row _) (by decide)
    have s1 : Sz 2000 (bfl os (vals os)).1 := by rw [ef]; exact ofl_s k f
    have nl : ¬ (w os < (bfl os (vals os)).1) := by
      rw [ef]
      exact Rat.not_lt.mpr (ofl_le_w f k.ofr)
    have lw := lless_eq (w_s k) s1 (by decide) (g ++ [u] ++ [u2])
    simp only [optRow, eV0, eVs, bind_ok', then_ok, q_e2, q_e1, q_eC, q_aC, q_aN, q_sPar2, q_sPar3, q_sSet, q_sRet, q_eBf, q_nBf, q_eCall, q_tst, q_tru, q_ifV, q_sIf, q_eTup, q_sPass, q_sExp, q_eLm, q_nLst, q_frz, q_thaw, q_iSeq, q_iR2, q_iR3, q_iEnumD, q_iZip, q_andX, q_andT, q_orT, q_notT, q_eCh, q_sPat, q_eSl, q_nSl, q_pS, q_pN, q_sRetN, q_tYes, q_eDct0, okL0, okL1, okL2, okL3, okL4, okL5, okL6, ent, List.map_cons, List.map_nil, List.length_cons, List.length_nil, List.set_cons_zero, List.set_cons_succ, List.replicate, List.cons_append, List.nil_append, Nat.reduceAdd, Nat.reduceSub, Nat.sub_self, Nat.sub_zero, zero_add', ↓reduceIte, Bool.false_eq_true, item0, item1, addD_ii, subD_ii, negD_i, absD_i, ltD_ii, leD_ii, gtD_ii, geD_ii, truD_bl, decide_true, decide_false, wp_ok, wp_bad, wp_bind, wp_nox, wp_def, wps_then, wps_seq, wps_nx, wps_ret, wp_ite, wps_ite, eb, ib, ew, i0, lw, truD_bl, decide_eq_false nl, Bool.not_true, sPass]
    have da5 : DealAt (g ++ [u] ++ [u2]) (n + 1) os := da4.app.app
    have t5 : Hd (g ++ [u] ++ [u2]) (1000 * j + 300) := hand_b.app (hand_b.app t4)
    generalize g ++ [u] ++ [u2] = h5 at da5 t5 ⊢
    rw [wps_for, iR1_eq (n := 4) (h' := h5) (by simp only [eV0, eVs, bind_ok', then_ok, q_e2, q_e1, q_eC, q_aC, q_aN, q_sPar2, q_sPar3, q_sSet, q_sRet, q_eBf, q_nBf, q_eCall, q_tst, q_tru, q_ifV, q_sIf, q_eTup, q_sPass, q_sExp, q_eLm, q_nLst, q_frz, q_thaw, q_iSeq, q_iR2, q_iR3, q_iEnumD, q_iZip, q_andX, q_andT, q_orT, q_notT, q_eCh, q_sPat, q_eSl, q_nSl, q_pS, q_pN, q_sRetN, q_tYes, q_eDct0, okL0, okL1, okL2, okL3, okL4, okL5, okL6, ent, List.map_cons, List.map_nil, List.length_cons, List.length_nil, List.set_cons_zero, List.set_cons_succ, List.replicate, List.cons_append, List.nil_append, Nat.reduceAdd, Nat.reduceSub, Nat.sub_self, Nat.sub_zero, zero_add', ↓reduceIte, Bool.false_eq_true, item0, item1, addD_ii, subD_ii, negD_i, absD_i, ltD_ii, leD_ii, gtD_ii, geD_ii, truD_bl, decide_true, decide_false]; rfl) (by decide), wp_ok]
    refine wps_loop (fun i ρ h' => Hd h' (1000 * j + 300 + 2 * i) ∧ Gb 1 h5 h' ∧ ∃ a11 a12, ρ = [some (.scr ns), some (.obj 0), some x, some (dealD os), some (.obj n), some (.obj (n + 1)), a6, a7, a8, some (rowD (bfl os (vals os))), a10, a11, a12, none]) _ 0 _ _ ?_ ?_ ⟨t5, .refl, _, _, rfl⟩
    · rintro i y ρ h6 hy ⟨t6, g6, a11, a12, rfl⟩
      rw [Nat.zero_add] at t6 ⊢
      have hi := (List.getElem?_eq_some_iff.mp hy).1
      rw [rng_len] at hi
      refine ⟨rfl, _, rfl, ?_⟩
      rw [wps_seq]
      simp only [eV0, eVs, bind_ok', then_ok, q_e2, q_e1, q_eC, q_aC, q_aN, q_sPar2, q_sPar3, q_sSet, q_sRet, q_eBf, q_nBf, q_eCall, q_tst, q_tru, q_ifV, q_sIf, q_eTup, q_sPass, q_sExp, q_eLm, q_nLst, q_frz, q_thaw, q_iSeq, q_iR2, q_iR3, q_iEnumD, q_iZip, q_andX, q_andT, q_orT, q_notT, q_eCh, q_sPat, q_eSl, q_nSl, q_pS, q_pN, q_sRetN, q_tYes, q_eDct0, okL0, okL1, okL2, okL3, okL4, okL5, okL6, ent, List.map_cons, List.map_nil, List.length_cons, List.length_nil, List.set_cons_zero, List.set_cons_succ, List.replicate, List.cons_append, List.nil_append, Nat.reduceAdd, Nat.reduceSub, Nat.sub_self, Nat.sub_zero, zero_add', ↓reduceIte, Bool.false_eq_true, item0, item1, addD_ii, subD_ii, negD_i, absD_i, ltD_ii, leD_ii, gtD_ii, geD_ii, truD_bl, decide_true, decide_false, wp_ok, wp_bad, wp_bind, wp_nox, wp_def, wps_then, wps_seq, wps_nx, wps_ret, wp_ite, wps_ite, List.set_cons_zero, List.set_cons_succ]
      refine hand_b.draw t6 (sides := 60) (by decide) (by decide) (by omega) fun d h7 d0 d1 t7 g7 => ?_
      refine hand_b.draw t7 (sides := 4) (by decide) (by decide) (by omega) fun e h8 e0 e1 t8 g8 => ?_
      have lo := low_eq d (1 + e) h8 (by omega) (Nat.lt_of_lt_of_le (show (1 + e).natAbs < 2 ^ 64 by omega) pow18)
      obtain ⟨f0, sf⟩ := pos_frac (d := d) (e := 1 + e) d0 (by omega) (by omega) (by omega)
      have da8 : DealAt h8 (n + 1) os := da5.gb ((g6.trans g7).trans g8) (by omega)
      simp only [eV0, eVs, bind_ok', then_ok, q_e2, q_e1, q_eC, q_aC, q_aN, q_sPar2, q_sPar3, q_sSet, q_sRet, q_eBf, q_nBf, q_eCall, q_tst, q_tru, q_ifV, q_sIf, q_eTup, q_sPass, q_sExp, q_eLm, q_nLst, q_frz, q_thaw, q_iSeq, q_iR2, q_iR3, q_iEnumD, q_iZip, q_andX, q_andT, q_orT, q_notT, q_eCh, q_sPat, q_eSl, q_nSl, q_pS, q_pN, q_sRetN, q_tYes, q_eDct0, okL0, okL1, okL2, okL3, okL4, okL5, okL6, ent, List.map_cons, List.map_nil, List.length_cons, List.length_nil, List.set_cons_zero, List.set_cons_succ, List.replicate, List.cons_append, List.nil_append, Nat.reduceAdd, Nat.reduceSub, Nat.sub_self, Nat.sub_zero, zero_add', ↓reduceIte, Bool.false_eq_true, item0, item1, addD_ii, subD_ii, negD_i, absD_i, ltD_ii, leD_ii, gtD_ii, geD_ii, truD_bl, decide_true, decide_false, wp_ok, wp_bad, wp_bind, wp_nox, wp_def, wps_then, wps_seq, wps_nx, wps_ret, wp_ite, wps_ite, lo, law_by_floor_eq k.ofr k.l8 sf, by_floor_eq k da8 sf f0, is_fr, truD_bl, Bool.not_true, sPass, List.set_cons_zero, List.set_cons_succ]
      exact ⟨t8, (g6.trans g7).trans g8, _, _, rfl⟩
    · rintro ρ h6 ⟨t6, g6, a11, a12, rfl⟩
      rw [Nat.zero_add, rng_len] at t6
      refine ⟨rfl, ?_⟩
      have da6 : DealAt h6 (n + 1) os := da5.gb g6 (by omega)
      have z1 : ofl os ((1001 : Int) : Rat) = 0 := ofl_above k.ofr (by decide +kernel)
      have bf := by_floor_eq k da6 (f := ((1001 : Int) : Rat)) (int_s (by decide) (by decide)) (by decide +kernel)
      rw [z1] at bf
      have ne := neD_fz (h := h6) ((fz_fr 0).mono (by decide)) ((fz_fr 0).mono (by decide))
      rw [fr0] at ne bf
      simp only [eV0, eVs, bind_ok', then_ok, q_e2, q_e1, q_eC, q_aC, q_aN, q_sPar2, q_sPar3, q_sSet, q_sRet, q_eBf, q_nBf, q_eCall, q_tst, q_tru, q_ifV, q_sIf, q_eTup, q_sPass, q_sExp, q_eLm, q_nLst, q_frz, q_thaw, q_iSeq, q_iR2, q_iR3, q_iEnumD, q_iZip, q_andX, q_andT, q_orT, q_notT, q_eCh, q_sPat, q_eSl, q_nSl, q_pS, q_pN, q_sRetN, q_tYes, q_eDct0, okL0, okL1, okL2, okL3, okL4, okL5, okL6, ent, List.map_cons, List.map_nil, List.length_cons, List.length_nil, List.set_cons_zero, List.set_cons_succ, List.replicate, List.cons_append, List.nil_append, Nat.reduceAdd, Nat.reduceSub, Nat.sub_self, Nat.sub_zero, zero_add', ↓reduceIte, Bool.false_eq_true, item0, item1, addD_ii, subD_ii, negD_i, absD_i, ltD_ii, leD_ii, gtD_ii, geD_ii, truD_bl, decide_true, decide_false, wp_ok, wp_bad, wp_bind, wp_nox, wp_def, wps_then, wps_seq, wps_nx, wps_ret, wp_ite, wps_ite, fr_int 1001, bf, ne, Bool.not_true, sPass]
      exact ⟨hand_b.mono t6 (by omega), _, _, _, _, _, _, _, _, _, _, _, rfl⟩
  · rintro ρ h1 ⟨t1, a2, a3, a4, a5, a6, a7, a8, a9, a10, a11, a12, rfl⟩
    refine ⟨rfl, ?_⟩
    rw [wps_seq]
    have mk1 := makeD_eq (os := [coin, coin]) (ca := aC (eTup (aC (eV 13) (aC (eV 13) aN))) aN) (ρ := [some (.scr ns), some (.obj 0), a2, a3, a4, a5, a6, a7, a8, a9, a10, a11, a12, some (offD coin)]) (h0 := h1) (h := h1) coins_ok (by simp only [eV0, eVs, bind_ok', then_ok, q_e2, q_e1, q_eC, q_aC, q_aN, q_sPar2, q_sPar3, q_sSet, q_sRet, q_eBf, q_nBf, q_eCall, q_tst, q_tru, q_ifV, q_sIf, q_eTup, q_sPass, q_sExp, q_eLm, q_nLst, q_frz, q_thaw, q_iSeq, q_iR2, q_iR3, q_iEnumD, q_iZip, q_andX, q_andT, q_orT, q_notT, q_eCh, q_sPat, q_eSl, q_nSl, q_pS, q_pN, q_sRetN, q_tYes, q_eDct0, okL0, okL1, okL2, okL3, okL4, okL5, okL6, ent, List.map_cons, List.map_nil, List.length_cons, List.length_nil, List.set_cons_zero, List.set_cons_succ, List.replicate, List.cons_append, List.nil_append, Nat.reduceAdd, Nat.reduceSub, Nat.sub_self, Nat.sub_zero, zero_add', ↓reduceIte, Bool.false_eq_true, item0, item1, addD_ii, subD_ii, negD_i, absD_i, ltD_ii, leD_ii, gtD_ii, geD_ii, truD_bl, decide_true, decide_false]; rfl)
    obtain ⟨u, eb⟩ := best_floor_eq coins_ok (newD_at (h := h1) (os := [coin, coin]))
    have e1 : rowD (bfl [coin, coin] (vals [coin, coin])) = .tup [.tup [.int 3, .int 1], .tup [.int 4, .int 1]] := by decide +kernel
    rw [e1] at eb
    have q1 : eqD (.tup [.tup [.int 3, .int 1], .tup [.int 4, .int 1]]) (.tup [.tup [.int 3, .int 1], .tup [.int 4, .int 1]]) (newD h1 [coin, coin] ++ [u]) = .ok (.bl true) (newD h1 [coin, coin] ++ [u]) := by rfl
    have mk2 := makeD_eq (os := [coin, coin]) (ca := aC (eTup (aC (eV 13) (aC (eV 13) aN))) aN) (ρ := [some (.scr ns), some (.obj 0), a2, a3, a4, a5, a6, a7, a8, a9, a10, a11, a12, some (offD coin)]) (h0 := newD h1 [coin, coin] ++ [u]) (h := newD h1 [coin, coin] ++ [u]) coins_ok (by simp only [eV0, eVs, bind_ok', then_ok, q_e2, q_e1, q_eC, q_aC, q_aN, q_sPar2, q_sPar3, q_sSet, q_sRet, q_eBf, q_nBf, q_eCall, q_tst, q_tru, q_ifV, q_sIf, q_eTup, q_sPass, q_sExp, q_eLm, q_nLst, q_frz, q_thaw, q_iSeq, q_iR2, q_iR3, q_iEnumD, q_iZip, q_andX, q_andT, q_orT, q_notT, q_eCh, q_sPat, q_eSl, q_nSl, q_pS, q_pN, q_sRetN, q_tYes, q_eDct0, okL0, okL1, okL2, okL3, okL4, okL5, okL6, ent, List.map_cons, List.map_nil, List.length_cons, List.length_nil, List.set_cons_zero, List.set_cons_succ, List.replicate, List.cons_append, List.nil_append, Nat.reduceAdd, Nat.reduceSub, Nat.sub_self, Nat.sub_zero, zero_add', ↓reduceIte, Bool.false_eq_true, item0, item1, addD_ii, subD_ii, negD_i, absD_i, ltD_ii, leD_ii, gtD_ii, geD_ii, truD_bl, decide_true, decide_false]; rfl)
    have bf := by_floor_eq coins_ok (newD_at (h := newD h1 [coin, coin] ++ [u]) (os := [coin, coin])) (f := 0) (sz0.mono (by decide)) Rat.le_refl
    have e2 : fr (ofl [coin, coin] 0) = .tup [.int 2, .int 1] := by decide +kernel
    rw [e2, fr0] at bf
    have q2 : eqD (.tup [.int 2, .int 1]) (.tup [.int 2, .int 1]) (newD (newD h1 [coin, coin] ++ [u]) [coin, coin]) = .ok (.bl true) (newD (newD h1 [coin, coin] ++ [u]) [coin, coin]) := by rfl
    simp only [eV0, eVs, bind_ok', then_ok, q_e2, q_e1, q_eC, q_aC, q_aN, q_sPar2, q_sPar3, q_sSet, q_sRet, q_eBf, q_nBf, q_eCall, q_tst, q_tru, q_ifV, q_sIf, q_eTup, q_sPass, q_sExp, q_eLm, q_nLst, q_frz, q_thaw, q_iSeq, q_iR2, q_iR3, q_iEnumD, q_iZip, q_andX, q_andT, q_orT, q_notT, q_eCh, q_sPat, q_eSl, q_nSl, q_pS, q_pN, q_sRetN, q_tYes, q_eDct0, okL0, okL1, okL2, okL3, okL4, okL5, okL6, ent, List.map_cons, List.map_nil, List.length_cons, List.length_nil, List.set_cons_zero, List.set_cons_succ, List.replicate, List.cons_append, List.nil_append, Nat.reduceAdd, Nat.reduceSub, Nat.sub_self, Nat.sub_zero, zero_add', ↓reduceIte, Bool.false_eq_true, item0, item1, addD_ii, subD_ii, negD_i, absD_i, ltD_ii, leD_ii, gtD_ii, geD_ii, truD_bl, decide_true, decide_false, wp_ok, wp_bad, wp_bind, wp_nox, wp_def, wps_then, wps_seq, wps_nx, wps_ret, wp_ite, wps_ite, coin_D, mk1, eb, q1, mk2, bf, q2, truD_bl]
end Pl

namespace Law_k13
open PySem PySem.Spec PyProof.Rows L2 Dl Sh
def own : List (Tg × Tg × Bool) := []
/-! ### the module -/
def top (i : Nat) : Stmt := PySem.Challenge.pw_openorstop_k13_whole_one_floor.main.body.getD i (.Pass ⟨0, 0, 0, 0⟩)
structure Md (K : PySem.W.Frag) (mg : Str → Option Value) : Prop where
  c_Deal : Cls K (He.ga K "Deal")
  b_abs : mg "abs" = none
  b_all : mg "all" = none
  b_bool : mg "bool" = none
  b_dict : mg "dict" = none
  b_int : mg "int" = none
  b_isinstance : mg "isinstance" = none
  b_len : mg "len" = none
  b_list : mg "list" = none
  b_range : mg "range" = none
  b_set : mg "set" = none
  b_sorted : mg "sorted" = none
  b_sum : mg "sum" = none
  b_tuple : mg "tuple" = none
  b_zip : mg "zip" = none
  g_Deal : mg "Deal" = some (.ref (He.ga K "Deal"))
  g__law_by_floor : mg "_law_by_floor" = some (.ref (He.ga K "_law_by_floor"))
  g__law_deal : mg "_law_deal" = some (.ref (He.ga K "_law_deal"))
  g__law_draw : mg "_law_draw" = some (.ref (He.ga K "_law_draw"))
  g__law_hand : mg "_law_hand" = some (.ref (He.ga K "_law_hand"))
  g__law_is : mg "_law_is" = some (.ref (He.ga K "_law_is"))
  g__law_less : mg "_law_less" = some (.ref (He.ga K "_law_less"))
  g__law_low : mg "_law_low" = some (.ref (He.ga K "_law_low"))
  g__law_offer : mg "_law_offer" = some (.ref (He.ga K "_law_offer"))
  g__law_prod : mg "_law_prod" = some (.ref (He.ga K "_law_prod"))
  g__law_some : mg "_law_some" = some (.ref (He.ga K "_law_some"))
  g__law_sum : mg "_law_sum" = some (.ref (He.ga K "_law_sum"))
  g_best_floor : mg "best_floor" = some (.ref (He.ga K "best_floor"))
  g_by_floor : mg "by_floor" = some (.ref (He.ga K "by_floor"))
  g_common : mg "common" = some (.ref (He.ga K "common"))
  g_greatest : mg "greatest" = some (.ref (He.ga K "greatest"))
  g_is_fraction : mg "is_fraction" = some (.ref (He.ga K "is_fraction"))
  g_is_integer : mg "is_integer" = some (.ref (He.ga K "is_integer"))
  g_is_less : mg "is_less" = some (.ref (He.ga K "is_less"))
  g_is_offer : mg "is_offer" = some (.ref (He.ga K "is_offer"))
  g_is_share : mg "is_share" = some (.ref (He.ga K "is_share"))
  g_is_tuple : mg "is_tuple" = some (.ref (He.ga K "is_tuple"))
  g_is_value_pair : mg "is_value_pair" = some (.ref (He.ga K "is_value_pair"))
  g_is_within : mg "is_within" = some (.ref (He.ga K "is_within"))
  g_law : mg "law" = some (.ref (He.ga K "law"))
  g_lowest : mg "lowest" = some (.ref (He.ga K "lowest"))
  g_mean_of : mg "mean_of" = some (.ref (He.ga K "mean_of"))
  g_minus : mg "minus" = some (.ref (He.ga K "minus"))
  g_one_floor : mg "one_floor" = some (.ref (He.ga K "one_floor"))
  g_plus : mg "plus" = some (.ref (He.ga K "plus"))
  g_product : mg "product" = some (.ref (He.ga K "product"))
  g_values_of : mg "values_of" = some (.ref (He.ga K "values_of"))
  g_whole_sum : mg "whole_sum" = some (.ref (He.ga K "whole_sum"))
  g_with_floor : mg "with_floor" = some (.ref (He.ga K "with_floor"))
  g_worth : mg "worth" = some (.ref (He.ga K "worth"))
  g_worths : mg "worths" = some (.ref (He.ga K "worths"))
  i_MOST_OFFERS : ∃ t, mg "MOST_OFFERS" = some (.int 8 t)
  i_MOST_PAIRS : ∃ t, mg "MOST_PAIRS" = some (.int 5 t)
  i_MOST_VALUE : ∃ t, mg "MOST_VALUE" = some (.int 1000 t)
  mk_Deal : Mk K (He.ga K "Deal") (He.ma K (He.ga K "Deal") "__init__")
  n_Deal_offers : NoAttr K (He.ga K "Deal") "offers"
  g_NONE : mg "NONE" = some (.ref (He.ga K "NONE"))
  t_NONE : KT K (He.ga K "NONE") ([0, 1].map V.int)
  g_WHOLE : mg "WHOLE" = some (.ref (He.ga K "WHOLE"))
  t_WHOLE : KT K (He.ga K "WHOLE") ([1, 1].map V.int)
  d_Deal___init__ : ∃ fd, FunD K "__init__" "Deal.__init__" (defArgs (inClass (top 28) 0)) (defBody (inClass (top 28) 0)) (defScope (inClass (top 28) 0)) [] [] (He.ma K (He.ga K "Deal") "__init__") fd
  d__law_by_floor : ∃ fd, FunD K "_law_by_floor" "_law_by_floor" (defArgs (top 47)) (defBody (top 47)) (defScope (top 47)) [] [] (He.ga K "_law_by_floor") fd
  d__law_deal : ∃ fd, FunD K "_law_deal" "_law_deal" (defArgs (top 46)) (defBody (top 46)) (defScope (top 46)) [] [] (He.ga K "_law_deal") fd
  d__law_draw : ∃ fd, FunD K "_law_draw" "_law_draw" (defArgs (top 38)) (defBody (top 38)) (defScope (top 38)) [] [] (He.ga K "_law_draw") fd
  d__law_hand : ∃ fd, FunD K "_law_hand" "_law_hand" (defArgs (top 37)) (defBody (top 37)) (defScope (top 37)) [] [] (He.ga K "_law_hand") fd
  d__law_is : ∃ fd, FunD K "_law_is" "_law_is" (defArgs (top 40)) (defBody (top 40)) (defScope (top 40)) [] [] (He.ga K "_law_is") fd
  d__law_less : ∃ fd, FunD K "_law_less" "_law_less" (defArgs (top 44)) (defBody (top 44)) (defScope (top 44)) [] [] (He.ga K "_law_less") fd
  d__law_low : ∃ fd, FunD K "_law_low" "_law_low" (defArgs (top 41)) (defBody (top 41)) (defScope (top 41)) [] [] (He.ga K "_law_low") fd
  d__law_offer : ∃ fd, FunD K "_law_offer" "_law_offer" (defArgs (top 45)) (defBody (top 45)) (defScope (top 45)) [] [] (He.ga K "_law_offer") fd
  d__law_prod : ∃ fd, FunD K "_law_prod" "_law_prod" (defArgs (top 43)) (defBody (top 43)) (defScope (top 43)) [] [] (He.ga K "_law_prod") fd
  d__law_some : ∃ fd, FunD K "_law_some" "_law_some" (defArgs (top 39)) (defBody (top 39)) (defScope (top 39)) [] [] (He.ga K "_law_some") fd
  d__law_sum : ∃ fd, FunD K "_law_sum" "_law_sum" (defArgs (top 42)) (defBody (top 42)) (defScope (top 42)) [] [] (He.ga K "_law_sum") fd
  d_best_floor : ∃ fd, FunD K "best_floor" "best_floor" (defArgs (top 35)) (defBody (top 35)) (defScope (top 35)) [] [] (He.ga K "best_floor") fd
  d_by_floor : ∃ fd, FunD K "by_floor" "by_floor" (defArgs (top 33)) (defBody (top 33)) (defScope (top 33)) [] [] (He.ga K "by_floor") fd
  d_common : ∃ fd, FunD K "common" "common" (defArgs (top 13)) (defBody (top 13)) (defScope (top 13)) [] [] (He.ga K "common") fd
  d_greatest : ∃ fd, FunD K "greatest" "greatest" (defArgs (top 19)) (defBody (top 19)) (defScope (top 19)) [] [] (He.ga K "greatest") fd
  d_is_fraction : ∃ fd, FunD K "is_fraction" "is_fraction" (defArgs (top 21)) (defBody (top 21)) (defScope (top 21)) [] [] (He.ga K "is_fraction") fd
  d_is_integer : ∃ fd, FunD K "is_integer" "is_integer" (defArgs (top 1)) (defBody (top 1)) (defScope (top 1)) [] [] (He.ga K "is_integer") fd
  d_is_less : ∃ fd, FunD K "is_less" "is_less" (defArgs (top 18)) (defBody (top 18)) (defScope (top 18)) [] [] (He.ga K "is_less") fd
  d_is_offer : ∃ fd, FunD K "is_offer" "is_offer" (defArgs (top 24)) (defBody (top 24)) (defScope (top 24)) [] [] (He.ga K "is_offer") fd
  d_is_share : ∃ fd, FunD K "is_share" "is_share" (defArgs (top 22)) (defBody (top 22)) (defScope (top 22)) [] [] (He.ga K "is_share") fd
  d_is_tuple : ∃ fd, FunD K "is_tuple" "is_tuple" (defArgs (top 3)) (defBody (top 3)) (defScope (top 3)) [] [] (He.ga K "is_tuple") fd
  d_is_value_pair : ∃ fd, FunD K "is_value_pair" "is_value_pair" (defArgs (top 23)) (defBody (top 23)) (defScope (top 23)) [] [] (He.ga K "is_value_pair") fd
  d_is_within : ∃ fd, FunD K "is_within" "is_within" (defArgs (top 2)) (defBody (top 2)) (defScope (top 2)) [] [] (He.ga K "is_within") fd
  d_law : ∃ fd, FunD K "law" "law" (defArgs (top 48)) (defBody (top 48)) (defScope (top 48)) [] [] (He.ga K "law") fd
  d_lowest : ∃ fd, FunD K "lowest" "lowest" (defArgs (top 14)) (defBody (top 14)) (defScope (top 14)) [] [] (He.ga K "lowest") fd
  d_mean_of : ∃ fd, FunD K "mean_of" "mean_of" (defArgs (top 25)) (defBody (top 25)) (defScope (top 25)) [] [] (He.ga K "mean_of") fd
  d_minus : ∃ fd, FunD K "minus" "minus" (defArgs (top 16)) (defBody (top 16)) (defScope (top 16)) [] [] (He.ga K "minus") fd
  d_one_floor : ∃ fd, FunD K "one_floor" "one_floor" (defArgs (top 32)) (defBody (top 32)) (defScope (top 32)) [] [] (He.ga K "one_floor") fd
  d_plus : ∃ fd, FunD K "plus" "plus" (defArgs (top 15)) (defBody (top 15)) (defScope (top 15)) [] [] (He.ga K "plus") fd
  d_product : ∃ fd, FunD K "product" "product" (defArgs (top 17)) (defBody (top 17)) (defScope (top 17)) [] [] (He.ga K "product") fd
  d_values_of : ∃ fd, FunD K "values_of" "values_of" (defArgs (top 34)) (defBody (top 34)) (defScope (top 34)) [] [] (He.ga K "values_of") fd
  d_whole_sum : ∃ fd, FunD K "whole_sum" "whole_sum" (defArgs (top 20)) (defBody (top 20)) (defScope (top 20)) [] [] (He.ga K "whole_sum") fd
  d_with_floor : ∃ fd, FunD K "with_floor" "with_floor" (defArgs (top 29)) (defBody (top 29)) (defScope (top 29)) [] [] (He.ga K "with_floor") fd
  d_worth : ∃ fd, FunD K "worth" "worth" (defArgs (top 31)) (defBody (top 31)) (defScope (top 31)) [] [] (He.ga K "worth") fd
  d_worths : ∃ fd, FunD K "worths" "worths" (defArgs (top 30)) (defBody (top 30)) (defScope (top 30)) [] [] (He.ga K "worths") fd
  own : OwnF K own
/-! ### each def computes what its function says -/
theorem sc__law_hand_v2 : FnScope ["script", "cells", "cell"] ["script"] (defScope (top 37)) := ⟨rfl, rfl, rfl, by decide +kernel, rfl, by decide +kernel, by decide +kernel⟩
theorem m__law_hand_v2_ok {P : Program} {w : World} {K : PySem.W.Frag} {mg : Str → Option Value} {base : Heap} (Z : Md K mg) : FnD P w K mg base 1 (He.ga K "_law_hand") 1 m__law_hand_v2 := by
  obtain ⟨fd, F⟩ := Z.d__law_hand
  have nd := sc__law_hand_v2.nd
  refine fnD_of F sc__law_hand_v2 rfl (binds_of F fun _ _ _ _ _ _ us hl => match us, hl with | [_], _ => rfl) fun cdv A outer s H E hr gd => ?_
  exact dss_cons (ds_setLc (fun _ _ _ _ q => w_frz q) (own := [("cell", 2)]) rfl nd (di_seq (de_sl (de_v 0) do_none (do_some (de_int)))) (blkOk_by (by kernel_rfl)) (fun _ _ _ _ _ => pg_nm nd) (fun _ _ _ _ _ => dts_nil) (fun _ _ _ _ _ => de_bf o_abs call_abs rfl Z.b_abs boot_abs (da_cons (de_tf o_int call_int1 rfl Z.b_int boot_int (da_cons (de_v 2) da_nil)) da_nil))) (dss_one (ds_ret (de_thaw (dn_lst (da_cons (de_v 1) (da_cons (de_int) (da_cons (de_int) (da_cons (de_add (de_int) (de_mul (de_int) (de_bf o_len c_len rfl Z.b_len boot_len (da_cons (de_v 1) da_nil)))) (da_cons (de_int) da_nil)))))))))

theorem sc__law_draw_v3 : FnScope ["hand", "sides", "cell", "digit", "number"] ["hand", "sides"] (defScope (top 38)) := ⟨rfl, rfl, rfl, by decide +kernel, rfl, by decide +kernel, by decide +kernel⟩
theorem m__law_draw_v3_ok {P : Program} {w : World} {K : PySem.W.Frag} {mg : Str → Option Value} {base : Heap} (Z : Md K mg) : FnD P w K mg base 1 (He.ga K "_law_draw") 2 m__law_draw_v3 := by
  obtain ⟨fd, F⟩ := Z.d__law_draw
  have nd := sc__law_draw_v3.nd
  refine fnD_of F sc__law_draw_v3 rfl (binds_of F fun _ _ _ _ _ _ us hl => match us, hl with | [_, _], _ => rfl) fun cdv A outer s H E hr gd => ?_
  exact dss_cons (ds_if (dt_bool (dw_and (dt_eq (u64 hr) (de_item (u1 hr) (de_v 0) (de_int)) (de_int)) (dw_and1 (dt_lt (de_item (u1 hr) (de_v 0) (de_int)) (de_bf o_len c_len rfl Z.b_len boot_len (da_cons (de_item (u1 hr) (de_v 0) (de_int)) da_nil)))))) (dss_cons (ds_set (i := 2) nd (de_item (u1 hr) (de_item (u1 hr) (de_v 0) (de_int)) (de_item (u1 hr) (de_v 0) (de_int)))) (dss_cons (ds_store (u1 hr) (de_add (de_item (u1 hr) (de_v 0) (de_int)) (de_int)) (de_v 0) (de_int)) (dss_cons (ds_store (u1 hr) (de_mod (de_tf o_int call_int1 rfl Z.b_int boot_int (da_cons (de_add (de_add (de_mul (de_item (u1 hr) (de_v 0) (de_int)) (de_int)) (de_v 2)) (de_int)) da_nil)) (de_int)) (de_v 0) (de_int)) (dss_one (ds_if (dt_ge (de_v 2) (de_pow (de_int) (de_int))) (dss_one (ds_store (u1 hr) (de_v 2) (de_v 0) (de_int))) (dss_nil)))))) (dss_nil)) (dss_cons (ds_if (dt_gt (de_item (u1 hr) (de_v 0) (de_int)) (de_int)) (dss_cons (ds_set (i := 3) nd (de_mod (de_tf o_int call_int1 rfl Z.b_int boot_int (da_cons (de_item (u1 hr) (de_v 0) (de_int)) da_nil)) (de_v 1))) (dss_cons (ds_store (u1 hr) (de_div (de_item (u1 hr) (de_v 0) (de_int)) (de_v 1)) (de_v 0) (de_int)) (dss_one (ds_ret (de_v 3))))) (dss_nil)) (dss_cons (ds_store (u1 hr) (de_add (de_item (u1 hr) (de_v 0) (de_int)) (de_int)) (de_v 0) (de_int)) (dss_cons (ds_set (i := 4) nd (de_mod (de_tf o_int call_int1 rfl Z.b_int boot_int (da_cons (de_mul (de_tf o_int call_int1 rfl Z.b_int boot_int (da_cons (de_add (de_item (u1 hr) (de_v 0) (de_int)) (de_mul (de_int) (de_item (u1 hr) (de_v 0) (de_int)))) da_nil)) (de_int)) da_nil)) (de_int))) (dss_cons (ds_set (i := 4) nd (de_mod (de_tf o_int call_int1 rfl Z.b_int boot_int (da_cons (de_mul (de_v 4) (de_add (de_div (de_v 4) (de_int)) (de_int))) da_nil)) (de_int))) (dss_cons (ds_set (i := 4) nd (de_mod (de_tf o_int call_int1 rfl Z.b_int boot_int (da_cons (de_mul (de_v 4) (de_add (de_div (de_v 4) (de_int)) (de_int))) da_nil)) (de_int))) (dss_one (ds_ret (de_mod (de_tf o_int call_int1 rfl Z.b_int boot_int (da_cons (de_div (de_v 4) (de_int)) da_nil)) (de_v 1)))))))))

theorem sc__law_some : FnScope ["hand", "things"] ["hand", "things"] (defScope (top 39)) := ⟨rfl, rfl, rfl, by decide +kernel, rfl, by decide +kernel, by decide +kernel⟩
theorem m__law_some_ok {P : Program} {w : World} {K : PySem.W.Frag} {mg : Str → Option Value} {base : Heap} (Z : Md K mg) : FnD P w K mg base 2 (He.ga K "_law_some") 2 m__law_some := by
  obtain ⟨fd, F⟩ := Z.d__law_some
  have nd := sc__law_some.nd
  refine fnD_of F sc__law_some rfl (binds_of F fun _ _ _ _ _ _ us hl => match us, hl with | [_, _], _ => rfl) fun cdv A outer s H E hr gd => ?_
  exact dss_one (ds_ret (de_item (u1 hr) (de_v 1) (de_call ((m__law_draw_v3_ok Z).mono (by decide)) hr gd (takes_of rfl rfl rfl rfl) Z.g__law_draw rfl (da_cons (de_v 0) (da_cons (de_bf o_len c_len rfl Z.b_len boot_len (da_cons (de_v 1) da_nil)) da_nil)))))

theorem sc__law_low : FnScope ["top", "bottom", "one", "other"] ["top", "bottom"] (defScope (top 41)) := ⟨rfl, rfl, rfl, by decide +kernel, rfl, by decide +kernel, by decide +kernel⟩
theorem m__law_low_ok {P : Program} {w : World} {K : PySem.W.Frag} {mg : Str → Option Value} {base : Heap} (Z : Md K mg) : FnD P w K mg base 1 (He.ga K "_law_low") 2 m__law_low := by
  obtain ⟨fd, F⟩ := Z.d__law_low
  have nd := sc__law_low.nd
  refine fnD_of F sc__law_low rfl (binds_of F fun _ _ _ _ _ _ us hl => match us, hl with | [_, _], _ => rfl) fun cdv A outer s H E hr gd => ?_
  exact dss_cons (ds_par2 (i := 2) (j := 3) rfl nd (da_cons (de_bf o_abs call_abs rfl Z.b_abs boot_abs (da_cons (de_v 0) da_nil)) (da_cons (de_v 1) da_nil))) (dss_cons (ds_while (lim := (limI 3)) (passes_of rfl) (dt_gt (de_v 3) (de_int)) (dss_one (ds_par2 (i := 2) (j := 3) rfl nd (da_cons (de_v 3) (da_cons (de_mod (de_tf o_int call_int1 rfl Z.b_int boot_int (da_cons (de_v 2) da_nil)) (de_v 3)) da_nil))))) (dss_one (ds_ret (de_tup (da_cons (de_div (de_v 0) (de_v 2)) (da_cons (de_div (de_v 1) (de_v 2)) da_nil))))))

theorem sc__law_offer : FnScope ["hand", "most", "values", "turn", "weights", "value", "weight"] ["hand", "most"] (defScope (top 45)) := ⟨rfl, rfl, rfl, by decide +kernel, rfl, by decide +kernel, by decide +kernel⟩
theorem m__law_offer_ok {P : Program} {w : World} {K : PySem.W.Frag} {mg : Str → Option Value} {base : Heap} (Z : Md K mg) : FnD P w K mg base 3 (He.ga K "_law_offer") 2 m__law_offer := by
  obtain ⟨fd, F⟩ := Z.d__law_offer
  have nd := sc__law_offer.nd
  refine fnD_of F sc__law_offer rfl (binds_of F fun _ _ _ _ _ _ us hl => match us, hl with | [_, _], _ => rfl) fun cdv A outer s H E hr gd => ?_
  exact dss_cons (ds_set (i := 2) nd (de_thaw (dn_lst da_nil))) (dss_cons (ds_for (passes_of rfl) rfl (di_range1 rfl Z.b_range (da_cons (de_add (de_int) (de_call ((m__law_draw_v3_ok Z).mono (by decide)) hr gd (takes_of rfl rfl rfl rfl) Z.g__law_draw rfl (da_cons (de_v 0) (da_cons (de_v 1) da_nil)))) da_nil)) (pg_nm nd) (dss_one (ds_exp (de_app (de_v 2) (da_cons (de_call ((m__law_some_ok Z).mono (by decide)) hr gd (takes_of rfl rfl rfl rfl) Z.g__law_some rfl (da_cons (de_v 0) (da_cons (de_frz (dn_lst (da_cons (de_int) (da_cons (de_int) (da_cons (de_int) (da_cons (de_int) (da_cons (de_int) (da_cons (de_int) (da_cons (de_int) (da_cons (de_int) (da_cons (de_if (dt_eq (u64 hr) (de_call ((m__law_draw_v3_ok Z).mono (by decide)) hr gd (takes_of rfl rfl rfl rfl) Z.g__law_draw rfl (da_cons (de_v 0) (da_cons (de_int) da_nil))) (de_int)) (de_int) (de_int)) da_nil))))))))))) da_nil))) da_nil))))) (dss_cons (ds_set (i := 2) nd (de_thaw (dn_sortU rfl rfl Z.b_sorted rfl Z.b_set (de_v 2)))) (dss_cons (ds_set (i := 4) nd (de_frz (dn_lc (own := [("value", 5)]) rfl nd (di_seq (de_v 2)) (blkOk_by (by kernel_rfl)) (fun _ _ _ _ _ => pg_nm nd) (fun _ _ _ _ _ => dts_nil) (fun _ _ _ _ _ => de_add (de_int) (de_call ((m__law_draw_v3_ok Z).mono (by decide)) hr gd takes0 Z.g__law_draw rfl (da_cons (de_v 0) (da_cons (de_int) da_nil))))))) (dss_one (ds_ret (de_tf o_tup call_tuple_of rfl Z.b_tuple boot_tuple (da_cons (de_frz (dn_lc (own := [("value", 5), ("weight", 6)]) rfl nd (di_zip rfl Z.b_zip (da_cons (de_v 2) (da_cons (de_v 4) da_nil))) (blkOk_by (by kernel_rfl)) (fun _ _ _ _ _ => pg_tp rfl (pgs_co (pg_nm nd) (pgs_co (pg_nm nd) (pgs_no)))) (fun _ _ _ _ _ => dts_nil) (fun _ _ _ _ _ => de_tup (da_cons (de_v 5) (da_cons (de_call ((m__law_low_ok Z).mono (by decide)) hr gd takes0 Z.g__law_low rfl (da_cons (de_v 6) (da_cons (de_bf o_sum (cr_sum rfl) rfl Z.b_sum boot_sum (da_cons (de_v 4) da_nil)) da_nil))) da_nil))))) da_nil)))))))

theorem sc__law_deal : FnScope ["hand", "most", "pairs", "offer"] ["hand", "most", "pairs"] (defScope (top 46)) := ⟨rfl, rfl, rfl, by decide +kernel, rfl, by decide +kernel, by decide +kernel⟩
theorem m__law_deal_ok {P : Program} {w : World} {K : PySem.W.Frag} {mg : Str → Option Value} {base : Heap} (Z : Md K mg) : FnD P w K mg base 4 (He.ga K "_law_deal") 3 m__law_deal := by
  obtain ⟨fd, F⟩ := Z.d__law_deal
  have nd := sc__law_deal.nd
  refine fnD_of F sc__law_deal rfl (binds_of F fun _ _ _ _ _ _ us hl => match us, hl with | [_, _, _], _ => rfl) fun cdv A outer s H E hr gd => ?_
  exact dss_one (ds_ret (de_tf o_tup call_tuple_of rfl Z.b_tuple boot_tuple (da_cons (de_frz (dn_lc (own := [("offer", 3)]) rfl nd (di_range1 rfl Z.b_range (da_cons (de_add (de_int) (de_call ((m__law_draw_v3_ok Z).mono (by decide)) hr gd (takes_of rfl rfl rfl rfl) Z.g__law_draw rfl (da_cons (de_v 0) (da_cons (de_v 1) da_nil)))) da_nil)) (blkOk_by (by kernel_rfl)) (fun _ _ _ _ _ => pg_nm nd) (fun _ _ _ _ _ => dts_nil) (fun _ _ _ _ _ => de_call ((m__law_offer_ok Z).mono (by decide)) hr gd takes0 Z.g__law_offer rfl (da_cons (de_v 0) (da_cons (de_v 2) da_nil))))) da_nil)))

theorem sc_is_tuple : FnScope ["thing", "least", "most"] ["thing", "least", "most"] (defScope (top 3)) := ⟨rfl, rfl, rfl, by decide +kernel, rfl, by decide +kernel, by decide +kernel⟩
theorem m_is_tuple_ok {P : Program} {w : World} {K : PySem.W.Frag} {mg : Str → Option Value} {base : Heap} (Z : Md K mg) : FnD P w K mg base 1 (He.ga K "is_tuple") 3 m_is_tuple := by
  obtain ⟨fd, F⟩ := Z.d_is_tuple
  have nd := sc_is_tuple.nd
  refine fnD_of F sc_is_tuple rfl (binds_of F fun _ _ _ _ _ _ us hl => match us, hl with | [_, _, _], _ => rfl) fun cdv A outer s H E hr gd => ?_
  exact dss_one (ds_ret (de_andX (de_bf (o_isi (own := []) Z.own) call_isi rfl Z.b_isinstance boot_isinstance (da_cons (de_v 0) (da_cons (de_ty rfl Z.b_tuple boot_tuple) da_nil))) (de_one (de_lele (de_v 1) (de_bf o_len c_len rfl Z.b_len boot_len (da_cons (de_v 0) da_nil)) (de_v 2)))))

theorem sc_is_integer : FnScope ["thing"] ["thing"] (defScope (top 1)) := ⟨rfl, rfl, rfl, by decide +kernel, rfl, by decide +kernel, by decide +kernel⟩
theorem m_is_integer_ok {P : Program} {w : World} {K : PySem.W.Frag} {mg : Str → Option Value} {base : Heap} (Z : Md K mg) : FnD P w K mg base 1 (He.ga K "is_integer") 1 m_is_integer := by
  obtain ⟨fd, F⟩ := Z.d_is_integer
  have nd := sc_is_integer.nd
  refine fnD_of F sc_is_integer rfl (binds_of F fun _ _ _ _ _ _ us hl => match us, hl with | [_], _ => rfl) fun cdv A outer s H E hr gd => ?_
  exact dss_one (ds_ret (de_andX (de_bf (o_isi (own := []) Z.own) call_isi rfl Z.b_isinstance boot_isinstance (da_cons (de_v 0) (da_cons (de_ty rfl Z.b_int boot_int) da_nil))) (de_one (de_notX (de_bf (o_isi (own := []) Z.own) call_isi rfl Z.b_isinstance boot_isinstance (da_cons (de_v 0) (da_cons (de_ty rfl Z.b_bool boot_bool) da_nil)))))))

theorem sc_is_within : FnScope ["thing", "low", "high"] ["thing", "low", "high"] (defScope (top 2)) := ⟨rfl, rfl, rfl, by decide +kernel, rfl, by decide +kernel, by decide +kernel⟩
theorem m_is_within_ok {P : Program} {w : World} {K : PySem.W.Frag} {mg : Str → Option Value} {base : Heap} (Z : Md K mg) : FnD P w K mg base 2 (He.ga K "is_within") 3 m_is_within := by
  obtain ⟨fd, F⟩ := Z.d_is_within
  have nd := sc_is_within.nd
  refine fnD_of F sc_is_within rfl (binds_of F fun _ _ _ _ _ _ us hl => match us, hl with | [_, _, _], _ => rfl) fun cdv A outer s H E hr gd => ?_
  exact dss_one (ds_ret (de_andX (de_call ((m_is_integer_ok Z).mono (by decide)) hr gd (takes_of rfl rfl rfl rfl) Z.g_is_integer rfl (da_cons (de_v 0) da_nil)) (de_one (de_lele (de_v 1) (de_v 0) (de_v 2)))))

theorem sc_common : FnScope ["one", "other"] ["one", "other"] (defScope (top 13)) := ⟨rfl, rfl, rfl, by decide +kernel, rfl, by decide +kernel, by decide +kernel⟩
theorem m_common_ok {P : Program} {w : World} {K : PySem.W.Frag} {mg : Str → Option Value} {base : Heap} (Z : Md K mg) : FnD P w K mg base 1 (He.ga K "common") 2 m_common := by
  obtain ⟨fd, F⟩ := Z.d_common
  have nd := sc_common.nd
  refine fnD_of F sc_common rfl (binds_of F fun _ _ _ _ _ _ us hl => match us, hl with | [_, _], _ => rfl) fun cdv A outer s H E hr gd => ?_
  exact dss_cons (ds_par2 (i := 0) (j := 1) rfl nd (da_cons (de_bf o_abs call_abs rfl Z.b_abs boot_abs (da_cons (de_v 0) da_nil)) (da_cons (de_bf o_abs call_abs rfl Z.b_abs boot_abs (da_cons (de_v 1) da_nil)) da_nil))) (dss_cons (ds_while (lim := (limI 1)) (passes_of rfl) (dt_gt (de_v 1) (de_int)) (dss_one (ds_par2 (i := 0) (j := 1) rfl nd (da_cons (de_v 1) (da_cons (de_mod (de_v 0) (de_v 1)) da_nil))))) (dss_one (ds_ret (de_v 0))))

theorem sc_is_fraction : FnScope ["thing", "one"] ["thing"] (defScope (top 21)) := ⟨rfl, rfl, rfl, by decide +kernel, rfl, by decide +kernel, by decide +kernel⟩
theorem m_is_fraction_ok {P : Program} {w : World} {K : PySem.W.Frag} {mg : Str → Option Value} {base : Heap} (Z : Md K mg) : FnD P w K mg base 2 (He.ga K "is_fraction") 1 m_is_fraction := by
  obtain ⟨fd, F⟩ := Z.d_is_fraction
  have nd := sc_is_fraction.nd
  refine fnD_of F sc_is_fraction rfl (binds_of F fun _ _ _ _ _ _ us hl => match us, hl with | [_], _ => rfl) fun cdv A outer s H E hr gd => ?_
  exact dss_cons (ds_if (dt_bool (dw_or (dt_not (dt_tru (de_call ((m_is_tuple_ok Z).mono (by decide)) hr gd (takes_of rfl rfl rfl rfl) Z.g_is_tuple rfl (da_cons (de_v 0) (da_cons (de_int) (da_cons (de_int) da_nil)))))) (dw_or (dt_not (dt_tru (de_bf o_all (cr_all rfl) rfl Z.b_all boot_all (da_cons (de_frz (dn_lc (own := [("one", 1)]) rfl nd (di_seq (de_v 0)) (blkOk_by (by kernel_rfl)) (fun _ _ _ _ _ => pg_nm nd) (fun _ _ _ _ _ => dts_nil) (fun _ _ _ _ _ => de_call ((m_is_integer_ok Z).mono (by decide)) hr gd takes0 Z.g_is_integer rfl (da_cons (de_v 1) da_nil)))) da_nil)))) (dw_or1 (dt_lt (de_item (u1 hr) (de_v 0) (de_int)) (de_int)))))) (dss_one (ds_ret (de_bl))) (dss_nil)) (dss_one (ds_ret (de_eq (u64 hr) (de_call ((m_common_ok Z).mono (by decide)) hr gd (takes_of rfl rfl rfl rfl) Z.g_common rfl (da_cons (de_item (u1 hr) (de_v 0) (de_int)) (da_cons (de_item (u1 hr) (de_v 0) (de_int)) da_nil))) (de_int))))

theorem sc_is_share : FnScope ["thing"] ["thing"] (defScope (top 22)) := ⟨rfl, rfl, rfl, by decide +kernel, rfl, by decide +kernel, by decide +kernel⟩
theorem m_is_share_ok {P : Program} {w : World} {K : PySem.W.Frag} {mg : Str → Option Value} {base : Heap} (Z : Md K mg) : FnD P w K mg base 3 (He.ga K "is_share") 1 m_is_share := by
  obtain ⟨fd, F⟩ := Z.d_is_share
  have nd := sc_is_share.nd
  refine fnD_of F sc_is_share rfl (binds_of F fun _ _ _ _ _ _ us hl => match us, hl with | [_], _ => rfl) fun cdv A outer s H E hr gd => ?_
  exact dss_one (ds_ret (de_andX (de_call ((m_is_fraction_ok Z).mono (by decide)) hr gd (takes_of rfl rfl rfl rfl) Z.g_is_fraction rfl (da_cons (de_v 0) da_nil)) (de_one (de_lele (de_int) (de_item (u1 hr) (de_v 0) (de_int)) (de_item (u1 hr) (de_v 0) (de_int))))))

theorem sc_is_value_pair : FnScope ["thing"] ["thing"] (defScope (top 23)) := ⟨rfl, rfl, rfl, by decide +kernel, rfl, by decide +kernel, by decide +kernel⟩
theorem m_is_value_pair_ok {P : Program} {w : World} {K : PySem.W.Frag} {mg : Str → Option Value} {base : Heap} (Z : Md K mg) : FnD P w K mg base 4 (He.ga K "is_value_pair") 1 m_is_value_pair := by
  obtain ⟨fd, F⟩ := Z.d_is_value_pair
  have nd := sc_is_value_pair.nd
  refine fnD_of F sc_is_value_pair rfl (binds_of F fun _ _ _ _ _ _ us hl => match us, hl with | [_], _ => rfl) fun cdv A outer s H E hr gd => ?_
  exact dss_one (ds_ret (de_andX (de_call ((m_is_tuple_ok Z).mono (by decide)) hr gd (takes_of rfl rfl rfl rfl) Z.g_is_tuple rfl (da_cons (de_v 0) (da_cons (de_int) (da_cons (de_int) da_nil)))) (de_andX (de_call ((m_is_within_ok Z).mono (by decide)) hr gd (takes_of rfl rfl rfl rfl) Z.g_is_within rfl (da_cons (de_item (u1 hr) (de_v 0) (de_int)) (da_cons (de_int) (da_cons (de_gint rfl Z.i_MOST_VALUE) da_nil)))) (de_andX (de_call ((m_is_share_ok Z).mono (by decide)) hr gd (takes_of rfl rfl rfl rfl) Z.g_is_share rfl (da_cons (de_item (u1 hr) (de_v 0) (de_int)) da_nil)) (de_one (de_gt (de_item (u1 hr) (de_item (u1 hr) (de_v 0) (de_int)) (de_int)) (de_int)))))))

theorem sc_lowest : FnScope ["top", "bottom", "by"] ["top", "bottom"] (defScope (top 14)) := ⟨rfl, rfl, rfl, by decide +kernel, rfl, by decide +kernel, by decide +kernel⟩
theorem m_lowest_ok {P : Program} {w : World} {K : PySem.W.Frag} {mg : Str → Option Value} {base : Heap} (Z : Md K mg) : FnD P w K mg base 2 (He.ga K "lowest") 2 m_lowest := by
  obtain ⟨fd, F⟩ := Z.d_lowest
  have nd := sc_lowest.nd
  refine fnD_of F sc_lowest rfl (binds_of F fun _ _ _ _ _ _ us hl => match us, hl with | [_, _], _ => rfl) fun cdv A outer s H E hr gd => ?_
  exact dss_cons (ds_if (dt_lt (de_v 1) (de_int)) (dss_one (ds_par2 (i := 0) (j := 1) rfl nd (da_cons (de_neg (de_v 0)) (da_cons (de_neg (de_v 1)) da_nil)))) (dss_nil)) (dss_cons (ds_set (i := 2) nd (de_call ((m_common_ok Z).mono (by decide)) hr gd (takes_of rfl rfl rfl rfl) Z.g_common rfl (da_cons (de_v 0) (da_cons (de_v 1) da_nil)))) (dss_one (ds_ret (de_tup (da_cons (de_div (de_v 0) (de_v 2)) (da_cons (de_div (de_v 1) (de_v 2)) da_nil))))))

theorem sc_plus : FnScope ["one", "other"] ["one", "other"] (defScope (top 15)) := ⟨rfl, rfl, rfl, by decide +kernel, rfl, by decide +kernel, by decide +kernel⟩
theorem m_plus_ok {P : Program} {w : World} {K : PySem.W.Frag} {mg : Str → Option Value} {base : Heap} (Z : Md K mg) : FnD P w K mg base 3 (He.ga K "plus") 2 m_plus := by
  obtain ⟨fd, F⟩ := Z.d_plus
  have nd := sc_plus.nd
  refine fnD_of F sc_plus rfl (binds_of F fun _ _ _ _ _ _ us hl => match us, hl with | [_, _], _ => rfl) fun cdv A outer s H E hr gd => ?_
  exact dss_one (ds_ret (de_call ((m_lowest_ok Z).mono (by decide)) hr gd (takes_of rfl rfl rfl rfl) Z.g_lowest rfl (da_cons (de_add (de_mul (de_item (u1 hr) (de_v 0) (de_int)) (de_item (u1 hr) (de_v 1) (de_int))) (de_mul (de_item (u1 hr) (de_v 1) (de_int)) (de_item (u1 hr) (de_v 0) (de_int)))) (da_cons (de_mul (de_item (u1 hr) (de_v 0) (de_int)) (de_item (u1 hr) (de_v 1) (de_int))) da_nil))))

theorem sc_whole_sum : FnScope ["fractions", "found", "one"] ["fractions"] (defScope (top 20)) := ⟨rfl, rfl, rfl, by decide +kernel, rfl, by decide +kernel, by decide +kernel⟩
theorem m_whole_sum_ok {P : Program} {w : World} {K : PySem.W.Frag} {mg : Str → Option Value} {base : Heap} (Z : Md K mg) : FnD P w K mg base 4 (He.ga K "whole_sum") 1 m_whole_sum := by
  obtain ⟨fd, F⟩ := Z.d_whole_sum
  have nd := sc_whole_sum.nd
  refine fnD_of F sc_whole_sum rfl (binds_of F fun _ _ _ _ _ _ us hl => match us, hl with | [_], _ => rfl) fun cdv A outer s H E hr gd => ?_
  exact dss_cons (ds_set (i := 1) nd (de_gtup (is := [0, 1]) rfl Z.g_NONE Z.t_NONE)) (dss_cons (ds_for (passes_of rfl) rfl (di_seq (de_v 0)) (pg_nm nd) (dss_one (ds_set (i := 1) nd (de_call ((m_plus_ok Z).mono (by decide)) hr gd (takes_of rfl rfl rfl rfl) Z.g_plus rfl (da_cons (de_v 1) (da_cons (de_v 2) da_nil)))))) (dss_one (ds_ret (de_v 1))))

theorem sc_is_offer : FnScope ["thing", "pair", "one", "other", "value", "share"] ["thing"] (defScope (top 24)) := ⟨rfl, rfl, rfl, by decide +kernel, rfl, by decide +kernel, by decide +kernel⟩
theorem m_is_offer_ok {P : Program} {w : World} {K : PySem.W.Frag} {mg : Str → Option Value} {base : Heap} (Z : Md K mg) : FnD P w K mg base 5 (He.ga K "is_offer") 1 m_is_offer := by
  obtain ⟨fd, F⟩ := Z.d_is_offer
  have nd := sc_is_offer.nd
  refine fnD_of F sc_is_offer rfl (binds_of F fun _ _ _ _ _ _ us hl => match us, hl with | [_], _ => rfl) fun cdv A outer s H E hr gd => ?_
  exact dss_cons (ds_if (dt_bool (dw_or (dt_not (dt_tru (de_call ((m_is_tuple_ok Z).mono (by decide)) hr gd (takes_of rfl rfl rfl rfl) Z.g_is_tuple rfl (da_cons (de_v 0) (da_cons (de_int) (da_cons (de_gint rfl Z.i_MOST_PAIRS) da_nil)))))) (dw_or1 (dt_not (dt_tru (de_bf o_all (cr_all rfl) rfl Z.b_all boot_all (da_cons (de_frz (dn_lc (own := [("pair", 1)]) rfl nd (di_seq (de_v 0)) (blkOk_by (by kernel_rfl)) (fun _ _ _ _ _ => pg_nm nd) (fun _ _ _ _ _ => dts_nil) (fun _ _ _ _ _ => de_call ((m_is_value_pair_ok Z).mono (by decide)) hr gd takes0 Z.g_is_value_pair rfl (da_cons (de_v 1) da_nil)))) da_nil))))))) (dss_one (ds_ret (de_bl))) (dss_nil)) (dss_cons (ds_if (dt_not (dt_tru (de_bf o_all (cr_all rfl) rfl Z.b_all boot_all (da_cons (de_frz (dn_lc (own := [("one", 2), ("other", 3)]) rfl nd (di_zip rfl Z.b_zip (da_cons (de_v 0) (da_cons (de_sl (de_v 0) (do_some (de_int)) do_none) da_nil))) (blkOk_by (by kernel_rfl)) (fun _ _ _ _ _ => pg_tp rfl (pgs_co (pg_nm nd) (pgs_co (pg_nm nd) (pgs_no)))) (fun _ _ _ _ _ => dts_nil) (fun _ _ _ _ _ => de_lt (de_item (u1 hr) (de_v 2) (de_int)) (de_item (u1 hr) (de_v 3) (de_int))))) da_nil)))) (dss_one (ds_ret (de_bl))) (dss_nil)) (dss_one (ds_ret (de_eq (u64 hr) (de_call ((m_whole_sum_ok Z).mono (by decide)) hr gd (takes_of rfl rfl rfl rfl) Z.g_whole_sum rfl (da_cons (de_frz (dn_lc (own := [("value", 4), ("share", 5)]) rfl nd (di_seq (de_v 0)) (blkOk_by (by kernel_rfl)) (fun _ _ _ _ _ => pg_tp rfl (pgs_co (pg_nm nd) (pgs_co (pg_nm nd) (pgs_no)))) (fun _ _ _ _ _ => dts_nil) (fun _ _ _ _ _ => de_v 5))) da_nil)) (de_gtup (is := [1, 1]) rfl Z.g_WHOLE Z.t_WHOLE)))))

theorem sc_Deal___init__ : FnScope ["self", "offers", "offer"] ["self", "offers"] (defScope (inClass (top 28) 0)) := ⟨rfl, rfl, rfl, by decide +kernel, rfl, by decide +kernel, by decide +kernel⟩
theorem m_Deal___init___ok {P : Program} {w : World} {K : PySem.W.Frag} {mg : Str → Option Value} {base : Heap} (Z : Md K mg) : FnD P w K mg base 6 (He.ma K (He.ga K "Deal") "__init__") 2 m_Deal___init__ := by
  obtain ⟨fd, F⟩ := Z.d_Deal___init__
  have nd := sc_Deal___init__.nd
  refine fnD_of F sc_Deal___init__ rfl (binds_of F fun _ _ _ _ _ _ us hl => match us, hl with | [_, _], _ => rfl) fun cdv A outer s H E hr gd => ?_
  exact dss_cons (ds_if (dt_bool (dw_or (dt_not (dt_tru (de_call ((m_is_tuple_ok Z).mono (by decide)) hr gd (takes_of rfl rfl rfl rfl) Z.g_is_tuple rfl (da_cons (de_v 1) (da_cons (de_int) (da_cons (de_gint rfl Z.i_MOST_OFFERS) da_nil)))))) (dw_or1 (dt_not (dt_tru (de_bf o_all (cr_all rfl) rfl Z.b_all boot_all (da_cons (de_frz (dn_lc (own := [("offer", 2)]) rfl nd (di_seq (de_v 1)) (blkOk_by (by kernel_rfl)) (fun _ _ _ _ _ => pg_nm nd) (fun _ _ _ _ _ => dts_nil) (fun _ _ _ _ _ => de_call ((m_is_offer_ok Z).mono (by decide)) hr gd takes0 Z.g_is_offer rfl (da_cons (de_v 2) da_nil)))) da_nil))))))) (dss_one (ds_never)) (dss_nil)) (dss_one (ds_fld Z.c_Deal Z.n_Deal_offers (de_v 1) (de_v 0)))

theorem sc__law_less : FnScope ["one", "other"] ["one", "other"] (defScope (top 44)) := ⟨rfl, rfl, rfl, by decide +kernel, rfl, by decide +kernel, by decide +kernel⟩
theorem m__law_less_ok {P : Program} {w : World} {K : PySem.W.Frag} {mg : Str → Option Value} {base : Heap} (Z : Md K mg) : FnD P w K mg base 1 (He.ga K "_law_less") 2 m__law_less := by
  obtain ⟨fd, F⟩ := Z.d__law_less
  have nd := sc__law_less.nd
  refine fnD_of F sc__law_less rfl (binds_of F fun _ _ _ _ _ _ us hl => match us, hl with | [_, _], _ => rfl) fun cdv A outer s H E hr gd => ?_
  exact dss_one (ds_ret (de_lt (de_mul (de_item (u1 hr) (de_v 0) (de_int)) (de_item (u1 hr) (de_v 1) (de_int))) (de_mul (de_item (u1 hr) (de_v 1) (de_int)) (de_item (u1 hr) (de_v 0) (de_int)))))

theorem sc__law_sum : FnScope ["one", "other"] ["one", "other"] (defScope (top 42)) := ⟨rfl, rfl, rfl, by decide +kernel, rfl, by decide +kernel, by decide +kernel⟩
theorem m__law_sum_ok {P : Program} {w : World} {K : PySem.W.Frag} {mg : Str → Option Value} {base : Heap} (Z : Md K mg) : FnD P w K mg base 2 (He.ga K "_law_sum") 2 m__law_sum := by
  obtain ⟨fd, F⟩ := Z.d__law_sum
  have nd := sc__law_sum.nd
  refine fnD_of F sc__law_sum rfl (binds_of F fun _ _ _ _ _ _ us hl => match us, hl with | [_, _], _ => rfl) fun cdv A outer s H E hr gd => ?_
  exact dss_one (ds_ret (de_call ((m__law_low_ok Z).mono (by omega)) hr gd (takes_of rfl rfl rfl rfl) Z.g__law_low rfl (da_cons (de_add (de_mul (de_item (u1 hr) (de_v 0) (de_int)) (de_item (u1 hr) (de_v 1) (de_int))) (de_mul (de_item (u1 hr) (de_v 1) (de_int)) (de_item (u1 hr) (de_v 0) (de_int)))) (da_cons (de_mul (de_item (u1 hr) (de_v 0) (de_int)) (de_item (u1 hr) (de_v 1) (de_int))) da_nil))))

theorem sc__law_prod : FnScope ["one", "other"] ["one", "other"] (defScope (top 43)) := ⟨rfl, rfl, rfl, by decide +kernel, rfl, by decide +kernel, by decide +kernel⟩
theorem m__law_prod_ok {P : Program} {w : World} {K : PySem.W.Frag} {mg : Str → Option Value} {base : Heap} (Z : Md K mg) : FnD P w K mg base 2 (He.ga K "_law_prod") 2 m__law_prod := by
  obtain ⟨fd, F⟩ := Z.d__law_prod
  have nd := sc__law_prod.nd
  refine fnD_of F sc__law_prod rfl (binds_of F fun _ _ _ _ _ _ us hl => match us, hl with | [_, _], _ => rfl) fun cdv A outer s H E hr gd => ?_
  exact dss_one (ds_ret (de_call ((m__law_low_ok Z).mono (by omega)) hr gd (takes_of rfl rfl rfl rfl) Z.g__law_low rfl (da_cons (de_mul (de_item (u1 hr) (de_v 0) (de_int)) (de_item (u1 hr) (de_v 1) (de_int))) (da_cons (de_mul (de_item (u1 hr) (de_v 0) (de_int)) (de_item (u1 hr) (de_v 1) (de_int))) da_nil))))

theorem sc__law_by_floor : FnScope ["offers", "floor", "found", "left", "offer", "some", "gone", "value", "share"] ["offers", "floor"] (defScope (top 47)) := ⟨rfl, rfl, rfl, by decide +kernel, rfl, by decide +kernel, by decide +kernel⟩
theorem m__law_by_floor_ok {P : Program} {w : World} {K : PySem.W.Frag} {mg : Str → Option Value} {base : Heap} (Z : Md K mg) : FnD P w K mg base 3 (He.ga K "_law_by_floor") 2 m__law_by_floor := by
  obtain ⟨fd, F⟩ := Z.d__law_by_floor
  have nd := sc__law_by_floor.nd
  refine fnD_of F sc__law_by_floor rfl (binds_of F fun _ _ _ _ _ _ us hl => match us, hl with | [_, _], _ => rfl) fun cdv A outer s H E hr gd => ?_
  exact dss_cons (ds_pat (de_tup (da_cons (de_tup (da_cons (de_int) (da_cons (de_int) da_nil))) (da_cons (de_tup (da_cons (de_int) (da_cons (de_int) da_nil))) da_nil))) (pg_tp rfl (pgs_co (pg_nm nd) (pgs_co (pg_nm nd) (pgs_no))))) (dss_cons (ds_for (passes_of rfl) rfl (di_seq (de_v 0)) (pg_nm nd) (dss_cons (ds_setLc (fun _ _ _ _ q => w_frz q) (own := [("value", 7), ("share", 8)]) rfl nd (di_seq (de_v 4)) (blkOk_by (by kernel_rfl)) (fun _ _ _ _ _ => pg_tp rfl (pgs_co (pg_nm nd) (pgs_co (pg_nm nd) (pgs_no)))) (fun _ _ _ _ _ => dts_one (dt_not (dt_tru (de_call ((m__law_less_ok Z).mono (by omega)) hr gd takes0 Z.g__law_less rfl (da_cons (de_tup (da_cons (de_v 7) (da_cons (de_int) da_nil))) (da_cons (de_v 1) da_nil)))))) (fun _ _ _ _ _ => de_tup (da_cons (de_v 7) (da_cons (de_v 8) da_nil)))) (dss_cons (ds_set (i := 6) nd (de_tup (da_cons (de_int) (da_cons (de_int) da_nil)))) (dss_cons (ds_for (passes_of rfl) rfl (di_seq (de_v 5)) (pg_tp rfl (pgs_co (pg_nm nd) (pgs_co (pg_nm nd) (pgs_no)))) (dss_cons (ds_set (i := 2) nd (de_call ((m__law_sum_ok Z).mono (by omega)) hr gd (takes_of rfl rfl rfl rfl) Z.g__law_sum rfl (da_cons (de_v 2) (da_cons (de_call ((m__law_prod_ok Z).mono (by omega)) hr gd (takes_of rfl rfl rfl rfl) Z.g__law_prod rfl (da_cons (de_v 3) (da_cons (de_call ((m__law_prod_ok Z).mono (by omega)) hr gd (takes_of rfl rfl rfl rfl) Z.g__law_prod rfl (da_cons (de_tup (da_cons (de_v 7) (da_cons (de_int) da_nil))) (da_cons (de_v 8) da_nil))) da_nil))) da_nil)))) (dss_one (ds_set (i := 6) nd (de_call ((m__law_sum_ok Z).mono (by omega)) hr gd (takes_of rfl rfl rfl rfl) Z.g__law_sum rfl (da_cons (de_v 6) (da_cons (de_v 8) da_nil))))))) (dss_one (ds_set (i := 3) nd (de_call ((m__law_prod_ok Z).mono (by omega)) hr gd (takes_of rfl rfl rfl rfl) Z.g__law_prod rfl (da_cons (de_v 3) (da_cons (de_call ((m__law_low_ok Z).mono (by omega)) hr gd (takes_of rfl rfl rfl rfl) Z.g__law_low rfl (da_cons (de_sub (de_item (u1 hr) (de_v 6) (de_int)) (de_item (u1 hr) (de_v 6) (de_int))) (da_cons (de_item (u1 hr) (de_v 6) (de_int)) da_nil))) da_nil))))))))) (dss_one (ds_ret (de_v 2))))

theorem sc__law_is : FnScope ["one", "other", "mine", "yours", "key"] ["one", "other"] (defScope (top 40)) := ⟨rfl, rfl, rfl, by decide +kernel, rfl, by decide +kernel, by decide +kernel⟩
theorem r__law_is_ok {P : Program} {w : World} {K : PySem.W.Frag} {mg : Str → Option Value} {base : Heap} (Z : Md K mg) : ∀ j : Nat, FnD P w K mg base (0 + 1 * j) (He.ga K "_law_is") 2 (r__law_is j)
  | 0 => by
    obtain ⟨fd, F⟩ := Z.d__law_is
    exact fnD_bad F (ps := ["one", "other"]) rfl (binds_of F fun _ _ _ _ _ _ us hl => match us, hl with | [_, _], _ => rfl)
  | j + 1 => by
    have ih := r__law_is_ok (P := P) (w := w) (base := base) Z j
    obtain ⟨fd, F⟩ := Z.d__law_is
    have nd := sc__law_is.nd
    refine FnD.mono (j := 0 + 1 * j + 0 + 1) (fnD_of F sc__law_is rfl (binds_of F fun _ _ _ _ _ _ us hl => match us, hl with | [_, _], _ => rfl) fun cdv A outer s H E hr gd => ?_) (by omega)
    exact dss_cons (ds_if (dt_bool (dw_or (dt_tru (de_bf (o_isi (own := []) Z.own) call_isi rfl Z.b_isinstance boot_isinstance (da_cons (de_v 0) (da_cons (de_ty rfl Z.b_bool boot_bool) da_nil)))) (dw_or1 (dt_tru (de_bf (o_isi (own := []) Z.own) call_isi rfl Z.b_isinstance boot_isinstance (da_cons (de_v 1) (da_cons (de_ty rfl Z.b_bool boot_bool) da_nil))))))) (dss_one (ds_ret (de_andX (de_bf (o_isi (own := []) Z.own) call_isi rfl Z.b_isinstance boot_isinstance (da_cons (de_v 0) (da_cons (de_ty rfl Z.b_bool boot_bool) da_nil))) (de_andX (de_bf (o_isi (own := []) Z.own) call_isi rfl Z.b_isinstance boot_isinstance (da_cons (de_v 1) (da_cons (de_ty rfl Z.b_bool boot_bool) da_nil))) (de_one (de_eq (u64 hr) (de_v 0) (de_v 1))))))) (dss_nil)) (dss_cons (ds_if (dt_bool (dw_or (dt_tru (de_bf (o_isi (own := []) Z.own) call_isi rfl Z.b_isinstance boot_isinstance (da_cons (de_v 0) (da_cons (de_ty rfl Z.b_tuple boot_tuple) da_nil)))) (dw_or1 (dt_tru (de_bf (o_isi (own := []) Z.own) call_isi rfl Z.b_isinstance boot_isinstance (da_cons (de_v 0) (da_cons (de_ty rfl Z.b_list boot_list) da_nil))))))) (dss_cons (ds_if (dt_bool (dw_or (dt_ne (u64 hr) (de_bf (o_isi (own := []) Z.own) call_isi rfl Z.b_isinstance boot_isinstance (da_cons (de_v 0) (da_cons (de_ty rfl Z.b_tuple boot_tuple) da_nil))) (de_bf (o_isi (own := []) Z.own) call_isi rfl Z.b_isinstance boot_isinstance (da_cons (de_v 1) (da_cons (de_ty rfl Z.b_tuple boot_tuple) da_nil)))) (dw_or1 (dt_ne (u64 hr) (de_bf (o_isi (own := []) Z.own) call_isi rfl Z.b_isinstance boot_isinstance (da_cons (de_v 0) (da_cons (de_ty rfl Z.b_list boot_list) da_nil))) (de_bf (o_isi (own := []) Z.own) call_isi rfl Z.b_isinstance boot_isinstance (da_cons (de_v 1) (da_cons (de_ty rfl Z.b_list boot_list) da_nil))))))) (dss_one (ds_ret (de_bl))) (dss_nil)) (dss_one (ds_ret (de_andX (de_eq (u64 hr) (de_bf o_len c_len rfl Z.b_len boot_len (da_cons (de_v 0) da_nil)) (de_bf o_len c_len rfl Z.b_len boot_len (da_cons (de_v 1) da_nil))) (de_one (de_bf o_all (cr_all rfl) rfl Z.b_all boot_all (da_cons (de_frz (dn_lc (own := [("mine", 2), ("yours", 3)]) rfl nd (di_zip rfl Z.b_zip (da_cons (de_v 0) (da_cons (de_v 1) da_nil))) (blkOk_by (by kernel_rfl)) (fun _ _ _ _ _ => pg_tp rfl (pgs_co (pg_nm nd) (pgs_co (pg_nm nd) (pgs_no)))) (fun _ _ _ _ _ => dts_nil) (fun _ _ _ _ _ => de_call (ih.mono (by omega)) hr gd takes0 Z.g__law_is rfl (da_cons (de_v 2) (da_cons (de_v 3) da_nil))))) da_nil))))))) (dss_nil)) (dss_cons (ds_if (dt_tru (de_bf (o_isi (own := []) Z.own) call_isi rfl Z.b_isinstance boot_isinstance (da_cons (de_v 0) (da_cons (de_ty rfl Z.b_dict boot_dict) da_nil)))) (dss_cons (ds_if (dt_bool (dw_or (dt_not (dt_tru (de_bf (o_isi (own := []) Z.own) call_isi rfl Z.b_isinstance boot_isinstance (da_cons (de_v 1) (da_cons (de_ty rfl Z.b_dict boot_dict) da_nil))))) (dw_or1 (dt_ne (u64 hr) (de_bf o_len c_len rfl Z.b_len boot_len (da_cons (de_v 0) da_nil)) (de_bf o_len c_len rfl Z.b_len boot_len (da_cons (de_v 1) da_nil)))))) (dss_one (ds_ret (de_bl))) (dss_nil)) (dss_one (ds_ret (de_bf o_all (cr_all rfl) rfl Z.b_all boot_all (da_cons (de_frz (dn_lc (own := [("key", 4)]) rfl nd (di_seq (de_v 0)) (blkOk_by (by kernel_rfl)) (fun _ _ _ _ _ => pg_nm nd) (fun _ _ _ _ _ => dts_nil) (fun _ _ _ _ _ => de_andX (de_in (u65 hr) (de_v 4) (de_v 1)) (de_one (de_call (ih.mono (by omega)) hr gd takes0 Z.g__law_is rfl (da_cons (de_item (u1 hr) (de_v 0) (de_v 4)) (da_cons (de_item (u1 hr) (de_v 1) (de_v 4)) da_nil))))))) da_nil))))) (dss_nil)) (dss_one (ds_ret (de_andX (de_eq (u64 hr) (de_bf (o_isi (own := []) Z.own) call_isi rfl Z.b_isinstance boot_isinstance (da_cons (de_v 0) (da_cons (de_ty rfl Z.b_int boot_int) da_nil))) (de_bf (o_isi (own := []) Z.own) call_isi rfl Z.b_isinstance boot_isinstance (da_cons (de_v 1) (da_cons (de_ty rfl Z.b_int boot_int) da_nil)))) (de_one (de_eq (u64 hr) (de_v 0) (de_v 1))))))))
theorem m__law_is_ok {P : Program} {w : World} {K : PySem.W.Frag} {mg : Str → Option Value} {base : Heap} (Z : Md K mg) : FnD P w K mg base 12 (He.ga K "_law_is") 2 m__law_is := r__law_is_ok Z 12

theorem sc_is_less : FnScope ["one", "other"] ["one", "other"] (defScope (top 18)) := ⟨rfl, rfl, rfl, by decide +kernel, rfl, by decide +kernel, by decide +kernel⟩
theorem m_is_less_ok {P : Program} {w : World} {K : PySem.W.Frag} {mg : Str → Option Value} {base : Heap} (Z : Md K mg) : FnD P w K mg base 1 (He.ga K "is_less") 2 m_is_less := by
  obtain ⟨fd, F⟩ := Z.d_is_less
  have nd := sc_is_less.nd
  refine fnD_of F sc_is_less rfl (binds_of F fun _ _ _ _ _ _ us hl => match us, hl with | [_, _], _ => rfl) fun cdv A outer s H E hr gd => ?_
  exact dss_one (ds_ret (de_lt (de_mul (de_item (u1 hr) (de_v 0) (de_int)) (de_item (u1 hr) (de_v 1) (de_int))) (de_mul (de_item (u1 hr) (de_v 1) (de_int)) (de_item (u1 hr) (de_v 0) (de_int)))))

theorem sc_product : FnScope ["one", "other"] ["one", "other"] (defScope (top 17)) := ⟨rfl, rfl, rfl, by decide +kernel, rfl, by decide +kernel, by decide +kernel⟩
theorem m_product_ok {P : Program} {w : World} {K : PySem.W.Frag} {mg : Str → Option Value} {base : Heap} (Z : Md K mg) : FnD P w K mg base 3 (He.ga K "product") 2 m_product := by
  obtain ⟨fd, F⟩ := Z.d_product
  have nd := sc_product.nd
  refine fnD_of F sc_product rfl (binds_of F fun _ _ _ _ _ _ us hl => match us, hl with | [_, _], _ => rfl) fun cdv A outer s H E hr gd => ?_
  exact dss_one (ds_ret (de_call ((m_lowest_ok Z).mono (by decide)) hr gd (takes_of rfl rfl rfl rfl) Z.g_lowest rfl (da_cons (de_mul (de_item (u1 hr) (de_v 0) (de_int)) (de_item (u1 hr) (de_v 1) (de_int))) (da_cons (de_mul (de_item (u1 hr) (de_v 0) (de_int)) (de_item (u1 hr) (de_v 1) (de_int))) da_nil))))

theorem sc_mean_of : FnScope ["offer", "value", "share"] ["offer"] (defScope (top 25)) := ⟨rfl, rfl, rfl, by decide +kernel, rfl, by decide +kernel, by decide +kernel⟩
theorem m_mean_of_ok {P : Program} {w : World} {K : PySem.W.Frag} {mg : Str → Option Value} {base : Heap} (Z : Md K mg) : FnD P w K mg base 5 (He.ga K "mean_of") 1 m_mean_of := by
  obtain ⟨fd, F⟩ := Z.d_mean_of
  have nd := sc_mean_of.nd
  refine fnD_of F sc_mean_of rfl (binds_of F fun _ _ _ _ _ _ us hl => match us, hl with | [_], _ => rfl) fun cdv A outer s H E hr gd => ?_
  exact dss_one (ds_ret (de_call ((m_whole_sum_ok Z).mono (by decide)) hr gd (takes_of rfl rfl rfl rfl) Z.g_whole_sum rfl (da_cons (de_frz (dn_lc (own := [("value", 1), ("share", 2)]) rfl nd (di_seq (de_v 0)) (blkOk_by (by kernel_rfl)) (fun _ _ _ _ _ => pg_tp rfl (pgs_co (pg_nm nd) (pgs_co (pg_nm nd) (pgs_no)))) (fun _ _ _ _ _ => dts_nil) (fun _ _ _ _ _ => de_call ((m_product_ok Z).mono (by decide)) hr gd takes0 Z.g_product rfl (da_cons (de_tup (da_cons (de_v 1) (da_cons (de_int) da_nil))) (da_cons (de_v 2) da_nil))))) da_nil)))

theorem sc_minus : FnScope ["one", "other"] ["one", "other"] (defScope (top 16)) := ⟨rfl, rfl, rfl, by decide +kernel, rfl, by decide +kernel, by decide +kernel⟩
theorem m_minus_ok {P : Program} {w : World} {K : PySem.W.Frag} {mg : Str → Option Value} {base : Heap} (Z : Md K mg) : FnD P w K mg base 3 (He.ga K "minus") 2 m_minus := by
  obtain ⟨fd, F⟩ := Z.d_minus
  have nd := sc_minus.nd
  refine fnD_of F sc_minus rfl (binds_of F fun _ _ _ _ _ _ us hl => match us, hl with | [_, _], _ => rfl) fun cdv A outer s H E hr gd => ?_
  exact dss_one (ds_ret (de_call ((m_lowest_ok Z).mono (by decide)) hr gd (takes_of rfl rfl rfl rfl) Z.g_lowest rfl (da_cons (de_sub (de_mul (de_item (u1 hr) (de_v 0) (de_int)) (de_item (u1 hr) (de_v 1) (de_int))) (de_mul (de_item (u1 hr) (de_v 1) (de_int)) (de_item (u1 hr) (de_v 0) (de_int)))) (da_cons (de_mul (de_item (u1 hr) (de_v 0) (de_int)) (de_item (u1 hr) (de_v 1) (de_int))) da_nil))))

theorem sc_one_floor : FnScope ["offers", "floor", "found", "still", "offer", "good", "value", "share"] ["offers", "floor"] (defScope (top 32)) := ⟨rfl, rfl, rfl, by decide +kernel, rfl, by decide +kernel, by decide +kernel⟩
theorem m_one_floor_ok {P : Program} {w : World} {K : PySem.W.Frag} {mg : Str → Option Value} {base : Heap} (Z : Md K mg) : FnD P w K mg base 6 (He.ga K "one_floor") 2 m_one_floor := by
  obtain ⟨fd, F⟩ := Z.d_one_floor
  have nd := sc_one_floor.nd
  refine fnD_of F sc_one_floor rfl (binds_of F fun _ _ _ _ _ _ us hl => match us, hl with | [_, _], _ => rfl) fun cdv A outer s H E hr gd => ?_
  exact dss_cons (ds_par2 (i := 2) (j := 3) rfl nd (da_cons (de_gtup (is := [0, 1]) rfl Z.g_NONE Z.t_NONE) (da_cons (de_gtup (is := [1, 1]) rfl Z.g_WHOLE Z.t_WHOLE) da_nil))) (dss_cons (ds_for (passes_of rfl) rfl (di_seq (de_v 0)) (pg_nm nd) (dss_cons (ds_setLc (fun _ _ _ _ q => w_frz q) (own := [("value", 6), ("share", 7)]) rfl nd (di_seq (de_v 4)) (blkOk_by (by kernel_rfl)) (fun _ _ _ _ _ => pg_tp rfl (pgs_co (pg_nm nd) (pgs_co (pg_nm nd) (pgs_no)))) (fun _ _ _ _ _ => dts_one (dt_not (dt_tru (de_call ((m_is_less_ok Z).mono (by decide)) hr gd takes0 Z.g_is_less rfl (da_cons (de_tup (da_cons (de_v 6) (da_cons (de_int) da_nil))) (da_cons (de_v 1) da_nil)))))) (fun _ _ _ _ _ => de_tup (da_cons (de_v 6) (da_cons (de_v 7) da_nil)))) (dss_cons (ds_set (i := 2) nd (de_call ((m_plus_ok Z).mono (by decide)) hr gd (takes_of rfl rfl rfl rfl) Z.g_plus rfl (da_cons (de_v 2) (da_cons (de_call ((m_product_ok Z).mono (by decide)) hr gd (takes_of rfl rfl rfl rfl) Z.g_product rfl (da_cons (de_v 3) (da_cons (de_call ((m_mean_of_ok Z).mono (by decide)) hr gd (takes_of rfl rfl rfl rfl) Z.g_mean_of rfl (da_cons (de_v 5) da_nil)) da_nil))) da_nil)))) (dss_one (ds_set (i := 3) nd (de_call ((m_product_ok Z).mono (by decide)) hr gd (takes_of rfl rfl rfl rfl) Z.g_product rfl (da_cons (de_v 3) (da_cons (de_call ((m_minus_ok Z).mono (by decide)) hr gd (takes_of rfl rfl rfl rfl) Z.g_minus rfl (da_cons (de_gtup (is := [1, 1]) rfl Z.g_WHOLE Z.t_WHOLE) (da_cons (de_call ((m_whole_sum_ok Z).mono (by decide)) hr gd (takes_of rfl rfl rfl rfl) Z.g_whole_sum rfl (da_cons (de_frz (dn_lc (own := [("value", 6), ("share", 7)]) rfl nd (di_seq (de_v 5)) (blkOk_by (by kernel_rfl)) (fun _ _ _ _ _ => pg_tp rfl (pgs_co (pg_nm nd) (pgs_co (pg_nm nd) (pgs_no)))) (fun _ _ _ _ _ => dts_nil) (fun _ _ _ _ _ => de_v 7))) da_nil)) da_nil))) da_nil)))))))) (dss_one (ds_ret (de_v 2))))

theorem sc_by_floor : FnScope ["deal", "floor"] ["deal", "floor"] (defScope (top 33)) := ⟨rfl, rfl, rfl, by decide +kernel, rfl, by decide +kernel, by decide +kernel⟩
theorem m_by_floor_ok {P : Program} {w : World} {K : PySem.W.Frag} {mg : Str → Option Value} {base : Heap} (Z : Md K mg) : FnD P w K mg base 7 (He.ga K "by_floor") 2 m_by_floor := by
  obtain ⟨fd, F⟩ := Z.d_by_floor
  have nd := sc_by_floor.nd
  refine fnD_of F sc_by_floor rfl (binds_of F fun _ _ _ _ _ _ us hl => match us, hl with | [_, _], _ => rfl) fun cdv A outer s H E hr gd => ?_
  exact dss_cons (ds_if (dt_bool (dw_or (dt_not (dt_tru (de_call ((m_is_fraction_ok Z).mono (by decide)) hr gd (takes_of rfl rfl rfl rfl) Z.g_is_fraction rfl (da_cons (de_v 1) da_nil)))) (dw_or1 (dt_lt (de_item (u1 hr) (de_v 1) (de_int)) (de_int))))) (dss_one (ds_never)) (dss_nil)) (dss_one (ds_ret (de_call ((m_one_floor_ok Z).mono (by decide)) hr gd (takes_of rfl rfl rfl rfl) Z.g_one_floor rfl (da_cons (de_fld Z.c_Deal Z.n_Deal_offers (de_v 0)) (da_cons (de_v 1) da_nil)))))

theorem sc_values_of : FnScope ["offers", "found", "offer", "value", "share"] ["offers"] (defScope (top 34)) := ⟨rfl, rfl, rfl, by decide +kernel, rfl, by decide +kernel, by decide +kernel⟩
theorem m_values_of_ok {P : Program} {w : World} {K : PySem.W.Frag} {mg : Str → Option Value} {base : Heap} (Z : Md K mg) : FnD P w K mg base 1 (He.ga K "values_of") 1 m_values_of := by
  obtain ⟨fd, F⟩ := Z.d_values_of
  have nd := sc_values_of.nd
  refine fnD_of F sc_values_of rfl (binds_of F fun _ _ _ _ _ _ us hl => match us, hl with | [_], _ => rfl) fun cdv A outer s H E hr gd => ?_
  exact dss_cons (ds_set (i := 1) nd (de_dct0)) (dss_cons (ds_for (passes_of rfl) rfl (di_seq (de_v 0)) (pg_nm nd) (dss_one (ds_for (passes_of rfl) rfl (di_seq (de_v 2)) (pg_tp rfl (pgs_co (pg_nm nd) (pgs_co (pg_nm nd) (pgs_no)))) (dss_one (ds_store (u1 hr) (de_bl) (de_v 1) (de_v 3)))))) (dss_one (ds_ret (de_frz (dn_bf o_sortD (call_sortedDI rfl) rfl Z.b_sorted boot_sorted (da_cons (de_v 1) da_nil))))))

theorem sc_best_floor : FnScope ["deal", "rows", "top", "row", "value"] ["deal"] (defScope (top 35)) := ⟨rfl, rfl, rfl, by decide +kernel, rfl, by decide +kernel, by decide +kernel⟩
theorem m_best_floor_ok {P : Program} {w : World} {K : PySem.W.Frag} {mg : Str → Option Value} {base : Heap} (Z : Md K mg) : FnD P w K mg base 7 (He.ga K "best_floor") 1 m_best_floor := by
  obtain ⟨fd, F⟩ := Z.d_best_floor
  have nd := sc_best_floor.nd
  refine fnD_of F sc_best_floor rfl (binds_of F fun _ _ _ _ _ _ us hl => match us, hl with | [_], _ => rfl) fun cdv A outer s H E hr gd => ?_
  exact dss_cons (ds_setLc (fun _ _ _ _ q => w_frz q) (own := [("value", 4)]) rfl nd (di_seq (de_call ((m_values_of_ok Z).mono (by decide)) hr gd (takes_of rfl rfl rfl rfl) Z.g_values_of rfl (da_cons (de_fld Z.c_Deal Z.n_Deal_offers (de_v 0)) da_nil))) (blkOk_by (by kernel_rfl)) (fun _ _ _ _ _ => pg_nm nd) (fun _ _ _ _ _ => dts_nil) (fun _ _ _ _ _ => de_tup (da_cons (de_call ((m_one_floor_ok Z).mono (by decide)) hr gd takes0 Z.g_one_floor rfl (da_cons (de_fld Z.c_Deal Z.n_Deal_offers (de_v 0)) (da_cons (de_tup (da_cons (de_v 4) (da_cons (de_int) da_nil))) da_nil))) (da_cons (de_tup (da_cons (de_v 4) (da_cons (de_int) da_nil))) da_nil)))) (dss_cons (ds_set (i := 2) nd (de_item (u1 hr) (de_v 1) (de_int))) (dss_cons (ds_for (passes_of rfl) rfl (di_seq (de_sl (de_v 1) (do_some (de_int)) do_none)) (pg_nm nd) (dss_one (ds_if (dt_tru (de_call ((m_is_less_ok Z).mono (by decide)) hr gd (takes_of rfl rfl rfl rfl) Z.g_is_less rfl (da_cons (de_item (u1 hr) (de_v 2) (de_int)) (da_cons (de_item (u1 hr) (de_v 3) (de_int)) da_nil)))) (dss_one (ds_set (i := 2) nd (de_v 3))) (dss_nil)))) (dss_one (ds_ret (de_v 2)))))

theorem sc_greatest : FnScope ["one", "other"] ["one", "other"] (defScope (top 19)) := ⟨rfl, rfl, rfl, by decide +kernel, rfl, by decide +kernel, by decide +kernel⟩
theorem m_greatest_ok {P : Program} {w : World} {K : PySem.W.Frag} {mg : Str → Option Value} {base : Heap} (Z : Md K mg) : FnD P w K mg base 2 (He.ga K "greatest") 2 m_greatest := by
  obtain ⟨fd, F⟩ := Z.d_greatest
  have nd := sc_greatest.nd
  refine fnD_of F sc_greatest rfl (binds_of F fun _ _ _ _ _ _ us hl => match us, hl with | [_, _], _ => rfl) fun cdv A outer s H E hr gd => ?_
  exact dss_one (ds_ret (de_if (dt_tru (de_call ((m_is_less_ok Z).mono (by decide)) hr gd (takes_of rfl rfl rfl rfl) Z.g_is_less rfl (da_cons (de_v 0) (da_cons (de_v 1) da_nil)))) (de_v 1) (de_v 0)))

theorem sc_with_floor : FnScope ["offer", "floor", "value", "share"] ["offer", "floor"] (defScope (top 29)) := ⟨rfl, rfl, rfl, by decide +kernel, rfl, by decide +kernel, by decide +kernel⟩
theorem m_with_floor_ok {P : Program} {w : World} {K : PySem.W.Frag} {mg : Str → Option Value} {base : Heap} (Z : Md K mg) : FnD P w K mg base 5 (He.ga K "with_floor") 2 m_with_floor := by
  obtain ⟨fd, F⟩ := Z.d_with_floor
  have nd := sc_with_floor.nd
  refine fnD_of F sc_with_floor rfl (binds_of F fun _ _ _ _ _ _ us hl => match us, hl with | [_, _], _ => rfl) fun cdv A outer s H E hr gd => ?_
  exact dss_one (ds_ret (de_call ((m_whole_sum_ok Z).mono (by decide)) hr gd (takes_of rfl rfl rfl rfl) Z.g_whole_sum rfl (da_cons (de_frz (dn_lc (own := [("value", 2), ("share", 3)]) rfl nd (di_seq (de_v 0)) (blkOk_by (by kernel_rfl)) (fun _ _ _ _ _ => pg_tp rfl (pgs_co (pg_nm nd) (pgs_co (pg_nm nd) (pgs_no)))) (fun _ _ _ _ _ => dts_nil) (fun _ _ _ _ _ => de_call ((m_product_ok Z).mono (by decide)) hr gd takes0 Z.g_product rfl (da_cons (de_v 3) (da_cons (de_call ((m_greatest_ok Z).mono (by decide)) hr gd takes0 Z.g_greatest rfl (da_cons (de_tup (da_cons (de_v 2) (da_cons (de_int) da_nil))) (da_cons (de_v 1) da_nil))) da_nil))))) da_nil)))

theorem sc_worths : FnScope ["offers", "found", "offer"] ["offers"] (defScope (top 30)) := ⟨rfl, rfl, rfl, by decide +kernel, rfl, by decide +kernel, by decide +kernel⟩
theorem m_worths_ok {P : Program} {w : World} {K : PySem.W.Frag} {mg : Str → Option Value} {base : Heap} (Z : Md K mg) : FnD P w K mg base 6 (He.ga K "worths") 1 m_worths := by
  obtain ⟨fd, F⟩ := Z.d_worths
  have nd := sc_worths.nd
  refine fnD_of F sc_worths rfl (binds_of F fun _ _ _ _ _ _ us hl => match us, hl with | [_], _ => rfl) fun cdv A outer s H E hr gd => ?_
  exact dss_cons (ds_set (i := 1) nd (de_thaw (dn_lst (da_cons (de_gtup (is := [0, 1]) rfl Z.g_NONE Z.t_NONE) da_nil)))) (dss_cons (ds_for (passes_of rfl) rfl (di_seq (de_rev (de_v 0))) (pg_nm nd) (dss_one (ds_exp (de_app (de_v 1) (da_cons (de_call ((m_with_floor_ok Z).mono (by decide)) hr gd (takes_of rfl rfl rfl rfl) Z.g_with_floor rfl (da_cons (de_v 2) (da_cons (de_item (u1 hr) (de_v 1) (de_neg (de_int))) da_nil))) da_nil))))) (dss_one (ds_ret (de_rev (de_v 1)))))

theorem sc_worth : FnScope ["deal"] ["deal"] (defScope (top 31)) := ⟨rfl, rfl, rfl, by decide +kernel, rfl, by decide +kernel, by decide +kernel⟩
theorem m_worth_ok {P : Program} {w : World} {K : PySem.W.Frag} {mg : Str → Option Value} {base : Heap} (Z : Md K mg) : FnD P w K mg base 7 (He.ga K "worth") 1 m_worth := by
  obtain ⟨fd, F⟩ := Z.d_worth
  have nd := sc_worth.nd
  refine fnD_of F sc_worth rfl (binds_of F fun _ _ _ _ _ _ us hl => match us, hl with | [_], _ => rfl) fun cdv A outer s H E hr gd => ?_
  exact dss_one (ds_ret (de_item (u1 hr) (de_call ((m_worths_ok Z).mono (by decide)) hr gd (takes_of rfl rfl rfl rfl) Z.g_worths rfl (da_cons (de_fld Z.c_Deal Z.n_Deal_offers (de_v 0)) da_nil)) (de_int)))

theorem sc_law_k13 : FnScope ["script", "hand", "turn", "offers", "values", "deal", "offer", "value", "share", "best_one", "due", "again", "floor", "coin"] ["script"] (defScope (top 48)) := ⟨rfl, rfl, rfl, by decide +kernel, rfl, by decide +kernel, by decide +kernel⟩
theorem m_law_k13_ok {P : Program} {w : World} {K : PySem.W.Frag} {mg : Str → Option Value} {base : Heap} (Z : Md K mg) : FnD P w K mg base 13 (He.ga K "law") 1 m_law_k13 := by
  obtain ⟨fd, F⟩ := Z.d_law
  have nd := sc_law_k13.nd
  refine fnD_of F sc_law_k13 rfl (binds_of F fun _ _ _ _ _ _ us hl => match us, hl with | [_], _ => rfl) fun cdv A outer s H E hr gd => ?_
  exact dss_cons (ds_set (i := 1) nd (de_call ((m__law_hand_v2_ok Z).mono (by decide)) hr gd (takes_of rfl rfl rfl rfl) Z.g__law_hand rfl (da_cons (de_v 0) da_nil))) (dss_cons (ds_for (passes_of rfl) rfl (di_range1 rfl Z.b_range (da_cons (de_int) da_nil)) (pg_nm nd) (dss_cons (ds_par2 (i := 3) (j := 4) rfl nd (da_cons (de_call ((m__law_deal_ok Z).mono (by decide)) hr gd (takes_of rfl rfl rfl rfl) Z.g__law_deal rfl (da_cons (de_v 1) (da_cons (de_int) (da_cons (de_int) da_nil)))) (da_cons (de_dct0) da_nil))) (dss_cons (ds_set (i := 5) nd (de_make (k := 11) ((m_Deal___init___ok Z).mono (by decide)) Z.mk_Deal hr gd (takes_of rfl rfl rfl rfl) Z.g_Deal rfl (da_cons (de_v 3) da_nil))) (dss_cons (ds_for (passes_of rfl) rfl (di_seq (de_v 3)) (pg_nm nd) (dss_one (ds_for (passes_of rfl) rfl (di_seq (de_v 6)) (pg_tp rfl (pgs_co (pg_nm nd) (pgs_co (pg_nm nd) (pgs_no)))) (dss_one (ds_store (u1 hr) (de_bl) (de_v 4) (de_v 7)))))) (dss_cons (ds_set (i := 9) nd (de_non)) (dss_cons (ds_for (passes_of rfl) rfl (di_seq (de_frz (dn_bf o_sortD (call_sortedDI rfl) rfl Z.b_sorted boot_sorted (da_cons (de_v 4) da_nil)))) (pg_nm nd) (dss_cons (ds_set (i := 10) nd (de_call ((m__law_by_floor_ok Z).mono (by decide)) hr gd (takes_of rfl rfl rfl rfl) Z.g__law_by_floor rfl (da_cons (de_v 3) (da_cons (de_tup (da_cons (de_v 7) (da_cons (de_int) da_nil))) da_nil)))) (dss_cons (ds_if (dt_not (dt_tru (de_call ((m__law_is_ok Z).mono (by decide)) hr gd (takes_of rfl rfl rfl rfl) Z.g__law_is rfl (da_cons (de_call ((m_by_floor_ok Z).mono (by decide)) hr gd (takes_of rfl rfl rfl rfl) Z.g_by_floor rfl (da_cons (de_v 5) (da_cons (de_tup (da_cons (de_v 7) (da_cons (de_int) da_nil))) da_nil))) (da_cons (de_v 10) da_nil))))) (dss_one (ds_ret (de_bl))) (dss_nil)) (dss_one (ds_if (dt_bool (dw_or (dt_is (de_v 9) (de_non)) (dw_or1 (dt_tru (de_call ((m__law_less_ok Z).mono (by decide)) hr gd (takes_of rfl rfl rfl rfl) Z.g__law_less rfl (da_cons (de_item (u1 hr) (de_v 9) (de_int)) (da_cons (de_v 10) da_nil))))))) (dss_one (ds_set (i := 9) nd (de_tup (da_cons (de_v 10) (da_cons (de_tup (da_cons (de_v 7) (da_cons (de_int) da_nil))) da_nil))))) (dss_nil)))))) (dss_cons (ds_if (dt_bool (dw_or (dt_not (dt_tru (de_call ((m__law_is_ok Z).mono (by decide)) hr gd (takes_of rfl rfl rfl rfl) Z.g__law_is rfl (da_cons (de_call ((m_best_floor_ok Z).mono (by decide)) hr gd (takes_of rfl rfl rfl rfl) Z.g_best_floor rfl (da_cons (de_v 5) da_nil)) (da_cons (de_v 9) da_nil))))) (dw_or1 (dt_tru (de_call ((m__law_less_ok Z).mono (by decide)) hr gd (takes_of rfl rfl rfl rfl) Z.g__law_less rfl (da_cons (de_call ((m_worth_ok Z).mono (by decide)) hr gd (takes_of rfl rfl rfl rfl) Z.g_worth rfl (da_cons (de_v 5) da_nil)) (da_cons (de_item (u1 hr) (de_v 9) (de_int)) da_nil))))))) (dss_one (ds_ret (de_bl))) (dss_nil)) (dss_cons (ds_for (passes_of rfl) rfl (di_range1 rfl Z.b_range (da_cons (de_int) da_nil)) (pg_nm nd) (dss_cons (ds_set (i := 12) nd (de_call ((m__law_low_ok Z).mono (by decide)) hr gd (takes_of rfl rfl rfl rfl) Z.g__law_low rfl (da_cons (de_call ((m__law_draw_v3_ok Z).mono (by decide)) hr gd (takes_of rfl rfl rfl rfl) Z.g__law_draw rfl (da_cons (de_v 1) (da_cons (de_int) da_nil))) (da_cons (de_add (de_int) (de_call ((m__law_draw_v3_ok Z).mono (by decide)) hr gd (takes_of rfl rfl rfl rfl) Z.g__law_draw rfl (da_cons (de_v 1) (da_cons (de_int) da_nil)))) da_nil)))) (dss_one (ds_if (dt_not (dt_tru (de_call ((m__law_is_ok Z).mono (by decide)) hr gd (takes_of rfl rfl rfl rfl) Z.g__law_is rfl (da_cons (de_call ((m_by_floor_ok Z).mono (by decide)) hr gd (takes_of rfl rfl rfl rfl) Z.g_by_floor rfl (da_cons (de_v 5) (da_cons (de_v 12) da_nil))) (da_cons (de_call ((m__law_by_floor_ok Z).mono (by decide)) hr gd (takes_of rfl rfl rfl rfl) Z.g__law_by_floor rfl (da_cons (de_v 3) (da_cons (de_v 12) da_nil))) da_nil))))) (dss_one (ds_ret (de_bl))) (dss_nil))))) (dss_one (ds_if (dt_ne (u64 hr) (de_call ((m_by_floor_ok Z).mono (by decide)) hr gd (takes_of rfl rfl rfl rfl) Z.g_by_floor rfl (da_cons (de_v 5) (da_cons (de_tup (da_cons (de_int) (da_cons (de_int) da_nil))) da_nil))) (de_tup (da_cons (de_int) (da_cons (de_int) da_nil)))) (dss_one (ds_ret (de_bl))) (dss_nil))))))))))) (dss_cons (ds_set (i := 13) nd (de_tup (da_cons (de_tup (da_cons (de_int) (da_cons (de_tup (da_cons (de_int) (da_cons (de_int) da_nil))) da_nil))) (da_cons (de_tup (da_cons (de_int) (da_cons (de_tup (da_cons (de_int) (da_cons (de_int) da_nil))) da_nil))) da_nil)))) (dss_one (ds_ret (de_andX (de_eq (u64 hr) (de_call ((m_best_floor_ok Z).mono (by decide)) hr gd (takes_of rfl rfl rfl rfl) Z.g_best_floor rfl (da_cons (de_make (k := 11) ((m_Deal___init___ok Z).mono (by decide)) Z.mk_Deal hr gd (takes_of rfl rfl rfl rfl) Z.g_Deal rfl (da_cons (de_tup (da_cons (de_v 13) (da_cons (de_v 13) da_nil))) da_nil)) da_nil)) (de_tup (da_cons (de_tup (da_cons (de_int) (da_cons (de_int) da_nil))) (da_cons (de_tup (da_cons (de_int) (da_cons (de_int) da_nil))) da_nil)))) (de_one (de_eq (u64 hr) (de_call ((m_by_floor_ok Z).mono (by decide)) hr gd (takes_of rfl rfl rfl rfl) Z.g_by_floor rfl (da_cons (de_make (k := 11) ((m_Deal___init___ok Z).mono (by decide)) Z.mk_Deal hr gd (takes_of rfl rfl rfl rfl) Z.g_Deal rfl (da_cons (de_tup (da_cons (de_v 13) (da_cons (de_v 13) da_nil))) da_nil)) (da_cons (de_tup (da_cons (de_int) (da_cons (de_int) da_nil))) da_nil))) (de_tup (da_cons (de_int) (da_cons (de_int) da_nil))))))))))

/-! ### the head -/
def dd_Deal___init__ : He.DefD := ⟨("Deal", some "__init__"), "__init__", "Deal.__init__", defArgs (inClass (top 28) 0), defBody (inClass (top 28) 0), defScope (inClass (top 28) 0), [], []⟩
def dd__law_by_floor : He.DefD := ⟨("_law_by_floor", none), "_law_by_floor", "_law_by_floor", defArgs (top 47), defBody (top 47), defScope (top 47), [], []⟩
def dd__law_deal : He.DefD := ⟨("_law_deal", none), "_law_deal", "_law_deal", defArgs (top 46), defBody (top 46), defScope (top 46), [], []⟩
def dd__law_draw : He.DefD := ⟨("_law_draw", none), "_law_draw", "_law_draw", defArgs (top 38), defBody (top 38), defScope (top 38), [], []⟩
def dd__law_hand : He.DefD := ⟨("_law_hand", none), "_law_hand", "_law_hand", defArgs (top 37), defBody (top 37), defScope (top 37), [], []⟩
def dd__law_is : He.DefD := ⟨("_law_is", none), "_law_is", "_law_is", defArgs (top 40), defBody (top 40), defScope (top 40), [], []⟩
def dd__law_less : He.DefD := ⟨("_law_less", none), "_law_less", "_law_less", defArgs (top 44), defBody (top 44), defScope (top 44), [], []⟩
def dd__law_low : He.DefD := ⟨("_law_low", none), "_law_low", "_law_low", defArgs (top 41), defBody (top 41), defScope (top 41), [], []⟩
def dd__law_offer : He.DefD := ⟨("_law_offer", none), "_law_offer", "_law_offer", defArgs (top 45), defBody (top 45), defScope (top 45), [], []⟩
def dd__law_prod : He.DefD := ⟨("_law_prod", none), "_law_prod", "_law_prod", defArgs (top 43), defBody (top 43), defScope (top 43), [], []⟩
def dd__law_some : He.DefD := ⟨("_law_some", none), "_law_some", "_law_some", defArgs (top 39), defBody (top 39), defScope (top 39), [], []⟩
def dd__law_sum : He.DefD := ⟨("_law_sum", none), "_law_sum", "_law_sum", defArgs (top 42), defBody (top 42), defScope (top 42), [], []⟩
def dd_best_floor : He.DefD := ⟨("best_floor", none), "best_floor", "best_floor", defArgs (top 35), defBody (top 35), defScope (top 35), [], []⟩
def dd_by_floor : He.DefD := ⟨("by_floor", none), "by_floor", "by_floor", defArgs (top 33), defBody (top 33), defScope (top 33), [], []⟩
def dd_common : He.DefD := ⟨("common", none), "common", "common", defArgs (top 13), defBody (top 13), defScope (top 13), [], []⟩
def dd_greatest : He.DefD := ⟨("greatest", none), "greatest", "greatest", defArgs (top 19), defBody (top 19), defScope (top 19), [], []⟩
def dd_is_fraction : He.DefD := ⟨("is_fraction", none), "is_fraction", "is_fraction", defArgs (top 21), defBody (top 21), defScope (top 21), [], []⟩
def dd_is_integer : He.DefD := ⟨("is_integer", none), "is_integer", "is_integer", defArgs (top 1), defBody (top 1), defScope (top 1), [], []⟩
def dd_is_less : He.DefD := ⟨("is_less", none), "is_less", "is_less", defArgs (top 18), defBody (top 18), defScope (top 18), [], []⟩
def dd_is_offer : He.DefD := ⟨("is_offer", none), "is_offer", "is_offer", defArgs (top 24), defBody (top 24), defScope (top 24), [], []⟩
def dd_is_share : He.DefD := ⟨("is_share", none), "is_share", "is_share", defArgs (top 22), defBody (top 22), defScope (top 22), [], []⟩
def dd_is_tuple : He.DefD := ⟨("is_tuple", none), "is_tuple", "is_tuple", defArgs (top 3), defBody (top 3), defScope (top 3), [], []⟩
def dd_is_value_pair : He.DefD := ⟨("is_value_pair", none), "is_value_pair", "is_value_pair", defArgs (top 23), defBody (top 23), defScope (top 23), [], []⟩
def dd_is_within : He.DefD := ⟨("is_within", none), "is_within", "is_within", defArgs (top 2), defBody (top 2), defScope (top 2), [], []⟩
def dd_law : He.DefD := ⟨("law", none), "law", "law", defArgs (top 48), defBody (top 48), defScope (top 48), [], []⟩
def dd_lowest : He.DefD := ⟨("lowest", none), "lowest", "lowest", defArgs (top 14), defBody (top 14), defScope (top 14), [], []⟩
def dd_mean_of : He.DefD := ⟨("mean_of", none), "mean_of", "mean_of", defArgs (top 25), defBody (top 25), defScope (top 25), [], []⟩
def dd_minus : He.DefD := ⟨("minus", none), "minus", "minus", defArgs (top 16), defBody (top 16), defScope (top 16), [], []⟩
def dd_one_floor : He.DefD := ⟨("one_floor", none), "one_floor", "one_floor", defArgs (top 32), defBody (top 32), defScope (top 32), [], []⟩
def dd_plus : He.DefD := ⟨("plus", none), "plus", "plus", defArgs (top 15), defBody (top 15), defScope (top 15), [], []⟩
def dd_product : He.DefD := ⟨("product", none), "product", "product", defArgs (top 17), defBody (top 17), defScope (top 17), [], []⟩
def dd_values_of : He.DefD := ⟨("values_of", none), "values_of", "values_of", defArgs (top 34), defBody (top 34), defScope (top 34), [], []⟩
def dd_whole_sum : He.DefD := ⟨("whole_sum", none), "whole_sum", "whole_sum", defArgs (top 20), defBody (top 20), defScope (top 20), [], []⟩
def dd_with_floor : He.DefD := ⟨("with_floor", none), "with_floor", "with_floor", defArgs (top 29), defBody (top 29), defScope (top 29), [], []⟩
def dd_worth : He.DefD := ⟨("worth", none), "worth", "worth", defArgs (top 31), defBody (top 31), defScope (top 31), [], []⟩
def dd_worths : He.DefD := ⟨("worths", none), "worths", "worths", defArgs (top 30), defBody (top 30), defScope (top 30), [], []⟩
def fn : List He.DefD := [dd_Deal___init__, dd__law_by_floor, dd__law_deal, dd__law_draw, dd__law_hand, dd__law_is, dd__law_less, dd__law_low, dd__law_offer, dd__law_prod, dd__law_some, dd__law_sum, dd_best_floor, dd_by_floor, dd_common, dd_greatest, dd_is_fraction, dd_is_integer, dd_is_less, dd_is_offer, dd_is_share, dd_is_tuple, dd_is_value_pair, dd_is_within, dd_law, dd_lowest, dd_mean_of, dd_minus, dd_one_floor, dd_plus, dd_product, dd_values_of, dd_whole_sum, dd_with_floor, dd_worth, dd_worths]
def fa : List He.Fa := [.cls "Deal", .free "abs", .free "all", .free "bool", .free "dict", .free "int", .free "isinstance", .free "len", .free "list", .free "range", .free "set", .free "sorted", .free "sum", .free "tuple", .free "zip", .glo "Deal", .glo "_law_by_floor", .glo "_law_deal", .glo "_law_draw", .glo "_law_hand", .glo "_law_is", .glo "_law_less", .glo "_law_low", .glo "_law_offer", .glo "_law_prod", .glo "_law_some", .glo "_law_sum", .glo "best_floor", .glo "by_floor", .glo "common", .glo "greatest", .glo "is_fraction", .glo "is_integer", .glo "is_less", .glo "is_offer", .glo "is_share", .glo "is_tuple", .glo "is_value_pair", .glo "is_within", .glo "law", .glo "lowest", .glo "mean_of", .glo "minus", .glo "one_floor", .glo "plus", .glo "product", .glo "values_of", .glo "whole_sum", .glo "with_floor", .glo "worth", .glo "worths", .int "MOST_OFFERS" 8, .int "MOST_PAIRS" 5, .int "MOST_VALUE" 1000, .mkr "Deal", .noat "Deal" "offers", .glo "NONE", .glo "WHOLE"]
def ex (K : PySem.W.Frag) : Bool := (He.tupB K "NONE" ([0, 1].map He.Dv.int)) && (He.tupB K "WHOLE" ([1, 1].map He.Dv.int)) && (ownB own K)
theorem ex_0 {K : PySem.W.Frag} (h : ex K = true) : He.tupB K "NONE" ([0, 1].map He.Dv.int) = true := (He.ba (He.ba h).1).1
theorem ex_1 {K : PySem.W.Frag} (h : ex K = true) : He.tupB K "WHOLE" ([1, 1].map He.Dv.int) = true := (He.ba (He.ba h).1).2
theorem ex_2 {K : PySem.W.Frag} (h : ex K = true) : ownB own K = true := (He.ba h).2
theorem own_ok {K : PySem.W.Frag} (h : ex K = true) : OwnF K own := ownB_ok (ex_2 h)
theorem md_of {K : PySem.W.Frag} {mg : Str → Option Value} {h : Heap} (X : K.In h) (G : h.Ns mainGlobals mg) (c : SaysE fa fn ex K) : Md K mg := ⟨He.cls_ok (c.d.fact 0 rfl),
  He.free_ok X G (c.d.fact 1 rfl),
  He.free_ok X G (c.d.fact 2 rfl),
  He.free_ok X G (c.d.fact 3 rfl),
  He.free_ok X G (c.d.fact 4 rfl),
  He.free_ok X G (c.d.fact 5 rfl),
  He.free_ok X G (c.d.fact 6 rfl),
  He.free_ok X G (c.d.fact 7 rfl),
  He.free_ok X G (c.d.fact 8 rfl),
  He.free_ok X G (c.d.fact 9 rfl),
  He.free_ok X G (c.d.fact 10 rfl),
  He.free_ok X G (c.d.fact 11 rfl),
  He.free_ok X G (c.d.fact 12 rfl),
  He.free_ok X G (c.d.fact 13 rfl),
  He.free_ok X G (c.d.fact 14 rfl),
  He.glo_ok X G (c.d.fact 15 rfl),
  He.glo_ok X G (c.d.fact 16 rfl),
  He.glo_ok X G (c.d.fact 17 rfl),
  He.glo_ok X G (c.d.fact 18 rfl),
  He.glo_ok X G (c.d.fact 19 rfl),
  He.glo_ok X G (c.d.fact 20 rfl),
  He.glo_ok X G (c.d.fact 21 rfl),
  He.glo_ok X G (c.d.fact 22 rfl),
  He.glo_ok X G (c.d.fact 23 rfl),
  He.glo_ok X G (c.d.fact 24 rfl),
  He.glo_ok X G (c.d.fact 25 rfl),
  He.glo_ok X G (c.d.fact 26 rfl),
  He.glo_ok X G (c.d.fact 27 rfl),
  He.glo_ok X G (c.d.fact 28 rfl),
  He.glo_ok X G (c.d.fact 29 rfl),
  He.glo_ok X G (c.d.fact 30 rfl),
  He.glo_ok X G (c.d.fact 31 rfl),
  He.glo_ok X G (c.d.fact 32 rfl),
  He.glo_ok X G (c.d.fact 33 rfl),
  He.glo_ok X G (c.d.fact 34 rfl),
  He.glo_ok X G (c.d.fact 35 rfl),
  He.glo_ok X G (c.d.fact 36 rfl),
  He.glo_ok X G (c.d.fact 37 rfl),
  He.glo_ok X G (c.d.fact 38 rfl),
  He.glo_ok X G (c.d.fact 39 rfl),
  He.glo_ok X G (c.d.fact 40 rfl),
  He.glo_ok X G (c.d.fact 41 rfl),
  He.glo_ok X G (c.d.fact 42 rfl),
  He.glo_ok X G (c.d.fact 43 rfl),
  He.glo_ok X G (c.d.fact 44 rfl),
  He.glo_ok X G (c.d.fact 45 rfl),
  He.glo_ok X G (c.d.fact 46 rfl),
  He.glo_ok X G (c.d.fact 47 rfl),
  He.glo_ok X G (c.d.fact 48 rfl),
  He.glo_ok X G (c.d.fact 49 rfl),
  He.glo_ok X G (c.d.fact 50 rfl),
  He.int_ok X G (c.d.fact 51 rfl),
  He.int_ok X G (c.d.fact 52 rfl),
  He.int_ok X G (c.d.fact 53 rfl),
  He.mkr_ok (c.d.fact 54 rfl),
  He.noat_ok (c.d.fact 55 rfl),
  He.glo_ok X G (c.d.fact 56 rfl),
  tup_kt (ex_0 c.e),
  He.glo_ok X G (c.d.fact 57 rfl),
  tup_kt (ex_1 c.e),
  c.d.def_ 0 (d := dd_Deal___init__) rfl,
  c.d.def_ 1 (d := dd__law_by_floor) rfl,
  c.d.def_ 2 (d := dd__law_deal) rfl,
  c.d.def_ 3 (d := dd__law_draw) rfl,
  c.d.def_ 4 (d := dd__law_hand) rfl,
  c.d.def_ 5 (d := dd__law_is) rfl,
  c.d.def_ 6 (d := dd__law_less) rfl,
  c.d.def_ 7 (d := dd__law_low) rfl,
  c.d.def_ 8 (d := dd__law_offer) rfl,
  c.d.def_ 9 (d := dd__law_prod) rfl,
  c.d.def_ 10 (d := dd__law_some) rfl,
  c.d.def_ 11 (d := dd__law_sum) rfl,
  c.d.def_ 12 (d := dd_best_floor) rfl,
  c.d.def_ 13 (d := dd_by_floor) rfl,
  c.d.def_ 14 (d := dd_common) rfl,
  c.d.def_ 15 (d := dd_greatest) rfl,
  c.d.def_ 16 (d := dd_is_fraction) rfl,
  c.d.def_ 17 (d := dd_is_integer) rfl,
  c.d.def_ 18 (d := dd_is_less) rfl,
  c.d.def_ 19 (d := dd_is_offer) rfl,
  c.d.def_ 20 (d := dd_is_share) rfl,
  c.d.def_ 21 (d := dd_is_tuple) rfl,
  c.d.def_ 22 (d := dd_is_value_pair) rfl,
  c.d.def_ 23 (d := dd_is_within) rfl,
  c.d.def_ 24 (d := dd_law) rfl,
  c.d.def_ 25 (d := dd_lowest) rfl,
  c.d.def_ 26 (d := dd_mean_of) rfl,
  c.d.def_ 27 (d := dd_minus) rfl,
  c.d.def_ 28 (d := dd_one_floor) rfl,
  c.d.def_ 29 (d := dd_plus) rfl,
  c.d.def_ 30 (d := dd_product) rfl,
  c.d.def_ 31 (d := dd_values_of) rfl,
  c.d.def_ 32 (d := dd_whole_sum) rfl,
  c.d.def_ 33 (d := dd_with_floor) rfl,
  c.d.def_ 34 (d := dd_worth) rfl,
  c.d.def_ 35 (d := dd_worths) rfl,
  own_ok c.e⟩
abbrev R0 : PySem.W.OpenRow := PySem.W.OpenLaw.row PySem.Challenge.rw_openorstop_k13_whole_one_floor
abbrev hk : PySem.W.Hook := hookE 6 fa fn ex
def ob (s : PySem.W.SharedT) : AlE := obsE 6 fa fn ex (HandSHeadRun.getT s)
theorem ob_eq (s : PySem.W.SharedT) : ob s = hk.obs s.abs := obsE_eq (HandSHeadRun.getT_eq s)
abbrev loose0 : List Str := ["is_integer", "is_within", "is_tuple", "ChanceError", "BadDeal", "NoFloor", "MOST_VALUE", "MOST_PAIRS", "NONE", "WHOLE", "common", "lowest"]
abbrev loose1 : List Str := ["plus", "minus", "product", "is_less", "greatest", "whole_sum", "is_fraction", "is_share", "is_value_pair", "is_offer", "mean_of", "MOST_OFFERS"]
abbrev loose2 : List Str := ["Deal", "with_floor", "worths", "worth", "one_floor", "by_floor", "values_of", "best_floor", "_law_hand", "_law_draw", "_law_some", "_law_is"]
abbrev loose3 : List Str := ["_law_low", "_law_sum", "_law_prod", "_law_less", "_law_offer", "_law_deal", "_law_by_floor"]
abbrev loose : List Str := loose0 ++ loose1 ++ loose2 ++ loose3
theorem run (w : World) : HandSHeadRun.RunEq R0 (PySem.W.view R0.prog [48]) hk ob 3000 loose w := by
  intro os
  kernel_rfl
end Law_k13
open PySem PySem.W PySem.Calls PyProof.Rows
theorem Law_k13_of (hm : ∀ ns : List Int, ns.length ≤ 63 → (∀ z ∈ ns, Builtin.Int.intBits z ≤ 1048576) → ∃ h', Sh.m_law_k13 [.scr ns] [] = .ok (.bl true) h') : PySem.Challenge.rw_openorstop_k13_whole_one_floor.Holds := by
  w_on; o_law
  refine HandSHeadRun.head_any (r := OpenLaw.row PySem.Challenge.rw_openorstop_k13_whole_one_floor) (q := view (OpenLaw.row PySem.Challenge.rw_openorstop_k13_whole_one_floor).prog [48]) (H := Law_k13.hk) (ob := Law_k13.ob) (M := 3000) (loose := Law_k13.loose) (d := HandSHeadRun.topDef (OpenLaw.row PySem.Challenge.rw_openorstop_k13_whole_one_floor).prog 48) (kwd := []) Law_k13.ob_eq
    (by kernel_rfl) (fun s => by kernel_rfl) Law_k13.run (by kernel_rfl) (by kernel_rfl) (by kernel_rfl) (by rfl) (by first | assumption | decide +kernel) (by decide +kernel) ⟨rfl, rfl, rfl, rfl, rfl, by decide +kernel⟩ ?hw ?hc
  case hw => w_witness2
  case hc =>
    refine Dl.walk_law (l := PySem.Challenge.rw_openorstop_k13_whole_one_floor) (n := 63) (k := 13) (m := Sh.m_law_k13) rfl (by decide) (by kernel_rfl) ⟨rfl, by decide, by decide⟩ ?F hm
    intro w mg fa h Y G hmg0
    obtain ⟨K, KX, c⟩ := Y
    have Z := Law_k13.md_of KX G c
    have hmg : mg ("law" : PySem.Str) = some (.ref fa) := by
      have e : (HandSHeadRun.topDef (OpenLaw.row PySem.Challenge.rw_openorstop_k13_whole_one_floor).prog 48).name = ("law" : PySem.Str) := by kernel_rfl
      rw [← e]
      exact hmg0
    have e := hmg.symm.trans Z.g_law
    cases e
    exact ⟨K, KX, fun base _ _ => Law_k13.m_law_k13_ok Z⟩

theorem PySem.Challenge.cw_openorstop_k13_whole_one_floor_holds : PySem.Challenge.rw_openorstop_k13_whole_one_floor.Holds :=
  Law_k13_of fun ns hl hb => Pl.law_k13 ns hl hb
