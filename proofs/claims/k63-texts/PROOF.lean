import PyProof.Rows.All

import Wide.All
import OpenK.AllK
import Wide.FinOn
import HandS.ForMost
import HandS.ForExc
import HandS.SortInts
import HandS.WideBits
import HandS.Wide
import HandS.ExcCtx
import HandS.TupAny
import HandS.TupLe
import HandS.Style
import HandS.Conv
import HandS.IsInst
import HandS.Zip
import HandS.More
import HandS.EndBits
import KE.GoesEnum
import HandS.Deep
import HandS.Flow
import KE.KRevSl
import HandS.ExcInit
import HandS.WordsExc
import HandS.TryOnly
import HandS.ExcIs
import HandS.ExcField
import KE.KExcIs
import HandS.Iter
import KE.GoesComp
import KE.GoesRaise
import HandS.HotCalls
import HandS.Hot
import HandS.ExcInitHot
import HandS.Text
import HandS.Replace
import PyProof.StrOps2
import HandS.TupMul
import HandS.ReplaceLit
import HandS.ReplaceList
import PySem.Challenge.RW_keynests_k63_texts_refused

set_option Elab.async false
set_option linter.all false
set_option maxRecDepth 100000
/-! Dv, part A: plain values of a program's names, and how they lie in the tracked heap. -/
namespace Dv
open PySem PySem.Spec PyProof.Rows L2

abbrev PD := PyData
/-- what is wanted of an exception that the running frame holds already -/
def Holds (X : Cx) (W : WX) : Prop := ∀ (u : Value) (t : Shared) (a : Addr) (B : Heap) (sI : Shared) (pins : List (Addr × Obj)) (σ : L2.St) (H : Hp) (cls : Value) (d : Option Addr) (L : Addr), u = .ref a → X.env.frame = some L → Inv X pins σ H sI →
  (∀ b o, sI.heap.get? b = some o → b ∉ frs X.stack → B.get? b = some o) → sI.heap.UpToSlots t.heap → HandSPX.HeldZ B X.stack a (L2N.Zn cls d) L t.heap → H a = none → t.os = sI.os → AllBare t.gens → W cls d σ H → X.xe u t
/-- what is wanted of exceptions: of such as were raised where nothing was handled -/
structure Takes (X : Cx) (W : WX) : Prop where
  n : L2N.Takes X W
  f : Holds X W
/-- in a def's own frame -/
theorem takes_def {X : Cx} {W : WX} (hf : X.env.frame = some X.env.locals) (h : L2N.Takes X W) : Takes X W := by
  refine ⟨h, fun u t a B sI pins σ H cls d L eu fr I nb up held na os ag w => ?_⟩
  rw [hf] at fr
  cases fr
  exact h u t ⟨a, B, sI, pins, σ, H, cls, d, eu, I, nb, up, .inr (.inr held), na, os, ag, w⟩
theorem takes0 {X : Cx} : Takes X (fun _ _ _ _ => False) := by
  refine ⟨fun u t h => ?_, fun u t a B sI pins σ H cls d L eu fr I nb up held na os ag w => w.elim⟩
  obtain ⟨a, B, sI, pins, σ, H, cls, d, h⟩ := h
  exact h.2.2.2.2.2.2.2.2.elim
theorem passN {X : Cx} : Passes (L2N.CX X.prog X.w) X E0 := fun pins σ H s u t I h => by
  obtain ⟨a, B, H', cls, d, h⟩ := h
  exact h.2.2.2.2.2.2.2.elim
abbrev Ft := Addr → Prop
/-- the value of a name: p x: nothing in it is ever changed; lst, dct, ins (and tuples of such): owned by this name alone -/
inductive D where
  | p (x : PD)
  | tup (xs : List D)
  | lst (xs : List D)
  | dct (kvs : List (Key × PD))
  | ins (c : Str) (ns : List Str) (vs : List D)
  | exn (a : Addr) (n f : Str) (v : D)
  | fdc (kvs : List (Key × PD))
  | opl (xs : List D)
  | opi (c : Str) (ns : List Str) (vs : List D)
  | lent (a : Addr)
  | hole
abbrev Env := List D

/-- a list of the written part -/
def KL (K : PySem.W.Frag) (a : Addr) (xs : List V) : Prop :=
  ∃ (o : Obj) (its : Array Value) (n : Nat), K.lookup a = some o ∧ o.cls = .type "list" ∧ o.dict = none ∧ o.data = .seq its n ∧ its.size ≤ sizeLine ∧ Vals xs its.toList
/-- a list that nobody changes -/
def StL (K : PySem.W.Frag) (S : Ft) (H : Hp) (a : Addr) (xs : List V) : Prop := (S a ∧ H a = some (.lst xs)) ∨ (∃ o, H a = some (.frz o (.lst xs))) ∨ KL K a xs
theorem StL.sq {K : PySem.W.Frag} {S : Ft} {H : Hp} {a : Addr} {xs : List V} (h : StL K S H a xs) : SqL K H a xs := by
  rcases h with ⟨_, h⟩ | ⟨o, h⟩ | h
  · exact .inl (.inl h)
  · exact .inl (.inr ⟨o, h⟩)
  · exact .inr h

mutual
inductive RP (K : PySem.W.Frag) (S : Ft) (H : Hp) : V → PD → Prop
  | non : RP K S H .non .none
  | bl (b : Bool) : RP K S H (.bl b) (.bool b)
  | int (i : Int) : RP K S H (.int i) (.int i)
  | str (x : Str) : RP K S H (.str x) (.str x)
  | tup {a : Addr} {xs : List V} {ds : List PD} : SqT K H a xs → RPs K S H xs ds → RP K S H (.ref a) (.tuple ds)
  | lst {a : Addr} {xs : List V} {ds : List PD} : StL K S H a xs → RPs K S H xs ds → RP K S H (.ref a) (.list ds)
inductive RPs (K : PySem.W.Frag) (S : Ft) (H : Hp) : List V → List PD → Prop
  | nil : RPs K S H [] []
  | cons {v : V} {vs : List V} {d : PD} {ds : List PD} : RP K S H v d → RPs K S H vs ds → RPs K S H (v :: vs) (d :: ds)
end

/-- the values of a dict -/
inductive RK (K : PySem.W.Frag) (S : Ft) (H : Hp) : List (Key × V) → List (Key × PD) → Prop
  | nil : RK K S H [] []
  | cons {k : Key} {v : V} {d : PD} {vs : List (Key × V)} {ds : List (Key × PD)} : RP K S H v d → RK K S H vs ds → RK K S H ((k, v) :: vs) ((k, d) :: ds)

/-- the class of a name of the program -/
def CN (K : PySem.W.Frag) (n : Str) (C : Addr) : Prop := PySem.W.nsIn K mainGlobals n = some (some (.ref C))
/-- at a: an exception of the class at C, its dict (none | at d) -/
def exq (a C : Addr) (d : Option Addr) : HO := .ext fun h => ∃ (oe : Obj) (vs : Array Value), h.get? a = some oe ∧ (oe.cls = .ref C ∧ oe.dict = d ∧ PXN.CtxN oe) ∧ oe.data = .fields vs

def Sub (F G : Ft) : Prop := ∀ a, F a → G a
def Dj (F G : Ft) : Prop := ∀ a, F a → G a → False

mutual
inductive R (K : PySem.W.Frag) (S : Ft) (H : Hp) : V → D → Ft → Prop
  | p {v : V} {x : PD} {F : Ft} : RP K S H v x → R K S H v (.p x) F
  | tup {a : Addr} {xs : List V} {ds : List D} {F : Ft} : SqT K H a xs → Rs K S H xs ds F → R K S H (.ref a) (.tup ds) F
  | lst {a : Addr} {xs : List V} {ds : List D} {F F' : Ft} : H a = some (.lst xs) → F a → (∀ b, F' b → F b ∧ b ≠ a) → Rs K S H xs ds F' → R K S H (.ref a) (.lst ds) F
  | dct {a : Addr} {kvs : List (Key × V)} {ds : List (Key × PD)} {F : Ft} : H a = some (.dK kvs) → F a → RK K S H kvs ds → R K S H (.ref a) (.dct ds) F
  | ins {a C dx : Addr} {c : Str} {fs : List (Str × V)} {ds : List D} {F F' : Ft} : CN K c C → H a = some (.ins C dx fs) → F a → (∀ b, F' b → F b ∧ b ≠ a) → Rs K S H (fs.map (·.2)) ds F' → R K S H (.ref a) (.ins c (fs.map (·.1)) ds) F
  | exn0 {a C : Addr} {n : Str} {F : Ft} : H a = some (exq a C none) → CN K n C → R K S H (.ref a) (.exn a n "" .hole) F
  | exn1 {a C dd : Addr} {n f : Str} {u : V} {y : D} {F : Ft} : f ≠ "" → H a = some (exq a C (some dd)) → CN K n C → H dd = some (.xd [(f, u)]) → R K S H u y F → R K S H (.ref a) (.exn a n f y) F
  | fdc {a : Addr} {o : Obj} {kvs : List (Key × V)} {ds : List (Key × PD)} {F : Ft} : H a = some (.frz o (.dK kvs)) → RK K S H kvs ds → R K S H (.ref a) (.fdc ds) F
  | opl {a : Addr} {xs : List V} {ds : List D} {F : Ft} : S a → H a = some (.lst xs) → Rs K S H xs ds F → R K S H (.ref a) (.opl ds) F
  | opi {a C dx : Addr} {c : Str} {fs : List (Str × V)} {ds : List D} {F : Ft} : CN K c C → S a → H a = some (.ins C dx fs) → Rs K S H (fs.map (·.2)) ds F → R K S H (.ref a) (.opi c (fs.map (·.1)) ds) F
  | lent {a : Addr} {F : Ft} : R K S H (.ref a) (.lent a) F
  | hole {v : V} {F : Ft} : R K S H v .hole F
inductive Rs (K : PySem.W.Frag) (S : Ft) (H : Hp) : List V → List D → Ft → Prop
  | nil {F : Ft} : Rs K S H [] [] F
  | cons {v : V} {vs : List V} {d : D} {ds : List D} {F F1 F2 : Ft} : R K S H v d F1 → Rs K S H vs ds F2 → Sub F1 F → Sub F2 F → Dj F1 F2 → Rs K S H (v :: vs) (d :: ds) F
end

/-- the slots -/
def RO (K : PySem.W.Frag) (S : Ft) (H : Hp) (o : Option V) (d : D) (F : Ft) : Prop := d = .hole ∨ ∃ v, o = some v ∧ R K S H v d F
def oj (o : Option (Option V)) : Option V := match o with
  | some x => x
  | none => none
def dj (o : Option D) : D := match o with
  | some d => d
  | none => .hole
/-- each slot owns its own part -/
def ES (K : PySem.W.Frag) (S : Ft) (H : Hp) (σ : L2.St) (env : Env) (F : Ft) : Prop :=
  ∃ Fs : Nat → Ft, (∀ i, RO K S H (oj σ[i]?) (dj env[i]?) (Fs i)) ∧ (∀ i j, i ≠ j → Dj (Fs i) (Fs j)) ∧ (∀ i, Sub (Fs i) F)

def MuO : Option HO → Prop
  | some (.lst _) => True
  | some (.dK _) => True
  | some (.ins _ _ _) => True
  | _ => False

structure WF (S F G : Ft) (H : Hp) : Prop where
  sf : Dj S F
  sg : Dj S G
  fg : Dj F G
  sd : ∀ a, S a → H a ≠ none
  fm : ∀ a, F a → MuO (H a)
  gm : ∀ a, G a → MuO (H a)

/-- from one state to a later one: only what F owns may have changed -/
structure Nx (S F : Ft) (H : Hp) (S' F' G : Ft) (H' : Hp) : Prop where
  keep : ∀ a o, H a = some o → ¬ F a → H' a = some o
  ss : Sub S S'
  sn : ∀ a, S' a → S a ∨ F a ∨ H a = none
  fn : ∀ a, F' a → F a ∨ H a = none
  gn : ∀ a, G a → F a ∨ H a = none
  w : WF S' F' G H'

/-! ### keeping -/
/-- what a value leans on is kept -/
def Kp (S F : Ft) (H H' : Hp) : Prop := ∀ a o, H a = some o → (F a ∨ S a ∨ ¬ MuO (some o)) → H' a = some o
section
variable {K : PySem.W.Frag} {S S' F F' G : Ft} {H H' : Hp}
theorem SqT.kp {a : Addr} {xs : List V} (h : SqT K H a xs) (k : Kp S F H H') : SqT K H' a xs := by
  rcases h with (h | ⟨o, h⟩) | h
  · exact .inl (.inl (k a _ h (.inr (.inr (fun z => z)))))
  · exact .inl (.inr ⟨o, k a _ h (.inr (.inr (fun z => z)))⟩)
  · exact .inr h
theorem StL.kp {a : Addr} {xs : List V} (h : StL K S H a xs) (k : Kp S F H H') (s : Sub S S') : StL K S' H' a xs := by
  rcases h with ⟨m, h⟩ | ⟨o, h⟩ | h
  · exact .inl ⟨s a m, k a _ h (.inr (.inl m))⟩
  · exact .inr (.inl ⟨o, k a _ h (.inr (.inr (fun z => z)))⟩)
  · exact .inr (.inr h)
mutual
theorem RP.kp (k : Kp S F H H') (s : Sub S S') : ∀ {v : V} (d : PD), RP K S H v d → RP K S' H' v d
  | _, .none, h => by cases h; exact .non
  | _, .bool _, h => by cases h; exact .bl _
  | _, .int _, h => by cases h; exact .int _
  | _, .str _, h => by cases h; exact .str _
  | _, .list ds, h => by cases h with | lst a b => exact .lst (a.kp k s) (RPs.kp k s ds b)
  | _, .tuple ds, h => by cases h with | tup a b => exact .tup (SqT.kp a k) (RPs.kp k s ds b)
  | _, .dict _, h => by cases h
theorem RPs.kp (k : Kp S F H H') (s : Sub S S') : ∀ {vs : List V} (ds : List PD), RPs K S H vs ds → RPs K S' H' vs ds
  | _, [], h => by cases h; exact .nil
  | _, d :: ds, h => by cases h with | cons a b => exact .cons (RP.kp k s d a) (RPs.kp k s ds b)
end
theorem RK.kp (k : Kp S F H H') (s : Sub S S') : ∀ {vs : List (Key × V)} {ds : List (Key × PD)}, RK K S H vs ds → RK K S' H' vs ds
  | _, _, .nil => .nil
  | _, _, .cons a b => .cons (RP.kp k s _ a) (RK.kp k s b)
theorem Kp.sub {F1 : Ft} (k : Kp S F H H') (h : Sub F1 F) : Kp S F1 H H' := fun a o e c => k a o e (by
  rcases c with c | c
  · exact .inl (h a c)
  · exact .inr c)
theorem Sub.refl : Sub F F := fun _ h => h
theorem Sub.trans {F1 F2 F3 : Ft} (a : Sub F1 F2) (b : Sub F2 F3) : Sub F1 F3 := fun x h => b x (a x h)
theorem Dj.sub {F1 F2 G1 G2 : Ft} (h : Dj F2 G2) (a : Sub F1 F2) (b : Sub G1 G2) : Dj F1 G1 := fun x h1 h2 => h x (a x h1) (b x h2)
theorem Dj.symm {F1 F2 : Ft} (h : Dj F1 F2) : Dj F2 F1 := fun x a b => h x b a
mutual
theorem R.kp (s : Sub S S') : ∀ {v : V} (d : D) {F : Ft}, Kp S F H H' → R K S H v d F → R K S' H' v d F
  | _, .p x, _, k, h => by cases h with | p a => exact .p (a.kp k s)
  | _, .tup ds, _, k, h => by cases h with | tup a b => exact .tup (SqT.kp a k) (Rs.kp s ds k b)
  | _, .lst ds, _, k, h => by
    cases h with
    | lst a b c d => exact .lst (k _ _ a (.inl b)) b c (Rs.kp s ds (k.sub fun x h => (c x h).1) d)
  | _, .dct ds, _, k, h => by cases h with | dct a b c => exact .dct (k _ _ a (.inl b)) b (c.kp k s)
  | _, .ins C ns ds, _, k, h => by
    cases h with
    | ins n a b c d => exact .ins n (k _ _ a (.inl b)) b c (Rs.kp s ds (k.sub fun x h => (c x h).1) d)
  | _, .exn _ _ _ y, _, k, h => by
    cases h with
    | exn0 a c => exact .exn0 (k _ _ a (.inr (.inr fun z => z))) c
    | exn1 z a c d e => exact .exn1 z (k _ _ a (.inr (.inr fun z => z))) c (k _ _ d (.inr (.inr fun z => z))) (R.kp s y k e)
  | _, .fdc ds, _, k, h => by cases h with | fdc a c => exact .fdc (k _ _ a (.inr (.inr fun z => z))) (c.kp k s)
  | _, .opl ds, _, k, h => by cases h with | opl m a d => exact .opl (s _ m) (k _ _ a (.inr (.inl m))) (Rs.kp s ds k d)
  | _, .opi C ns ds, _, k, h => by cases h with | opi n m a d => exact .opi n (s _ m) (k _ _ a (.inr (.inl m))) (Rs.kp s ds k d)
  | _, .lent _, _, _, h => by cases h; exact .lent
  | _, .hole, _, _, _ => .hole
theorem Rs.kp (s : Sub S S') : ∀ {vs : List V} (ds : List D) {F : Ft}, Kp S F H H' → Rs K S H vs ds F → Rs K S' H' vs ds F
  | _, [], _, _, h => by cases h; exact .nil
  | _, d :: ds, _, k, h => by
    cases h with
    | cons a b c e f => exact .cons (R.kp s d (k.sub c) a) (Rs.kp s ds (k.sub e) b) c e f
end
theorem RO.kp {o : Option V} {d : D} (k : Kp S F H H') (s : Sub S S') (h : RO K S H o d F) : RO K S' H' o d F := by
  rcases h with h | ⟨v, e, h⟩
  · exact .inl h
  · exact .inr ⟨v, e, h.kp s d k⟩
theorem ES.kp {σ : L2.St} {env : Env} (h : ES K S H σ env F) (k : Kp S F H H') (s : Sub S S') : ES K S' H' σ env F := by
  obtain ⟨Fs, a, b, c⟩ := h
  exact ⟨Fs, fun i => (a i).kp (k.sub (c i)) s, b, c⟩
/-! ### widening -/
theorem R.wideD (s : Sub F F') : ∀ {v : V} (d : D), R K S H v d F → R K S H v d F'
  | _, .p _, h => by cases h with | p a => exact .p a
  | _, .tup _, h => by
    cases h with
    | tup a b =>
      refine .tup a ?_
      cases b with
      | nil => exact .nil
      | cons c d e f g => exact .cons c d (e.trans s) (f.trans s) g
  | _, .lst _, h => by cases h with | lst a b c d => exact .lst a (s _ b) (fun x h => ⟨s x (c x h).1, (c x h).2⟩) d
  | _, .dct _, h => by cases h with | dct a b c => exact .dct a (s _ b) c
  | _, .ins _ _ _, h => by cases h with | ins n a b c d => exact .ins n a (s _ b) (fun x h => ⟨s x (c x h).1, (c x h).2⟩) d
  | _, .exn _ _ _ y, h => by
    cases h with
    | exn0 a c => exact .exn0 a c
    | exn1 z a c d e => exact .exn1 z a c d (R.wideD s y e)
  | _, .fdc _, h => by cases h with | fdc a c => exact .fdc a c
  | _, .opl _, h => by
    cases h with
    | opl m a b =>
      refine .opl m a ?_
      cases b with
      | nil => exact .nil
      | cons c d e f g => exact .cons c d (e.trans s) (f.trans s) g
  | _, .opi _ _ _, h => by
    cases h with
    | opi n m a b =>
      refine .opi n m a ?_
      revert b
      generalize hq : List.map _ _ = q
      intro b
      cases b with
      | nil => exact .nil
      | cons c d e f g => exact .cons c d (e.trans s) (f.trans s) g
  | _, .lent _, h => by cases h; exact .lent
  | _, .hole, _ => .hole
theorem R.wide {v : V} {d : D} (h : R K S H v d F) (s : Sub F F') : R K S H v d F' := R.wideD s d h
theorem Rs.wide {vs : List V} {ds : List D} (h : Rs K S H vs ds F) (s : Sub F F') : Rs K S H vs ds F' := by
  cases h with
  | nil => exact .nil
  | cons c d e f g => exact .cons c d (e.trans s) (f.trans s) g
theorem ES.wide {σ : L2.St} {env : Env} (h : ES K S H σ env F) (s : Sub F F') : ES K S H σ env F' := by
  obtain ⟨Fs, a, b, c⟩ := h
  exact ⟨Fs, a, b, fun i => (c i).trans s⟩
end
end Dv

set_option Elab.async false
set_option linter.all false
set_option maxRecDepth 100000
/-! Dv, part B: places within names, operands, steps of the state. -/
namespace Dv
open PySem PySem.Spec PyProof.Rows L2

/-! ### places -/
def D.at (d : D) : List Nat → D
  | [] => d
  | k :: π => match d with
    | .tup ds => match ds[k]? with
      | some x => x.at π
      | none => .hole
    | .opl ds => match ds[k]? with
      | some x => x.at π
      | none => .hole
    | .opi _ _ ds => match ds[k]? with
      | some x => x.at π
      | none => .hole
    | _ => .hole
def D.put (d : D) (y : D) : List Nat → D
  | [] => y
  | k :: π => match d with
    | .tup ds => match ds[k]? with
      | some x => .tup (ds.set k (x.put y π))
      | none => .tup ds
    | .opl ds => match ds[k]? with
      | some x => .opl (ds.set k (x.put y π))
      | none => .opl ds
    | .opi c ns ds => match ds[k]? with
      | some x => .opi c ns (ds.set k (x.put y π))
      | none => .opi c ns ds
    | d => d
def Env.at (env : Env) (i : Nat) (π : List Nat) : D := (dj env[i]?).at π
def Env.put (env : Env) (i : Nat) (π : List Nat) (y : D) : Env := env.set i ((dj env[i]?).put y π)

/-- a row of things that nobody changes: a tuple, an opened list or object -/
def StQ (K : PySem.W.Frag) (S : Ft) (H : Hp) (a : Addr) (xs : List V) : Prop := SqT K H a xs ∨ (S a ∧ H a = some (.lst xs)) ∨ (S a ∧ ∃ C dx fs, H a = some (.ins C dx fs) ∧ xs = fs.map (·.2))
def PVp (K : PySem.W.Frag) (S : Ft) (H : Hp) : V → List Nat → V → Prop
  | v, [], u => u = v
  | v, k :: π, u => ∃ a xs w, v = .ref a ∧ StQ K S H a xs ∧ xs[k]? = some w ∧ PVp K S H w π u
def PV (K : PySem.W.Frag) (S : Ft) (H : Hp) (σ : L2.St) (i : Nat) (π : List Nat) (v : V) : Prop := ∃ v0, oj σ[i]? = some v0 ∧ PVp K S H v0 π v

def Or2 (F G : Ft) : Ft := fun a => F a ∨ G a
def Em : Ft := fun _ => False

section
variable {K : PySem.W.Frag} {S S' F F' F1 F2 G G1 G2 : Ft} {H H' H1 H2 : Hp}

theorem put_opi {c : Str} {ns : List Str} {ds : List D} {k : Nat} {x y : D} {π : List Nat} (ek : ds[k]? = some x) : (D.opi c ns ds).put y (k :: π) = .opi c ns (ds.set k (x.put y π)) := by
  show (match ds[k]? with | some x => D.opi c ns (ds.set k (x.put y π)) | none => .opi c ns ds) = _
  rw [ek]
theorem Rs.length : ∀ {vs : List V} (ds : List D) {F : Ft}, Rs K S H vs ds F → vs.length = ds.length
  | _, [], _, h => by cases h; rfl
  | _, d :: ds, _, h => by
    cases h with
    | cons a b c e f => simp [Rs.length ds b]
theorem RPs.length : ∀ {vs : List V} (ds : List PD), RPs K S H vs ds → vs.length = ds.length
  | _, [], h => by cases h; rfl
  | _, d :: ds, h => by
    cases h with
    | cons a b => simp [RPs.length ds b]
/-- one of several, taken out and put back -/
theorem Rs.lens : ∀ {vs : List V} (ds : List D) {F : Ft} (k : Nat) (x : D), Rs K S H vs ds F → ds[k]? = some x →
    ∃ u F1 F2, vs[k]? = some u ∧ R K S H u x F1 ∧ Sub F1 F ∧ Sub F2 F ∧ Dj F1 F2 ∧
      ∀ S' H' F1' y, Kp S F2 H H' → Sub S S' → R K S' H' u y F1' → Dj F1' F2 → Rs K S' H' vs (ds.set k y) (Or2 F1' F2)
  | _, [], _, k, x, h, e => by simp at e
  | _, d :: ds, F, 0, x, h, e => by
    cases h with
    | @cons v vs _ _ _ F1 F2 a b c f g =>
      simp at e; subst e
      refine ⟨v, F1, F2, rfl, a, c, f, g, fun S' H' F1' y kp s r dj => ?_⟩
      exact .cons r (Rs.kp s ds kp b) (fun x h => .inl h) (fun x h => .inr h) dj
  | _, d :: ds, F, k + 1, x, h, e => by
    cases h with
    | @cons v vs _ _ _ Fa Fb a b c f g =>
      simp at e
      obtain ⟨u, F1, F2, e1, r, s1, s2, dj, cl⟩ := Rs.lens ds k x b e
      refine ⟨u, F1, Or2 Fa F2, e1, r, s1.trans f, fun z hz => hz.elim (c z) (fun q => f z (s2 z q)), fun z h1 h2 => h2.elim (fun q => g z q (s1 z h1)) (dj z h1), fun S' H' F1' y kp s r' dj' => ?_⟩
      have q := cl S' H' F1' y (kp.sub fun z hz => .inr hz) s r' fun z h1 h2 => dj' z h1 (.inr h2)
      refine .cons (R.kp s d (kp.sub fun z hz => .inl hz) a) q (fun z hz => .inr (.inl hz)) (fun z hz => hz.elim .inl (fun q => .inr (.inr q))) fun z h1 h2 => ?_
      rcases h2 with h2 | h2
      · exact dj' z h2 (.inl h1)
      · exact g z h1 (s2 z h2)
theorem R.lens : ∀ (π : List Nat) {v : V} {d : D} {F : Ft} {x : D}, R K S H v d F → d.at π = x → x ≠ .hole →
    ∃ u F1 F2, PVp K S H v π u ∧ R K S H u x F1 ∧ Sub F1 F ∧ Sub F2 F ∧ Dj F1 F2 ∧
      ∀ S' H' F1' y, Kp S F2 H H' → Sub S S' → R K S' H' u y F1' → Dj F1' F2 → R K S' H' v (d.put y π) (Or2 F1' F2)
  | [], v, d, F, x, h, e, _ => by
    have e' : d = x := e
    subst e'
    exact ⟨v, F, Em, rfl, h, Sub.refl, fun _ z => z.elim, fun _ _ z => z, fun S' H' F1' y kp s r dj => r.wide fun z hz => .inl hz⟩
  | k :: π, v, d, F, x, h, e, ne => by
    cases h with
    | @tup a xs ds _ hs hr =>
      have e : (match ds[k]? with | some x => x.at π | none => D.hole) = x := e
      cases ek : ds[k]? with
      | none => rw [ek] at e; exact absurd e.symm ne
      | some z =>
        rw [ek] at e
        obtain ⟨u, F1, F2, e1, r, s1, s2, dj, cl⟩ := Rs.lens ds k z hr ek
        obtain ⟨u', F1', F2', pv, r', s1', s2', dj', cl'⟩ := R.lens π r e ne
        refine ⟨u', F1', Or2 F2' F2, ⟨a, xs, u, rfl, .inl hs, e1, pv⟩, r', s1'.trans s1, fun q hq => hq.elim (fun q2 => s1 q (s2' q q2)) (s2 q), fun q h1 h2 => h2.elim (dj' q h1) (dj q (s1' q h1)), fun S' H' G y kp s ry dy => ?_⟩
        have i1 := cl' S' H' G y (kp.sub fun q hq => .inl hq) s ry fun q h1 h2 => dy q h1 (.inl h2)
        have i2 := cl S' H' (Or2 G F2') (z.put y π) (kp.sub fun q hq => .inr hq) s i1 fun q h1 h2 => h1.elim (fun h => dy q h (.inr h2)) (fun h => dj q (s2' q h) h2)
        have i3 : R K S' H' (.ref a) (.tup (ds.set k (z.put y π))) (Or2 (Or2 G F2') F2) := .tup (SqT.kp hs kp) i2
        have ep : (D.tup ds).put y (k :: π) = .tup (ds.set k (z.put y π)) := by
          show (match ds[k]? with | some x => D.tup (ds.set k (x.put y π)) | none => .tup ds) = _
          rw [ek]
        rw [ep]
        exact i3.wide fun q hq => hq.elim (fun h => h.elim .inl (fun h => .inr (.inl h))) (fun h => .inr (.inr h))
    | @opl a xs ds _ hm hs hr =>
      have e : (match ds[k]? with | some x => x.at π | none => D.hole) = x := e
      cases ek : ds[k]? with
      | none => rw [ek] at e; exact absurd e.symm ne
      | some z =>
        rw [ek] at e
        obtain ⟨u, F1, F2, e1, r, s1, s2, dj, cl⟩ := Rs.lens ds k z hr ek
        obtain ⟨u', F1', F2', pv, r', s1', s2', dj', cl'⟩ := R.lens π r e ne
        refine ⟨u', F1', Or2 F2' F2, ⟨a, xs, u, rfl, .inr (.inl ⟨hm, hs⟩), e1, pv⟩, r', s1'.trans s1, fun q hq => hq.elim (fun q2 => s1 q (s2' q q2)) (s2 q), fun q h1 h2 => h2.elim (dj' q h1) (dj q (s1' q h1)), fun S' H' G y kp s ry dy => ?_⟩
        have i1 := cl' S' H' G y (kp.sub fun q hq => .inl hq) s ry fun q h1 h2 => dy q h1 (.inl h2)
        have i2 := cl S' H' (Or2 G F2') (z.put y π) (kp.sub fun q hq => .inr hq) s i1 fun q h1 h2 => h1.elim (fun h => dy q h (.inr h2)) (fun h => dj q (s2' q h) h2)
        have i3 : R K S' H' (.ref a) (.opl (ds.set k (z.put y π))) (Or2 (Or2 G F2') F2) := .opl (s _ hm) (kp _ _ hs (.inr (.inl hm))) i2
        have ep : (D.opl ds).put y (k :: π) = .opl (ds.set k (z.put y π)) := by
          show (match ds[k]? with | some x => D.opl (ds.set k (x.put y π)) | none => .opl ds) = _
          rw [ek]
        rw [ep]
        exact i3.wide fun q hq => hq.elim (fun h => h.elim .inl (fun h => .inr (.inl h))) (fun h => .inr (.inr h))
    | @opi a C dx c fs ds _ hn hm hs hr =>
      have e : (match ds[k]? with | some x => x.at π | none => D.hole) = x := e
      cases ek : ds[k]? with
      | none => rw [ek] at e; exact absurd e.symm ne
      | some z =>
        rw [ek] at e
        obtain ⟨u, F1, F2, e1, r, s1, s2, dj, cl⟩ := Rs.lens ds k z hr ek
        obtain ⟨u', F1', F2', pv, r', s1', s2', dj', cl'⟩ := R.lens π r e ne
        refine ⟨u', F1', Or2 F2' F2, ⟨a, fs.map (·.2), u, rfl, .inr (.inr ⟨hm, C, dx, fs, hs, rfl⟩), e1, pv⟩, r', s1'.trans s1, fun q hq => hq.elim (fun q2 => s1 q (s2' q q2)) (s2 q), fun q h1 h2 => h2.elim (dj' q h1) (dj q (s1' q h1)), fun S' H' G y kp s ry dy => ?_⟩
        have i1 := cl' S' H' G y (kp.sub fun q hq => .inl hq) s ry fun q h1 h2 => dy q h1 (.inl h2)
        have i2 := cl S' H' (Or2 G F2') (z.put y π) (kp.sub fun q hq => .inr hq) s i1 fun q h1 h2 => h1.elim (fun h => dy q h (.inr h2)) (fun h => dj q (s2' q h) h2)
        have i3 : R K S' H' (.ref a) (.opi c (fs.map (·.1)) (ds.set k (z.put y π))) (Or2 (Or2 G F2') F2) := .opi hn (s _ hm) (kp _ _ hs (.inr (.inl hm))) i2
        have ep : (D.opi c (fs.map (·.1)) ds).put y (k :: π) = .opi c (fs.map (·.1)) (ds.set k (z.put y π)) := put_opi ek
        rw [ep]
        exact i3.wide fun q hq => hq.elim (fun h => h.elim .inl (fun h => .inr (.inl h))) (fun h => .inr (.inr h))
    | fdc _ _ => exact absurd e.symm ne
    | p _ => exact absurd e.symm ne
    | lst _ _ _ _ => exact absurd e.symm ne
    | dct _ _ _ => exact absurd e.symm ne
    | ins _ _ _ _ _ => exact absurd e.symm ne
    | exn0 _ _ => exact absurd e.symm ne
    | exn1 _ _ _ _ _ => exact absurd e.symm ne
    | lent => exact absurd e.symm ne
    | hole => exact absurd e.symm ne

theorem dj_set_eq {env : Env} {i : Nat} {d : D} (h : i < env.length) : dj (env.set i d)[i]? = d := by rw [List.getElem?_set_self h]; rfl
theorem dj_set_ne {env : Env} {i j : Nat} {d : D} (h : i ≠ j) : dj (env.set i d)[j]? = dj env[j]? := by rw [List.getElem?_set_ne h]
theorem lt_of_dj {env : Env} {i : Nat} (h : dj env[i]? ≠ .hole) : i < env.length := by
  by_cases hi : i < env.length
  · exact hi
  · rw [List.getElem?_eq_none (by omega)] at h; exact absurd rfl h
theorem ES.core {σ : L2.St} {env : Env} {Fs : Nat → Ft} (i : Nat) (a : ∀ j, j ≠ i → RO K S H (oj σ[j]?) (dj env[j]?) (Fs j)) (r : RO K S H (oj σ[i]?) (dj env[i]?) F1)
    (b : ∀ j k, j ≠ k → j ≠ i → k ≠ i → Dj (Fs j) (Fs k)) (d : ∀ j, j ≠ i → Dj F1 (Fs j)) (c : ∀ j, j ≠ i → Sub (Fs j) F2) : ES K S H σ env (Or2 F1 F2) := by
  refine ⟨fun j x => (j = i ∧ F1 x) ∨ (j ≠ i ∧ Fs j x), fun j => ?_, fun j k hjk x h1 h2 => ?_, fun j x hx => ?_⟩
  · by_cases hj : j = i
    · subst hj
      rcases r with q | ⟨u, q1, q2⟩
      · exact .inl q
      · exact .inr ⟨u, q1, q2.wide fun x hx => .inl ⟨rfl, hx⟩⟩
    · rcases a j hj with q | ⟨u, q1, q2⟩
      · exact .inl q
      · exact .inr ⟨u, q1, q2.wide fun x hx => .inr ⟨hj, hx⟩⟩
  · rcases h1 with ⟨e1, h1⟩ | ⟨e1, h1⟩
    · rcases h2 with ⟨e2, h2⟩ | ⟨e2, h2⟩
      · exact hjk (e1.trans e2.symm)
      · exact d k e2 x h1 h2
    · rcases h2 with ⟨e2, h2⟩ | ⟨e2, h2⟩
      · exact d j e1 x h2 h1
      · exact b j k hjk e1 e2 x h1 h2
  · rcases hx with ⟨e1, h1⟩ | ⟨e1, h1⟩
    · exact .inl h1
    · exact .inr (c j e1 x h1)
/-- a slot taken out and put back -/
theorem ES.slot {σ : L2.St} {env : Env} (h : ES K S H σ env F) (i : Nat) (ne : dj env[i]? ≠ .hole) :
    ∃ v F1 F2, oj σ[i]? = some v ∧ R K S H v (dj env[i]?) F1 ∧ Sub F1 F ∧ Sub F2 F ∧ Dj F1 F2 ∧
      (∀ S' H' F1' y, Kp S F2 H H' → Sub S S' → R K S' H' v y F1' → Dj F1' F2 → ES K S' H' σ (env.set i y) (Or2 F1' F2)) ∧
      ∀ S' H' F1' w y, Kp S F2 H H' → Sub S S' → R K S' H' w y F1' → Dj F1' F2 → i < σ.length → ES K S' H' (σ.set i (some w)) (env.set i y) (Or2 F1' F2) := by
  obtain ⟨Fs, a, b, c⟩ := h
  rcases a i with e | ⟨v, e, r⟩
  · exact absurd e ne
  have hl := lt_of_dj ne
  refine ⟨v, Fs i, fun x => ∃ j, j ≠ i ∧ Fs j x, e, r, c i, fun x ⟨j, _, q⟩ => c j x q, fun x h1 ⟨j, hj, h2⟩ => b i j (Ne.symm hj) x h1 h2, fun S' H' F1' y kp s r' dj' => ?_, fun S' H' F1' w y kp s r' dj' hσ => ?_⟩
  · refine ES.core (Fs := Fs) i (fun j hj => ?_) ?_ (fun j k h _ _ => b j k h) (fun j hj x h1 h2 => dj' x h1 ⟨j, hj, h2⟩) (fun j hj x hx => ⟨j, hj, hx⟩)
    · rw [dj_set_ne (Ne.symm hj)]
      exact (a j).kp (kp.sub fun x hx => ⟨j, hj, hx⟩) s
    · rw [dj_set_eq hl]
      exact .inr ⟨v, e, r'⟩
  · refine ES.core (Fs := Fs) i (fun j hj => ?_) ?_ (fun j k h _ _ => b j k h) (fun j hj x h1 h2 => dj' x h1 ⟨j, hj, h2⟩) (fun j hj x hx => ⟨j, hj, hx⟩)
    · rw [dj_set_ne (Ne.symm hj), List.getElem?_set_ne (Ne.symm hj)]
      exact (a j).kp (kp.sub fun x hx => ⟨j, hj, hx⟩) s
    · rw [dj_set_eq hl, List.getElem?_set_self hσ]
      exact .inr ⟨w, rfl, r'⟩
/-- a slot is given a new value (what it held is forgotten) -/
theorem ES.set {σ : L2.St} {env : Env} (h : ES K S H σ env F) (i : Nat) {w : V} {y : D} {F1 : Ft} (r : R K S H w y F1) (dj' : Dj F1 F) (hσ : i < σ.length) (he : i < env.length) : ES K S H (σ.set i (some w)) (env.set i y) (Or2 F1 F) := by
  obtain ⟨Fs, a, b, c⟩ := h
  refine ES.core (Fs := Fs) i (fun j hj => ?_) ?_ (fun j k h _ _ => b j k h) (fun j hj x h1 h2 => dj' x h1 (c j x h2)) (fun j hj => c j)
  · rw [dj_set_ne (Ne.symm hj), List.getElem?_set_ne (Ne.symm hj)]
    exact a j
  · rw [dj_set_eq he, List.getElem?_set_self hσ]
    exact .inr ⟨w, rfl, r⟩
/-- forgetting: slots become holes -/
theorem ES.weak {σ σ' : L2.St} {env env' : Env} (h : ES K S H σ env F) (w : ∀ i : Nat, dj env'[i]? = .hole ∨ (dj env'[i]? = dj env[i]? ∧ oj σ'[i]? = oj σ[i]?)) : ES K S H σ' env' F := by
  obtain ⟨Fs, a, b, c⟩ := h
  refine ⟨Fs, fun i => ?_, b, c⟩
  rcases w i with e | ⟨e1, e2⟩
  · exact .inl e
  · rw [e1, e2]; exact a i
/-- a place taken out and put back -/
theorem ES.lens {σ : L2.St} {env : Env} (h : ES K S H σ env F) (i : Nat) (π : List Nat) {x : D} (e : env.at i π = x) (ne : x ≠ .hole) :
    ∃ u F1 F2, PV K S H σ i π u ∧ R K S H u x F1 ∧ Sub F1 F ∧ Sub F2 F ∧ Dj F1 F2 ∧
      ∀ S' H' F1' y, Kp S F2 H H' → Sub S S' → R K S' H' u y F1' → Dj F1' F2 → ES K S' H' σ (env.put i π y) (Or2 F1' F2) := by
  have nh : dj env[i]? ≠ .hole := fun q => by
    have e : (dj env[i]?).at π = x := e
    rw [q] at e
    cases π <;> exact ne e.symm
  obtain ⟨v, Fa, Fb, ev, r, sa, sb, dab, cl, _⟩ := h.slot i nh
  obtain ⟨u, F1, F2, pv, r', s1, s2, d12, cl'⟩ := R.lens π r e ne
  refine ⟨u, F1, Or2 F2 Fb, ⟨v, ev, pv⟩, r', s1.trans sa, fun q hq => hq.elim (fun z => sa q (s2 q z)) (sb q), fun q h1 h2 => h2.elim (d12 q h1) (dab q (s1 q h1)), fun S' H' G y kp s ry dy => ?_⟩
  have i1 := cl' S' H' G y (kp.sub fun q hq => .inl hq) s ry fun q h1 h2 => dy q h1 (.inl h2)
  have i2 := cl S' H' (Or2 G F2) ((dj env[i]?).put y π) (kp.sub fun q hq => .inr hq) s i1 fun q h1 h2 => h1.elim (fun h => dy q h (.inr h2)) (fun h => dab q (s2 q h) h2)
  exact i2.wide fun q hq => hq.elim (fun h => h.elim .inl (fun h => .inr (.inl h))) (fun h => .inr (.inr h))
end
end Dv

set_option Elab.async false
set_option linter.all false
set_option maxRecDepth 100000
/-! Dv, part C: steps of the state, operands, the judgements. -/
namespace Dv
open PySem PySem.Spec PyProof.Rows L2

/-- the written part is not tracked -/
def KH (K : PySem.W.Frag) (H : Hp) : Prop := ∀ a o, K.lookup a = some o → H a = none

section
variable {K : PySem.W.Frag} {S S' S1 S2 F F' F1 F2 G G1 G2 : Ft} {H H' H1 H2 : Hp}
theorem SqT.inj (kh : KH K H) {a : Addr} {xs ys : List V} (h : SqT K H a xs) (h' : SqT K H a ys) : xs = ys := by
  rcases h with h | ⟨o, its, n, l, _, d, _, r⟩
  · rcases h' with h' | ⟨o, its, n, l, _⟩
    · rcases h with h | ⟨o, h⟩ <;> rcases h' with h' | ⟨o', h'⟩ <;> rw [h] at h' <;> cases h' <;> rfl
    · rcases h with h | ⟨_, h⟩ <;> rw [kh a o l] at h <;> cases h
  · rcases h' with h' | ⟨o', its', n', l', _, d', _, r'⟩
    · rcases h' with h' | ⟨_, h'⟩ <;> rw [kh a o l] at h' <;> cases h'
    · rw [l] at l'; cases l'
      rw [d] at d'; injection d' with d1 _
      subst d1
      exact r.inj r'
theorem SqT.noMu (kh : KH K H) {a : Addr} {xs : List V} {o : HO} (h : SqT K H a xs) (e : H a = some o) (m : MuO (some o)) : False := by
  rcases h with (h | ⟨o', h⟩) | ⟨o', its, n, l, _⟩
  · rw [h] at e; cases e; exact m
  · rw [h] at e; cases e; exact m
  · rw [kh a o' l] at e; cases e
theorem StQ.inj (kh : KH K H) {a : Addr} {xs ys : List V} (h : StQ K S H a xs) (h' : StQ K S H a ys) : xs = ys := by
  rcases h with h | ⟨_, h⟩ | ⟨_, C, dx, fs, h, e⟩
  · rcases h' with h' | ⟨_, h'⟩ | ⟨_, C', dx', fs', h', e'⟩
    · exact SqT.inj kh h h'
    · exact (SqT.noMu kh h h' trivial).elim
    · exact (SqT.noMu kh h h' trivial).elim
  · rcases h' with h' | ⟨_, h'⟩ | ⟨_, C', dx', fs', h', e'⟩
    · exact (SqT.noMu kh h' h trivial).elim
    · rw [h] at h'; cases h'; rfl
    · rw [h] at h'; cases h'
  · rcases h' with h' | ⟨_, h'⟩ | ⟨_, C', dx', fs', h', e'⟩
    · exact (SqT.noMu kh h' h trivial).elim
    · rw [h] at h'; cases h'
    · rw [h] at h'; cases h'; rw [e, e']
theorem StQ.kp {a : Addr} {xs : List V} (h : StQ K S H a xs) (k : Kp S F H H') (s : Sub S S') : StQ K S' H' a xs := by
  rcases h with h | ⟨m, h⟩ | ⟨m, C, dx, fs, h, e⟩
  · exact .inl (SqT.kp h k)
  · exact .inr (.inl ⟨s a m, k a _ h (.inr (.inl m))⟩)
  · exact .inr (.inr ⟨s a m, C, dx, fs, k a _ h (.inr (.inl m)), e⟩)
theorem PVp.inj (kh : KH K H) : ∀ (π : List Nat) {v u w : V}, PVp K S H v π u → PVp K S H v π w → u = w
  | [], v, u, w, h, h' => by
    have e : u = v := h
    have e' : w = v := h'
    rw [e, e']
  | k :: π, v, u, w, h, h' => by
    obtain ⟨a, xs, z, e, q, i, r⟩ := h
    obtain ⟨a', xs', z', e', q', i', r'⟩ := h'
    subst e; cases e'
    rw [StQ.inj kh q q'] at i
    rw [i] at i'; cases i'
    exact PVp.inj kh π r r'
theorem PVp.kp (k : Kp S F H H') (s : Sub S S') : ∀ (π : List Nat) {v u : V}, PVp K S H v π u → PVp K S' H' v π u
  | [], v, u, h => h
  | j :: π, v, u, ⟨a, xs, z, e, q, i, r⟩ => ⟨a, xs, z, e, StQ.kp q k s, i, PVp.kp k s π r⟩
theorem PV.kp (k : Kp S F H H') (s : Sub S S') {σ : L2.St} {i : Nat} {π : List Nat} {v : V} (h : PV K S H σ i π v) : PV K S' H' σ i π v := by
  obtain ⟨v0, e, r⟩ := h
  exact ⟨v0, e, r.kp k s π⟩
theorem PV.inj (kh : KH K H) {σ : L2.St} {i : Nat} {π : List Nat} {v u : V} (h : PV K S H σ i π v) (h' : PV K S H σ i π u) : v = u := by
  obtain ⟨v0, e, r⟩ := h
  obtain ⟨v1, e', r'⟩ := h'
  rw [e] at e'; cases e'
  exact r.inj kh π r'

/-! ### steps -/
theorem WF.g (w : WF S F G H) (s : Sub G' G) : WF S F G' H := ⟨w.sf, fun a x y => w.sg a x (s a y), fun a x y => w.fg a x (s a y), w.sd, w.fm, fun a x => w.gm a (s a x)⟩
theorem WF.e (w : WF S F G H) : WF S F Em H := w.g fun _ z => z.elim
theorem MuO.ne {o : Option HO} (h : MuO o) : o ≠ none := fun z => by subst z; exact h
theorem Nx.refl (w : WF S F G H) : Nx S F H S F Em H := ⟨fun _ _ e _ => e, Sub.refl, fun _ h => .inl h, fun _ h => .inl h, fun _ h => h.elim, w.e⟩
theorem Nx.g (n : Nx S F H S' F' G H') (s : Sub G1 G) : Nx S F H S' F' G1 H' := ⟨n.keep, n.ss, n.sn, n.fn, fun a h => n.gn a (s a h), n.w.g s⟩
theorem Nx.e (n : Nx S F H S' F' G H') : Nx S F H S' F' Em H' := n.g fun _ z => z.elim
/-- what a step keeps: temps -/
theorem Nx.kpG (w : WF S F G H) (n : Nx S F H S' F' G1 H') : Kp S G H H' := fun a o e c => n.keep a o e fun f => by
  rcases c with c | c | c
  · exact w.fg a f c
  · exact w.sf a c f
  · exact c (by rw [← e]; exact w.fm a f)
theorem Nx.kpS (w : WF S F G H) (n : Nx S F H S' F' G1 H') : Kp S Em H H' := (n.kpG w).sub fun _ z => z.elim
theorem MuO.some {o : Option HO} (h : MuO o) : ∃ u, o = some u := by
  cases o with
  | none => exact h.elim
  | some u => exact ⟨u, rfl⟩
theorem Nx.back (n : Nx S F H S' F' G H') {a : Addr} (h : H' a = none) : F a ∨ H a = none := by
  cases e : H a with
  | none => exact .inr rfl
  | some o =>
    by_cases f : F a
    · exact .inl f
    · rw [n.keep a o e f] at h; cases h
theorem Nx.seq (n1 : Nx S F H S1 F1 G1 H1) (n2 : Nx S1 F1 H1 S2 F2 G2 H2) : Nx S F H S2 F2 (Or2 G1 G2) H2 where
  keep := fun a o e f => n2.keep a o (n1.keep a o e f) fun z => (n1.fn a z).elim f fun q => by rw [q] at e; cases e
  ss := n1.ss.trans n2.ss
  sn := fun a h => by
    rcases n2.sn a h with h | h | h
    · exact n1.sn a h
    · exact .inr (n1.fn a h)
    · exact .inr (n1.back h)
  fn := fun a h => by
    rcases n2.fn a h with h | h
    · exact n1.fn a h
    · exact n1.back h
  gn := fun a h => by
    rcases h with h | h
    · exact n1.gn a h
    · rcases n2.gn a h with h | h
      · exact n1.fn a h
      · exact n1.back h
  w := by
    refine ⟨n2.w.sf, fun a h g => ?_, fun a h g => ?_, n2.w.sd, n2.w.fm, fun a g => ?_⟩
    · rcases g with g | g
      · rcases n2.sn a h with h | h | h
        · exact n1.w.sg a h g
        · exact n1.w.fg a h g
        · exact (n1.w.gm a g).ne h
      · exact n2.w.sg a h g
    · rcases g with g | g
      · rcases n2.fn a h with h | h
        · exact n1.w.fg a h g
        · exact (n1.w.gm a g).ne h
      · exact n2.w.fg a h g
    · rcases g with g | g
      · have m := n1.w.gm a g
        obtain ⟨u, e⟩ := m.some
        rw [n2.keep a u e fun f => n1.w.fg a f g, ← e]
        exact m
      · exact n2.w.gm a g
theorem Nx.seq0 (n1 : Nx S F H S1 F1 G1 H1) (n2 : Nx S1 F1 H1 S2 F2 G2 H2) : Nx S F H S2 F2 G2 H2 := (n1.seq n2).g fun _ h => .inr h
/-- a new object that may be changed -/
theorem Nx.new (w : WF S F G H) {p : Addr} {o : HO} (hp : H p = none) (m : MuO (some o)) : Nx S F H S F (fun a => a = p) (upd H p o) where
  keep := fun a u e _ => by rw [upd_ne (ne_of_none e hp)]; exact e
  ss := Sub.refl
  sn := fun _ h => .inl h
  fn := fun _ h => .inl h
  gn := fun a h => .inr (h ▸ hp)
  w := by
    refine ⟨w.sf, fun a h e => ?_, fun a h e => ?_, fun a h => ?_, fun a h => ?_, fun a e => ?_⟩
    · subst e; exact w.sd a h hp
    · subst e; exact (w.fm a h).ne hp
    · have : a ≠ p := fun e => w.sd a h (e ▸ hp)
      rw [upd_ne this]; exact w.sd a h
    · have : a ≠ p := fun e => (w.fm a h).ne (e ▸ hp)
      rw [upd_ne this]; exact w.fm a h
    · subst e; rw [upd_same]; exact m
/-- a new object that is never changed -/
theorem Nx.newT (w : WF S F G H) {p : Addr} {o : HO} (hp : H p = none) : Nx S F H S F Em (upd H p o) where
  keep := fun a u e _ => by rw [upd_ne (ne_of_none e hp)]; exact e
  ss := Sub.refl
  sn := fun _ h => .inl h
  fn := fun _ h => .inl h
  gn := fun a h => h.elim
  w := by
    refine ⟨w.sf, fun a h e => e.elim, fun a h e => e.elim, fun a h => ?_, fun a h => ?_, fun a e => e.elim⟩
    · have : a ≠ p := fun e => w.sd a h (e ▸ hp)
      rw [upd_ne this]; exact w.sd a h
    · have : a ≠ p := fun e => (w.fm a h).ne (e ▸ hp)
      rw [upd_ne this]; exact w.fm a h
/-- what is tracked is kept by a new object -/
theorem kp_new {F : Ft} {p : Addr} {o : HO} (hp : H p = none) : Kp S F H (upd H p o) := fun a u e _ => by rw [upd_ne (ne_of_none e hp)]; exact e

/-! ### operands -/
inductive Opd where
  | val (d : D)
  | ref (i : Nat) (π : List Nat)
def Opd.get (env : Env) : Opd → D
  | .val d => d
  | .ref i π => env.at i π
def OV (K : PySem.W.Frag) (S : Ft) (H : Hp) (σ : L2.St) (v : V) (o : Opd) (G : Ft) : Prop := match o with
  | .val d => R K S H v d G
  | .ref i π => PV K S H σ i π v
theorem OV.kp {σ : L2.St} {v : V} {o : Opd} (h : OV K S H σ v o G) (k : Kp S G H H') (s : Sub S S') : OV K S' H' σ v o G := by
  cases o with
  | val d => exact R.kp s d k h
  | ref i π => exact PV.kp k s h
theorem OV.wide {σ : L2.St} {v : V} {o : Opd} (h : OV K S H σ v o G) (s : Sub G G') : OV K S H σ v o G' := by
  cases o with
  | val d => exact R.wide h s
  | ref i π => exact h
/-- what an operand is -/
theorem OV.r {σ : L2.St} {env : Env} {v : V} {o : Opd} (kh : KH K H) (he : ES K S H σ env F) (h : OV K S H σ v o G) (ne : o.get env ≠ .hole) : ∃ F1, R K S H v (o.get env) F1 := by
  cases o with
  | val d => exact ⟨G, h⟩
  | ref i π =>
    obtain ⟨u, F1, F2, pv, r, _⟩ := he.lens i π (x := env.at i π) rfl ne
    rw [PV.inj kh h pv]
    exact ⟨F1, r⟩
/-- operands in a row -/
inductive OVs (K : PySem.W.Frag) (S : Ft) (H : Hp) (σ : L2.St) : List V → List Opd → Ft → Prop
  | nil {G : Ft} : OVs K S H σ [] [] G
  | cons {v : V} {vs : List V} {o : Opd} {os : List Opd} {G G1 G2 : Ft} : OV K S H σ v o G1 → OVs K S H σ vs os G2 → Sub G1 G → Sub G2 G → Dj G1 G2 → OVs K S H σ (v :: vs) (o :: os) G
theorem OVs.kp {σ : L2.St} (s : Sub S S') : ∀ {vs : List V} {os : List Opd} {G : Ft}, OVs K S H σ vs os G → Kp S G H H' → OVs K S' H' σ vs os G
  | _, _, _, .nil, _ => .nil
  | _, _, _, .cons a b c d e, k => .cons (a.kp (k.sub c) s) (OVs.kp s b (k.sub d)) c d e
end

/-! ### what the model does, by tracked heaps -/
def wE (X : Cx) (e : Expr) : TE := fun σ H Q => ∀ (pins : List (Addr × Obj)) (s : Shared), Inv X pins σ H s → wpAny (model X.prog X.w) X.A (eval e X.env) (EP X pins σ Q) X.xe s
def wT (X : Cx) (e : Expr) : TT := fun σ H Q => ∀ (pins : List (Addr × Obj)) (s : Shared), Inv X pins σ H s → wpAny (model X.prog X.w) X.A (isTrue e X.env (eval e X.env)) (TP X pins σ Q) X.xe s
def wA (X : Cx) (es : List Expr) : TA := fun σ H Q => ∀ (pos : Pos) (pins : List (Addr × Obj)) (s : Shared), Inv X pins σ H s → wpAny (model X.prog X.w) X.A (spliced (backTo pos (starEach es X.env))) (L2.AP X pins σ Q) X.xe s
def wS (X : Cx) (st : Stmt) : TS := fun D σ H => ∀ (pins : List (Addr × Obj)) (s : Shared), Inv X pins σ H s → wpAny (model X.prog X.w) X.A (exec st X.env) (SP X pins D) X.xe s
def wSs (X : Cx) (st : List Stmt) : TS := fun D σ H => ∀ (pins : List (Addr × Obj)) (s : Shared), Inv X pins σ H s → wpAny (model X.prog X.w) X.A (execs st X.env) (SP X pins D) X.xe s
section
variable {X : Cx} {e : Expr} {es : List Expr} {st : Stmt} {sts : List Stmt} {σ : L2.St} {H : Hp}
theorem we (X : Cx) (e : Expr) : PE X e (wE X e) := ⟨fun pins s _ _ _ I h => h pins s I⟩
theorem wt (X : Cx) (e : Expr) : PT X e (wT X e) := ⟨fun pins s _ _ _ I h => h pins s I⟩
theorem wa (X : Cx) (es : List Expr) : PA X es (wA X es) := ⟨fun pos pins s _ _ _ I h => h pos pins s I⟩
theorem ws (X : Cx) (st : Stmt) : PS X st (wS X st) := ⟨fun pins s _ _ _ I h => h pins s I⟩
theorem wss (X : Cx) (st : List Stmt) : PSs X st (wSs X st) := ⟨fun pins s _ _ _ I h => h pins s I⟩
theorem toE {t : TE} {Q : VK} (h : PE X e t) (q : t σ H Q) : wE X e σ H Q := fun pins s I => h.run pins s σ H Q I q
theorem toT {t : TT} {Q : Bool → Hp → Prop} (h : PT X e t) (q : t σ H Q) : wT X e σ H Q := fun pins s I => h.run pins s σ H Q I q
theorem toA {t : TA} {Q : List V → Hp → Prop} (h : PA X es t) (q : t σ H Q) : wA X es σ H Q := fun pos pins s I => h.run pos pins s σ H Q I q
theorem toS {t : TS} {D : Ends} (h : PS X st t) (q : t D σ H) : wS X st D σ H := fun pins s I => h.run pins s σ H D I q
theorem toSs {t : TS} {D : Ends} (h : PSs X sts t) (q : t D σ H) : wSs X sts D σ H := fun pins s I => h.run pins s σ H D I q
/-- what the invariant says of the abstract heap -/
theorem kh_of {pins : List (Addr × Obj)} {s : Shared} (I : Inv X pins σ H s) : KH X.K H := fun a o e => (I.bs a o (I.ok.mod.kin a o e)).2
theorem wE.mono {Q Q' : VK} (h : wE X e σ H Q) (m : ∀ v H', KH X.K H' → Q v H' → Q' v H') : wE X e σ H Q' := fun pins s I =>
  thn (h pins s I) fun u s' ⟨v, H', I', r, q⟩ => ⟨v, H', I', r, m v H' (kh_of I') q⟩
theorem wT.mono {Q Q' : Bool → Hp → Prop} (h : wT X e σ H Q) (m : ∀ b H', KH X.K H' → Q b H' → Q' b H') : wT X e σ H Q' := fun pins s I =>
  thn (h pins s I) fun u s' ⟨H', I', q⟩ => ⟨H', I', m u H' (kh_of I') q⟩
theorem wA.mono {Q Q' : List V → Hp → Prop} (h : wA X es σ H Q) (m : ∀ v H', KH X.K H' → Q v H' → Q' v H') : wA X es σ H Q' := fun pos pins s I =>
  thn (h pos pins s I) fun u s' ⟨v, H', I', r, q⟩ => ⟨v, H', I', r, m v H' (kh_of I') q⟩
/-- .. with the invariant's facts at the start -/
theorem wE.pre {Q : VK} (h : KH X.K H → σ.length = X.N.length → wE X e σ H Q) : wE X e σ H Q := fun pins s I => h (kh_of I) I.len pins s I
theorem wS.pre {D : Ends} (h : KH X.K H → σ.length = X.N.length → wS X st D σ H) : wS X st D σ H := fun pins s I => h (kh_of I) I.len pins s I
theorem wSs.pre {D : Ends} (h : KH X.K H → σ.length = X.N.length → wSs X sts D σ H) : wSs X sts D σ H := fun pins s I => h (kh_of I) I.len pins s I
theorem SP.mono {D D' : Ends} {pins : List (Addr × Obj)} {f : Flow} {s : Shared} (h : SP X pins D f s) (n : ∀ σ H, KH X.K H → σ.length = X.N.length → D.nx σ H → D'.nx σ H) (r : ∀ v H, KH X.K H → D.rt v H → D'.rt v H)
    (b : ∀ σ H, KH X.K H → σ.length = X.N.length → D.bk σ H → D'.bk σ H) (c : ∀ σ H, KH X.K H → σ.length = X.N.length → D.ct σ H → D'.ct σ H) : SP X pins D' f s := by
  cases f with
  | next => obtain ⟨σ', H', I, q⟩ := h; exact ⟨σ', H', I, n _ _ (kh_of I) I.len q⟩
  | brk => obtain ⟨σ', H', I, q⟩ := h; exact ⟨σ', H', I, b _ _ (kh_of I) I.len q⟩
  | cont => obtain ⟨σ', H', I, q⟩ := h; exact ⟨σ', H', I, c _ _ (kh_of I) I.len q⟩
  | ret u => obtain ⟨v, σ', H', I, rr, q⟩ := h; exact ⟨v, σ', H', I, rr, r _ _ (kh_of I) q⟩
theorem wS.mono {D D' : Ends} (h : wS X st D σ H) (n : ∀ σ H, KH X.K H → σ.length = X.N.length → D.nx σ H → D'.nx σ H) (r : ∀ v H, KH X.K H → D.rt v H → D'.rt v H)
    (b : ∀ σ H, KH X.K H → σ.length = X.N.length → D.bk σ H → D'.bk σ H) (c : ∀ σ H, KH X.K H → σ.length = X.N.length → D.ct σ H → D'.ct σ H) : wS X st D' σ H := fun pins s I => thn (h pins s I) fun _ _ q => SP.mono q n r b c
theorem wSs.mono {D D' : Ends} (h : wSs X sts D σ H) (n : ∀ σ H, KH X.K H → σ.length = X.N.length → D.nx σ H → D'.nx σ H) (r : ∀ v H, KH X.K H → D.rt v H → D'.rt v H)
    (b : ∀ σ H, KH X.K H → σ.length = X.N.length → D.bk σ H → D'.bk σ H) (c : ∀ σ H, KH X.K H → σ.length = X.N.length → D.ct σ H → D'.ct σ H) : wSs X sts D' σ H := fun pins s I => thn (h pins s I) fun _ _ q => SP.mono q n r b c
end

/-! ### the judgements -/
/-- an exception: its class, what it bears -/
abbrev EK := Str → Option (Str × D) → Env → Prop
abbrev DT := Env → (Opd → Env → Prop) → EK → Prop
abbrev DTB := Env → (Bool → Env → Prop) → EK → Prop
abbrev DTA := Env → (List Opd → Env → Prop) → EK → Prop
structure DE where
  nx : Env → Prop
  rt : D → Env → Prop
  bk : Env → Prop := fun _ => False
  ct : Env → Prop := fun _ => False
abbrev DTS := DE → Env → EK → Prop

def XR (K : PySem.W.Frag) (S : Ft) (H : Hp) (d : Option Addr) (x : Option (Str × D)) (G : Ft) : Prop := match x with
  | none => d = none
  | some (f, y) => f ≠ "" ∧ ∃ dd v, d = some dd ∧ H dd = some (.xd [(f, v)]) ∧ R K S H v y G
/-- the slots but those of tv are as they were -/
def Ag (tv : List Nat) (σ σ' : L2.St) : Prop := ∀ j, j ∉ tv → σ'[j]? = σ[j]?
/-- what is wanted of exceptions, from a state on -/
def HX (X : Cx) (W : WX) (P : L2.St → Prop) (S F : Ft) (H : Hp) (E : EK) : Prop := ∀ σ S' F' G H' C nc d x env', P σ → Nx S F H S' F' G H' → ES X.K S' H' σ env' F' → XR X.K S' H' d x G → CN X.K nc C → E nc x env' → W (.ref C) d σ H'
section
variable {X : Cx} {W : WX} {S S' F F' G : Ft} {H H' : Hp} {E : EK}
theorem HX.on {P : L2.St → Prop} (h : HX X W P S F H E) (n : Nx S F H S' F' G H') : HX X W P S' F' H' E := fun σ S2 F2 G2 H2 C nc d x env' p n2 es xr cn q => h σ S2 F2 G2 H2 C nc d x env' p (n.seq0 n2) es xr cn q
theorem HX.imp {P P' : L2.St → Prop} (h : HX X W P S F H E) (i : ∀ σ, P' σ → P σ) : HX X W P' S F H E := fun σ S2 F2 G2 H2 C nc d x env' p n2 es xr cn q => h σ S2 F2 G2 H2 C nc d x env' (i σ p) n2 es xr cn q
theorem HX.eq {tv : List Nat} {σ : L2.St} (h : HX X W (Ag tv σ) S F H E) : HX X W (Eq σ) S F H E := h.imp fun s e => by (subst e; exact fun _ _ => rfl)
theorem HX.at {tv : List Nat} {σ σ1 : L2.St} (h : HX X W (Ag tv σ) S F H E) (a : Ag tv σ σ1) : HX X W (Eq σ1) S F H E := h.imp fun s e => by (subst e; exact a)
end
def QO (K : PySem.W.Frag) (σ : L2.St) (S F : Ft) (H : Hp) (Q : Opd → Env → Prop) : VK := fun v H' => ∃ S' F' G o env', Nx S F H S' F' G H' ∧ ES K S' H' σ env' F' ∧ OV K S' H' σ v o G ∧ Q o env'
def QOs (K : PySem.W.Frag) (σ : L2.St) (S F : Ft) (H : Hp) (Q : List Opd → Env → Prop) : List V → Hp → Prop := fun vs H' => ∃ S' F' G os env', Nx S F H S' F' G H' ∧ ES K S' H' σ env' F' ∧ OVs K S' H' σ vs os G ∧ Q os env'
def QB (K : PySem.W.Frag) (σ : L2.St) (S F : Ft) (H : Hp) (Q : Bool → Env → Prop) : Bool → Hp → Prop := fun b H' => ∃ S' F' env', Nx S F H S' F' Em H' ∧ ES K S' H' σ env' F' ∧ Q b env'
def QN (K : PySem.W.Frag) (tv : List Nat) (σ : L2.St) (S F : Ft) (H : Hp) (Q : Env → Prop) : L2.St → Hp → Prop := fun σ' H' => Ag tv σ σ' ∧ ∃ S' F' env', Nx S F H S' F' Em H' ∧ ES K S' H' σ' env' F' ∧ Q env'
def QR (K : PySem.W.Frag) (tv : List Nat) (σ : L2.St) (S F : Ft) (H : Hp) (Q : D → Env → Prop) : VK := fun v H' => ∃ S' F' G σ' d env', Ag tv σ σ' ∧ Nx S F H S' F' G H' ∧ ES K S' H' σ' env' F' ∧ R K S' H' v d G ∧ Q d env'
def QD (K : PySem.W.Frag) (tv : List Nat) (σ : L2.St) (S F : Ft) (H : Hp) (D : DE) : Ends := { nx := QN K tv σ S F H D.nx, rt := QR K tv σ S F H D.rt, bk := QN K tv σ S F H D.bk, ct := QN K tv σ S F H D.ct }

structure DO (X : Cx) (e : Expr) (t : DT) : Prop where
  run : ∀ (W : WX) (_ : Takes X W) (σ : L2.St) (S F : Ft) (H : Hp) (env : Env) (Q : Opd → Env → Prop) (E : EK), KH X.K H → WF S F Em H → ES X.K S H σ env F → HX X W (Eq σ) S F H E → t env Q E → wE X e σ H (QO X.K σ S F H Q)
structure DB (X : Cx) (e : Expr) (t : DTB) : Prop where
  run : ∀ (W : WX) (_ : Takes X W) (σ : L2.St) (S F : Ft) (H : Hp) (env : Env) (Q : Bool → Env → Prop) (E : EK), KH X.K H → WF S F Em H → ES X.K S H σ env F → HX X W (Eq σ) S F H E → t env Q E → wT X e σ H (QB X.K σ S F H Q)
structure DA (X : Cx) (es : List Expr) (t : DTA) : Prop where
  run : ∀ (W : WX) (_ : Takes X W) (σ : L2.St) (S F : Ft) (H : Hp) (env : Env) (Q : List Opd → Env → Prop) (E : EK), KH X.K H → WF S F Em H → ES X.K S H σ env F → HX X W (Eq σ) S F H E → t env Q E → wA X es σ H (QOs X.K σ S F H Q)
structure DS (X : Cx) (st : Stmt) (tv : List Nat) (t : DTS) : Prop where
  run : ∀ (W : WX) (_ : Takes X W) (σ : L2.St) (S F : Ft) (H : Hp) (env : Env) (D : DE) (E : EK), KH X.K H → σ.length = X.N.length → WF S F Em H → ES X.K S H σ env F → HX X W (Ag tv σ) S F H E → t D env E → wS X st (QD X.K tv σ S F H D) σ H
structure DSs (X : Cx) (st : List Stmt) (tv : List Nat) (t : DTS) : Prop where
  run : ∀ (W : WX) (_ : Takes X W) (σ : L2.St) (S F : Ft) (H : Hp) (env : Env) (D : DE) (E : EK), KH X.K H → σ.length = X.N.length → WF S F Em H → ES X.K S H σ env F → HX X W (Ag tv σ) S F H E → t D env E → wSs X st (QD X.K tv σ S F H D) σ H

/-! ### two in a row -/
section
variable {X : Cx} {a b : Expr} {ta tb : DT}
theorem QO.kp {K : PySem.W.Frag} {σ : L2.St} {S F S1 F1 : Ft} {H H1 : Hp} {Q : Opd → Env → Prop} {G : Ft} (n : Nx S F H S1 F1 G H1) {v : V} {H' : Hp} (h : QO K σ S1 F1 H1 Q v H') : QO K σ S F H Q v H' := by
  obtain ⟨S', F', G', o, env', n', es, ov, q⟩ := h
  exact ⟨S', F', G', o, env', n.seq0 n', es, ov, q⟩
/-- two operands -/
theorem do2 (ha : DO X a ta) (hb : DO X b tb) {W : WX} (tk : Takes X W) {σ : L2.St} {S F : Ft} {H : Hp} {env : Env} {E : EK} (kh : KH X.K H) (w : WF S F Em H) (es : ES X.K S H σ env F) (hx : HX X W (Eq σ) S F H E)
    {Q : Opd → Opd → Env → Prop} (h : ta env (fun x e1 => tb e1 (fun y e2 => Q x y e2) E) E) {R' : V → V → Hp → Prop}
    (k : ∀ v u H2 S2 F2 G1 G2 x y e2, KH X.K H2 → Nx S F H S2 F2 (Or2 G1 G2) H2 → Dj G1 G2 → ES X.K S2 H2 σ e2 F2 → OV X.K S2 H2 σ v x G1 → OV X.K S2 H2 σ u y G2 → Q x y e2 → R' v u H2) :
    wE X a σ H fun v H1 => wE X b σ H1 fun u H2 => R' v u H2 := by
  refine (ha.run W tk σ S F H env _ E kh w es hx h).mono fun v H1 kh1 ⟨S1, F1, G1, x, e1, n1, es1, ov1, q1⟩ => ?_
  refine (hb.run W tk σ S1 F1 H1 e1 _ E kh1 n1.w.e es1 (hx.on n1) q1).mono fun u H2 kh2 ⟨S2, F2, G2, y, e2, n2, es2, ov2, q2⟩ => ?_
  refine k v u H2 S2 F2 G1 G2 x y e2 kh2 (n1.seq n2) (fun a h1 h2 => ?_) es2 (ov1.kp (n2.kpG n1.w) n2.ss) ov2 q2
  rcases n2.gn a h2 with h | h
  · exact n1.w.fg a h h1
  · exact (n1.w.gm a h1).ne h
end
end Dv

set_option Elab.async false
set_option linter.all false
set_option maxRecDepth 100000
/-! Dv, part D: names, constants, operators, comparisons, tests. -/
namespace Dv
open PySem PySem.Spec PyProof.Rows L2

/-- new objects alone -/
structure Nw (H : Hp) (G : Ft) (H' : Hp) : Prop where
  same : ∀ a o, H a = some o → H' a = some o
  new : ∀ a, G a → H a = none ∧ MuO (H' a)
section
variable {K : PySem.W.Frag} {S S' F F' G G' : Ft} {H H' : Hp}
theorem Nw.refl : Nw H Em H := ⟨fun _ _ e => e, fun _ h => h.elim⟩
theorem Nw.lay {p : Addr} {o : HO} (hp : H p = none) (m : MuO (some o)) : Nw H (fun a => a = p) (upd H p o) := ⟨fun a u e => by rw [upd_ne (ne_of_none e hp)]; exact e, fun a h => by subst h; rw [upd_same]; exact ⟨hp, m⟩⟩
theorem Nw.layT {p : Addr} {o : HO} (hp : H p = none) : Nw H Em (upd H p o) := ⟨fun a u e => by rw [upd_ne (ne_of_none e hp)]; exact e, fun a h => h.elim⟩
theorem Nw.kp (n : Nw H G H') : Kp S F H H' := fun a o e _ => n.same a o e
theorem Nw.nx (w : WF S F G' H) (n : Nw H G H') : Nx S F H S F G H' where
  keep := fun a o e _ => n.same a o e
  ss := Sub.refl
  sn := fun _ h => .inl h
  fn := fun _ h => .inl h
  gn := fun a h => .inr (n.new a h).1
  w := by
    refine ⟨w.sf, fun a h g => w.sd a h (n.new a g).1, fun a h g => (w.fm a h).ne (n.new a g).1, fun a h z => ?_, fun a h => ?_, fun a h => (n.new a h).2⟩
    · cases e : H a with
      | none => exact w.sd a h e
      | some o => rw [n.same a o e] at z; cases z
    · have m := w.fm a h
      obtain ⟨u, e⟩ := m.some
      rw [n.same a u e, ← e]; exact m
end

/-! ### operators by values -/
def wO (X : Cx) (g : Value → Value → Sem Value) : R2 := fun x y H Q => ∀ (pins : List (Addr × Obj)) (s : Shared) (σ : L2.St) (v u : Value), Inv X pins σ H s → RelV x v → RelV y u → wpAny (model X.prog X.w) X.A (g v u) (EP X pins σ Q) X.xe s
theorem wo (X : Cx) (g : Value → Value → Sem Value) : OpR X g (wO X g) := fun pins s σ H x y v u Q I rx ry h => h pins s σ v u I rx ry
theorem toO {X : Cx} {g : Value → Value → Sem Value} {r : R2} (h : OpR X g r) {x y : V} {H : Hp} {Q : VK} (q : r x y H Q) : wO X g x y H Q := fun pins s σ v u I rx ry => h pins s σ H x y v u Q I rx ry q
/-- what a pure operation gives: new objects alone -/
def QV (K : PySem.W.Frag) (S : Ft) (H : Hp) (Q : D → Prop) : VK := fun v H' => ∃ G d, Nw H G H' ∧ R K S H' v d G ∧ Q d
abbrev F2 := D → D → (D → Prop) → Prop
structure OpD (X : Cx) (g : Value → Value → Sem Value) (f : F2) : Prop where
  run : ∀ (S : Ft) (H : Hp) (v u : V) (x y : D) (Fx Fy : Ft) (Q : D → Prop), KH X.K H → R X.K S H v x Fx → R X.K S H u y Fy → f x y Q → wO X g v u H (QV X.K S H Q)
def dBin (f : F2) (ta tb : DT) : DT := fun env Q E => ta env (fun x e1 => tb e1 (fun y e2 => f (x.get e2) (y.get e2) fun d => Q (.val d) e2) E) E
/-- f asks that neither side is a hole -/
def Strict (f : F2) : Prop := ∀ x y Q, f x y Q → x ≠ .hole ∧ y ≠ .hole
section
variable {X : Cx} {a b : Expr} {ta tb : DT} {pos : Pos}
theorem QV.fin {W : WX} {K : PySem.W.Frag} {σ : L2.St} {S F S2 F2' G : Ft} {H H2 : Hp} {env : Env} {Q : Opd → Env → Prop} (n : Nx S F H S2 F2' G H2) (es : ES K S2 H2 σ env F2') {v : V} {H3 : Hp} (h : QV K S2 H2 (fun d => Q (.val d) env) v H3) : QO K σ S F H Q v H3 := by
  obtain ⟨G3, d, nw, r, q⟩ := h
  exact ⟨S2, F2', G3, .val d, env, n.seq0 (nw.nx n.w), es.kp nw.kp Sub.refl, r, q⟩
theorem do_op {op : Operator} {f : F2} (st : Strict f) (ho : OpD X (binaryOp op) f) (ha : DO X a ta) (hb : DO X b tb) : DO X (.BinOp a op b pos) (dBin f ta tb) := by
  refine ⟨fun W tk σ S F H env Q E kh w es hx h => ?_⟩
  refine toE (pe_op (wo X (binaryOp op)) (we X a) (we X b)) ?_
  refine do2 ha hb tk kh w es hx h fun v u H2 S2 F2' G1 G2 x y e2 kh2 n _ es2 o1 o2 q => ?_
  have ne := st _ _ _ q
  obtain ⟨Fx, rx⟩ := o1.r kh2 es2 ne.1
  obtain ⟨Fy, ry⟩ := o2.r kh2 es2 ne.2
  intro pins s σ' v' u' I r1 r2
  refine thn (ho.run S2 H2 v u _ _ _ _ _ kh2 rx ry q pins s σ' v' u' I r1 r2) fun z s' ⟨z', H', I', rz, q'⟩ => ⟨z', H', I', rz, ?_⟩
  exact QV.fin (W := W) n es2 q'
theorem do_cmp {op : CmpOp} {f : F2} (st : Strict f) (ho : OpD X (compareOp op) f) (ha : DO X a ta) (hb : DO X b tb) (hm : behindInMarks op b = false) : DO X (.Compare a [op] [b] pos) (dBin f ta tb) := by
  refine ⟨fun W tk σ S F H env Q E kh w es hx h => ?_⟩
  refine toE (pe_cmpR (wo X (compareOp op)) (we X a) (we X b) hm) ?_
  refine do2 ha hb tk kh w es hx h fun v u H2 S2 F2' G1 G2 x y e2 kh2 n _ es2 o1 o2 q => ?_
  have ne := st _ _ _ q
  obtain ⟨Fx, rx⟩ := o1.r kh2 es2 ne.1
  obtain ⟨Fy, ry⟩ := o2.r kh2 es2 ne.2
  intro pins s σ' v' u' I r1 r2
  refine thn (ho.run S2 H2 v u _ _ _ _ _ kh2 rx ry q pins s σ' v' u' I r1 r2) fun z s' ⟨z', H', I', rz, q'⟩ => ⟨z', H', I', rz, ?_⟩
  exact QV.fin (W := W) n es2 q'
end

/-! ### names and constants -/
section
variable {X : Cx} {pos : Pos}
def dNm (i : Nat) : DT := fun env Q _ => match dj env[i]? with
  | .hole => False
  | .lent _ => False
  | .p x => Q (.val (.p x)) env
  | _ => Q (.ref i []) env
theorem oj_get {σ : L2.St} {i : Nat} {v : V} (h : oj σ[i]? = some v) : σ[i]? = some (some v) := by
  cases e : σ[i]? with
  | none => rw [e] at h; cases h
  | some o => rw [e] at h; have h : o = some v := h; rw [h]
theorem do_nm (i : Nat) {x : Str} (hN : X.N[i]? = some x := by rfl) (hv : Vis X.env.scope x := by first | exact Or.inl rfl | exact Or.inr (Or.inl rfl) | exact Or.inr (Or.inr rfl)) (hd : (x == ("__debug__" : Str)) = false := by decide)
    (hcd : (x == ("__classdict__" : Str)) = false := by decide) : DO X (.Name x pos) (dNm i) := by
  refine ⟨fun W tk σ S F H env Q E kh w es hx h => ?_⟩
  refine toE (pe_var hN hv hd hcd) ?_
  have h : (match dj env[i]? with
    | .hole => False
    | .lent _ => False
    | .p x => Q (.val (.p x)) env
    | _ => Q (.ref i []) env) := h
  have ne : dj env[i]? ≠ .hole := fun z => by rw [z] at h; exact h
  obtain ⟨Fs, a, b, c⟩ := id es
  rcases a i with z | ⟨v, e, r⟩
  · exact absurd z ne
  refine ⟨v, oj_get e, S, F, Em, ?_⟩
  have rf : OV X.K S H σ v (.ref i []) Em := ⟨v, e, rfl⟩
  cases q : dj env[i]? with
  | hole => exact absurd q ne
  | p x =>
    rw [q] at h r
    refine ⟨.val (.p x), env, Nx.refl w, es, ?_, h⟩
    cases r with | p r => exact .p r
  | tup _ => rw [q] at h; exact ⟨_, env, Nx.refl w, es, rf, h⟩
  | lst _ => rw [q] at h; exact ⟨_, env, Nx.refl w, es, rf, h⟩
  | dct _ => rw [q] at h; exact ⟨_, env, Nx.refl w, es, rf, h⟩
  | ins _ _ _ => rw [q] at h; exact ⟨_, env, Nx.refl w, es, rf, h⟩
  | exn _ _ _ => rw [q] at h; exact ⟨_, env, Nx.refl w, es, rf, h⟩
  | fdc _ => rw [q] at h; exact ⟨_, env, Nx.refl w, es, rf, h⟩
  | opl _ => rw [q] at h; exact ⟨_, env, Nx.refl w, es, rf, h⟩
  | opi _ _ _ => rw [q] at h; exact ⟨_, env, Nx.refl w, es, rf, h⟩
  | lent _ => rw [q] at h; exact h.elim
def dK (x : PD) : DT := fun env Q _ => Q (.val (.p x)) env
theorem do_k {e : Expr} {v : V} {x : PD} (h : PE X e (tC v)) (r : ∀ S H, RP X.K S H v x) : DO X e (dK x) := by
  refine ⟨fun W tk σ S F H env Q E kh w es hx q => toE h ?_⟩
  exact ⟨S, F, Em, .val (.p x), env, Nx.refl w, es, R.p (r S H), q⟩
theorem do_int {i j} : DO X (.Constant (.int i) j pos) (dK (.int i)) := do_k pe_int fun _ _ => .int i
theorem do_bl {i j} : DO X (.Constant (.bool i) j pos) (dK (.bool i)) := do_k pe_bl fun _ _ => .bl i
theorem do_str {i j} : DO X (.Constant (.str i) j pos) (dK (.str i)) := do_k pe_str fun _ _ => .str i
theorem do_non {j} : DO X (.Constant .none j pos) (dK .none) := do_k pe_non fun _ _ => .non
/-- a module's constant -/
theorem do_glob {x : Str} {v : V} {u : Value} {d : PD} (hg : Gl X x) (hm : X.mg x = some u) (r : RelV v u) (rp : ∀ S H, RP X.K S H v d) (hd : (x == ("__debug__" : Str)) = false := by decide) : DO X (.Name x pos) (dK d) := do_k (pe_glob hg hm r hd) rp
end

/-! ### taking out, freezing -/
mutual
def fz : D → Option PD
  | .p x => some x
  | .tup ds => (fzs ds).map .tuple
  | .lst ds => (fzs ds).map .list
  | .dct _ => none
  | .ins _ _ _ => none
  | .exn _ _ _ _ => none
  | .fdc _ => none
  | .opl _ => none
  | .opi _ _ _ => none
  | .lent _ => none
  | .hole => none
def fzs : List D → Option (List PD)
  | [] => some []
  | d :: ds => match fz d, fzs ds with
    | some x, some xs => some (x :: xs)
    | _, _ => none
end
section
variable {K : PySem.W.Frag} {S F G : Ft} {H : Hp}
theorem subO1 {F G : Ft} : Sub F (Or2 F G) := fun _ h => .inl h
theorem subO2 {F G : Ft} : Sub G (Or2 F G) := fun _ h => .inr h
theorem kp_id {S F : Ft} {H : Hp} : Kp S F H H := fun _ _ e _ => e
mutual
theorem R.fz {S' : Ft} (ss : Sub S S') : ∀ {v : V} (d : D) {x : PD} {G : Ft}, Sub G S' → R K S H v d G → fz d = some x → RP K S' H v x
  | _, .p x, y, G, _, h, e => by
    have e : some x = some y := e
    cases e
    cases h with | p a => exact RP.kp (F := Em) kp_id ss _ a
  | v, .tup ds, y, G, s, h, e => by
    have e : (fzs ds).map PyData.tuple = some y := e
    cases q : fzs ds with
    | none => rw [q] at e; cases e
    | some xs =>
      rw [q] at e; cases e
      cases h with | tup a b => exact .tup a (Rs.fz ss ds s b q)
  | v, .lst ds, y, G, s, h, e => by
    have e : (fzs ds).map PyData.list = some y := e
    cases q : fzs ds with
    | none => rw [q] at e; cases e
    | some xs =>
      rw [q] at e; cases e
      cases h with | lst a b c d => exact .lst (.inl ⟨s _ b, a⟩) (Rs.fz ss ds (fun z hz => s z (c z hz).1) d q)
  | _, .dct _, _, _, _, _, e => by cases e
  | _, .ins _ _ _, _, _, _, _, e => by cases e
  | _, .exn _ _ _ _, _, _, _, _, e => by cases e
  | _, .lent _, _, _, _, _, e => by cases e
  | _, .hole, _, _, _, _, e => by cases e
theorem Rs.fz {S' : Ft} (ss : Sub S S') : ∀ {vs : List V} (ds : List D) {xs : List PD} {G : Ft}, Sub G S' → Rs K S H vs ds G → fzs ds = some xs → RPs K S' H vs xs
  | _, [], xs, G, _, h, e => by
    have e : some [] = some xs := e
    cases e
    cases h; exact .nil
  | _, d :: ds, xs, G, s, h, e => by
    have e : (match Dv.fz d, fzs ds with
      | some x, some xs => some (x :: xs)
      | _, _ => none) = some xs := e
    cases q1 : Dv.fz d with
    | none => rw [q1] at e; cases e
    | some x =>
      cases q2 : fzs ds with
      | none => rw [q1, q2] at e; cases e
      | some xs' =>
        rw [q1, q2] at e; cases e
        cases h with | cons a b c f g => exact .cons (R.fz ss d (c.trans s) a q1) (Rs.fz ss ds (f.trans s) b q2)
end
end
section
variable {X : Cx} {e : Expr} {t : DT}
/-- what is kept of a place is taken out of it -/
def dMv (t : DT) : DT := fun env Q E => t env (fun o e => match o with
  | .val d => Q (.val d) e
  | .ref i π => match e.at i π with
    | .hole => False
    | d => Q (.val d) (e.put i π .hole)) E
theorem do_mv (h : DO X e t) : DO X e (dMv t) := by
  refine ⟨fun W tk σ S F H env Q E kh w es hx q => ?_⟩
  refine (h.run W tk σ S F H env _ E kh w es hx q).mono fun v H1 kh1 ⟨S1, F1, G1, o, e1, n1, es1, ov, q1⟩ => ?_
  cases o with
  | val d => exact ⟨S1, F1, G1, .val d, e1, n1, es1, ov, q1⟩
  | ref i π =>
    have q1 : (match e1.at i π with
      | .hole => False
      | d => Q (.val d) (e1.put i π .hole)) := q1
    have ne : e1.at i π ≠ .hole := fun z => by rw [z] at q1; exact q1
    have q2 : Q (.val (e1.at i π)) (e1.put i π .hole) := by
      cases z : e1.at i π with
      | hole => exact absurd z ne
      | _ => rw [z] at q1; exact q1
    obtain ⟨u, Fa, Fb, pv, r, sa, sb, dab, cl⟩ := es1.lens i π rfl ne
    have ov : PV X.K S1 H1 σ i π v := ov
    rw [PV.inj kh1 ov pv]
    have es2 := cl S1 H1 Em .hole kp_id Sub.refl .hole fun _ z => z.elim
    refine ⟨S1, Fb, Fa, .val _, _, ⟨n1.keep, n1.ss, n1.sn, fun a h => n1.fn a (sb a h), fun a h => n1.fn a (sa a h), ⟨fun a x y => n1.w.sf a x (sb a y), fun a x y => n1.w.sf a x (sa a y), dab.symm, n1.w.sd, fun a h => n1.w.fm a (sb a h), fun a h => n1.w.fm a (sa a h)⟩⟩,
      es2.wide fun a h => h.elim (fun z => z.elim) id, r, q2⟩
/-- what is kept of a place is frozen there -/
def dFz (t : DT) : DT := fun env Q E => t env (fun o e => match o with
  | .val d => Q (.val d) e
  | .ref i π => match fz (e.at i π) with
    | none => False
    | some x => Q (.val (.p x)) (e.put i π (.p x))) E
theorem do_fz (h : DO X e t) : DO X e (dFz t) := by
  refine ⟨fun W tk σ S F H env Q E kh w es hx q => ?_⟩
  refine (h.run W tk σ S F H env _ E kh w es hx q).mono fun v H1 kh1 ⟨S1, F1, G1, o, e1, n1, es1, ov, q1⟩ => ?_
  cases o with
  | val d => exact ⟨S1, F1, G1, .val d, e1, n1, es1, ov, q1⟩
  | ref i π =>
    have q1 : (match fz (e1.at i π) with
      | none => False
      | some x => Q (.val (.p x)) (e1.put i π (.p x))) := q1
    cases z : fz (e1.at i π) with
    | none => rw [z] at q1; exact q1.elim
    | some x =>
      rw [z] at q1
      have ne : e1.at i π ≠ .hole := fun q => by rw [q] at z; cases z
      obtain ⟨u, Fa, Fb, pv, r, sa, sb, dab, cl⟩ := es1.lens i π rfl ne
      have ov : PV X.K S1 H1 σ i π v := ov
      rw [PV.inj kh1 ov pv]
      have rp : RP X.K (Or2 S1 Fa) H1 u x := R.fz subO1 _ subO2 r z
      have es2 := cl (Or2 S1 Fa) H1 Em (.p x) kp_id subO1 (.p rp) fun _ z => z.elim
      refine ⟨Or2 S1 Fa, Fb, Em, .val (.p x), _, ⟨n1.keep, fun a h => .inl (n1.ss a h), fun a h => h.elim (n1.sn a) (fun h => .inr (n1.fn a (sa a h))), fun a h => n1.fn a (sb a h), fun a h => h.elim, ⟨fun a x y => ?_, fun a x y => y.elim, fun a x y => y.elim, fun a h => ?_, fun a h => n1.w.fm a (sb a h), fun a h => h.elim⟩⟩,
        es2.wide fun a h => h.elim (fun z => z.elim) id, .p rp, q1⟩
      · rcases x with x | x
        · exact n1.w.sf a x (sb a y)
        · exact dab a x y
      · rcases h with h | h
        · exact n1.w.sd a h
        · exact (n1.w.fm a (sa a h)).ne
end
end Dv

set_option Elab.async false
set_option linter.all false
set_option maxRecDepth 100000
/-! Dv, part E: operators and comparisons by values. -/
namespace Dv
open PySem PySem.Spec PyProof.Rows L2

/-- items that are all plain -/
def pys : List D → Option (List PD)
  | [] => some []
  | .p x :: ds => (pys ds).map (x :: ·)
  | _ :: _ => none
@[simp] theorem pys_map (xs : List PD) : pys (xs.map D.p) = some xs := by
  induction xs with
  | nil => rfl
  | cons x r ih => show (pys (r.map D.p)).map (x :: ·) = _; rw [ih]; rfl
/-- a list or tuple of plain items -/
def D.seq : D → Option (List PD)
  | .p (.tuple xs) => some xs
  | .p (.list xs) => some xs
  | .lst ds => pys ds
  | .tup ds => pys ds
  | _ => none
/-- a list of plain items that may be changed -/
def D.ml : D → Option (List PD)
  | .lst ds => pys ds
  | _ => none
mutual
def D.py : D → Option PD
  | .p x => some x
  | .tup ds => (D.pyAll ds).map .tuple
  | .lst ds => (D.pyAll ds).map .list
  | .dct _ => none
  | .ins _ _ _ => none
  | .exn _ _ _ _ => none
  | .fdc _ => none
  | .opl _ => none
  | .opi _ _ _ => none
  | .lent _ => none
  | .hole => none
def D.pyAll : List D → Option (List PD)
  | [] => some []
  | d :: ds => match D.py d, D.pyAll ds with
    | some x, some xs => some (x :: xs)
    | _, _ => none
end
@[simp] theorem D.pyAll_map (xs : List PD) : D.pyAll (xs.map D.p) = some xs := by
  induction xs with
  | nil => rfl
  | cons x r ih => show (match D.py (.p x), D.pyAll (r.map D.p) with | some x, some xs => some (x :: xs) | _, _ => none) = _; rw [ih]; rfl
section
variable {K : PySem.W.Frag} {S F : Ft} {H : Hp}
theorem Rs.pys : ∀ {vs : List V} (ds : List D) {xs : List PD} {F : Ft}, Rs K S H vs ds F → Dv.pys ds = some xs → RPs K S H vs xs
  | _, [], xs, _, h, e => by
    have e : some [] = some xs := e
    cases e; cases h; exact .nil
  | _, d :: ds, xs, _, h, e => by
    cases h with
    | cons a b c f g =>
      cases d with
      | p x =>
        have e : (Dv.pys ds).map (x :: ·) = some xs := e
        cases q : Dv.pys ds with
        | none => rw [q] at e; cases e
        | some r =>
          rw [q] at e; cases e
          cases a with | p a => exact .cons a (Rs.pys ds b q)
      | _ => cases e
theorem RPs.up : ∀ {vs : List V} {xs : List PD} {F : Ft}, RPs K S H vs xs → Rs K S H vs (xs.map D.p) F
  | _, [], _, h => by cases h; exact .nil
  | _, x :: xs, _, h => by
    cases h with
    | cons a b => exact .cons (F1 := Em) (F2 := Em) (.p a) (RPs.up b) (fun _ z => z.elim) (fun _ z => z.elim) (fun _ z => z.elim)
theorem RPs.append : ∀ {vs us : List V} {xs ys : List PD}, RPs K S H vs xs → RPs K S H us ys → RPs K S H (vs ++ us) (xs ++ ys)
  | _, _, [], _, h, h' => by cases h; exact h'
  | _, _, x :: xs, _, h, h' => by
    cases h with
    | cons a b => exact .cons a (RPs.append b h')
theorem RPs.get : ∀ {vs : List V} {xs : List PD} (i : Nat) {x : PD}, RPs K S H vs xs → xs[i]? = some x → ∃ v, vs[i]? = some v ∧ RP K S H v x
  | _, [], i, _, h, e => by simp at e
  | _, y :: xs, 0, _, h, e => by
    cases h with
    | cons a b => simp at e; subst e; exact ⟨_, rfl, a⟩
  | _, y :: xs, i + 1, _, h, e => by
    cases h with
    | cons a b => simp at e; exact RPs.get i b e
theorem RPs.take : ∀ {vs : List V} {xs : List PD} (n : Nat), RPs K S H vs xs → RPs K S H (vs.take n) (xs.take n)
  | _, _, 0, _ => .nil
  | _, [], n + 1, h => by cases h; exact .nil
  | _, x :: xs, n + 1, h => by
    cases h with
    | cons a b => exact .cons a (RPs.take n b)
theorem RPs.drop : ∀ {vs : List V} {xs : List PD} (n : Nat), RPs K S H vs xs → RPs K S H (vs.drop n) (xs.drop n)
  | _, _, 0, h => h
  | _, [], n + 1, h => by cases h; exact .nil
  | _, x :: xs, n + 1, h => by
    cases h with
    | cons a b => exact RPs.drop n b
theorem RPs.reverse {vs : List V} {xs : List PD} (h : RPs K S H vs xs) : RPs K S H vs.reverse xs.reverse := by
  induction xs generalizing vs with
  | nil => cases h; exact .nil
  | cons x xs ih =>
    cases h with
    | cons a b => rw [List.reverse_cons, List.reverse_cons]; exact (ih b).append (.cons a .nil)
mutual
theorem R.dp : ∀ {v : V} (d : D) {x : PD} {F : Ft}, R K S H v d F → d.py = some x → Dp K H v x
  | _, .p x, y, _, h, e => by
    have e : some x = some y := e
    cases e
    cases h with | p a => exact RP.dp _ a
  | v, .tup ds, y, _, h, e => by
    have e : (D.pyAll ds).map PyData.tuple = some y := e
    cases q : D.pyAll ds with
    | none => rw [q] at e; cases e
    | some xs => rw [q] at e; cases e; cases h with | tup a b => exact .tup a (Rs.dp ds b q)
  | v, .lst ds, y, _, h, e => by
    have e : (D.pyAll ds).map PyData.list = some y := e
    cases q : D.pyAll ds with
    | none => rw [q] at e; cases e
    | some xs => rw [q] at e; cases e; cases h with | lst a b c d => exact .lst (SqL.of a) (Rs.dp ds d q)
  | _, .dct _, _, _, _, e => by cases e
  | _, .ins _ _ _, _, _, _, e => by cases e
  | _, .exn _ _ _ _, _, _, _, e => by cases e
  | _, .lent _, _, _, _, e => by cases e
  | _, .hole, _, _, _, e => by cases e
theorem Rs.dp : ∀ {vs : List V} (ds : List D) {xs : List PD} {F : Ft}, Rs K S H vs ds F → D.pyAll ds = some xs → DpAll K H vs xs
  | _, [], xs, _, h, e => by
    have e : some [] = some xs := e
    cases e; cases h; exact .nil
  | _, d :: ds, xs, _, h, e => by
    have e : (match D.py d, D.pyAll ds with
    | some x, some xs => some (x :: xs)
    | _, _ => none) = some xs := e
    cases q1 : D.py d with
    | none => rw [q1] at e; cases e
    | some x =>
      cases q2 : D.pyAll ds with
      | none => rw [q1, q2] at e; cases e
      | some r => rw [q1, q2] at e; cases e; cases h with | cons a b c f g => exact .cons (R.dp d a q1) (Rs.dp ds b q2)
theorem RP.dp : ∀ {v : V} (x : PD), RP K S H v x → Dp K H v x
  | _, .none, h => by cases h; exact .non
  | _, .bool _, h => by cases h; exact .bl _
  | _, .int _, h => by cases h; exact .int _
  | _, .str _, h => by cases h; exact .str _
  | _, .list ds, h => by cases h with | lst a b => exact .lst a.sq (RPs.dp ds b)
  | _, .tuple ds, h => by cases h with | tup a b => exact .tup a (RPs.dp ds b)
  | _, .dict _, h => by cases h
theorem RPs.dp : ∀ {vs : List V} (ds : List PD), RPs K S H vs ds → DpAll K H vs ds
  | _, [], h => by cases h; exact .nil
  | _, d :: ds, h => by cases h with | cons a b => exact .cons (RP.dp d a) (RPs.dp ds b)
end
theorem R.seq {v : V} {d : D} {xs : List PD} {F : Ft} (h : R K S H v d F) (e : d.seq = some xs) : ∃ a vs, v = .ref a ∧ (SqL K H a vs ∨ SqT K H a vs) ∧ RPs K S H vs xs := by
  cases d with
  | p x =>
    cases h with
    | p h =>
      cases x with
      | tuple ys => have e : some ys = some xs := e; cases e; cases h with | tup a b => exact ⟨_, _, rfl, .inr a, b⟩
      | list ys => have e : some ys = some xs := e; cases e; cases h with | lst a b => exact ⟨_, _, rfl, .inl a.sq, b⟩
      | _ => cases e
  | lst ds => cases h with | lst a b c d => exact ⟨_, _, rfl, .inl (SqL.of a), d.pys _ e⟩
  | tup ds => cases h with | tup a b => exact ⟨_, _, rfl, .inr a, b.pys _ e⟩
  | _ => cases e
theorem R.ml {v : V} {d : D} {xs : List PD} {F : Ft} (h : R K S H v d F) (e : d.ml = some xs) : ∃ a vs, v = .ref a ∧ H a = some (.lst vs) ∧ RPs K S H vs xs := by
  cases d with
  | lst ds => cases h with | lst a b c d => exact ⟨_, _, rfl, a, d.pys _ e⟩
  | _ => cases e
/-! the results of pure operations -/
theorem QV.pp {Q : D → Prop} {v : V} {x : PD} (r : RP K S H v x) (q : Q (.p x)) : QV K S H Q v H := ⟨Em, .p x, Nw.refl, .p r, q⟩
theorem QV.ll {Q : D → Prop} {p : Addr} {vs : List V} {xs : List PD} (hp : H p = none) (r : RPs K S H vs xs) (q : Q (.lst (xs.map D.p))) : QV K S H Q (.ref p) (upd H p (.lst vs)) :=
  ⟨fun a => a = p, .lst (xs.map D.p), Nw.lay hp trivial, .lst (F' := Em) upd_same rfl (fun _ z => z.elim) (RPs.up (RPs.kp (kp_new (F := Em) hp) Sub.refl _ r)), q⟩
theorem QV.tt {Q : D → Prop} {p : Addr} {vs : List V} {xs : List PD} (hp : H p = none) (r : RPs K S H vs xs) (q : Q (.p (.tuple xs))) : QV K S H Q (.ref p) (upd H p (.tup vs)) :=
  ⟨Em, .p (.tuple xs), Nw.layT hp, .p (.tup (SqT.of upd_same) (RPs.kp (kp_new (F := Em) hp) Sub.refl _ r)), q⟩
end

/-! ### arithmetic -/
def CPowW (i j : Int) : Prop := 0 ≤ j ∧ (Builtin.Int.intBits i : Int) * j ≤ 2 ^ 27
def fAdd : F2 := fun x y Q => match x, y with
  | .p (.int i), .p (.int j) => Q (.p (.int (i + j)))
  | .p (.str a), .p (.str b) => a.length + b.length ≤ sizeLine ∧ Q (.p (.str (a ++ b)))
  | .p (.tuple xs), .p (.tuple ys) => xs.length + ys.length ≤ sizeLine ∧ Q (.p (.tuple (xs ++ ys)))
  | .lst xs, .lst ys => match pys xs, pys ys with
    | some a, some b => a.length + b.length ≤ sizeLine ∧ Q (.lst ((a ++ b).map D.p))
    | _, _ => False
  | _, _ => False
def fSub : F2 := fun x y Q => match x, y with
  | .p (.int i), .p (.int j) => Q (.p (.int (i - j)))
  | _, _ => False
def fMul : F2 := fun x y Q => match x, y with
  | .p (.int i), .p (.int j) => CMulX i j ∧ Q (.p (.int (i * j)))
  | .lst xs, .p (.int k) => match pys xs with
    | some a => 0 ≤ k ∧ a.length * k.toNat ≤ sizeLine ∧ k ≤ 1000000 ∧ Q (.lst ((List.replicate k.toNat a).flatten.map D.p))
    | _ => False
  | _, _ => False
def fMod : F2 := fun x y Q => match x, y with
  | .p (.int i), .p (.int j) => 0 < j ∧ Q (.p (.int (i % j)))
  | _, _ => False
def fDiv : F2 := fun x y Q => match x, y with
  | .p (.int i), .p (.int j) => CDivW i j ∧ Q (.p (.int (i / j)))
  | _, _ => False
def fPow : F2 := fun x y Q => match x, y with
  | .p (.int i), .p (.int j) => CPowW i j ∧ Q (.p (.int (i ^ j.toNat)))
  | _, _ => False
def fShl : F2 := fun x y Q => match x, y with
  | .p (.int i), .p (.int j) => CPow i j ∧ Q (.p (.int (i * 2 ^ j.toNat)))
  | _, _ => False
def fShr : F2 := fun x y Q => match x, y with
  | .p (.int i), .p (.int j) => 0 ≤ j ∧ Q (.p (.int (i / 2 ^ j.toNat)))
  | _, _ => False
def fAnd : F2 := fun x y Q => match x, y with
  | .p (.int i), .p (.int j) => Q (.p (.int (Builtin.bitAnd i j)))
  | _, _ => False
theorem op_powW {X : Cx} : OpR X (binaryOp .Pow) (rI CPowW fun i j => .int (i ^ j.toNat)) := opI fun _ _ _ _ _ _ _ hc q => pow_int hc.1 hc.2 q
section
variable {X : Cx}
theorem od_add : OpD X (binaryOp .Add) fAdd := by
  refine ⟨fun S H v u x y Fx Fy Q kh rx ry h => ?_⟩
  unfold fAdd at h
  split at h
  · cases rx with | p rx => cases rx; cases ry with | p ry => cases ry; exact toO op_add ⟨_, _, rfl, rfl, QV.pp (.int _) h⟩
  · cases rx with | p rx => cases rx; cases ry with | p ry => cases ry; exact toO op_add_str ⟨_, _, rfl, rfl, h.1, QV.pp (.str _) h.2⟩
  · rename_i xs ys
    cases rx with
    | p rx =>
      cases rx with
      | tup a b =>
        cases ry with
        | p ry =>
          cases ry with
          | tup a' b' =>
            have l1 := RPs.length _ b
            have l2 := RPs.length _ b'
            refine toO op_catA ⟨_, _, _, _, rfl, rfl, a, a', by rw [l1, l2]; exact h.1, fun e => ?_, fun e1 e2 => ?_, fun e1 e2 p hp => QV.tt hp (b.append b') h.2⟩
            · subst e; cases b; exact QV.pp (.tup a' b') h.2
            · subst e2; cases b'
              have q := h.2
              rw [List.append_nil] at q
              exact QV.pp (.tup a b) q
  · rename_i xs ys
    split at h
    · rename_i a b e1 e2
      cases rx with
      | lst q1 q2 q3 q4 =>
        cases ry with
        | lst w1 w2 w3 w4 =>
          have p1 := q4.pys _ e1
          have p2 := w4.pys _ e2
          have l1 := RPs.length _ p1
          have l2 := RPs.length _ p2
          exact toO op_cat ⟨_, _, _, _, rfl, rfl, q1, w1, by rw [l1, l2]; exact h.1, fun p hp => QV.ll hp (p1.append p2) h.2⟩
    · exact h.elim
  · exact h.elim
theorem od_sub : OpD X (binaryOp .Sub) fSub := by
  refine ⟨fun S H v u x y Fx Fy Q kh rx ry h => ?_⟩
  unfold fSub at h
  split at h
  · cases rx with | p rx => cases rx; cases ry with | p ry => cases ry; exact toO op_sub ⟨_, _, rfl, rfl, QV.pp (.int _) h⟩
  · exact h.elim
theorem RPs.rep {K : PySem.W.Frag} {S : Ft} {H : Hp} {vs : List V} {xs : List PD} (h : RPs K S H vs xs) : ∀ n : Nat, RPs K S H (List.replicate n vs).flatten (List.replicate n xs).flatten
  | 0 => .nil
  | n + 1 => by
    rw [List.replicate_succ, List.replicate_succ, List.flatten_cons, List.flatten_cons]
    exact h.append (RPs.rep h n)
theorem od_mul : OpD X (binaryOp .Mult) fMul := by
  refine ⟨fun S H v u x y Fx Fy Q kh rx ry h => ?_⟩
  unfold fMul at h
  split at h
  · cases rx with | p rx => cases rx; cases ry with | p ry => cases ry; exact toO op_mulX ⟨_, _, rfl, rfl, h.1, QV.pp (.int _) h.2⟩
  · split at h
    · rename_i a e1
      cases ry with
      | p ry =>
        cases ry
        cases rx with
        | lst q1 q2 q3 q4 =>
          have p1 := q4.pys _ e1
          have l1 := RPs.length _ p1
          obtain ⟨h0, h1, h2, h3⟩ := h
          exact toO op_rep ⟨_, _, _, rfl, rfl, q1, by omega, by omega, by rw [l1]; exact h1, fun p hp => QV.ll hp (p1.rep _) h3⟩
    · exact h.elim
  · exact h.elim
theorem od_mod : OpD X (binaryOp .Mod) fMod := by
  refine ⟨fun S H v u x y Fx Fy Q kh rx ry h => ?_⟩
  unfold fMod at h
  split at h
  · cases rx with | p rx => cases rx; cases ry with | p ry => cases ry; exact toO op_mod ⟨_, _, rfl, rfl, h.1, QV.pp (.int _) h.2⟩
  · exact h.elim
theorem od_div : OpD X (binaryOp .FloorDiv) fDiv := by
  refine ⟨fun S H v u x y Fx Fy Q kh rx ry h => ?_⟩
  unfold fDiv at h
  split at h
  · cases rx with | p rx => cases rx; cases ry with | p ry => cases ry; exact toO op_fdivW ⟨_, _, rfl, rfl, h.1, QV.pp (.int _) h.2⟩
  · exact h.elim
theorem od_pow : OpD X (binaryOp .Pow) fPow := by
  refine ⟨fun S H v u x y Fx Fy Q kh rx ry h => ?_⟩
  unfold fPow at h
  split at h
  · cases rx with | p rx => cases rx; cases ry with | p ry => cases ry; exact toO op_powW ⟨_, _, rfl, rfl, h.1, QV.pp (.int _) h.2⟩
  · exact h.elim
theorem od_shl : OpD X (binaryOp .LShift) fShl := by
  refine ⟨fun S H v u x y Fx Fy Q kh rx ry h => ?_⟩
  unfold fShl at h
  split at h
  · cases rx with | p rx => cases rx; cases ry with | p ry => cases ry; exact toO op_shl ⟨_, _, rfl, rfl, h.1, QV.pp (.int _) h.2⟩
  · exact h.elim
theorem od_shr : OpD X (binaryOp .RShift) fShr := by
  refine ⟨fun S H v u x y Fx Fy Q kh rx ry h => ?_⟩
  unfold fShr at h
  split at h
  · cases rx with | p rx => cases rx; cases ry with | p ry => cases ry; exact toO op_shr ⟨_, _, rfl, rfl, h.1, QV.pp (.int _) h.2⟩
  · exact h.elim
theorem od_and : OpD X (binaryOp .BitAnd) fAnd := by
  refine ⟨fun S H v u x y Fx Fy Q kh rx ry h => ?_⟩
  unfold fAnd at h
  split at h
  · cases rx with | p rx => cases rx; cases ry with | p ry => cases ry; exact toO op_and ⟨_, _, rfl, rfl, QV.pp (.int _) h⟩
  · exact h.elim
end

/-! ### comparisons -/
def fCmp (c : Int → Int → Bool) : F2 := fun x y Q => match x, y with
  | .p (.int i), .p (.int j) => Q (.p (.bool (c i j)))
  | _, _ => False
abbrev fLt : F2 := fCmp fun i j => decide (i < j)
abbrev fLe : F2 := fCmp fun i j => decide (i ≤ j)
abbrev fGt : F2 := fCmp fun i j => decide (j < i)
abbrev fGe : F2 := fCmp fun i j => decide (j ≤ i)
def fEq : F2 := fun x y Q => match x.py, y.py with
  | some a, some b => SeqAt.shaped a = true ∧ SeqAt.shaped b = true ∧ Q (.p (.bool (PyData.eqv a b)))
  | _, _ => False
def fNe : F2 := fun x y Q => match x.py, y.py with
  | some a, some b => SeqAt.shaped a = true ∧ SeqAt.shaped b = true ∧ Q (.p (.bool (!PyData.eqv a b)))
  | _, _ => False
def D.isNone : D → Bool
  | .p .none => true
  | _ => false
/-- is, with None, True or False on the right -/
def fIs : F2 := fun x y Q => match y with
  | .p .none => x ≠ .hole ∧ Q (.p (.bool x.isNone))
  | .p (.bool b) => match x with
    | .p (.bool a) => Q (.p (.bool (decide (a = b))))
    | _ => False
  | _ => False
def fIsNot : F2 := fun x y Q => match y with
  | .p .none => x ≠ .hole ∧ Q (.p (.bool (!x.isNone)))
  | .p (.bool b) => match x with
    | .p (.bool a) => Q (.p (.bool (!decide (a = b))))
    | _ => False
  | _ => False
/-- numbers, texts, truths, None -/
def flatP : PD → Bool
  | .none => true
  | .bool _ => true
  | .int _ => true
  | .str _ => true
  | _ => false
def D.key : D → Option Key
  | .p (.int i) => some (.inl i)
  | .p (.str s) => some (.inr s)
  | _ => none
def dget (kvs : List (Key × PD)) (k : Key) : Option PD := (kvs.find? fun kv => decide (kv.1 = k)).map (·.2)
def dput (kvs : List (Key × PD)) (k : Key) (v : PD) : List (Key × PD) :=
  if (kvs.any fun kv => decide (kv.1 = k)) = true then kvs.map (fun kv => if kv.1 = k then (kv.1, v) else kv) else kvs ++ [(k, v)]
def ddrop (kvs : List (Key × PD)) (k : Key) : List (Key × PD) := kvs.filter fun kv => decide (kv.1 ≠ k)
def fInB (neg : Bool) : F2 := fun x y Q => match x, y with
  | .p (.str a), .p (.str b) => match a.cps.toList with
    | [c] => Q (.p (.bool (neg ^^ decide (c ∈ b.cps.toList))))
    | _ => False
  | x, .dct kvs => match x.key with
    | some k => Q (.p (.bool (neg ^^ (dget kvs k).isSome)))
    | none => False
  | .p a, y => match y.seq with
    | some ys => flatP a = true ∧ ys.all flatP = true ∧ Q (.p (.bool (neg ^^ ys.any fun z => PyData.eqv z a)))
    | none => False
  | _, _ => False
abbrev fIn : F2 := fInB false
abbrev fNotIn : F2 := fInB true
section
variable {X : Cx}
theorem od_lt : OpD X (compareOp .Lt) fLt := by
  refine ⟨fun S H v u x y Fx Fy Q kh rx ry h => ?_⟩
  unfold fLt fCmp at h
  split at h
  · cases rx with | p rx => cases rx; cases ry with | p ry => cases ry; exact toO op_lt ⟨_, _, rfl, rfl, QV.pp (.bl _) h⟩
  · exact h.elim
theorem od_le : OpD X (compareOp .LtE) fLe := by
  refine ⟨fun S H v u x y Fx Fy Q kh rx ry h => ?_⟩
  unfold fLe fCmp at h
  split at h
  · cases rx with | p rx => cases rx; cases ry with | p ry => cases ry; exact toO op_le ⟨_, _, rfl, rfl, QV.pp (.bl _) h⟩
  · exact h.elim
theorem od_gt : OpD X (compareOp .Gt) fGt := by
  refine ⟨fun S H v u x y Fx Fy Q kh rx ry h => ?_⟩
  unfold fGt fCmp at h
  split at h
  · cases rx with | p rx => cases rx; cases ry with | p ry => cases ry; exact toO op_gt ⟨_, _, rfl, rfl, QV.pp (.bl _) h⟩
  · exact h.elim
theorem od_ge : OpD X (compareOp .GtE) fGe := by
  refine ⟨fun S H v u x y Fx Fy Q kh rx ry h => ?_⟩
  unfold fGe fCmp at h
  split at h
  · cases rx with | p rx => cases rx; cases ry with | p ry => cases ry; exact toO op_ge ⟨_, _, rfl, rfl, QV.pp (.bl _) h⟩
  · exact h.elim
theorem od_eq {k : Nat} (hr : Room k X.A) : OpD X (compareOp .Eq) fEq := by
  refine ⟨fun S H v u x y Fx Fy Q kh rx ry h => ?_⟩
  unfold fEq at h
  split at h
  · rename_i a b e1 e2
    exact toO (op_eqD hr.units) ⟨a, b, rx.dp _ e1, ry.dp _ e2, h.1, h.2.1, QV.pp (.bl _) h.2.2⟩
  · exact h.elim
theorem od_ne {k : Nat} (hr : Room k X.A) : OpD X (compareOp .NotEq) fNe := by
  refine ⟨fun S H v u x y Fx Fy Q kh rx ry h => ?_⟩
  unfold fNe at h
  split at h
  · rename_i a b e1 e2
    exact toO (op_neD hr.units) ⟨a, b, rx.dp _ e1, ry.dp _ e2, h.1, h.2.1, QV.pp (.bl _) h.2.2⟩
  · exact h.elim
theorem R.isNone {K : PySem.W.Frag} {S F : Ft} {H : Hp} {v : V} {d : D} (h : R K S H v d F) (ne : d ≠ .hole) : decide (v = .non) = d.isNone := by
  cases h with
  | p h => cases h <;> rfl
  | hole => exact absurd rfl ne
  | _ => rfl
theorem od_is : OpD X (compareOp .Is) fIs := by
  refine ⟨fun S H v u x y Fx Fy Q kh rx ry h => ?_⟩
  unfold fIs at h
  split at h
  · cases ry with
    | p ry => cases ry; exact toO op_isN ⟨rfl, by rw [rx.isNone h.1]; exact QV.pp (.bl _) h.2⟩
  · split at h
    · cases rx with | p rx => cases rx; cases ry with | p ry => cases ry; exact toO op_is_bl ⟨_, _, rfl, rfl, QV.pp (.bl _) h⟩
    · exact h.elim
  · exact h.elim
theorem od_isnot : OpD X (compareOp .IsNot) fIsNot := by
  refine ⟨fun S H v u x y Fx Fy Q kh rx ry h => ?_⟩
  unfold fIsNot at h
  split at h
  · cases ry with
    | p ry => cases ry; exact toO op_notN ⟨rfl, by rw [rx.isNone h.1]; exact QV.pp (.bl _) h.2⟩
  · split at h
    · cases rx with | p rx => cases rx; cases ry with | p ry => cases ry; exact toO op_isnot_bl ⟨_, _, rfl, rfl, QV.pp (.bl _) h⟩
    · exact h.elim
  · exact h.elim
theorem RP.flat {K : PySem.W.Frag} {S : Ft} {H : Hp} {v : V} {x : PD} (h : RP K S H v x) (f : flatP x = true) : flatV v = true := by
  cases h with
  | tup _ _ => cases f
  | lst _ _ => cases f
  | _ => rfl
theorem RP.eqv {K : PySem.W.Frag} {S : Ft} {H : Hp} {v u : V} {x y : PD} (h : RP K S H v x) (h' : RP K S H u y) (f : flatP x = true) (f' : flatP y = true) : eqV v u = PyData.eqv x y := by
  cases h with
  | tup _ _ => cases f
  | lst _ _ => cases f
  | _ =>
    cases h' with
    | tup _ _ => cases f'
    | lst _ _ => cases f'
    | _ => simp [eqV, PyData.eqv]
theorem RPs.flat {K : PySem.W.Frag} {S : Ft} {H : Hp} : ∀ {vs : List V} {xs : List PD}, RPs K S H vs xs → xs.all flatP = true → vs.all flatV = true
  | _, [], h, _ => by cases h; rfl
  | _, x :: xs, h, f => by
    rw [List.all_cons, Bool.and_eq_true] at f
    cases h with
    | cons a b => rw [List.all_cons, a.flat f.1, RPs.flat b f.2]; rfl
theorem RPs.anyEq {K : PySem.W.Frag} {S : Ft} {H : Hp} {u : V} {y : PD} (r : RP K S H u y) (fy : flatP y = true) : ∀ {vs : List V} {xs : List PD}, RPs K S H vs xs → xs.all flatP = true → inV u vs = xs.any fun z => PyData.eqv z y
  | _, [], h, _ => by cases h; rfl
  | _, x :: xs, h, f => by
    rw [List.all_cons, Bool.and_eq_true] at f
    cases h with
    | cons a b =>
      have ih := RPs.anyEq r fy b f.2
      unfold inV at ih ⊢
      rw [List.any_cons, List.any_cons, ih, a.eqv r f.1 fy]
theorem RK.val {K : PySem.W.Frag} {S : Ft} {H : Hp} (k : Key) : ∀ {vs : List (Key × V)} {ds : List (Key × PD)}, RK K S H vs ds → (valV vs k = none ∧ dget ds k = none) ∨ ∃ v d, valV vs k = some v ∧ dget ds k = some d ∧ RP K S H v d
  | _, _, .nil => .inl ⟨rfl, rfl⟩
  | _, _, .cons (k := k') (v := v) (d := d) (vs := vs) (ds := ds) a b => by
    by_cases e : k' = k
    · subst e
      exact .inr ⟨v, d, by simp [valV], by simp [dget], a⟩
    · have ih := RK.val k b
      have e1 : valV ((k', v) :: vs) k = valV vs k := by simp [valV, e]
      have e2 : dget ((k', d) :: ds) k = dget ds k := by simp [dget, e]
      rw [e1, e2]; exact ih
theorem RK.some_eq {K : PySem.W.Frag} {S : Ft} {H : Hp} (k : Key) {vs : List (Key × V)} {ds : List (Key × PD)} (h : RK K S H vs ds) : (valV vs k).isSome = (dget ds k).isSome := by
  rcases h.val k with ⟨e1, e2⟩ | ⟨v, d, e1, e2, _⟩ <;> rw [e1, e2] <;> rfl
theorem R.key {K : PySem.W.Frag} {S F : Ft} {H : Hp} {v : V} {d : D} {k : Key} (h : R K S H v d F) (e : d.key = some k) : v = kV k := by
  cases d with
  | p x =>
    cases h with
    | p h =>
      cases x with
      | int i => cases e; cases h; rfl
      | str i => cases e; cases h; rfl
      | _ => cases e
  | _ => cases e
theorem op_dIn {k : Nat} (hr : Room k X.A) : OpR X (compareOp .In) (fun x y H Q => ∃ a kvs k, x = kV k ∧ y = .ref a ∧ H a = some (.dK kvs) ∧ Q (.bl (valV kvs k).isSome) H) := by
  intro pins s σ H x y v u Q I rx ry ⟨a, kvs, k, e1, e2, h, q⟩
  subst e1; subst e2
  obtain rfl : u = Value.ref a := ry
  exact d_in (hu_of hr) I (DGet.k h) rx fun s' I' => ⟨.bl _, H, I', rfl, q⟩
theorem op_dNotIn {k : Nat} (hr : Room k X.A) : OpR X (compareOp .NotIn) (fun x y H Q => ∃ a kvs k, x = kV k ∧ y = .ref a ∧ H a = some (.dK kvs) ∧ Q (.bl (!(valV kvs k).isSome)) H) := by
  intro pins s σ H x y v u Q I rx ry ⟨a, kvs, k, e1, e2, h, q⟩
  subst e1; subst e2
  obtain rfl : u = Value.ref a := ry
  exact d_notIn (hu_of hr) I (DGet.k h) rx fun s' I' => ⟨.bl _, H, I', rfl, q⟩
theorem str_one {a : Str} {c : Nat} (e : a.cps.toList = [c]) : a = ⟨#[c]⟩ := by
  cases a with
  | mk cps => have : cps = #[c] := by simpa using congrArg List.toArray e
              subst this; rfl
theorem od_in {k : Nat} (hr : Room k X.A) : OpD X (compareOp .In) fIn := by
  refine ⟨fun S H v u x y Fx Fy Q kh rx ry h => ?_⟩
  unfold fIn fInB at h
  split at h
  · split at h
    · rename_i a b c e
      cases rx with | p rx => cases rx; cases ry with | p ry => cases ry; rw [str_one e]; exact toO op_in_sign ⟨_, _, rfl, rfl, by rw [Bool.false_xor] at h; exact QV.pp (.bl _) h⟩
    · exact h.elim
  · split at h
    · rename_i k' e
      have ev := rx.key e
      subst ev
      cases ry with
      | dct q1 q2 q3 => exact toO (op_dIn hr) ⟨_, _, k', rfl, rfl, q1, by rw [q3.some_eq, ← Bool.false_xor (Option.isSome _)]; exact QV.pp (.bl _) h⟩
    · exact h.elim
  · split at h
    · rename_i ys e
      obtain ⟨f1, f2, h⟩ := h
      cases rx with
      | p rx =>
        obtain ⟨p, vs, rfl, sq, r⟩ := ry.seq e
        exact toO op_in_seq ⟨p, vs, rfl, sq, rx.flat f1, r.flat f2, by rw [r.anyEq rx f1 f2]; rw [Bool.false_xor] at h; exact QV.pp (.bl _) h⟩
    · exact h.elim
  · exact h.elim
theorem od_notin {k : Nat} (hr : Room k X.A) : OpD X (compareOp .NotIn) fNotIn := by
  refine ⟨fun S H v u x y Fx Fy Q kh rx ry h => ?_⟩
  unfold fNotIn fInB at h
  split at h
  · split at h
    · rename_i a b c e
      cases rx with | p rx => cases rx; cases ry with | p ry => cases ry; rw [str_one e]; exact toO op_notIn_sign ⟨_, _, rfl, rfl, by rw [Bool.true_xor] at h; exact QV.pp (.bl _) h⟩
    · exact h.elim
  · split at h
    · rename_i k' e
      have ev := rx.key e
      subst ev
      cases ry with
      | dct q1 q2 q3 => exact toO (op_dNotIn hr) ⟨_, _, k', rfl, rfl, q1, by rw [q3.some_eq, ← Bool.true_xor (Option.isSome _)]; exact QV.pp (.bl _) h⟩
    · exact h.elim
  · split at h
    · rename_i ys e
      obtain ⟨f1, f2, h⟩ := h
      cases rx with
      | p rx =>
        obtain ⟨p, vs, rfl, sq, r⟩ := ry.seq e
        exact toO op_notIn_seq ⟨p, vs, rfl, sq, rx.flat f1, r.flat f2, by rw [if_pos rfl, r.anyEq rx f1 f2]; rw [Bool.true_xor] at h; exact QV.pp (.bl _) h⟩
    · exact h.elim
  · exact h.elim
/-! ### none of them takes a hole -/
theorem st_add : Strict fAdd := fun x y Q h => by unfold fAdd at h; split at h <;> first | exact h.elim | exact ⟨by simp, by simp⟩
theorem st_sub : Strict fSub := fun x y Q h => by unfold fSub at h; split at h <;> first | exact h.elim | exact ⟨by simp, by simp⟩
theorem st_mul : Strict fMul := fun x y Q h => by unfold fMul at h; split at h <;> first | exact h.elim | exact ⟨by simp, by simp⟩
theorem st_mod : Strict fMod := fun x y Q h => by unfold fMod at h; split at h <;> first | exact h.elim | exact ⟨by simp, by simp⟩
theorem st_div : Strict fDiv := fun x y Q h => by unfold fDiv at h; split at h <;> first | exact h.elim | exact ⟨by simp, by simp⟩
theorem st_pow : Strict fPow := fun x y Q h => by unfold fPow at h; split at h <;> first | exact h.elim | exact ⟨by simp, by simp⟩
theorem st_shl : Strict fShl := fun x y Q h => by unfold fShl at h; split at h <;> first | exact h.elim | exact ⟨by simp, by simp⟩
theorem st_shr : Strict fShr := fun x y Q h => by unfold fShr at h; split at h <;> first | exact h.elim | exact ⟨by simp, by simp⟩
theorem st_and : Strict fAnd := fun x y Q h => by unfold fAnd at h; split at h <;> first | exact h.elim | exact ⟨by simp, by simp⟩
theorem st_cmp {c : Int → Int → Bool} : Strict (fCmp c) := fun x y Q h => by unfold fCmp at h; split at h <;> first | exact h.elim | exact ⟨by simp, by simp⟩
theorem py_ne {d : D} {x : PD} (e : d.py = some x) : d ≠ .hole := fun z => by subst z; cases e
theorem st_eq : Strict fEq := fun x y Q h => by
  unfold fEq at h; split at h
  · rename_i e1 e2; exact ⟨py_ne e1, py_ne e2⟩
  · exact h.elim
theorem st_ne : Strict fNe := fun x y Q h => by
  unfold fNe at h; split at h
  · rename_i e1 e2; exact ⟨py_ne e1, py_ne e2⟩
  · exact h.elim
theorem st_is : Strict fIs := fun x y Q h => by
  unfold fIs at h; split at h
  · exact ⟨h.1, by simp⟩
  · split at h <;> first | exact h.elim | exact ⟨by simp, by simp⟩
  · exact h.elim
theorem st_isnot : Strict fIsNot := fun x y Q h => by
  unfold fIsNot at h; split at h
  · exact ⟨h.1, by simp⟩
  · split at h <;> first | exact h.elim | exact ⟨by simp, by simp⟩
  · exact h.elim
theorem st_in {n : Bool} : Strict (fInB n) := fun x y Q h => by
  unfold fInB at h; split at h
  · exact ⟨by simp, by simp⟩
  · split at h
    · rename_i e; exact ⟨fun z => by (subst z; cases e), by simp⟩
    · exact h.elim
  · split at h
    · rename_i e; exact ⟨by simp, fun z => by (subst z; cases e)⟩
    · exact h.elim
  · exact h.elim
end
end Dv

set_option Elab.async false
set_option linter.all false
set_option maxRecDepth 100000
/-! Dv, part F: tests, displays, calls of built-ins by values, items, slices. -/
namespace Dv
open PySem PySem.Spec PyProof.Rows L2

/-! ### tests -/
section
variable {X : Cx} {e a b c : Expr} {rest : List Expr} {t ta tb tc : DT} {u ub uc : DTB} {pos : Pos}
def dTst (t : DT) : DTB := fun env Q E => t env (fun o e1 => match o with
  | .val (.p (.bool b)) => Q b e1
  | _ => False) E
theorem QO.bool {K : PySem.W.Frag} {σ : L2.St} {S F : Ft} {H : Hp} {Q : Bool → Env → Prop} {v : V} {H' : Hp} (h : QO K σ S F H (fun o e1 => match o with
  | .val (.p (.bool b)) => Q b e1
  | _ => False) v H') : ∃ b, v = .bl b ∧ QB K σ S F H Q b H' := by
  obtain ⟨S', F', G, o, env', n, es, ov, q⟩ := h
  cases o with
  | ref i π => exact q.elim
  | val d =>
    cases d with
    | p x =>
      cases x with
      | bool b =>
        have ov : R K S' H' v (.p (.bool b)) G := ov
        cases ov with | p r => cases r; exact ⟨b, rfl, S', F', env', n.e, es, q⟩
      | _ => exact q.elim
    | _ => exact q.elim
theorem db_val (h : DO X e t) (he : ∀ whole, isTrue e X.env whole = (do let v ← whole; standAt e.pos; holding [v] (truthy v)) := by intro _; rfl) : DB X e (dTst t) := by
  refine ⟨fun W tk σ S F H env Q E kh w es hx q => ?_⟩
  refine toT (pt_val (we X e) he) ?_
  exact (h.run W tk σ S F H env _ E kh w es hx q).mono fun v H' kh' q' => QO.bool q'
theorem db_cmp {op : CmpOp} {f : F2} (st : Strict f) (ho : OpD X (compareOp op) f) (ha : DO X a ta) (hb : DO X b tb) (hm : behindInMarks op b = false) : DB X (.Compare a [op] [b] pos) (dTst (dBin f ta tb)) := by
  refine ⟨fun W tk σ S F H env Q E kh w es hx h => ?_⟩
  refine toT (pt_cmpR (wo X (compareOp op)) (we X a) (we X b) hm) ?_
  refine do2 ha hb tk kh w es hx h fun v u H2 S2 F2' G1 G2 x y e2 kh2 n _ es2 o1 o2 q => ?_
  have ne := st _ _ _ q
  obtain ⟨Fx, rx⟩ := o1.r kh2 es2 ne.1
  obtain ⟨Fy, ry⟩ := o2.r kh2 es2 ne.2
  intro pins s σ' v' u' I r1 r2
  refine thn (ho.run S2 H2 v u _ _ _ _ _ kh2 rx ry q pins s σ' v' u' I r1 r2) fun z s' ⟨z', H', I', rz, q'⟩ => ⟨z', H', I', rz, ?_⟩
  exact QO.bool (QV.fin (W := W) (Q := fun o e1 => match o with | .val (.p (.bool b)) => Q b e1 | _ => False) n es2 q')
/-- a op1 b op2 c -/
def dChain (f g : F2) (ta tb tc : DT) : DT := fun env Q E => ta env (fun x e1 => tb e1 (fun y e2 => f (x.get e2) (y.get e2) fun d => match d with
  | .p (.bool k) => if k = true then tc e2 (fun z e3 => g (y.get e3) (z.get e3) fun d => Q (.val d) e3) E else Q (.val (.p (.bool false))) e2
  | _ => False) E) E
theorem iff_tt {A B : Prop} (h : if true = true then A else B) : A := by rw [if_pos rfl] at h; exact h
theorem iff_ff {A B : Prop} (h : if false = true then A else B) : B := by rw [if_neg Bool.false_ne_true] at h; exact h
theorem chain_go {op op' : CmpOp} {f g : F2} (sf : Strict f) (sg : Strict g) (ho : OpD X (compareOp op) f) (ho' : OpD X (compareOp op') g) (ha : DO X a ta) (hb : DO X b tb) (hc : DO X c tc)
    {W : WX} (tk : Takes X W) {σ : L2.St} {S F : Ft} {H : Hp} {env : Env} {E : EK} (kh : KH X.K H) (w : WF S F Em H) (es : ES X.K S H σ env F) (hx : HX X W (Eq σ) S F H E) {Q : Opd → Env → Prop} (h : dChain f g ta tb tc env Q E) {R' : VK} (fin : ∀ v H', QO X.K σ S F H Q v H' → R' v H') :
    tChain (wO X (compareOp op)) (wO X (compareOp op')) (wE X a) (wE X b) (wE X c) σ H R' := by
  refine do2 ha hb tk kh w es hx h fun v u H2 S2 F2' G1 G2 x y e2 kh2 n dj es2 o1 o2 q => ?_
  have ne := sf _ _ _ q
  obtain ⟨Fx, rx⟩ := o1.r kh2 es2 ne.1
  obtain ⟨Fy, ry⟩ := o2.r kh2 es2 ne.2
  intro pins s σ' v' u' I r1 r2
  refine thn (ho.run S2 H2 v u _ _ _ _ _ kh2 rx ry q pins s σ' v' u' I r1 r2) fun z s' ⟨z', H3, I', rz, q'⟩ => ⟨z', H3, I', rz, ?_⟩
  obtain ⟨G3, d, nw, rd, q3⟩ := q'
  cases d with
  | p x' =>
    cases x' with
    | bool k =>
      cases rd with
      | p rd =>
        cases rd
        refine ⟨k, rfl, ?_⟩
        have n3 : Nx S F H S2 F2' (Or2 G1 G2) H3 := (n.seq ((nw.nx n.w).e)).g fun a h => .inl h
        have kh3 := kh_of I'
        have es3 := es2.kp (nw.kp (S := S2)) Sub.refl
        have oy := o2.kp (nw.kp (S := S2)) Sub.refl
        cases k with
        | true =>
          rw [if_pos rfl]
          have q3 := iff_tt q3
          refine (hc.run W tk σ S2 F2' H3 e2 _ E kh3 n3.w.e es3 (hx.on n3) q3).mono fun w' H4 kh4 ⟨S4, F4, G4, o4, e4, n4, es4, ov4, q4⟩ => ?_
          have ne := sg _ _ _ q4
          obtain ⟨Fy, ry⟩ := (oy.kp ((n4.kpG n3.w).sub fun a h => .inr h) n4.ss).r kh4 es4 ne.1
          obtain ⟨Fz, rz⟩ := ov4.r kh4 es4 ne.2
          intro pins s σ' v' u' I r1 r2
          refine thn (ho'.run S4 H4 u w' _ _ _ _ _ kh4 ry rz q4 pins s σ' v' u' I r1 r2) fun z s' ⟨z', H5, I5, rz, q5⟩ => ⟨z', H5, I5, rz, ?_⟩
          exact fin _ _ (QV.fin (W := W) (n3.seq0 n4) es4 q5)
        | false =>
          rw [if_neg Bool.false_ne_true]
          exact fin _ _ ⟨S2, F2', Em, .val (.p (.bool _)), e2, n3.e, es3, R.p (.bl false), iff_ff q3⟩
    | _ => exact q3.elim
  | _ => exact q3.elim
theorem do_chain {op op' : CmpOp} {f g : F2} (sf : Strict f) (sg : Strict g) (ho : OpD X (compareOp op) f) (ho' : OpD X (compareOp op') g) (ha : DO X a ta) (hb : DO X b tb) (hc : DO X c tc)
    (hm : lastMarks [op, op'] [b, c] = false := by with_unfolding_all rfl) : DO X (.Compare a [op, op'] [b, c] pos) (dChain f g ta tb tc) :=
  ⟨fun W tk σ S F H env Q E kh w es hx h => toE (pe_chain (wo X _) (wo X _) (we X a) (we X b) (we X c) hm) (chain_go sf sg ho ho' ha hb hc tk kh w es hx h fun _ _ h => h)⟩
theorem db_chain {op op' : CmpOp} {f g : F2} (sf : Strict f) (sg : Strict g) (ho : OpD X (compareOp op) f) (ho' : OpD X (compareOp op') g) (ha : DO X a ta) (hb : DO X b tb) (hc : DO X c tc)
    (hm : lastMarks [op, op'] [b, c] = false := by with_unfolding_all rfl) : DB X (.Compare a [op, op'] [b, c] pos) (dTst (dChain f g ta tb tc)) :=
  ⟨fun W tk σ S F H env Q E kh w es hx h => toT (pt_chain (wo X _) (wo X _) (we X a) (we X b) (we X c) hm) (chain_go sf sg ho ho' ha hb hc tk kh w es hx h fun _ _ h => QO.bool h)⟩
/-! and, or, not -/
def wW (X : Cx) (e : Expr) : TT := fun σ H Q => ∀ (whole : Sem Value) (pins : List (Addr × Obj)) (s : Shared), Inv X pins σ H s → wpAny (model X.prog X.w) X.A (isTrue e X.env whole) (TP X pins σ Q) X.xe s
theorem ww (X : Cx) (e : Expr) : PW X e (wW X e) := ⟨fun wh pins s _ _ _ I h => h wh pins s I⟩
theorem toW {t : TT} {σ : L2.St} {H : Hp} {Q : Bool → Hp → Prop} (h : PW X e t) (q : t σ H Q) : wW X e σ H Q := fun wh pins s I => h.run wh pins s σ H Q I q
theorem wW.mono {σ : L2.St} {H : Hp} {Q Q' : Bool → Hp → Prop} (h : wW X e σ H Q) (m : ∀ b H', KH X.K H' → Q b H' → Q' b H') : wW X e σ H Q' := fun wh pins s I =>
  thn (h wh pins s I) fun u s' ⟨H', I', q⟩ => ⟨H', I', m u H' (kh_of I') q⟩
structure DW (X : Cx) (e : Expr) (t : DTB) : Prop where
  run : ∀ (W : WX) (_ : Takes X W) (σ : L2.St) (S F : Ft) (H : Hp) (env : Env) (Q : Bool → Env → Prop) (E : EK), KH X.K H → WF S F Em H → ES X.K S H σ env F → HX X W (Eq σ) S F H E → t env Q E → wW X e σ H (QB X.K σ S F H Q)
theorem DW.db (h : DW X e u) : DB X e u := ⟨fun W tk σ S F H env Q E kh w es hx q => fun pins s I => h.run W tk σ S F H env Q E kh w es hx q _ pins s I⟩
def dAnd (t u : DTB) : DTB := fun env Q E => t env (fun c e1 => if c = true then u e1 Q E else Q false e1) E
def dOr (t u : DTB) : DTB := fun env Q E => t env (fun c e1 => if c = true then Q true e1 else u e1 Q E) E
def dNot (t : DTB) : DTB := fun env Q E => t env (fun c e1 => Q (!c) e1) E
theorem dw_and1 (ha : DB X a u) : DW X (.BoolOp .And [a] pos) u := ⟨fun W tk σ S F H env Q E kh w es hx q => toW (pw_and1 (wt X a)) (ha.run W tk σ S F H env Q E kh w es hx q)⟩
theorem dw_or1 (ha : DB X a u) : DW X (.BoolOp .Or [a] pos) u := ⟨fun W tk σ S F H env Q E kh w es hx q => toW (pw_or1 (wt X a)) (ha.run W tk σ S F H env Q E kh w es hx q)⟩
theorem QB.on {K : PySem.W.Frag} {σ : L2.St} {S F S1 F1 G : Ft} {H H1 : Hp} {Q : Bool → Env → Prop} (n : Nx S F H S1 F1 G H1) {b : Bool} {H' : Hp} (h : QB K σ S1 F1 H1 Q b H') : QB K σ S F H Q b H' := by
  obtain ⟨S2, F2, e2, n2, es2, q⟩ := h
  exact ⟨S2, F2, e2, n.seq0 n2, es2, q⟩
theorem QO.on {K : PySem.W.Frag} {σ : L2.St} {S F S1 F1 G : Ft} {H H1 : Hp} {Q : Opd → Env → Prop} (n : Nx S F H S1 F1 G H1) {b : V} {H' : Hp} (h : QO K σ S1 F1 H1 Q b H') : QO K σ S F H Q b H' := by
  obtain ⟨S2, F2, G2, o, e2, n2, es2, ov, q⟩ := h
  exact ⟨S2, F2, G2, o, e2, n.seq0 n2, es2, ov, q⟩
theorem dw_and (ha : DB X a ub) (hb : DW X (.BoolOp .And (b :: rest) pos) uc) : DW X (.BoolOp .And (a :: b :: rest) pos) (dAnd ub uc) := by
  refine ⟨fun W tk σ S F H env Q E kh w es hx q => toW (pw_and (wt X a) (ww X _)) ?_⟩
  refine (ha.run W tk σ S F H env _ E kh w es hx q).mono fun c H1 kh1 ⟨S1, F1, e1, n1, es1, q1⟩ => ?_
  cases c with
  | true => rw [if_pos rfl]; exact (hb.run W tk σ S1 F1 H1 e1 Q E kh1 n1.w.e es1 (hx.on n1) (iff_tt q1)).mono fun _ _ _ h => h.on n1
  | false => rw [if_neg Bool.false_ne_true]; exact ⟨S1, F1, e1, n1, es1, iff_ff q1⟩
theorem dw_or (ha : DB X a ub) (hb : DW X (.BoolOp .Or (b :: rest) pos) uc) : DW X (.BoolOp .Or (a :: b :: rest) pos) (dOr ub uc) := by
  refine ⟨fun W tk σ S F H env Q E kh w es hx q => toW (pw_or (wt X a) (ww X _)) ?_⟩
  refine (ha.run W tk σ S F H env _ E kh w es hx q).mono fun c H1 kh1 ⟨S1, F1, e1, n1, es1, q1⟩ => ?_
  cases c with
  | true => rw [if_pos rfl]; exact ⟨S1, F1, e1, n1, es1, iff_tt q1⟩
  | false => rw [if_neg Bool.false_ne_true]; exact (hb.run W tk σ S1 F1 H1 e1 Q E kh1 n1.w.e es1 (hx.on n1) (iff_ff q1)).mono fun _ _ _ h => h.on n1
theorem db_not (ha : DB X a ub) : DB X (.UnaryOp .Not a pos) (dNot ub) := ⟨fun W tk σ S F H env Q E kh w es hx q => toT (pt_not (wt X a)) ((ha.run W tk σ S F H env _ E kh w es hx q).mono fun _ _ _ h => h)⟩
/-! .. as values -/
def dAndV (t u : DT) : DT := fun env Q E => t env (fun o e1 => match o with
  | .val (.p (.bool c)) => if c = true then u e1 Q E else Q (.val (.p (.bool false))) e1
  | _ => False) E
def dOrV (t u : DT) : DT := fun env Q E => t env (fun o e1 => match o with
  | .val (.p (.bool c)) => if c = true then Q (.val (.p (.bool true))) e1 else u e1 Q E
  | _ => False) E
def dNotV (t : DT) : DT := fun env Q E => t env (fun o e1 => match o with
  | .val (.p (.bool c)) => Q (.val (.p (.bool !c))) e1
  | _ => False) E
theorem do_one {op} (ha : DO X a t) : DO X (.BoolOp op [a] pos) t := ⟨fun W tk σ S F H env Q E kh w es hx q => toE (pe_one (we X a)) (ha.run W tk σ S F H env Q E kh w es hx q)⟩
theorem do_and (ha : DO X a ta) (hb : DO X (.BoolOp .And (b :: rest) pos) tb) : DO X (.BoolOp .And (a :: b :: rest) pos) (dAndV ta tb) := by
  refine ⟨fun W tk σ S F H env Q E kh w es hx q => toE (pe_and (we X a) (we X _)) ?_⟩
  refine (ha.run W tk σ S F H env _ E kh w es hx q).mono fun v H1 kh1 h => ?_
  obtain ⟨c, rfl, S1, F1, e1, n1, es1, q1⟩ := QO.bool (Q := fun c e1 => if c = true then tb e1 Q E else Q (.val (.p (.bool false))) e1) h
  refine ⟨c, rfl, ?_⟩
  cases c with
  | true => rw [if_pos rfl]; exact (hb.run W tk σ S1 F1 H1 e1 Q E kh1 n1.w.e es1 (hx.on n1) (iff_tt q1)).mono fun _ _ _ h => h.on n1
  | false => rw [if_neg Bool.false_ne_true]; exact ⟨S1, F1, Em, .val (.p (.bool _)), e1, n1, es1, R.p (.bl _), iff_ff q1⟩
theorem do_or (ha : DO X a ta) (hb : DO X (.BoolOp .Or (b :: rest) pos) tb) : DO X (.BoolOp .Or (a :: b :: rest) pos) (dOrV ta tb) := by
  refine ⟨fun W tk σ S F H env Q E kh w es hx q => toE (pe_or (we X a) (we X _)) ?_⟩
  refine (ha.run W tk σ S F H env _ E kh w es hx q).mono fun v H1 kh1 h => ?_
  obtain ⟨c, rfl, S1, F1, e1, n1, es1, q1⟩ := QO.bool (Q := fun c e1 => if c = true then Q (.val (.p (.bool true))) e1 else tb e1 Q E) h
  refine ⟨c, rfl, ?_⟩
  cases c with
  | true => rw [if_pos rfl]; exact ⟨S1, F1, Em, .val (.p (.bool _)), e1, n1, es1, R.p (.bl _), iff_tt q1⟩
  | false => rw [if_neg Bool.false_ne_true]; exact (hb.run W tk σ S1 F1 H1 e1 Q E kh1 n1.w.e es1 (hx.on n1) (iff_ff q1)).mono fun _ _ _ h => h.on n1
theorem do_not (ha : DO X a ta) : DO X (.UnaryOp .Not a pos) (dNotV ta) := by
  refine ⟨fun W tk σ S F H env Q E kh w es hx q => toE (pe_not (we X a)) ?_⟩
  refine (ha.run W tk σ S F H env _ E kh w es hx q).mono fun v H1 kh1 h => ?_
  obtain ⟨c, rfl, S1, F1, e1, n1, es1, q1⟩ := QO.bool (Q := fun c e1 => Q (.val (.p (.bool !c))) e1) h
  exact ⟨c, rfl, S1, F1, Em, .val (.p (.bool _)), e1, n1, es1, R.p (.bl _), q1⟩
def dIf (c : DTB) (t u : DT) : DT := fun env Q E => c env (fun b e1 => if b = true then t e1 Q E else u e1 Q E) E
theorem do_if {uc : DTB} (hc : DB X c uc) (ha : DO X a ta) (hb : DO X b tb) : DO X (.IfExp c a b pos) (dIf uc ta tb) := by
  refine ⟨fun W tk σ S F H env Q E kh w es hx q => toE (pe_ifExp (wt X c) (we X a) (we X b)) ?_⟩
  refine (hc.run W tk σ S F H env _ E kh w es hx q).mono fun c H1 kh1 ⟨S1, F1, e1, n1, es1, q1⟩ => ?_
  cases c with
  | true => rw [if_pos rfl]; exact (ha.run W tk σ S1 F1 H1 e1 Q E kh1 n1.w.e es1 (hx.on n1) (iff_tt q1)).mono fun _ _ _ h => h.on n1
  | false => rw [if_neg Bool.false_ne_true]; exact (hb.run W tk σ S1 F1 H1 e1 Q E kh1 n1.w.e es1 (hx.on n1) (iff_ff q1)).mono fun _ _ _ h => h.on n1
end

/-! ### arguments, displays -/
def vals : List Opd → Option (List D)
  | [] => some []
  | .val d :: os => (vals os).map (d :: ·)
  | _ :: _ => none
theorem OVs.vals {K : PySem.W.Frag} {S : Ft} {H : Hp} {σ : L2.St} : ∀ {vs : List V} {os : List Opd} {ds : List D} {G : Ft}, OVs K S H σ vs os G → Dv.vals os = some ds → Rs K S H vs ds G
  | _, [], ds, _, h, e => by
    have e : some [] = some ds := e
    cases e; cases h; exact .nil
  | _, o :: os, ds, _, h, e => by
    cases h with
    | cons a b c f g =>
      cases o with
      | val d =>
        have e : (Dv.vals os).map (d :: ·) = some ds := e
        cases q : Dv.vals os with
        | none => rw [q] at e; cases e
        | some r => rw [q] at e; cases e; exact .cons a (b.vals q) c f g
      | ref i π => cases e
section
variable {X : Cx} {e a b c : Expr} {es : List Expr} {rest : List Expr} {t ta tb tc : DT} {tr : DTA} {pos : Pos}
def dNil : DTA := fun env Q _ => Q [] env
def dCons (t : DT) (tr : DTA) : DTA := fun env Q E => t env (fun o e1 => tr e1 (fun os e2 => Q (o :: os) e2) E) E
theorem da_nil : DA X [] dNil := ⟨fun W tk σ S F H env Q E kh w es hx q => toA pa_nil ⟨S, F, Em, [], env, Nx.refl w, es, .nil, q⟩⟩
theorem da_cons (ha : DO X e t) (hr : DA X rest tr) (hs : starEach (e :: rest) X.env = (false, eval e X.env) :: starEach rest X.env := by rfl) : DA X (e :: rest) (dCons t tr) := by
  refine ⟨fun W tk σ S F H env Q E kh w es hx q => toA (pa_cons (we X e) (wa X rest) hs) ?_⟩
  refine (ha.run W tk σ S F H env _ E kh w es hx q).mono fun v H1 kh1 ⟨S1, F1, G1, o, e1, n1, es1, ov1, q1⟩ => ?_
  refine (hr.run W tk σ S1 F1 H1 e1 _ E kh1 n1.w.e es1 (hx.on n1) q1).mono fun vs H2 kh2 ⟨S2, F2, G2, os, e2, n2, es2, ovs, q2⟩ => ?_
  refine ⟨S2, F2, Or2 G1 G2, o :: os, e2, n1.seq n2, es2, .cons (ov1.kp (n2.kpG n1.w) n2.ss) ovs (fun _ h => .inl h) (fun _ h => .inr h) fun a h1 h2 => ?_, q2⟩
  rcases n2.gn a h2 with h | h
  · exact n1.w.fg a h h1
  · exact (n1.w.gm a h1).ne h
def tupD (ds : List D) : D := match pys ds with
  | some xs => .p (.tuple xs)
  | none => .tup ds
def dTup (ta : DTA) : DT := fun env Q E => ta env (fun os e1 => match vals os with
  | some ds => ds.length ≤ 1000 ∧ Q (.val (tupD ds)) e1
  | none => False) E
def dLst (ta : DTA) : DT := fun env Q E => ta env (fun os e1 => match vals os with
  | some ds => ds.length ≤ 1000 ∧ Q (.val (.lst ds)) e1
  | none => False) E
theorem line1000 {n : Nat} (h : n ≤ 1000) : n ≤ sizeLine := Nat.le_of_lt (small1000 h)
theorem do_tup {ta : DTA} {x1} (ha : DA X es ta) : DO X (.Tuple es x1 pos) (dTup ta) := by
  refine ⟨fun W tk σ S F H env Q E kh w es hx q => toE (pe_tup (wa X _)) ?_⟩
  refine (ha.run W tk σ S F H env _ E kh w es hx q).mono fun vs H1 kh1 ⟨S1, F1, G1, os, e1, n1, es1, ovs, q1⟩ => ?_
  have q1 : (match vals os with
  | some ds => ds.length ≤ 1000 ∧ Q (.val (tupD ds)) e1
  | none => False) := q1
  cases z : vals os with
  | none => rw [z] at q1; exact q1.elim
  | some ds =>
    rw [z] at q1
    have rs := ovs.vals z
    refine ⟨by rw [Rs.length _ rs]; exact line1000 q1.1, fun p hp => ?_⟩
    have n2 : Nx S F H S1 F1 G1 (upd H1 p (.tup vs)) := (n1.seq (Nx.newT n1.w hp)).g fun a h => .inl h
    have es2 := es1.kp (kp_new (S := S1) hp) Sub.refl (H' := upd H1 p (.tup vs))
    refine ⟨S1, F1, G1, .val (tupD ds), e1, n2, es2, ?_, q1.2⟩
    show R X.K S1 _ _ (tupD ds) G1
    unfold tupD
    split
    · rename_i xs hxs
      exact .p (.tup (SqT.of upd_same) (RPs.kp (kp_new (F := Em) hp) Sub.refl _ (rs.pys _ hxs)))
    · exact .tup (SqT.of upd_same) (Rs.kp Sub.refl _ (kp_new hp) rs)
theorem do_lst {ta : DTA} (ha : DA X es ta) : DO X (.List es pos) (dLst ta) := by
  refine ⟨fun W tk σ S F H env Q E kh w es hx q => toE (pe_lst (wa X _)) ?_⟩
  refine (ha.run W tk σ S F H env _ E kh w es hx q).mono fun vs H1 kh1 ⟨S1, F1, G1, os, e1, n1, es1, ovs, q1⟩ => ?_
  have q1 : (match vals os with
  | some ds => ds.length ≤ 1000 ∧ Q (.val (.lst ds)) e1
  | none => False) := q1
  cases z : vals os with
  | none => rw [z] at q1; exact q1.elim
  | some ds =>
    rw [z] at q1
    have rs := ovs.vals z
    refine ⟨by rw [Rs.length _ rs]; exact line1000 q1.1, fun p hp => ?_⟩
    have n2 := n1.seq (Nx.new (o := .lst vs) n1.w hp trivial)
    have es2 := es1.kp (kp_new (S := S1) hp) Sub.refl (H' := upd H1 p (.lst vs))
    refine ⟨S1, F1, _, .val (.lst ds), e1, n2, es2, ?_, q1.2⟩
    exact .lst upd_same (.inr rfl) (fun a h => ⟨.inl h, fun z => (n1.w.gm a h).ne (z ▸ hp)⟩) (Rs.kp Sub.refl _ (kp_new hp) rs)

/-! ### calls of built-ins by values -/
def wC (X : Cx) (f : Value) : List V → Hp → VK → Prop := fun vs H Q => ∀ (pins : List (Addr × Obj)) (s : Shared) (σ : L2.St) (us : List Value), Inv X pins σ H s → Vals vs us → wpAny (model X.prog X.w) X.A (call f us) (EP X pins σ Q) X.xe s
end
end Dv

set_option Elab.async false
set_option linter.all false
set_option maxRecDepth 100000
/-! Dv, part G: built-ins by values, items, slices. -/
namespace Dv
open PySem PySem.Spec PyProof.Rows L2

/-- values in a row, each on its own -/
inductive RL (K : PySem.W.Frag) (S : Ft) (H : Hp) : List V → List D → Prop
  | nil : RL K S H [] []
  | cons {v : V} {vs : List V} {d : D} {ds : List D} {F : Ft} : R K S H v d F → RL K S H vs ds → RL K S H (v :: vs) (d :: ds)
theorem OVs.rl {K : PySem.W.Frag} {S F : Ft} {H : Hp} {σ : L2.St} {env : Env} (kh : KH K H) (es : ES K S H σ env F) : ∀ {vs : List V} {os : List Opd} {G : Ft}, OVs K S H σ vs os G → RL K S H vs (os.map (Opd.get env))
  | _, _, _, .nil => .nil
  | _, _, _, .cons (o := o) a b c d e => by
    rw [List.map_cons]
    by_cases ne : o.get env = .hole
    · rw [ne]; exact .cons (F := Em) .hole (OVs.rl kh es b)
    · obtain ⟨F1, r⟩ := a.r kh es ne
      exact .cons r (OVs.rl kh es b)
abbrev FC := List D → (D → Prop) → Prop
structure CallD (X : Cx) (f : Value) (g : FC) : Prop where
  run : ∀ (S : Ft) (H : Hp) (vs : List V) (ds : List D) (Q : D → Prop), KH X.K H → RL X.K S H vs ds → g ds Q → wC X f vs H (QV X.K S H Q)
def dCall (g : FC) (ta : DTA) : DT := fun env Q E => ta env (fun os e1 => g (os.map (Opd.get e1)) fun d => Q (.val d) e1) E
section
variable {X : Cx} {e a b : Expr} {es : List Expr} {ta tb : DT} {tr : DTA} {g : FC} {x : Str} {p pos : Pos} {id T : String}
theorem toC {f : Value} {r : List V → Hp → VK → Prop} (h : CallR X f r) {vs : List V} {H : Hp} {Q : VK} (q : r vs H Q) : wC X f vs H Q := fun pins s σ us I rv => h pins s σ H vs us Q I rv q
theorem wc (X : Cx) (f : Value) : CallR X f (wC X f) := fun pins s σ H xs us Q I r h => h pins s σ us I r
theorem call_go {f : Value} (hc : CallD X f g) (ha : DA X es tr) {W : WX} (tk : Takes X W) {σ : L2.St} {S F : Ft} {H : Hp} {env : Env} {Q : Opd → Env → Prop} {E : EK} (kh : KH X.K H) (w : WF S F Em H) (hs : ES X.K S H σ env F) (hx : HX X W (Eq σ) S F H E) (q : dCall g tr env Q E) :
    tCB (wC X f) (wA X es) σ H (QO X.K σ S F H Q) := by
  refine (ha.run W tk σ S F H env _ E kh w hs hx q).mono fun vs H1 kh1 ⟨S1, F1, G1, os, e1, n1, es1, ovs, q1⟩ => ?_
  intro pins s σ' us I rv
  refine thn (hc.run S1 H1 vs _ _ kh1 (ovs.rl kh1 es1) q1 pins s σ' us I rv) fun z s' ⟨z', H', I', rz, q'⟩ => ⟨z', H', I', rz, ?_⟩
  exact QV.fin (W := W) n1 es1 q'
theorem do_cb (hc : CallD X (.builtin id) g) (hg : Gl X x) (hm : X.mg x = none) (hv : bootBuiltins x = some (.builtin id)) (ha : DA X (e :: es) tr) (hn : x ≠ "__name__" := by decide) (hdb : (x == ("__debug__" : Str)) = false := by decide)
    (he : starEach (e :: es) X.env = (false, eval e X.env) :: starEach es X.env := by rfl) (hpl : (backTo pos (starEach es X.env)).any (·.1) = false := by rfl) : DO X (.Call (.Name x p) (e :: es) [] pos) (dCall g tr) :=
  ⟨fun W tk σ S F H env Q E kh w hs hx q => toE (pe_callB (wc X _) hg hm hv (wa X _) hn hdb he hpl) (call_go hc ha tk kh w hs hx q)⟩
theorem do_ct (hc : CallD X (.type T) g) (hg : Gl X x) (hm : X.mg x = none) (hv : bootBuiltins x = some (.type T)) (ha : DA X (e :: es) tr) (hn : x ≠ "__name__" := by decide) (hdb : (x == ("__debug__" : Str)) = false := by decide)
    (he : starEach (e :: es) X.env = (false, eval e X.env) :: starEach es X.env := by rfl) (hpl : (backTo pos (starEach es X.env)).any (·.1) = false := by rfl) : DO X (.Call (.Name x p) (e :: es) [] pos) (dCall g tr) :=
  ⟨fun W tk σ S F H env Q E kh w hs hx q => toE (pe_callTy (wc X _) hg hm hv (wa X _) hn hdb he hpl) (call_go hc ha tk kh w hs hx q)⟩

/-! ### len, tuple, list, sum, sorted, .. -/
def gLen : FC := fun ds Q => match ds with
  | [.p (.str s)] => s.length ≤ sizeLine ∧ Q (.p (.int s.length))
  | [.p (.tuple xs)] => Q (.p (.int xs.length))
  | [.p (.list xs)] => Q (.p (.int xs.length))
  | [.tup xs] => Q (.p (.int xs.length))
  | [.lst xs] => Q (.p (.int xs.length))
  | [.dct xs] => Q (.p (.int xs.length))
  | _ => False
theorem RK.length {K : PySem.W.Frag} {S : Ft} {H : Hp} : ∀ {vs : List (Key × V)} {ds : List (Key × PD)}, RK K S H vs ds → vs.length = ds.length
  | _, _, .nil => rfl
  | _, _, .cons a b => by simp [RK.length b]
theorem cd_len : CallD X (.builtin "len") gLen := by
  refine ⟨fun S H vs ds Q kh rl h => ?_⟩
  unfold gLen at h
  split at h
  · cases rl with
    | cons r t => cases t; cases r with | p r => cases r; exact toC call_len ⟨_, _, rfl, ⟨h.1, rfl⟩, QV.pp (.int _) h.2⟩
  · cases rl with
    | cons r t => cases t; cases r with | p r => cases r with | tup a b => exact toC call_len_seq ⟨_, _, rfl, .inr a, by rw [RPs.length _ b]; exact QV.pp (.int _) h⟩
  · cases rl with
    | cons r t => cases t; cases r with | p r => cases r with | lst a b => exact toC call_len_seq ⟨_, _, rfl, .inl a.sq, by rw [RPs.length _ b]; exact QV.pp (.int _) h⟩
  · cases rl with
    | cons r t => cases t; cases r with | tup a b => exact toC call_len_seq ⟨_, _, rfl, .inr a, by rw [Rs.length _ b]; exact QV.pp (.int _) h⟩
  · cases rl with
    | cons r t => cases t; cases r with | lst a b c d => exact toC call_len_seq ⟨_, _, rfl, .inl (SqL.of a), by rw [Rs.length _ d]; exact QV.pp (.int _) h⟩
  · cases rl with
    | cons r t => cases t; cases r with | dct a b c => exact toC call_lenD ⟨_, _, rfl, a, by rw [c.length]; exact QV.pp (.int _) h⟩
  · exact h.elim
def gTuple : FC := fun ds Q => match ds with
  | [d] => match d.seq with
    | some xs => Q (.p (.tuple xs))
    | none => False
  | _ => False
theorem cd_tuple : CallD X (.type "tuple") gTuple := by
  refine ⟨fun S H vs ds Q kh rl h => ?_⟩
  unfold gTuple at h
  split at h
  · split at h
    · rename_i d xs e
      cases rl with
      | cons r t =>
        cases t
        obtain ⟨a, us, rfl, sq, rp⟩ := r.seq e
        rcases sq with sq | sq
        · exact toC call_tuple_of ⟨a, us, rfl, .inl ⟨sq, fun l hl => QV.tt hl rp h⟩⟩
        · exact toC call_tuple_of ⟨a, us, rfl, .inr ⟨sq, QV.pp (.tup sq rp) h⟩⟩
    · exact h.elim
  · exact h.elim
def keyP : Key → PD
  | .inl i => .int i
  | .inr s => .str s
def gList : FC := fun ds Q => match ds with
  | [.dct kvs] => Q (.lst ((kvs.map fun kv => keyP kv.1).map D.p))
  | [d] => match d.seq with
    | some xs => Q (.lst (xs.map D.p))
    | none => False
  | _ => False
theorem RK.keys {K : PySem.W.Frag} {S : Ft} {H : Hp} : ∀ {vs : List (Key × V)} {ds : List (Key × PD)}, RK K S H vs ds → RPs K S H (vs.map fun kv => kV kv.1) (ds.map fun kv => keyP kv.1)
  | _, _, .nil => .nil
  | _, _, .cons (k := k) a b => by
    refine .cons ?_ (RK.keys b)
    cases k with
    | inl i => exact .int i
    | inr s => exact .str s
theorem cd_list (hc : X.calm = true := by rfl) : CallD X (.type "list") gList := by
  refine ⟨fun S H vs ds Q kh rl h => ?_⟩
  unfold gList at h
  split at h
  · cases rl with
    | cons r t => cases t; cases r with | dct a b c => exact toC (call_list_dK hc) ⟨_, _, rfl, a, fun q hq => QV.ll hq c.keys h⟩
  · split at h
    · rename_i d xs e
      cases rl with
      | cons r t =>
        cases t
        obtain ⟨a, us, rfl, sq, rp⟩ := r.seq e
        exact toC call_list_of ⟨a, us, rfl, sq, fun l hl => QV.ll hl rp h⟩
    · exact h.elim
  · exact h.elim
/-- a list of plain items -/
def D.lseq : D → Option (List PD)
  | .p (.list xs) => some xs
  | .lst ds => pys ds
  | _ => none
theorem R.lseq {K : PySem.W.Frag} {S F : Ft} {H : Hp} {v : V} {d : D} {xs : List PD} (h : R K S H v d F) (e : d.lseq = some xs) : ∃ a vs, v = .ref a ∧ SqL K H a vs ∧ RPs K S H vs xs := by
  cases d with
  | p x =>
    cases h with
    | p h =>
      cases x with
      | list ys => have e : some ys = some xs := e; cases e; cases h with | lst a b => exact ⟨_, _, rfl, a.sq, b⟩
      | _ => cases e
  | lst ds => cases h with | lst a b c d => exact ⟨_, _, rfl, SqL.of a, d.pys _ e⟩
  | _ => cases e
def intsP : List PD → Option (List Int)
  | [] => some []
  | .int i :: xs => (intsP xs).map (i :: ·)
  | _ :: _ => none
@[simp] theorem intsP_map (ns : List Int) : intsP (ns.map PyData.int) = some ns := by
  induction ns with
  | nil => rfl
  | cons x r ih => show (intsP (r.map PyData.int)).map (x :: ·) = _; rw [ih]; rfl
theorem RPs.ints {K : PySem.W.Frag} {S : Ft} {H : Hp} : ∀ {vs : List V} {xs : List PD} {ns : List Int}, RPs K S H vs xs → intsP xs = some ns → vs = ns.map V.int
  | _, [], ns, h, e => by
    have e : some [] = some ns := e
    cases e; cases h; rfl
  | _, x :: xs, ns, h, e => by
    cases x with
    | int i =>
      have e : (intsP xs).map (i :: ·) = some ns := e
      cases q : intsP xs with
      | none => rw [q] at e; cases e
      | some r => rw [q] at e; cases e; cases h with | cons a b => cases a; rw [List.map_cons, RPs.ints b q]
    | _ => cases e
theorem RPs.ofInts {K : PySem.W.Frag} {S : Ft} {H : Hp} (ns : List Int) : RPs K S H (ns.map V.int) (ns.map PyData.int) := by
  induction ns with
  | nil => exact .nil
  | cons n r ih => exact .cons (.int n) ih
def gInts (f : List Int → (D → Prop) → Prop) : FC := fun ds Q => match ds with
  | [d] => match d.lseq with
    | some xs => match intsP xs with
      | some ns => f ns Q
      | none => False
    | none => False
  | _ => False
theorem cd_ints {fv : Value} {f : List Int → (D → Prop) → Prop} (h : ∀ (S : Ft) (H : Hp) (a : Addr) (ns : List Int) (Q : D → Prop), SqL X.K H a (ns.map V.int) → f ns Q → wC X fv [.ref a] H (QV X.K S H Q)) : CallD X fv (gInts f) := by
  refine ⟨fun S H vs ds Q kh rl q => ?_⟩
  unfold gInts at q
  split at q
  · split at q
    · rename_i d xs e
      split at q
      · rename_i ns e2
        cases rl with
        | cons r t =>
          cases t
          obtain ⟨a, us, rfl, sq, rp⟩ := r.lseq e
          have e3 := rp.ints e2
          subst e3
          exact h S H a ns Q sq q
      · exact q.elim
    · exact q.elim
  · exact q.elim
abbrev gSum : FC := gInts fun ns Q => Q (.p (.int ns.sum))
theorem cd_sum (hc : X.calm = true := by rfl) : CallD X (.builtin "sum") gSum := cd_ints fun S H a ns Q sq q => toC (cr_sum hc) ⟨a, ns, rfl, sq, QV.pp (.int _) q⟩
def sortI (ns : List Int) : List Int := ns.mergeSort fun a b => decide (a ≤ b)
theorem sortI_perm (ns : List Int) : (sortI ns).Perm ns := List.mergeSort_perm _ _
theorem sortI_sorted (ns : List Int) : (sortI ns).Pairwise (· ≤ ·) := by
  have h := List.pairwise_mergeSort (le := fun a b : Int => decide (a ≤ b)) (fun a b c h1 h2 => by simp at *; omega) (fun a b => by simp; omega) ns
  exact h.imp fun h => by simpa using h
theorem perm_sorted_eq : ∀ {xs ys : List Int}, xs.Perm ys → xs.Pairwise (· ≤ ·) → ys.Pairwise (· ≤ ·) → xs = ys := by
  intro xs ys p h1 h2
  exact p.eq_of_pairwise (fun a b _ _ h3 h4 => Int.le_antisymm h3 h4) h1 h2
abbrev gSorted : FC := gInts fun ns Q => Q (.lst ((sortI ns).map fun i => .p (.int i)))
theorem cd_sorted : CallD X (.builtin "sorted") gSorted := cd_ints fun S H a ns Q sq q => toC cr_sortedI ⟨a, ns, rfl, sq, fun ns' p pm ps hp => by
  have e : ns' = sortI ns := perm_sorted_eq (pm.trans (sortI_perm ns).symm) ps (sortI_sorted ns)
  subst e
  refine QV.ll (xs := (sortI ns).map PyData.int) hp (RPs.ofInts _) ?_
  rw [List.map_map]; exact q⟩
theorem max_if (i j : Int) : (if j > i then j else i) = max i j := by (simp only [Int.max_def]; split <;> split <;> omega)
theorem min_if (i j : Int) : (if j < i then j else i) = min i j := by (simp only [Int.min_def]; split <;> split <;> omega)
def gMax : FC := fun ds Q => match ds with
  | [.p (.int i), .p (.int j)] => Q (.p (.int (max i j)))
  | _ => gInts (fun ns Q => 0 < ns.length ∧ ∀ m, m ∈ ns → (∀ y ∈ ns, y ≤ m) → Q (.p (.int m))) ds Q
def gMin : FC := fun ds Q => match ds with
  | [.p (.int i), .p (.int j)] => Q (.p (.int (min i j)))
  | _ => gInts (fun ns Q => 0 < ns.length ∧ ∀ m, m ∈ ns → (∀ y ∈ ns, m ≤ y) → Q (.p (.int m))) ds Q
theorem cd_max (hc : X.calm = true := by rfl) : CallD X (.builtin "max") gMax := by
  refine ⟨fun S H vs ds Q kh rl q => ?_⟩
  unfold gMax at q
  split at q
  · cases rl with
    | cons r t => cases t with | cons r' t' => cases t'; cases r with | p r => cases r; cases r' with | p r' => cases r'; exact toC (call_max2 hc) ⟨_, _, rfl, QV.pp (.int _) (by rw [max_if]; exact q)⟩
  · exact (cd_ints (fv := .builtin "max") fun S H a ns Q sq q => toC (cr_max hc) ⟨a, ns, rfl, sq, q.1, fun m h1 h2 => QV.pp (.int _) (q.2 m h1 h2)⟩).run S H vs _ Q kh rl q
theorem cd_min (hc : X.calm = true := by rfl) : CallD X (.builtin "min") gMin := by
  refine ⟨fun S H vs ds Q kh rl q => ?_⟩
  unfold gMin at q
  split at q
  · cases rl with
    | cons r t => cases t with | cons r' t' => cases t'; cases r with | p r => cases r; cases r' with | p r' => cases r'; exact toC (call_min2 hc) ⟨_, _, rfl, QV.pp (.int _) (by rw [min_if]; exact q)⟩
  · exact (cd_ints (fv := .builtin "min") fun S H a ns Q sq q => toC (cr_min hc) ⟨a, ns, rfl, sq, q.1, fun m h1 h2 => QV.pp (.int _) (q.2 m h1 h2)⟩).run S H vs _ Q kh rl q
def boolsP : List PD → Option (List Bool)
  | [] => some []
  | .bool i :: xs => (boolsP xs).map (i :: ·)
  | _ :: _ => none
@[simp] theorem boolsP_map (ns : List Bool) : boolsP (ns.map PyData.bool) = some ns := by
  induction ns with
  | nil => rfl
  | cons x r ih => show (boolsP (r.map PyData.bool)).map (x :: ·) = _; rw [ih]; rfl
theorem RPs.bools {K : PySem.W.Frag} {S : Ft} {H : Hp} : ∀ {vs : List V} {xs : List PD} {ns : List Bool}, RPs K S H vs xs → boolsP xs = some ns → vs = ns.map V.bl
  | _, [], ns, h, e => by
    have e : some [] = some ns := e
    cases e; cases h; rfl
  | _, x :: xs, ns, h, e => by
    cases x with
    | bool i =>
      have e : (boolsP xs).map (i :: ·) = some ns := e
      cases q : boolsP xs with
      | none => rw [q] at e; cases e
      | some r => rw [q] at e; cases e; cases h with | cons a b => cases a; rw [List.map_cons, RPs.bools b q]
    | _ => cases e
def gBools (f : List Bool → Bool) : FC := fun ds Q => match ds with
  | [d] => match d.lseq with
    | some xs => match boolsP xs with
      | some bs => Q (.p (.bool (f bs)))
      | none => False
    | none => False
  | _ => False
theorem cd_bools {fv : Value} {f : List Bool → Bool} (h : ∀ (H : Hp) (a : Addr) (bs : List Bool) (Q : VK), SqL X.K H a (bs.map V.bl) → Q (.bl (f bs)) H → wC X fv [.ref a] H Q) : CallD X fv (gBools f) := by
  refine ⟨fun S H vs ds Q kh rl q => ?_⟩
  unfold gBools at q
  split at q
  · split at q
    · rename_i d xs e
      split at q
      · rename_i ns e2
        cases rl with
        | cons r t =>
          cases t
          obtain ⟨a, us, rfl, sq, rp⟩ := r.lseq e
          have e3 := rp.bools e2
          subst e3
          exact h H a ns _ sq (QV.pp (.bl _) q)
      · exact q.elim
    · exact q.elim
  · exact q.elim
abbrev gAll : FC := gBools fun bs => bs.all _root_.id
abbrev gAny : FC := gBools fun bs => bs.any _root_.id
theorem cd_all (hc : X.calm = true := by rfl) : CallD X (.builtin "all") gAll := cd_bools fun H a bs Q sq q => toC (cr_all hc) ⟨a, bs, rfl, sq, q⟩
theorem cd_any (hc : X.calm = true := by rfl) : CallD X (.builtin "any") gAny := cd_bools fun H a bs Q sq q => toC (cr_any hc) ⟨a, bs, rfl, sq, q⟩
def gInt : FC := fun ds Q => match ds with
  | [.p (.int i)] => Q (.p (.int i))
  | [.p (.bool b)] => Q (.p (.int (if b then 1 else 0)))
  | [.p (.str s)] => s.length ≤ 640 ∧ match PySem.intText? s with
    | some n => Q (.p (.int n))
    | none => False
  | _ => False
theorem cd_int : CallD X (.type "int") gInt := by
  refine ⟨fun S H vs ds Q kh rl q => ?_⟩
  unfold gInt at q
  split at q
  · cases rl with | cons r t => cases t; cases r with | p r => cases r; exact toC call_int1 (.inl ⟨_, rfl, QV.pp (.int _) q⟩)
  · cases rl with | cons r t => cases t; cases r with | p r => cases r; exact toC call_int1 (.inr ⟨_, rfl, QV.pp (.int _) q⟩)
  · obtain ⟨q1, q⟩ := q
    split at q
    · rename_i n e
      cases rl with | cons r t => cases t; cases r with | p r => cases r; exact toC call_int_str ⟨_, _, rfl, e, q1, QV.pp (.int _) q⟩
    · exact q.elim
  · exact q.elim
def gStr : FC := fun ds Q => match ds with
  | [.p (.int i)] => i.natAbs.log2 < 1920 ∧ Q (.p (.str (toString i)))
  | _ => False
theorem cd_str : CallD X (.type "str") gStr := by
  refine ⟨fun S H vs ds Q kh rl q => ?_⟩
  unfold gStr at q
  split at q
  · cases rl with | cons r t => cases t; cases r with | p r => cases r; exact toC call_str_int ⟨_, rfl, q.1, QV.pp (.str _) q.2⟩
  · exact q.elim

/-! ### isinstance -/
def D.ty : D → Option String
  | .p .none => some "NoneType"
  | .p (.bool _) => some "bool"
  | .p (.int _) => some "int"
  | .p (.str _) => some "str"
  | .p (.tuple _) => some "tuple"
  | .p (.list _) => some "list"
  | .tup _ => some "tuple"
  | .lst _ => some "list"
  | .dct _ => some "dict"
  | _ => none
def isiB (n T : String) : Bool := n == T || (n == "bool" && T == "int")
def dIsi (T : String) (ta : DT) : DT := fun env Q E => ta env (fun o e1 => match (o.get e1).ty with
  | some n => Q (.val (.p (.bool (isiB n T)))) e1
  | none => False) E
theorem R.tyx {K : PySem.W.Frag} {S F : Ft} {H : Hp} {v : V} {d : D} {n : String} (h : R K S H v d F) (e : d.ty = some n) : TyX K H v (.type n) := by
  cases h with
  | p h =>
    cases h with
    | non => cases e; exact .base .non
    | bl b => cases e; exact .base (.bl b)
    | int i => cases e; exact .base (.int i)
    | str x => cases e; exact .base (.str x)
    | tup a b =>
      cases e
      rcases a with (a | ⟨o, a⟩) | ⟨o, _, _, k, c, _⟩
      · exact .base (.tup a)
      · exact .fTuple a
      · exact .kTuple k c
    | lst a b =>
      cases e
      rcases a with ⟨_, a⟩ | ⟨o, a⟩ | ⟨o, _, _, k, c, _⟩
      · exact .base (.lst a)
      · exact .base (.frz a)
      · exact .kList k c
  | tup a b =>
    cases e
    rcases a with (a | ⟨o, a⟩) | ⟨o, _, _, k, c, _⟩
    · exact .base (.tup a)
    · exact .fTuple a
    · exact .kTuple k c
  | lst a b c d => cases e; exact .base (.lst a)
  | dct a b c => cases e; exact .base (.dK a)
  | fdc _ _ => cases e
  | opl _ _ _ => cases e
  | opi _ _ _ _ => cases e
  | ins _ _ _ _ _ => cases e
  | exn0 _ _ => cases e
  | exn1 _ _ _ _ _ => cases e
  | lent => cases e
  | hole => cases e
theorem ty_names {d : D} {n : String} (e : d.ty = some n) : n ∈ ["NoneType", "bool", "int", "str", "tuple", "list", "dict"] := by
  unfold D.ty at e
  split at e <;> first | cases e; decide | cases e
theorem do_isi {T : Str} {Tn : String} {p p2 : Pos} (hg : Gl X "isinstance") (hm : X.mg "isinstance" = none) (hgT : Gl X T) (hmT : X.mg T = none) (hv : bootBuiltins T = some (.type Tn)) (ha : DO X a ta)
    (hk : ∀ n ∈ ["NoneType", "bool", "int", "str", "tuple", "list", "dict"], kitB n Tn = some (isiB n Tn)) (hnT : T ≠ "__name__" := by decide) (hdT : (T == ("__debug__" : Str)) = false := by decide)
    (he : starEach [a, .Name T p2] X.env = (false, eval a X.env) :: starEach [.Name T p2] X.env := by rfl) (hpl : (backTo pos (starEach [.Name T p2] X.env)).any (·.1) = false := by rfl) (he2 : starEach [.Name T p2] X.env = (false, eval (.Name T p2) X.env) :: starEach [] X.env := by rfl) :
    DO X (.Call (.Name "isinstance" p) [a, .Name T p2] [] pos) (dIsi Tn ta) := by
  refine ⟨fun W tk σ S F H env Q E kh w hs hx q => toE (pe_callB call_isi hg hm (by decide +kernel) (pa_cons (we X a) (pa_cons (pe_bltn (v := .ty Tn) hgT hmT hv rfl hnT hdT) pa_nil he2) he) (by decide) (by decide) he hpl) ?_⟩
  refine (ha.run W tk σ S F H env _ E kh w hs hx q).mono fun v H1 kh1 ⟨S1, F1, G1, o, e1, n1, es1, ov1, q1⟩ => ?_
  have q1 : (match (o.get e1).ty with
  | some n => Q (.val (.p (.bool (isiB n Tn)))) e1
  | none => False) := q1
  cases z : (o.get e1).ty with
  | none => rw [z] at q1; exact q1.elim
  | some n =>
    rw [z] at q1
    have ne : o.get e1 ≠ .hole := fun z' => by rw [z'] at z; cases z
    obtain ⟨F2, r⟩ := ov1.r kh1 es1 ne
    exact ⟨v, .ty Tn, .type n, .type Tn, isiB n Tn, rfl, .ty Tn, r.tyx z, kit_ty (hk n (ty_names z)), S1, F1, Em, .val (.p (.bool _)), e1, n1.e, es1, R.p (.bl _), q1⟩
theorem hk_int : ∀ n ∈ ["NoneType", "bool", "int", "str", "tuple", "list", "dict"], kitB n "int" = some (isiB n "int") := by decide +kernel
theorem hk_bool : ∀ n ∈ ["NoneType", "bool", "int", "str", "tuple", "list", "dict"], kitB n "bool" = some (isiB n "bool") := by decide +kernel
theorem hk_str : ∀ n ∈ ["NoneType", "bool", "int", "str", "tuple", "list", "dict"], kitB n "str" = some (isiB n "str") := by decide +kernel
theorem hk_list : ∀ n ∈ ["NoneType", "bool", "int", "str", "tuple", "list", "dict"], kitB n "list" = some (isiB n "list") := by decide +kernel
theorem hk_tuple : ∀ n ∈ ["NoneType", "bool", "int", "str", "tuple", "list", "dict"], kitB n "tuple" = some (isiB n "tuple") := by decide +kernel
end
end Dv

set_option Elab.async false
set_option linter.all false
set_option maxRecDepth 100000
/-! Dv, part H: items, slices. -/
namespace Dv
open PySem PySem.Spec PyProof.Rows L2

/-! ### items -/
def wX (X : Cx) : R2 := fun x y H Q => ∀ (value slice : Expr) (pins : List (Addr × Obj)) (s : Shared) (σ : L2.St) (v u : Value), Inv X pins σ H s → RelV x v → RelV y u →
    subscripted slice false v u = operate [v, u] (getItem v u) → wpAny (model X.prog X.w) X.A (subscriptTail value slice v u) (EP X pins σ Q) X.xe s
section
variable {X : Cx} {e a b : Expr} {ta tb : DT} {pos : Pos}
theorem wx (X : Cx) : IxR X (wX X) := fun value slice pins s σ H x y v u Q I rx ry h hs => h value slice pins s σ v u I rx ry hs
theorem toX {r : R2} (h : IxR X r) {x y : V} {H : Hp} {Q : VK} (q : r x y H Q) : wX X x y H Q := fun value slice pins s σ v u I rx ry hs => h value slice pins s σ H x y v u Q I rx ry q hs
theorem ix_dK {k : Nat} (hr : Room k X.A) : IxR X (fun x y H Q => ∃ a kvs k v, x = .ref a ∧ y = kV k ∧ Rd H a (.dK kvs) ∧ valV kvs k = some v ∧ Q v H) := by
  intro value slice pins s σ H x y v u Q I rx ry ⟨a, kvs, k, z, e1, e2, h, hv, q⟩ hs
  subst e1; subst e2
  obtain rfl : v = Value.ref a := rx
  have g : DGet H a (kV k) (some z) := .inl ⟨kvs, k, h, rfl, hv.symm⟩
  exact tail_any (dict_typeIs I g) PySem.F.slot_dict_getitem.lookup (d_getItem (hu_of hr) I g ry fun w' s3 I3 rw' => ⟨z, H, I3, rw', q⟩) hs
def ixO (x : Opd) (d k : D) (Q : Opd → Prop) : Prop := match d with
  | .p (.tuple xs) => match k with
    | .p (.int i) => match atI xs i with
      | some z => Q (.val (.p z))
      | none => False
    | _ => False
  | .p (.list xs) => match k with
    | .p (.int i) => match atI xs i with
      | some z => Q (.val (.p z))
      | none => False
    | _ => False
  | .p (.str s) => match k with
    | .p (.int i) => s.length ≤ sizeLine ∧ match atI s.cps.toList i with
      | some c => Q (.val (.p (.str ⟨#[c]⟩)))
      | none => False
    | _ => False
  | .lst ds => match k with
    | .p (.int i) => match atI ds i with
      | some (.p z) => Q (.val (.p z))
      | some z => match x with
        | .val _ => Q (.val z)
        | .ref _ _ => False
      | none => False
    | _ => False
  | .tup ds => match k with
    | .p (.int i) => match ixN ds.length i with
      | some j => match ds[j]? with
        | some (.p z) => Q (.val (.p z))
        | some z => match x with
          | .val _ => Q (.val z)
          | .ref n π => Q (.ref n (π ++ [j]))
        | none => False
      | none => False
    | _ => False
  | .opl ds => match k with
    | .p (.int i) => match ixN ds.length i with
      | some j => match ds[j]? with
        | some (.p z) => Q (.val (.p z))
        | some z => match x with
          | .val _ => Q (.val z)
          | .ref n π => Q (.ref n (π ++ [j]))
        | none => False
      | none => False
    | _ => False
  | .fdc kvs => match k.key with
    | some k => match dget kvs k with
      | some z => Q (.val (.p z))
      | none => False
    | none => False
  | .dct kvs => match k.key with
    | some k => match dget kvs k with
      | some z => Q (.val (.p z))
      | none => False
    | none => False
  | _ => False
def dIx (ta tb : DT) : DT := fun env Q E => ta env (fun x e1 => tb e1 (fun y e2 => ixO x (x.get e2) (y.get e2) fun o => Q o e2) E) E
theorem Rs.get {K : PySem.W.Frag} {S : Ft} {H : Hp} : ∀ {vs : List V} {ds : List D} {F : Ft} (i : Nat) {x : D}, Rs K S H vs ds F → ds[i]? = some x → ∃ v F1, vs[i]? = some v ∧ R K S H v x F1 ∧ Sub F1 F
  | _, [], _, i, _, h, e => by simp at e
  | _, y :: ds, _, 0, _, h, e => by
    cases h with
    | cons a b c f g => simp at e; subst e; exact ⟨_, _, rfl, a, c⟩
  | _, y :: ds, _, i + 1, _, h, e => by
    cases h with
    | cons a b c f g =>
      simp at e
      obtain ⟨v, F1, e1, r, s⟩ := Rs.get i b e
      exact ⟨v, F1, e1, r, s.trans f⟩
theorem atI_some {α : Type} {xs : List α} {i : Int} {x : α} (h : atI xs i = some x) : ∃ j, ixN xs.length i = some j ∧ xs[j]? = some x := by
  unfold atI at h
  cases e : ixN xs.length i with
  | none => rw [e] at h; cases h
  | some j => rw [e] at h; exact ⟨j, rfl, h⟩
theorem atI_of {α : Type} {xs : List α} {i : Int} {x : α} {n j : Nat} (hn : xs.length = n) (h : ixN n i = some j) (h2 : xs[j]? = some x) : atI xs i = some x := by
  unfold atI; rw [hn, h]; exact h2
theorem PVp.snoc {K : PySem.W.Frag} {S : Ft} {H : Hp} {a : Addr} {us : List V} {w : V} {j : Nat} (hs : StQ K S H a us) (hj : us[j]? = some w) : ∀ (π : List Nat) {v : V}, PVp K S H v π (.ref a) → PVp K S H v (π ++ [j]) w
  | [], v, h => ⟨a, us, w, (show V.ref a = v from h).symm, hs, hj, rfl⟩
  | k :: π, v, ⟨b, xs, z, e, q, i, r⟩ => ⟨b, xs, z, e, q, i, PVp.snoc hs hj π r⟩
theorem do_ix {k : Nat} (hr : Room k X.A) (ha : DO X a ta) (hb : DO X b tb) (hs : PlainIx b) : DO X (.Subscript a b pos) (dIx ta tb) := by
  refine ⟨fun W tk σ S F H env Q E kh w es hx h => ?_⟩
  refine toE (pe_ix (wx X) (we X a) (we X b) hs) ?_
  refine do2 ha hb tk kh w es hx h fun v u H2 S2 F2' G1 G2 x y e2 kh2 n dj es2 o1 o2 q => ?_
  have nex : x.get e2 ≠ .hole := fun z => by rw [z] at q; exact q
  obtain ⟨Fx, rx⟩ := o1.r kh2 es2 nex
  have ry : ∃ Fy, R X.K S2 H2 u (y.get e2) Fy := by
    by_cases z : y.get e2 = .hole
    · rw [z]; exact ⟨Em, .hole⟩
    · exact o2.r kh2 es2 z
  obtain ⟨Fy, ry⟩ := ry
  have ne : Nx S F H S2 F2' Em H2 := n.e
  have fin : ∀ {z : PD} {v : V}, RP X.K S2 H2 v z → Q (.val (.p z)) e2 → QO X.K σ S F H Q v H2 := fun r q => ⟨S2, F2', Em, .val (.p _), e2, ne, es2, R.p r, q⟩
  generalize hd : x.get e2 = d at q rx nex
  generalize hk : y.get e2 = kk at q ry
  unfold ixO at q
  split at q
  · split at q
    · split at q
      · rename_i xs _ i _ z e
        cases rx with
        | p rx =>
          cases rx with
          | tup sq rp =>
            cases ry with
            | p ry =>
              cases ry
              obtain ⟨j, e1, e2'⟩ := atI_some e
              obtain ⟨w', e3, r⟩ := rp.get j e2'
              exact toX ix_tup ⟨_, _, i, w', rfl, rfl, sq, atI_of (RPs.length _ rp) e1 e3, fin r q⟩
      · exact q.elim
    · exact q.elim
  · split at q
    · split at q
      · rename_i xs _ i _ z e
        cases rx with
        | p rx =>
          cases rx with
          | lst sq rp =>
            cases ry with
            | p ry =>
              cases ry
              obtain ⟨j, e1, e2'⟩ := atI_some e
              obtain ⟨w', e3, r⟩ := rp.get j e2'
              exact toX ix_list ⟨_, _, i, w', rfl, rfl, sq.sq, atI_of (RPs.length _ rp) e1 e3, fin r q⟩
      · exact q.elim
    · exact q.elim
  · split at q
    · obtain ⟨q1, q⟩ := q
      split at q
      · rename_i s _ i _ c e
        cases rx with
        | p rx =>
          cases rx
          cases ry with
          | p ry =>
            cases ry
            exact toX ix_str ⟨_, i, c, rfl, rfl, q1, e, fin (.str _) q⟩
      · exact q.elim
    · exact q.elim
  · split at q
    · rename_i ds _ i
      cases rx with
      | @lst ad us _ _ F' h1 h2 h3 h4 =>
        cases ry with
        | p ry =>
          cases ry
          have hl := Rs.length _ h4
          split at q
          · rename_i z e
            obtain ⟨j, e1, e2'⟩ := atI_some e
            obtain ⟨w', Fw, e3, r, _⟩ := h4.get j e2'
            cases r with | p r => exact toX ix_list ⟨_, _, i, w', rfl, rfl, SqL.of h1, atI_of hl e1 e3, fin r q⟩
          · rename_i z _ e
            obtain ⟨j, e1, e2'⟩ := atI_some e
            cases x with
            | val d0 =>
              have hd : d0 = D.lst ds := hd
              subst hd
              have o1 : R X.K S2 H2 (.ref ad) (.lst ds) G1 := o1
              cases o1 with
              | @lst _ us' _ _ F'' g1 g2 g3 g4 =>
                rw [h1] at g1; cases g1
                obtain ⟨w', Fw, e3, r, sb⟩ := g4.get j e2'
                exact toX ix_list ⟨_, _, i, w', rfl, rfl, SqL.of h1, atI_of hl e1 e3, S2, F2', Fw, .val z, e2, n.g fun a h => .inl (g3 a (sb a h)).1, es2, r, q⟩
            | ref _ _ => exact q.elim
          · exact q.elim
    · exact q.elim
  · split at q
    · rename_i ds _ i
      split at q
      · rename_i j e1
        cases rx with
        | @tup ad us _ _ sq h4 =>
          cases ry with
          | p ry =>
            cases ry
            have hl := Rs.length _ h4
            split at q
            · rename_i z e
              obtain ⟨w', Fw, e3, r, _⟩ := h4.get j e
              cases r with | p r => exact toX ix_tup ⟨_, _, i, w', rfl, rfl, sq, atI_of hl e1 e3, fin r q⟩
            · rename_i z _ e
              cases x with
              | val d0 =>
                have hd : d0 = D.tup ds := hd
                subst hd
                have o1 : R X.K S2 H2 (.ref ad) (.tup ds) G1 := o1
                cases o1 with
                | @tup _ us' _ _ g1 g4 =>
                  have := SqT.inj kh2 sq g1
                  subst this
                  obtain ⟨w', Fw, e3, r, sb⟩ := g4.get j e
                  exact toX ix_tup ⟨_, _, i, w', rfl, rfl, sq, atI_of hl e1 e3, S2, F2', Fw, .val z, e2, n.g fun a h => .inl (sb a h), es2, r, q⟩
              | ref m π =>
                have o1 : PV X.K S2 H2 σ m π (.ref ad) := o1
                obtain ⟨v0, ev, pv⟩ := o1
                obtain ⟨w', Fw, e3, r, sb⟩ := h4.get j e
                exact toX ix_tup ⟨_, _, i, w', rfl, rfl, sq, atI_of hl e1 e3, S2, F2', Em, .ref m (π ++ [j]), e2, ne, es2, ⟨v0, ev, PVp.snoc (.inl sq) e3 π pv⟩, q⟩
            · exact q.elim
      · exact q.elim
    · exact q.elim
  · split at q
    · rename_i ds _ i
      split at q
      · rename_i j e1
        cases rx with
        | @opl ad us _ _ hm hs h4 =>
          cases ry with
          | p ry =>
            cases ry
            have hl := Rs.length _ h4
            split at q
            · rename_i z e
              obtain ⟨w', Fw, e3, r, _⟩ := h4.get j e
              cases r with | p r => exact toX ix_list ⟨_, _, i, w', rfl, rfl, SqL.of hs, atI_of hl e1 e3, fin r q⟩
            · rename_i z _ e
              cases x with
              | val d0 =>
                have hd : d0 = D.opl ds := hd
                subst hd
                have o1 : R X.K S2 H2 (.ref ad) (.opl ds) G1 := o1
                cases o1 with
                | @opl _ us' _ _ g0 g1 g4 =>
                  rw [hs] at g1; cases g1
                  obtain ⟨w', Fw, e3, r, sb⟩ := g4.get j e
                  exact toX ix_list ⟨_, _, i, w', rfl, rfl, SqL.of hs, atI_of hl e1 e3, S2, F2', Fw, .val z, e2, n.g fun a h => .inl (sb a h), es2, r, q⟩
              | ref m π =>
                have o1 : PV X.K S2 H2 σ m π (.ref ad) := o1
                obtain ⟨v0, ev, pv⟩ := o1
                obtain ⟨w', Fw, e3, r, sb⟩ := h4.get j e
                exact toX ix_list ⟨_, _, i, w', rfl, rfl, SqL.of hs, atI_of hl e1 e3, S2, F2', Em, .ref m (π ++ [j]), e2, ne, es2, ⟨v0, ev, PVp.snoc (.inr (.inl ⟨hm, hs⟩)) e3 π pv⟩, q⟩
            · exact q.elim
      · exact q.elim
    · exact q.elim
  · split at q
    · rename_i kvs _ k' ek
      split at q
      · rename_i z e
        have ev := ry.key ek
        subst ev
        cases rx with
        | fdc q1 q3 =>
          rcases q3.val k' with ⟨_, z2⟩ | ⟨v', d', e1, e2', r⟩
          · rw [z2] at e; cases e
          · rw [e2'] at e; cases e
            exact toX (ix_dK hr) ⟨_, _, k', v', rfl, rfl, .inr ⟨_, q1⟩, e1, fin r q⟩
      · exact q.elim
    · exact q.elim
  · split at q
    · rename_i kvs _ k' ek
      split at q
      · rename_i z e
        have ev := ry.key ek
        subst ev
        cases rx with
        | dct q1 q2 q3 =>
          rcases q3.val k' with ⟨_, z2⟩ | ⟨v', d', e1, e2', r⟩
          · rw [z2] at e; cases e
          · rw [e2'] at e; cases e
            exact toX (ix_dK hr) ⟨_, _, k', v', rfl, rfl, .inl q1, e1, fin r q⟩
      · exact q.elim
    · exact q.elim
  · exact q.elim
end
/-! ### slices -/
def cutP {α : Type} (xs : List α) (lo hi : Option Int) : List α := (xs.drop (HT.sIx xs.length 0 lo)).take (HT.sIx xs.length xs.length hi - HT.sIx xs.length 0 lo)
abbrev DTP := Env → (Option Int → Env → Prop) → EK → Prop
def wP (X : Cx) (e : Option Expr) : TO := fun σ H Q => ∀ (pins : List (Addr × Obj)) (s : Shared), Inv X pins σ H s → wpAny (model X.prog X.w) X.A (evalPart e X.env) (fun u s' => ∃ o H', Inv X pins σ H' s' ∧ IsPart u o ∧ Q o H') X.xe s
structure DPo (X : Cx) (e : Option Expr) (t : DTP) : Prop where
  run : ∀ (W : WX) (_ : Takes X W) (σ : L2.St) (S F : Ft) (H : Hp) (env : Env) (Q : Option Int → Env → Prop) (E : EK), KH X.K H → WF S F Em H → ES X.K S H σ env F → HX X W (Eq σ) S F H E → t env Q E →
    wP X e σ H (fun o H' => KH X.K H' ∧ ∃ S' F' env', Nx S F H S' F' Em H' ∧ ES X.K S' H' σ env' F' ∧ Q o env')
section
variable {X : Cx} {e a b : Expr} {lo hi : Option Expr} {ta tb : DT} {tl th : DTP} {pos p2 : Pos}
theorem wp (X : Cx) (e : Option Expr) : PO X e (wP X e) := ⟨fun pins s σ H Q I h => h pins s I⟩
def dNoP : DTP := fun env Q _ => Q none env
def dSoP (t : DT) : DTP := fun env Q E => t env (fun o e1 => match o with
  | .val (.p (.int i)) => Q (some i) e1
  | _ => False) E
theorem dp_no : DPo X none dNoP := ⟨fun W tk σ S F H env Q E kh w es hx q => fun pins s I => po_none.run pins s σ H _ I ⟨kh_of I, S, F, env, Nx.refl w, es, q⟩⟩
theorem dp_so (h : DO X e ta) : DPo X (some e) (dSoP ta) := by
  refine ⟨fun W tk σ S F H env Q E kh w es hx q => fun pins s I => (po_some (we X e)).run pins s σ H _ I ?_⟩
  refine (h.run W tk σ S F H env _ E kh w es hx q).mono fun v H1 kh1 ⟨S1, F1, G1, o, e1, n1, es1, ov, q1⟩ => ?_
  cases o with
  | ref _ _ => exact q1.elim
  | val d =>
    cases d with
    | p x =>
      cases x with
      | int i =>
        have ov : R X.K S1 H1 v (.p (.int i)) G1 := ov
        cases ov with | p r => cases r; exact ⟨i, rfl, kh1, S1, F1, e1, n1.e, es1, q1⟩
      | _ => exact q1.elim
    | _ => exact q1.elim
def wSl (X : Cx) : V → Option Int → Option Int → Hp → VK → Prop := fun x lo hi H Q => ∀ (pins : List (Addr × Obj)) (s : Shared) (σ : L2.St) (v vl vu : Value) (sl : Addr), Inv X pins σ H s → RelV x v → s.heap.IsSliceOf sl vl vu .none → IsPart vl lo → IsPart vu hi →
    ∃ T id, typeLookup (.type T) "__getitem__" = pure (some (.builtin id)) ∧ s.TypeIs v T ∧ wpAny (model X.prog X.w) X.A (getItem v (.ref sl)) (EP X pins σ Q) X.xe s
theorem wsl (X : Cx) : SlR X (wSl X) := fun pins s σ H x v vl vu lo hi sl Q I rx hs pl pu h => h pins s σ v vl vu sl I rx hs pl pu
theorem toSl {r : V → Option Int → Option Int → Hp → VK → Prop} (h : SlR X r) {x : V} {lo hi : Option Int} {H : Hp} {Q : VK} (q : r x lo hi H Q) : wSl X x lo hi H Q := fun pins s σ v vl vu sl I rx hs pl pu => h pins s σ H x v vl vu lo hi sl Q I rx hs pl pu q
def slD (d : D) (lo hi : Option Int) (Q : D → Prop) : Prop := match d with
  | .p (.tuple xs) => Q (.p (.tuple (cutP xs lo hi)))
  | .p (.list xs) => Q (.lst ((cutP xs lo hi).map D.p))
  | .p (.str s) => s.length ≤ sizeLine ∧ Q (.p (.str (cutS s lo hi)))
  | .lst ds => match pys ds with
    | some xs => Q (.lst ((cutP xs lo hi).map D.p))
    | none => False
  | _ => False
def dSl (ta : DT) (tl th : DTP) : DT := fun env Q E => ta env (fun x e1 => tl e1 (fun l e2 => th e2 (fun h e3 => slD (x.get e3) l h fun d => Q (.val d) e3) E) E) E
theorem RPs.cut {K : PySem.W.Frag} {S : Ft} {H : Hp} {vs : List V} {xs : List PD} (h : RPs K S H vs xs) (lo hi : Option Int) : RPs K S H (cutV vs lo hi) (cutP xs lo hi) := by
  unfold cutV cutP
  rw [RPs.length _ h]
  exact (h.drop _).take _
theorem cutV_all (vs : List V) (lo hi : Option Int) (h : HT.sIx vs.length 0 lo = 0 ∧ HT.sIx vs.length vs.length hi = vs.length) : cutV vs lo hi = vs := by
  unfold cutV; rw [h.1, h.2]; simp
theorem do_sl (ha : DO X a ta) (hl : DPo X lo tl) (hh : DPo X hi th) : DO X (.Subscript a (.Slice lo hi none p2) pos) (dSl ta tl th) := by
  refine ⟨fun W tk σ S F H env Q E kh w es hx q => toE (pe_slice (wsl X) (we X a) (wp X lo) (wp X hi)) ?_⟩
  refine (ha.run W tk σ S F H env _ E kh w es hx q).mono fun v H1 kh1 ⟨S1, F1, G1, x, e1, n1, es1, ov, q1⟩ => ?_
  intro pins s I
  refine thn (hl.run W tk σ S1 F1 H1 e1 _ E kh1 n1.w.e es1 (hx.on n1) q1 pins s I) fun u s2 ⟨l, H2, I2, pl, kh2, S2, F2', e2, n2, es2, q2⟩ => ⟨l, H2, I2, pl, ?_⟩
  intro pins s I
  refine thn (hh.run W tk σ S2 F2' H2 e2 _ E kh2 n2.w.e es2 ((hx.on n1).on n2) q2 pins s I) fun u s3 ⟨hh, H3, I3, pu, kh3, S3, F3, e3, n3, es3, q3⟩ => ⟨hh, H3, I3, pu, ?_⟩
  have n23 := n2.seq n3
  have n13 : Nx S F H S3 F3 G1 H3 := (n1.seq n23).g fun a h => .inl h
  have ov3 := ov.kp (n23.kpG n1.w) n23.ss
  have nex : x.get e3 ≠ .hole := fun z => by rw [z] at q3; exact q3
  obtain ⟨Fx, rx⟩ := ov3.r kh3 es3 nex
  have fin : ∀ v H', QV X.K S3 H3 (fun d => Q (.val d) e3) v H' → QO X.K σ S F H Q v H' := fun v H' h => QV.fin (W := W) n13 es3 h
  generalize x.get e3 = d at q3 rx nex
  unfold slD at q3
  split at q3
  · cases rx with
    | p rx =>
      cases rx with
      | tup sq rp =>
        refine toSl sl_tupA ⟨_, _, rfl, sq, fun hw => fin _ _ ?_, fun hw p hp => fin _ _ (QV.tt hp (rp.cut l hh) q3)⟩
        have e := cutV_all _ l hh hw
        have rc := rp.cut l hh
        rw [e] at rc
        exact QV.pp (.tup sq rc) q3
  · cases rx with
    | p rx =>
      cases rx with
      | lst sq rp => exact toSl sl_list ⟨_, _, rfl, sq.sq, fun p hp => fin _ _ (QV.ll hp (rp.cut l hh) q3)⟩
  · cases rx with
    | p rx => cases rx; exact toSl sl_str ⟨_, rfl, q3.1, fin _ _ (QV.pp (.str _) q3.2)⟩
  · split at q3
    · rename_i xs e
      cases rx with
      | lst h1 h2 h3 h4 => exact toSl sl_list ⟨_, _, rfl, SqL.of h1, fun p hp => fin _ _ (QV.ll hp ((h4.pys _ e).cut l hh) q3)⟩
    · exact q3.elim
  · exact q3.elim
/-- xs[::-1] of a list -/
def dRev (ta : DT) : DT := fun env Q E => ta env (fun x e1 => match (x.get e1).lseq with
  | some xs => Q (.val (.lst (xs.reverse.map D.p))) e1
  | none => False) E
theorem do_rev {k : Nat} {p1 p2 p3 : Pos} (ha : DO X a ta) : DO X (.Subscript a (.Slice none none (some (.UnaryOp .USub (.Constant (.int 1) k p1) p2)) p3) pos) (dRev ta) := by
  refine ⟨fun W tk σ S F H env Q E kh w es hx q => toE (pe_revL (we X a)) ?_⟩
  refine (ha.run W tk σ S F H env _ E kh w es hx q).mono fun v H1 kh1 ⟨S1, F1, G1, x, e1, n1, es1, ov, q1⟩ => ?_
  have q1 : (match (x.get e1).lseq with
  | some xs => Q (.val (.lst (xs.reverse.map D.p))) e1
  | none => False) := q1
  cases z : (x.get e1).lseq with
  | none => rw [z] at q1; exact q1.elim
  | some xs =>
    rw [z] at q1
    have nex : x.get e1 ≠ .hole := fun z' => by rw [z'] at z; cases z
    obtain ⟨Fx, rx⟩ := ov.r kh1 es1 nex
    obtain ⟨ad, us, rfl, sq, rp⟩ := rx.lseq z
    exact ⟨ad, us, rfl, sq, fun p hp => QV.fin (W := W) n1 es1 (QV.ll hp rp.reverse q1)⟩
end
end Dv

set_option Elab.async false
set_option linter.all false
set_option maxRecDepth 100000
/-! Dv, part I: targets, statements, loops. -/
namespace Dv
open PySem PySem.Spec PyProof.Rows L2

/-! ### targets -/
def wG (X : Cx) (tg : Expr) : TG := fun v σ H Q => ∀ (pins : List (Addr × Obj)) (s : Shared) (u : Value), Inv X pins σ H s → RelV v u → wpAny (model X.prog X.w) X.A (assign tg X.env u) (fun _ s' => ∃ σ' H', Inv X pins σ' H' s' ∧ Q σ' H') X.xe s
def wGs (X : Cx) (ts : List Expr) : TGs := fun vs σ H Q => ∀ (pins : List (Addr × Obj)) (s : Shared) (us : List Value), Inv X pins σ H s → Vals vs us → wpAny (model X.prog X.w) X.A (assignInOrder ((assignEach ts X.env).map (·.2)) us) (fun _ s' => ∃ σ' H', Inv X pins σ' H' s' ∧ Q σ' H') X.xe s
abbrev DTG := D → Env → (Env → Prop) → Prop
abbrev DTGs := List D → Env → (Env → Prop) → Prop
/-- behind an assignment: the heap as it was -/
def GQ (K : PySem.W.Frag) (tv : List Nat) (σ : L2.St) (S F : Ft) (H : Hp) (Q : Env → Prop) : L2.St → Hp → Prop := fun σ' H' => (H' = H ∧ σ'.length = σ.length ∧ ∀ j, j ∉ tv → σ'[j]? = σ[j]?) ∧ ∃ env' F', ES K S H σ' env' F' ∧ Sub F' F ∧ Q env'
structure DG (X : Cx) (tg : Expr) (tv : List Nat) (t : DTG) : Prop where
  run : ∀ (σ : L2.St) (S F G : Ft) (H : Hp) (v : V) (d : D) (env : Env) (Q : Env → Prop), σ.length = X.N.length → KH X.K H → ES X.K S H σ env F → R X.K S H v d G → Dj F G → t d env Q → wG X tg v σ H (GQ X.K tv σ S (Or2 F G) H Q)
structure DGs (X : Cx) (ts : List Expr) (tv : List Nat) (t : DTGs) : Prop where
  run : ∀ (σ : L2.St) (S F G : Ft) (H : Hp) (vs : List V) (ds : List D) (env : Env) (Q : Env → Prop), σ.length = X.N.length → KH X.K H → ES X.K S H σ env F → Rs X.K S H vs ds G → Dj F G → t ds env Q → wGs X ts vs σ H (GQ X.K tv σ S (Or2 F G) H Q)
section
variable {X : Cx} {tg e : Expr} {ts : List Expr} {pos : Pos}
theorem wg (X : Cx) (tg : Expr) : PG X tg (wG X tg) := ⟨fun pins s σ H v u Q I r h => h pins s u I r⟩
theorem wgs (X : Cx) (ts : List Expr) : PGs X ts (wGs X ts) := ⟨fun pins s σ H vs us Q I r h => h pins s us I r⟩
theorem toG {t : TG} (h : PG X tg t) {v : V} {σ : L2.St} {H : Hp} {Q : L2.St → Hp → Prop} (q : t v σ H Q) : wG X tg v σ H Q := fun pins s u I r => h.run pins s σ H v u Q I r q
theorem toGs {t : TGs} (h : PGs X ts t) {vs : List V} {σ : L2.St} {H : Hp} {Q : L2.St → Hp → Prop} (q : t vs σ H Q) : wGs X ts vs σ H Q := fun pins s us I r => h.run pins s σ H vs us Q I r q
def gNm (i : Nat) : DTG := fun d env Q => Q (env.set i d)
theorem dg_nm {i : Nat} {x : Str} (hN : X.N.Nodup) (hi : X.N[i]? = some x := by rfl) (hx : Loc X.env.scope x := by first | exact .inl rfl | exact .inr rfl) (hf : X.fn x = true ∨ X.env.scope.names.lookup x = some .local := by first | exact .inl rfl | exact .inr rfl | assumption) : DG X (.Name x pos) [i] (gNm i) := by
  refine ⟨fun σ S F G H v d env Q hl kh es r dj q => toG (pg_name hN hi hx hf) ⟨⟨rfl, by simp, fun j hj => List.getElem?_set_ne (by simpa using Ne.symm (fun z => hj (by simp [z])))⟩, ?_⟩⟩
  have hσ : i < σ.length := by rw [hl]; exact (List.getElem?_eq_some_iff.mp hi).1
  by_cases he : i < env.length
  · refine ⟨env.set i d, Or2 G F, es.set i r dj.symm hσ he, fun a h => h.elim .inr .inl, q⟩
  · have e : env.set i d = env := List.set_eq_of_length_le (by omega)
    have q : Q (env.set i d) := q
    rw [e] at q
    refine ⟨env, F, es.weak fun j => ?_, fun a h => .inl h, q⟩
    by_cases hj : j = i
    · subst hj; rw [List.getElem?_eq_none (by omega)]; exact .inl rfl
    · rw [List.getElem?_set_ne (Ne.symm hj)]; exact .inr ⟨rfl, rfl⟩
def gNl : DTGs := fun ds env Q => match ds with
  | [] => Q env
  | _ => False
def gCn (t : DTG) (u : DTGs) : DTGs := fun ds env Q => match ds with
  | d :: r => t d env fun e1 => u r e1 Q
  | [] => False
theorem dgs_nil : DGs X [] [] gNl := by
  refine ⟨fun σ S F G H vs ds env Q hl kh es rs dj q => ?_⟩
  cases rs with
  | nil => exact toGs pgs_nil ⟨rfl, ⟨rfl, rfl, fun _ _ => rfl⟩, env, F, es, fun a h => .inl h, q⟩
  | cons _ _ _ _ _ => exact q.elim
theorem dgs_cons {t : DTG} {u : DTGs} {tv tw : List Nat} (h1 : DG X e tv t) (h2 : DGs X ts tw u) (hs : (assignEach (e :: ts) X.env).map (·.2) = assign e X.env :: (assignEach ts X.env).map (·.2) := by rfl) : DGs X (e :: ts) (tv ++ tw) (gCn t u) := by
  refine ⟨fun σ S F G H vs ds env Q hl kh es rs dj q => ?_⟩
  cases rs with
  | nil => exact q.elim
  | @cons v vs d ds _ G1 G2 a b s1 s2 d12 =>
    refine toGs (pgs_cons (wg X e) (wgs X ts) hs) ⟨v, vs, rfl, ?_⟩
    intro pins s uu I r
    refine thn (h1.run σ S F G1 H v d env _ hl kh es a (dj.sub Sub.refl s1) q pins s uu I r) fun _ s1' ⟨σ1, H1, I1, ⟨e1, l1, a1⟩, env1, F1, es1, sb1, q1⟩ => ?_
    subst e1
    have hl1 : σ1.length = X.N.length := I1.len
    refine ⟨σ1, H1, I1, ?_⟩
    intro pins s us I r
    refine thn (h2.run σ1 S F1 G2 H1 vs ds env1 Q hl1 kh es1 b (fun x h h' => (sb1 x h).elim (fun z => dj x z (s2 x h')) (fun z => d12 x z h')) q1 pins s us I r) fun _ s2' ⟨σ2, H2, I2, ⟨e2, l2, a2⟩, env2, F2, es2, sb2, q2⟩ => ?_
    exact ⟨σ2, H2, I2, ⟨e2, l2.trans l1, fun j hj => (a2 j fun z => hj (List.mem_append_right _ z)).trans (a1 j fun z => hj (List.mem_append_left _ z))⟩, env2, F2, es2, fun x h => (sb2 x h).elim (fun z => (sb1 x z).elim .inl (fun z => .inr (s1 x z))) (fun z => .inr (s2 x z)), q2⟩
/-- (a, b, ..) = a tuple -/
def gTu (n : Nat) (t : DTGs) : DTG := fun d env Q => match d with
  | .p (.tuple xs) => xs.length = n ∧ t (xs.map D.p) env Q
  | .tup ds => ds.length = n ∧ t ds env Q
  | _ => False
theorem dg_tup {es : List Expr} {k n : Nat} {t : DTGs} {tv : List Nat} (hc : X.calm = true) (h : DGs X es tv t) (hn : (assignEach es X.env).length = n := by rfl) (hst : (assignEach es X.env).findIdx? (·.1) = none := by rfl) : DG X (.Tuple es k pos) tv (gTu n t) := by
  refine ⟨fun σ S F G H v d env Q hl kh es' r dj q => toG (pg_tup hc (wgs X es) hn hst) ?_⟩
  unfold gTu at q
  split at q
  · cases r with
    | p r =>
      cases r with
      | tup sq rp => exact ⟨_, _, rfl, sq, by rw [RPs.length _ rp]; exact q.1, h.run σ S F G H _ _ env Q hl kh es' (RPs.up rp) dj q.2⟩
  · cases r with
    | tup sq rp => exact ⟨_, _, rfl, sq, by rw [Rs.length _ rp]; exact q.1, h.run σ S F G H _ _ env Q hl kh es' rp dj q.2⟩
  · exact q.elim

/-! ### small statements -/
variable {t : DT} {g : DTG} {st : Stmt} {sts : List Stmt} {u ub : DTS} {tb : DTB}
theorem Ag.refl {tv : List Nat} {σ : L2.St} : Ag tv σ σ := fun _ _ => rfl
theorem Ag.trans {tv tw : List Nat} {σ σ1 σ2 : L2.St} (a : Ag tv σ σ1) (b : Ag tw σ1 σ2) : Ag (tv ++ tw) σ σ2 := fun j h => (b j fun z => h (List.mem_append_right _ z)).trans (a j fun z => h (List.mem_append_left _ z))
theorem Ag.same {tv : List Nat} {σ σ1 σ2 : L2.St} (a : Ag tv σ σ1) (b : Ag tv σ1 σ2) : Ag tv σ σ2 := fun j h => (b j h).trans (a j h)
theorem Ag.wide {tv tw : List Nat} {σ σ1 : L2.St} (a : Ag tv σ σ1) (h : ∀ j, j ∈ tv → j ∈ tw) : Ag tw σ σ1 := fun j z => a j fun q => z (h j q)
theorem Ag.set {i : Nat} {σ : L2.St} {o : Option V} : Ag [i] σ (σ.set i o) := fun j hj => List.getElem?_set_ne (by simpa using Ne.symm (fun z => hj (by simp [z])))
section
variable {tv tw : List Nat} {σ0 σ1 : L2.St}
theorem QN.on {K : PySem.W.Frag} {S F S1 F1 G : Ft} {H H1 : Hp} {Q : Env → Prop} (n : Nx S F H S1 F1 G H1) (ag : ∀ σ2, Ag tv σ1 σ2 → Ag tw σ0 σ2) {σ : L2.St} {H' : Hp} (h : QN K tv σ1 S1 F1 H1 Q σ H') : QN K tw σ0 S F H Q σ H' := by
  obtain ⟨a, S2, F2, e2, n2, es2, q⟩ := h
  exact ⟨ag _ a, S2, F2, e2, n.seq0 n2, es2, q⟩
theorem QR.on {K : PySem.W.Frag} {S F S1 F1 G : Ft} {H H1 : Hp} {Q : D → Env → Prop} (n : Nx S F H S1 F1 G H1) (ag : ∀ σ2, Ag tv σ1 σ2 → Ag tw σ0 σ2) {v : V} {H' : Hp} (h : QR K tv σ1 S1 F1 H1 Q v H') : QR K tw σ0 S F H Q v H' := by
  obtain ⟨S2, F2, G2, σ2, d, e2, a, n2, es2, r, q⟩ := h
  exact ⟨S2, F2, G2, σ2, d, e2, ag _ a, n.seq0 n2, es2, r, q⟩
theorem wS.on {S F S1 F1 G : Ft} {H H1 : Hp} (n : Nx S F H S1 F1 G H1) (ag : ∀ σ2, Ag tv σ1 σ2 → Ag tw σ0 σ2) {D : DE} {σ : L2.St} {H' : Hp} (h : wS X st (QD X.K tv σ1 S1 F1 H1 D) σ H') : wS X st (QD X.K tw σ0 S F H D) σ H' :=
  h.mono (fun _ _ _ _ q => q.on n ag) (fun _ _ _ q => q.on n ag) (fun _ _ _ _ q => q.on n ag) (fun _ _ _ _ q => q.on n ag)
theorem wSs.on {S F S1 F1 G : Ft} {H H1 : Hp} (n : Nx S F H S1 F1 G H1) (ag : ∀ σ2, Ag tv σ1 σ2 → Ag tw σ0 σ2) {D : DE} {σ : L2.St} {H' : Hp} (h : wSs X sts (QD X.K tv σ1 S1 F1 H1 D) σ H') : wSs X sts (QD X.K tw σ0 S F H D) σ H' :=
  h.mono (fun _ _ _ _ q => q.on n ag) (fun _ _ _ q => q.on n ag) (fun _ _ _ _ q => q.on n ag) (fun _ _ _ _ q => q.on n ag)
end
variable {tv tw : List Nat}
/-- behind a temp is given to a name -/
theorem Nx.give {S F S1 F1 G F2 : Ft} {H H1 : Hp} (n : Nx S F H S1 F1 G H1) (s : Sub F2 (Or2 F1 G)) : Nx S F H S1 F2 Em H1 where
  keep := n.keep
  ss := n.ss
  sn := n.sn
  fn := fun a h => (s a h).elim (n.fn a) (n.gn a)
  gn := fun a h => h.elim
  w := ⟨fun a x y => (s a y).elim (n.w.sf a x) (n.w.sg a x), fun a x y => y.elim, fun a x y => y.elim, n.w.sd, fun a h => (s a h).elim (n.w.fm a) (n.w.gm a), fun a h => h.elim⟩
def dAsg (t : DT) (g : DTG) : DTS := fun D env E => t env (fun o e1 => match o with
  | .val d => g d e1 D.nx
  | .ref _ _ => False) E
theorem asg_go (he : DO X e t) (hg : DG X tg tv g) {W : WX} (tk : Takes X W) {σ : L2.St} {S F : Ft} {H : Hp} {env : Env} {D : DE} {E : EK} (hl : σ.length = X.N.length) (kh : KH X.K H) (w : WF S F Em H) (es : ES X.K S H σ env F) (hx : HX X W (Eq σ) S F H E) (q : dAsg t g D env E) :
    wE X e σ H fun v H1 => wG X tg v σ H1 (QN X.K tv σ S F H D.nx) := by
  refine (he.run W tk σ S F H env _ E kh w es hx q).mono fun v H1 kh1 ⟨S1, F1, G1, o, e1, n1, es1, ov, q1⟩ => ?_
  cases o with
  | ref _ _ => exact q1.elim
  | val d =>
    intro pins s u I r
    refine thn (hg.run σ S1 F1 G1 H1 v d e1 _ hl kh1 es1 ov n1.w.fg q1 pins s u I r) fun _ s' ⟨σ', H', I', ⟨eq, _, ag⟩, env', F', es', sb, q'⟩ => ⟨σ', H', I', ag, ?_⟩
    subst eq
    exact ⟨S1, F', env', n1.give sb, es', q'⟩
theorem ds_asg (he : DO X e t) (hg : DG X tg tv g) (hs : swapsWithSole [tg] e pos.line X.env = pure false := by rfl) (hw : swappedStores [tg] e X.env = pure none := by rfl) (h1 : (assignEach [tg] X.env).map (·.2) = [assign tg X.env] := by rfl) : DS X (.Assign [tg] e pos) tv (dAsg t g) :=
  ⟨fun W tk σ S F H env D E kh hl w es hx q => toS (ps_asg (we X e) (wg X tg) hs hw h1) (asg_go he hg tk hl kh w es hx.eq q)⟩
/-- a, b, .. = a list (a place as a rule) of plain items -/
def dAsgL (n : Nat) (t : DT) (g : DTGs) : DTS := fun D env E => t env (fun o e1 => match (o.get e1).lseq with
  | some xs => xs.length = n ∧ g (xs.map Dv.D.p) e1 D.nx
  | none => False) E
theorem ds_asgL {es : List Expr} {k n : Nat} {t : DT} {gs : DTGs} {p2 : Pos} (hc : X.calm = true) (he : DO X e t) (hg : DGs X es tv gs) (hn : (assignEach es X.env).length = n := by rfl) (hst : (assignEach es X.env).findIdx? (·.1) = none := by rfl)
    (hs : swapsWithSole [.Tuple es k p2] e pos.line X.env = pure false := by rfl) (hw : swappedStores [.Tuple es k p2] e X.env = pure none := by rfl) (h1 : (assignEach [.Tuple es k p2] X.env).map (·.2) = [assign (.Tuple es k p2) X.env] := by rfl) : DS X (.Assign [.Tuple es k p2] e pos) tv (dAsgL n t gs) := by
  refine ⟨fun W tk σ S F H env D E kh hl w es' hx q => toS (ps_asg (we X e) (pg_lst hc (wgs X es) hn hst) hs hw h1) ?_⟩
  refine (he.run W tk σ S F H env _ E kh w es' hx.eq q).mono fun v H1 kh1 ⟨S1, F1, G1, o, e1, n1, es1, ov, q1⟩ => ?_
  have q1 : (match (o.get e1).lseq with
  | some xs => xs.length = n ∧ gs (xs.map Dv.D.p) e1 D.nx
  | none => False) := q1
  cases z : (o.get e1).lseq with
  | none => rw [z] at q1; exact q1.elim
  | some xs =>
    rw [z] at q1
    have ne : o.get e1 ≠ .hole := fun z' => by rw [z'] at z; cases z
    obtain ⟨Fx, rx⟩ := ov.r kh1 es1 ne
    obtain ⟨a, us, rfl, sq, rp⟩ := rx.lseq z
    refine ⟨a, us, rfl, sq, by rw [RPs.length _ rp]; exact q1.1, ?_⟩
    intro pins s us' I r
    refine thn (hg.run σ S1 F1 Em H1 us _ e1 _ hl kh1 es1 (RPs.up rp) (fun _ _ z => z.elim) q1.2 pins s us' I r) fun _ s' ⟨σ', H', I', ⟨eq, _, ag⟩, env', F', es2, sb, q'⟩ => ⟨σ', H', I', ag, ?_⟩
    subst eq
    exact ⟨S1, F', env', n1.give fun x h => (sb x h).elim .inl (fun z => z.elim), es2, q'⟩
/-- name = e -/
theorem ds_set {i : Nat} {x : Str} {pos' : Pos} (hN : X.N.Nodup) (he : DO X e t) (hi : X.N[i]? = some x := by rfl) (hx : Loc X.env.scope x := by first | exact .inl rfl | exact .inr rfl) (hs : swapsWith e (some (.Name x pos')) pos.line X.env = pure false := by rfl)
    (hf : X.fn x = true ∨ X.env.scope.names.lookup x = some .local := by first | exact .inl rfl | exact .inr rfl | assumption) : DS X (.Assign [.Name x pos'] e pos) [i] (dAsg t (gNm i)) := by
  refine ⟨fun W tk σ S F H env D E kh hl w es hx' q => toS (ps_set hN hi hx (we X e) hs hf) ?_⟩
  refine (he.run W tk σ S F H env _ E kh w es hx'.eq q).mono fun v H1 kh1 ⟨S1, F1, G1, o, e1, n1, es1, ov, q1⟩ => ?_
  cases o with
  | ref _ _ => exact q1.elim
  | val d =>
    have q1 : D.nx (e1.set i d) := q1
    have hσ : i < σ.length := by rw [hl]; exact (List.getElem?_eq_some_iff.mp hi).1
    refine ⟨Ag.set, ?_⟩
    by_cases he : i < e1.length
    · exact ⟨S1, Or2 G1 F1, e1.set i d, n1.give fun a h => h.elim .inr .inl, es1.set i ov n1.w.fg.symm hσ he, q1⟩
    · rw [List.set_eq_of_length_le (by omega)] at q1
      refine ⟨S1, F1, e1, n1.e, es1.weak fun j => ?_, q1⟩
      by_cases hj : j = i
      · subst hj; rw [List.getElem?_eq_none (by omega)]; exact .inl rfl
      · rw [List.getElem?_set_ne (Ne.symm hj)]; exact .inr ⟨rfl, rfl⟩
def dDrop (t : DT) : DTS := fun D env E => t env (fun _ e1 => D.nx e1) E
theorem ds_expr (he : DO X e t) (hs : swapsWith e none pos.line X.env = pure false := by rfl) : DS X (.Expr e pos) [] (dDrop t) := by
  refine ⟨fun W tk σ S F H env D E kh hl w es hx q => toS (ps_expr (we X e) hs) ?_⟩
  exact (he.run W tk σ S F H env _ E kh w es hx.eq q).mono fun v H1 kh1 ⟨S1, F1, G1, o, e1, n1, es1, ov, q1⟩ => ⟨Ag.refl, S1, F1, e1, n1.e, es1, q1⟩
theorem ds_doc {x j pos'} : DS X (.Expr (.Constant (.str x) j pos') pos) [] (fun D env _ => D.nx env) := ⟨fun W tk σ S F H env D E kh hl w es hx q => toS ps_doc ⟨Ag.refl, S, F, env, Nx.refl w, es, q⟩⟩
def dRet (t : DT) : DTS := fun D env E => t env (fun o e1 => match o with
  | .val d => D.rt d e1
  | .ref _ _ => False) E
theorem ds_ret (he : DO X e t) : DS X (.Return (some e) pos) [] (dRet t) := by
  refine ⟨fun W tk σ S F H env D E kh hl w es hx q => toS (ps_ret (we X e)) ?_⟩
  refine (he.run W tk σ S F H env _ E kh w es hx.eq q).mono fun v H1 kh1 ⟨S1, F1, G1, o, e1, n1, es1, ov, q1⟩ => ?_
  cases o with
  | ref _ _ => exact q1.elim
  | val d => exact ⟨S1, F1, G1, σ, d, e1, Ag.refl, n1, es1, ov, q1⟩
def dNext : DTS := fun D env _ => D.nx env
theorem dss_nil : DSs X [] [] dNext := ⟨fun W tk σ S F H env D E kh hl w es hx q => toSs pss_nil ⟨Ag.refl, S, F, env, Nx.refl w, es, q⟩⟩
theorem dss_one (h : DS X st tv u) : DSs X [st] tv u := ⟨fun W tk σ S F H env D E kh hl w es hx q => toSs (pss_one (ws X st)) (h.run W tk σ S F H env D E kh hl w es hx q)⟩
def dSeq (t u : DTS) : DTS := fun D env E => t { D with nx := fun e1 => u D e1 E } env E
theorem dss_cons (h1 : DS X st tv ub) (h2 : DSs X sts tw u) : DSs X (st :: sts) (tv ++ tw) (dSeq ub u) := by
  refine ⟨fun W tk σ S F H env D E kh hl w es hx q => toSs (pss_cons (ws X st) (wss X sts)) ?_⟩
  have wd : ∀ σ2, Ag tv σ σ2 → Ag (tv ++ tw) σ σ2 := fun σ2 a => a.wide fun j h => List.mem_append_left _ h
  refine (h1.run W tk σ S F H env _ E kh hl w es (hx.imp wd) q).mono (fun σ1 H1 kh1 hl1 ⟨ag, S1, F1, e1, n1, es1, q1⟩ => ?_) (fun _ _ _ q => q.on (Nx.refl w) wd) (fun _ _ _ _ q => q.on (Nx.refl w) wd) (fun _ _ _ _ q => q.on (Nx.refl w) wd)
  exact (h2.run W tk σ1 S1 F1 H1 e1 D E kh1 hl1 n1.w.e es1 ((hx.on n1).imp fun _ a => ag.trans a) q1).on n1 fun σ2 a => ag.trans a
def dIfS (c : DTB) (t u : DTS) : DTS := fun D env E => c env (fun b e1 => if b = true then t D e1 E else u D e1 E) E
theorem ds_if {c : Expr} {a b : List Stmt} (hc : DB X c tb) (ha : DSs X a tv ub) (hb : DSs X b tw u) : DS X (.If c a b pos) (tv ++ tw) (dIfS tb ub u) := by
  refine ⟨fun W tk σ S F H env D E kh hl w es hx q => toS (ps_if (wt X c) (wss X a) (wss X b)) ?_⟩
  refine (hc.run W tk σ S F H env _ E kh w es hx.eq q).mono fun b H1 kh1 ⟨S1, F1, e1, n1, es1, q1⟩ => ?_
  cases b with
  | true => rw [if_pos rfl]; exact (ha.run W tk σ S1 F1 H1 e1 D E kh1 hl n1.w.e es1 ((hx.on n1).imp fun _ a => a.wide fun j h => List.mem_append_left _ h) (iff_tt q1)).on n1 fun σ2 a => a.wide fun j h => List.mem_append_left _ h
  | false => rw [if_neg Bool.false_ne_true]; exact (hb.run W tk σ S1 F1 H1 e1 D E kh1 hl n1.w.e es1 ((hx.on n1).imp fun _ a => a.wide fun j h => List.mem_append_right _ h) (iff_ff q1)).on n1 fun σ2 a => a.wide fun j h => List.mem_append_right _ h

/-! ### while -/
def dWhile (c : DTB) (tb : DTS) : DTS := fun D env E => ∃ W : Nat → Env → Prop, (∃ m, W m env) ∧ ∀ m env, W m env →
  c env (fun b e1 => if b = true then tb { D with nx := fun e => ∃ m', m' < m ∧ W m' e, ct := fun e => ∃ m', m' < m ∧ W m' e, bk := D.nx } e1 E else D.nx e1) E
theorem wT.pre {c : Expr} {σ : L2.St} {H : Hp} {Q : Bool → Hp → Prop} (h : KH X.K H → σ.length = X.N.length → wT X c σ H Q) : wT X c σ H Q := fun pins s I => h (kh_of I) I.len pins s I
theorem ds_while {c : Expr} {body : List Stmt} {tc : DTB} {tb : DTS} (hp : PassesOwn (model X.prog X.w) X.A X.env X.xe) (hc : DB X c tc) (hb : DSs X body tv tb) : DS X (.While c body [] pos) tv (dWhile tc tb) := by
  refine ⟨fun W tk σ S F H env D E kh hl w es hx q => toS (ps_while hp (wt X c) (wss X body)) ?_⟩
  obtain ⟨I, ⟨m, i0⟩, turn⟩ := q
  refine ⟨fun m σ' H' => Ag tv σ σ' ∧ ∃ S' F' env', Nx S F H S' F' Em H' ∧ ES X.K S' H' σ' env' F' ∧ I m env', ⟨m, Ag.refl, S, F, env, Nx.refl w, es, i0⟩, ?_⟩
  rintro m σ1 H1 ⟨ag, S1, F1, e1, n1, es1, i1⟩
  refine wT.pre fun kh1 hl1 => ?_
  refine (hc.run W tk σ1 S1 F1 H1 e1 _ E kh1 n1.w.e es1 ((hx.on n1).at ag) (turn m e1 i1)).mono fun b H2 kh2 ⟨S2, F2, e2, n2, es2, q2⟩ => ?_
  have n12 := n1.seq0 n2
  have wd : ∀ σ2, Ag tv σ1 σ2 → Ag tv σ σ2 := fun σ2 a => ag.same a
  cases b with
  | true =>
    rw [if_pos rfl]
    refine ⟨fun σ' H' => ∃ m', m' < m ∧ Ag tv σ σ' ∧ ∃ S' F' env', Nx S F H S' F' Em H' ∧ ES X.K S' H' σ' env' F' ∧ I m' env', fun σ' H' h => h, ?_⟩
    refine (hb.run W tk σ1 S2 F2 H2 e2 _ E kh2 hl1 n2.w.e es2 ((hx.on n12).imp wd) (iff_tt q2)).mono (fun σ3 H3 _ _ h => ?_) (fun _ _ _ q => q.on n12 wd) (fun _ _ _ _ q => q.on n12 wd) (fun σ3 H3 _ _ h => ?_)
    · obtain ⟨a3, S3, F3, e3, n3, es3, m', hm, i3⟩ := h
      exact ⟨m', hm, wd _ a3, S3, F3, e3, n12.seq0 n3, es3, i3⟩
    · obtain ⟨a3, S3, F3, e3, n3, es3, m', hm, i3⟩ := h
      exact ⟨m', hm, wd _ a3, S3, F3, e3, n12.seq0 n3, es3, i3⟩
  | false => rw [if_neg Bool.false_ne_true]; exact ⟨ag, S2, F2, e2, n12, es2, iff_ff q2⟩

/-! ### what is walked -/
def wI (X : Cx) (tg iter : Expr) : TI := fun σ H R => ∀ (pins : List (Addr × Obj)) (s : Shared), Inv X pins σ H s → wpAny (model X.prog X.w) X.A (eval iter X.env) (fun v s1 => wpAny (model X.prog X.w) X.A (pyIter v) (PIE X pins σ tg R) X.xe s1) X.xe s
theorem wi (X : Cx) (tg iter : Expr) : PI X tg iter (wI X tg iter) := ⟨fun pins s σ H R I h => h pins s I⟩
theorem toI {iter : Expr} {t : TI} (h : PI X tg iter t) {σ : L2.St} {H : Hp} {R : It → Hp → Prop} (q : t σ H R) : wI X tg iter σ H R := fun pins s I => h.run pins s σ H R I q
theorem wI.mono {iter : Expr} {σ : L2.St} {H : Hp} {R R' : It → Hp → Prop} (h : wI X tg iter σ H R) (m : ∀ J H', KH X.K H' → R J H' → R' J H') : wI X tg iter σ H R' := fun pins s I =>
  thn (h pins s I) fun v s1 h1 => thn h1 fun u s2 ⟨it, fp, tn, J, H', e, I', T, st, f, q⟩ => ⟨it, fp, tn, J, H', e, I', T, st, f, m J H' (kh_of I') q⟩
/-- the walk yields the items xs, one by one, while what it leans on is kept -/
def ItOk (K : PySem.W.Frag) (S G : Ft) (H : Hp) (J : It) (xs : List PD) : Prop := ∀ H', Kp S G H H' → ∀ i : Nat,
  (∀ x, xs[i]? = some x → J.go i H' ∧ ∀ v H'', J.yld i H' v H'' → Nw H' Em H'' ∧ RP K S H'' v x) ∧ (xs[i]? = none → J.stop i H')
/-! what is lent to a walk -/
abbrev Ls := List (Nat × Addr × D)
inductive Ln (K : PySem.W.Frag) (S : Ft) (H : Hp) : Ls → Ft → Prop
  | nil {F : Ft} : Ln K S H [] F
  | cons {i : Nat} {a : Addr} {d : D} {ls : Ls} {F F1 F2 : Ft} : R K S H (.ref a) d F1 → Ln K S H ls F2 → Sub F1 F → Sub F2 F → Dj F1 F2 → Ln K S H ((i, a, d) :: ls) F
theorem Ln.kp {K : PySem.W.Frag} {S S' : Ft} {H H' : Hp} (s : Sub S S') : ∀ {ls : Ls} {F : Ft}, Ln K S H ls F → Kp S F H H' → Ln K S' H' ls F
  | _, _, .nil, _ => .nil
  | _, _, .cons a b c d e, k => .cons (R.kp s _ (k.sub c) a) (Ln.kp s b (k.sub d)) c d e
def rst : Ls → Env → Env
  | [], env => env
  | (i, _, d) :: ls, env => rst ls (env.set i d)
/-- given back, what follows -/
def RS (ls : Ls) (Q : Env → Prop) : Env → Prop := fun env => (∀ p ∈ ls, dj env[p.1]? = .lent p.2.1) ∧ Q (rst ls env)
@[simp] theorem RS_nil {Q : Env → Prop} {env : Env} : RS [] Q env = Q env := by simp [RS, rst]
theorem ES.fill {K : PySem.W.Frag} {S F G : Ft} {H : Hp} {σ : L2.St} {env : Env} {i : Nat} {a : Addr} {d : D} (es : ES K S H σ env F) (e : dj env[i]? = .lent a) (r : R K S H (.ref a) d G) (dj' : Dj F G) : ES K S H σ (env.set i d) (Or2 F G) := by
  obtain ⟨v, F1, F2, ev, rv, s1, s2, d12, cl, _⟩ := es.slot i (by rw [e]; simp)
  rw [e] at rv
  cases rv
  exact (cl S H G d kp_id Sub.refl r fun x h1 h2 => dj' x (s2 x h2) h1).wide fun x h => h.elim .inr (fun z => .inl (s2 x z))
theorem ES.rst {K : PySem.W.Frag} {S : Ft} {H : Hp} {σ : L2.St} : ∀ {ls : Ls} {env : Env} {F G : Ft}, ES K S H σ env F → Ln K S H ls G → Dj F G → (ls.map (·.1)).Nodup → (∀ p ∈ ls, dj env[p.1]? = .lent p.2.1) → ES K S H σ (Dv.rst ls env) (Or2 F G)
  | [], env, F, G, es, _, _, _, _ => es.wide fun _ h => .inl h
  | (i, a, d) :: ls, env, F, G, es, h, dj', nd, al => by
    cases h with
    | @cons _ _ _ _ _ G1 G2 r rs s1 s2 d12 =>
      rw [List.map_cons, List.nodup_cons] at nd
      have e0 := al (i, a, d) (List.mem_cons_self ..)
      have es1 := es.fill e0 r (dj'.sub Sub.refl s1)
      have := ES.rst es1 rs (fun x h1 h2 => h1.elim (fun z => dj' x z (s2 x h2)) (fun z => d12 x z h2)) nd.2 fun p hp => by
        have ne : i ≠ p.1 := fun z => nd.1 (by rw [z]; exact List.mem_map.mpr ⟨p, hp, rfl⟩)
        rw [dj_set_ne ne]; exact al p (List.mem_cons_of_mem _ hp)
      exact this.wide fun x h => h.elim (fun z => z.elim .inl (fun z => .inr (s1 x z))) (fun z => .inr (s2 x z))
abbrev DTI := Env → (List PD → Ls → Env → Prop) → EK → Prop
def QI (K : PySem.W.Frag) (σ : L2.St) (S F : Ft) (H : Hp) (Q : List PD → Ls → Env → Prop) : It → Hp → Prop := fun J H1 => ∃ S1 F1 G1 xs ls env1, Nx S F H S1 F1 G1 H1 ∧ ES K S1 H1 σ env1 F1 ∧ ItOk K S1 G1 H1 J xs ∧ Ln K S1 H1 ls G1 ∧ (ls.map (·.1)).Nodup ∧ Q xs ls env1
structure DI (X : Cx) (tg iter : Expr) (t : DTI) : Prop where
  run : ∀ (W : WX) (_ : Takes X W) (σ : L2.St) (S F : Ft) (H : Hp) (env : Env) (Q : List PD → Ls → Env → Prop) (E : EK), KH X.K H → WF S F Em H → ES X.K S H σ env F → HX X W (Eq σ) S F H E → t env Q E → wI X tg iter σ H (QI X.K σ S F H Q)
def dFor (ti : DTI) (g : DTG) (tb : DTS) : DTS := fun D env E => ti env (fun xs ls e1 => ∃ W : Nat → Env → Prop, W 0 e1 ∧
  (∀ i x env, xs[i]? = some x → W i env → g (.p x) env fun e2 => tb { nx := W (i + 1), ct := W (i + 1), bk := RS ls D.nx, rt := fun r => RS ls (D.rt r) } e2 (fun C y => RS ls (E C y))) ∧ ∀ env, W xs.length env → RS ls D.nx env) E
/-- the state, what is lent given back -/
theorem give_back {K : PySem.W.Frag} {S F S1 F1 G1 S2 F2 : Ft} {H H1 H2 : Hp} {ls : Ls} {σ : L2.St} {env : Env} (n1 : Nx S F H S1 F1 G1 H1) (ln : Ln K S1 H1 ls G1) (nd : (ls.map (·.1)).Nodup) (n2 : Nx S1 F1 H1 S2 F2 Em H2) (es : ES K S2 H2 σ env F2)
    (al : ∀ p ∈ ls, dj env[p.1]? = .lent p.2.1) : Nx S F H S2 (Or2 F2 G1) Em H2 ∧ ES K S2 H2 σ (rst ls env) (Or2 F2 G1) := by
  have n12 := n1.seq n2
  have ln2 := ln.kp n2.ss (n2.kpG n1.w)
  have d : Dj F2 G1 := fun x h1 h2 => n12.w.fg x h1 (.inl h2)
  exact ⟨n12.give fun x h => h.elim .inl (fun z => .inr (.inl z)), es.rst ln2 d nd al⟩
/-- .. with a temp -/
theorem give_backR {K : PySem.W.Frag} {S F S1 F1 G1 S2 F2 G2 : Ft} {H H1 H2 : Hp} {ls : Ls} {σ : L2.St} {env : Env} (n1 : Nx S F H S1 F1 G1 H1) (ln : Ln K S1 H1 ls G1) (nd : (ls.map (·.1)).Nodup) (n2 : Nx S1 F1 H1 S2 F2 G2 H2) (es : ES K S2 H2 σ env F2)
    (al : ∀ p ∈ ls, dj env[p.1]? = .lent p.2.1) : Nx S F H S2 (Or2 F2 G1) G2 H2 ∧ ES K S2 H2 σ (rst ls env) (Or2 F2 G1) := by
  have n12 := n1.seq n2
  have ln2 := ln.kp n2.ss (n2.kpG n1.w)
  have d : Dj F2 G1 := fun x h1 h2 => n12.w.fg x h1 (.inl h2)
  have d2 : Dj G1 G2 := fun x h1 h2 => by
    rcases n2.gn x h2 with h | h
    · exact n1.w.fg x h h1
    · exact (n1.w.gm x h1).ne h
  exact ⟨⟨n12.keep, n12.ss, n12.sn, fun x h => h.elim (n12.fn x) (fun z => n12.gn x (.inl z)), fun x h => n12.gn x (.inr h),
    ⟨fun x a b => b.elim (n12.w.sf x a) (fun z => n12.w.sg x a (.inl z)), fun x a b => n12.w.sg x a (.inr b), fun x a b => a.elim (fun z => n12.w.fg x z (.inr b)) (fun z => d2 x z b), n12.w.sd, fun x h => h.elim (n12.w.fm x) (fun z => n12.w.gm x (.inl z)), fun x h => n12.w.gm x (.inr h)⟩⟩, es.rst ln2 d nd al⟩
theorem HX.back {W : WX} {P : L2.St → Prop} {S F S1 F1 G1 : Ft} {H H1 : Hp} {E : EK} {ls : Ls} (hx : HX X W P S F H E) (n1 : Nx S F H S1 F1 G1 H1) (ln : Ln X.K S1 H1 ls G1) (nd : (ls.map (·.1)).Nodup) : HX X W P S1 F1 H1 (fun C y => RS ls (E C y)) :=
  fun σ S' F' G' H' C nc d x env' p n2 es xr cn q => by
    obtain ⟨n3, es3⟩ := give_backR n1 ln nd n2 es q.1
    exact hx σ S' _ G' H' C nc d x _ p n3 es3 xr cn q.2
theorem QN.back {S F S1 F1 G1 S2 F2 : Ft} {H H1 H2 : Hp} {ls : Ls} {Q : Env → Prop} {K : PySem.W.Frag} (n1 : Nx S F H S1 F1 G1 H1) (ln : Ln K S1 H1 ls G1) (nd : (ls.map (·.1)).Nodup) (n2 : Nx S1 F1 H1 S2 F2 Em H2) {tv tw : List Nat} {σ0 σ1 : L2.St} (ag : ∀ σ2, Ag tv σ1 σ2 → Ag tw σ0 σ2) {σ : L2.St} {H' : Hp} (h : QN K tv σ1 S2 F2 H2 (RS ls Q) σ H') : QN K tw σ0 S F H Q σ H' := by
  obtain ⟨a, S3, F3, e3, n3, es3, q⟩ := h
  obtain ⟨n4, es4⟩ := give_back n1 ln nd (n2.seq0 n3) es3 q.1
  exact ⟨ag _ a, S3, _, _, n4, es4, q.2⟩
theorem QR.back {S F S1 F1 G1 S2 F2 : Ft} {H H1 H2 : Hp} {ls : Ls} {Q : D → Env → Prop} {K : PySem.W.Frag} (n1 : Nx S F H S1 F1 G1 H1) (ln : Ln K S1 H1 ls G1) (nd : (ls.map (·.1)).Nodup) (n2 : Nx S1 F1 H1 S2 F2 Em H2) {tv tw : List Nat} {σ0 σ1 : L2.St} (ag : ∀ σ2, Ag tv σ1 σ2 → Ag tw σ0 σ2) {v : V} {H' : Hp} (h : QR K tv σ1 S2 F2 H2 (fun r => RS ls (Q r)) v H') : QR K tw σ0 S F H Q v H' := by
  obtain ⟨S3, F3, G3, σ3, d, e3, a, n3, es3, r, q⟩ := h
  obtain ⟨n4, es4⟩ := give_backR n1 ln nd (n2.seq0 n3) es3 q.1
  exact ⟨S3, _, _, σ3, d, _, ag _ a, n4, es4, r, q.2⟩
theorem ds_for {iter : Expr} {body : List Stmt} {ti : DTI} {g : DTG} {tb : DTS} {tv tw : List Nat} (hp : PassesOwn (model X.prog X.w) X.A X.env X.xe) (hc : X.calm = true) (hi : DI X tg iter ti) (hg : DG X tg tv g) (hb : DSs X body tw tb)
    (hs : ∀ x, foldedSetIterable iter X.env x = pure x := by intro _; rfl) : DS X (.For tg iter body [] pos) (tv ++ tw) (dFor ti g tb) := by
  refine ⟨fun W tk σ S F H env D E kh hl w es hx q => toS (ps_for hp hc (wi X tg iter) (wg X tg) (wss X body) hs) ?_⟩
  refine (hi.run W tk σ S F H env _ E kh w es hx.eq q).mono fun J H1 kh1 ⟨S1, F1, G1, xs, ls, e1, n1, es1, ok, ln, nd, q1⟩ => ?_
  obtain ⟨I, i0, turn, dn⟩ := q1
  have hxb := hx.back n1 ln nd
  refine ⟨fun i m σ' H' => m = xs.length - i ∧ i ≤ xs.length ∧ KH X.K H' ∧ σ'.length = X.N.length ∧ Ag (tv ++ tw) σ σ' ∧ ∃ S' F' env', Nx S1 F1 H1 S' F' Em H' ∧ ES X.K S' H' σ' env' F' ∧ I i env', ⟨xs.length, by simp, Nat.zero_le _, kh1, hl, Ag.refl, S1, F1, e1, Nx.refl n1.w, es1, i0⟩, ?_⟩
  rintro i m σ2 H2 ⟨em, hi', kh2, hl2, ag2, S2, F2, e2, n2, es2, i2⟩
  have kpG := n2.kpG n1.w
  obtain ⟨ok1, ok2⟩ := ok H2 kpG i
  cases hxi : xs[i]? with
  | none =>
    have : i = xs.length := by
      have := List.getElem?_eq_none_iff.mp hxi
      omega
    subst this
    exact .inl ⟨ok2 hxi, QN.back (tv := []) n1 ln nd n2 (fun _ a => ag2.same (a.wide (by simp))) ⟨Ag.refl, S2, F2, e2, Nx.refl n2.w, es2, dn e2 i2⟩⟩
  | some x =>
    obtain ⟨go, yl⟩ := ok1 x hxi
    have hlt : i < xs.length := (List.getElem?_eq_some_iff.mp hxi).1
    refine .inr ⟨go, fun σ' H' => KH X.K H' ∧ σ'.length = X.N.length ∧ Ag (tv ++ tw) σ σ' ∧ ∃ S' F' env', Nx S1 F1 H1 S' F' Em H' ∧ ES X.K S' H' σ' env' F' ∧ I (i + 1) env', fun σ' H' ⟨k1, k2, k3⟩ => ⟨xs.length - (i + 1), by omega, rfl, hlt, k1, k2, k3⟩, fun v H3 hy => ?_⟩
    obtain ⟨nw, rp⟩ := yl v H3 hy
    have n3 : Nx S2 F2 H2 S2 F2 Em H3 := nw.nx n2.w
    have es3 : ES X.K S2 H3 σ2 e2 F2 := es2.kp nw.kp Sub.refl
    have rp' : R X.K S2 H3 v (.p x) Em := .p (RP.kp (F := Em) kp_id n2.ss _ rp)
    intro pins s u Iv r
    refine thn (hg.run σ2 S2 F2 Em H3 v (.p x) e2 _ hl2 (kh_of Iv) es3 rp' (fun _ _ z => z.elim) (turn i x e2 hxi i2) pins s u Iv r) fun _ s' ⟨σ4, H4, I4, ⟨eq, _, ag4⟩, e4, F4, es4, sb4, q4⟩ => ⟨σ4, H4, I4, ?_⟩
    subst eq
    have wd : ∀ σ5, Ag tw σ4 σ5 → Ag (tv ++ tw) σ σ5 := fun σ5 a => ag2.same (Ag.trans (show Ag tv σ2 σ4 from ag4) a)
    have n4 : Nx S2 F2 H2 S2 F4 Em H4 := n3.give fun a h => (sb4 a h).elim .inl (fun z => z.elim)
    have n24 := n2.seq0 n4
    refine (hb.run W tk σ4 S2 F4 H4 e4 _ _ (kh_of I4) I4.len n4.w.e es4 ((hxb.on n24).imp wd) q4).mono (fun σ5 H5 k5 l5 h => ?_) (fun _ _ _ q => q.back n1 ln nd n24 wd) (fun _ _ _ _ q => q.back n1 ln nd n24 wd) (fun σ5 H5 k5 l5 h => ?_)
    · obtain ⟨a5, S5, F5, e5, n5, es5, i5⟩ := h
      exact ⟨k5, l5, wd _ a5, S5, F5, e5, n24.seq0 n5, es5, i5⟩
    · obtain ⟨a5, S5, F5, e5, n5, es5, i5⟩ := h
      exact ⟨k5, l5, wd _ a5, S5, F5, e5, n24.seq0 n5, es5, i5⟩
end
end Dv

set_option Elab.async false
set_option linter.all false
set_option maxRecDepth 100000
/-! Dv, part J: what is walked; comprehensions. -/
namespace Dv
open PySem PySem.Spec PyProof.Rows L2
section
variable {X : Cx} {tg e a b : Expr} {t ta tb : DT} {tr : DTA} {pos p : Pos}

/-- a list or a tuple, by what it turns out to be -/
def iSeq (K : PySem.W.Frag) (tl : TE) : TI := fun σ H R => tl σ H fun x H1 => ∃ a, x = .ref a ∧ ((∃ xs, SqL K H1 a xs ∧ R (Itl K a) H1) ∨ (∃ xs, SqT K H1 a xs ∧ R (Itt K a) H1))
theorem pi_seq {l : Expr} {tl : TE} (hl : PE X l tl) : PI X tg l (iSeq X.K tl) := by
  refine ⟨fun pins s σ H R I h => thn (hl.run pins s σ H _ I h) ?_⟩
  rintro v s1 ⟨x, H1, I1, r1, a, rfl, q1⟩
  have r1 : v = .ref a := r1
  subst r1
  have fr : ∀ b ∈ [s1.heap.objs.size], FpOk X pins H1 b := fun b hb => by
    rw [List.mem_singleton] at hb
    rw [hb]
    exact I1.fpOk (Nat.le_refl _) (I1.hok.fresh (Nat.le_refl _))
  rcases q1 with ⟨xs, hq, q⟩ | ⟨xs, hq, q⟩
  · obtain ⟨its, rv, pl, _⟩ := I1.list hq
    refine wpAny_pyIter_list pl.isList ⟨_, [_], _, Itl X.K a, H1, rfl, ?_, turn_list a _, ?_, fr, q⟩
    · exact I1.kept (t' := s1.toks) fun _ _ z => Heap.get?_push_of_some _ z
    · exact ⟨_, Heap.get?_push_size _ rfl, rfl, rfl⟩
  · obtain ⟨its, rv, pl, _⟩ := I1.tuple hq
    refine wpAny_pyIter_tuple (items := its.toArray) pl ⟨_, [_], _, Itt X.K a, H1, rfl, ?_, turn_tuple a _, ?_, fr, q⟩
    · exact I1.kept (t' := s1.toks) fun _ _ z => Heap.get?_push_of_some _ z
    · exact ⟨_, Heap.get?_push_size _ rfl, rfl, rfl⟩
def lentQ (o : Opd) (e1 : Env) (Q : List PD → Ls → Env → Prop) : Prop := match o with
  | .val d => match d.seq with
    | some xs => Q xs [] e1
    | none => False
  | .ref i π => match (e1.at i π).seq with
    | some xs => ∀ a, Q xs [(i, a, dj e1[i]?)] (e1.set i (.lent a))
    | none => False
def diSeq (t : DT) : DTI := fun env Q E => t env (fun o e1 => lentQ o e1 Q) E
theorem SqL.inj {K : PySem.W.Frag} {H : Hp} (kh : KH K H) {a : Addr} {xs ys : List V} (h : SqL K H a xs) (h' : SqL K H a ys) : xs = ys := by
  rcases h with h | ⟨o, its, n, l, _, _, d, _, r⟩
  · rcases h' with h' | ⟨o, its, n, l, _⟩
    · rcases h with h | ⟨o, h⟩ <;> rcases h' with h' | ⟨o', h'⟩ <;> rw [h] at h' <;> cases h' <;> rfl
    · rcases h with h | ⟨_, h⟩ <;> rw [kh a o l] at h <;> cases h
  · rcases h' with h' | ⟨o', its', n', l', _, _, d', _, r'⟩
    · rcases h' with h' | ⟨_, h'⟩ <;> rw [kh a o l] at h' <;> cases h'
    · rw [l] at l'; cases l'
      rw [d] at d'; injection d' with d1 _
      subst d1
      exact r.inj r'
/-- an address of the tuple or list that a value is -/
theorem RPs.at {K : PySem.W.Frag} {S : Ft} {H : Hp} {vs : List V} {xs : List PD} (h : RPs K S H vs xs) {i : Nat} {v : V} (e : vs[i]? = some v) : ∃ x, xs[i]? = some x ∧ RP K S H v x := by
  have hl := RPs.length _ h
  have hi : i < xs.length := by rw [← hl]; exact (List.getElem?_eq_some_iff.mp e).1
  obtain ⟨v', e1, r⟩ := h.get i (List.getElem?_eq_getElem hi)
  rw [e] at e1; cases e1
  exact ⟨xs[i], List.getElem?_eq_getElem hi, r⟩
/-- a datum that is walked: what it leans on -/
theorem ItOk.seq {K : PySem.W.Frag} {S G : Ft} {H : Hp} {a : Addr} {d : D} {xs : List PD} (r : R K S H (.ref a) d G) (e : d.seq = some xs) :
    (∃ us, SqL K H a us ∧ (∀ H', Kp S G H H' → SqL K H' a us) ∧ RPs K S H us xs) ∨ (∃ us, SqT K H a us ∧ (∀ H', Kp S G H H' → SqT K H' a us) ∧ RPs K S H us xs) := by
  cases d with
  | p x =>
    cases r with
    | p h =>
      cases x with
      | tuple ys => have e : some ys = some xs := e; cases e; cases h with | tup a b => exact .inr ⟨_, a, fun H' k => SqT.kp a k, b⟩
      | list ys => have e : some ys = some xs := e; cases e; cases h with | lst a b => exact .inl ⟨_, a.sq, fun H' k => (a.kp k Sub.refl).sq, b⟩
      | _ => cases e
  | lst ds => cases r with | lst a b c d => exact .inl ⟨_, SqL.of a, fun H' k => SqL.of (k _ _ a (.inl b)), d.pys _ e⟩
  | tup ds => cases r with | tup a b => exact .inr ⟨_, a, fun H' k => SqT.kp a k, b.pys _ e⟩
  | _ => cases e
theorem R.isRef {K : PySem.W.Frag} {S F : Ft} {H : Hp} {v : V} {d : D} {xs : List PD} (r : R K S H v d F) (e : d.seq = some xs) : ∃ a, v = .ref a := by
  obtain ⟨a, vs, h, _⟩ := r.seq e
  exact ⟨a, h⟩
end
section
variable {K : PySem.W.Frag} {S G : Ft} {H : Hp} {a : Addr} {us : List V} {xs : List PD}
theorem itl_ok (kp : ∀ H', Kp S G H H' → SqL K H' a us) (rp : RPs K S H us xs) : ItOk K S G H (Itl K a) xs := fun H' k i => by
  have sq := kp H' k
  have rp' : RPs K S H' us xs := RPs.kp (F := Em) (k.sub fun _ z => z.elim) Sub.refl _ rp
  refine ⟨fun x e => ?_, fun e => ⟨us, sq, by rw [RPs.length _ rp]; exact List.getElem?_eq_none_iff.mp e⟩⟩
  obtain ⟨v, ev, r⟩ := rp'.get i e
  refine ⟨⟨us, v, sq, ev⟩, fun v' H'' ⟨e1, y⟩ => ?_⟩
  subst e1
  have := y us sq
  rw [ev] at this; cases this
  exact ⟨Nw.refl, r⟩
theorem itt_ok (kp : ∀ H', Kp S G H H' → SqT K H' a us) (rp : RPs K S H us xs) : ItOk K S G H (Itt K a) xs := fun H' k i => by
  have sq := kp H' k
  have rp' : RPs K S H' us xs := RPs.kp (F := Em) (k.sub fun _ z => z.elim) Sub.refl _ rp
  refine ⟨fun x e => ?_, fun e => ⟨us, sq, by rw [RPs.length _ rp]; exact List.getElem?_eq_none_iff.mp e⟩⟩
  obtain ⟨v, ev, r⟩ := rp'.get i e
  refine ⟨⟨us, v, sq, ev⟩, fun v' H'' ⟨e1, y⟩ => ?_⟩
  subst e1
  have := y us sq
  rw [ev] at this; cases this
  exact ⟨Nw.refl, r⟩
end
/-- what a walked value leans on -/
def SeqF (K : PySem.W.Frag) (S G : Ft) (H : Hp) (v : V) (xs : List PD) : Prop := ∃ a, v = .ref a ∧
  ((∃ us, SqL K H a us ∧ (∀ H', Kp S G H H' → SqL K H' a us) ∧ RPs K S H us xs) ∨ (∃ us, SqT K H a us ∧ (∀ H', Kp S G H H' → SqT K H' a us) ∧ RPs K S H us xs))
theorem SeqF.wide {K : PySem.W.Frag} {S G G' : Ft} {H : Hp} {v : V} {xs : List PD} (h : SeqF K S G H v xs) (s : Sub G G') : SeqF K S G' H v xs := by
  obtain ⟨a, e, h⟩ := h
  refine ⟨a, e, ?_⟩
  rcases h with ⟨us, h1, h2, h3⟩ | ⟨us, h1, h2, h3⟩
  · exact .inl ⟨us, h1, fun H' k => h2 H' (k.sub s), h3⟩
  · exact .inr ⟨us, h1, fun H' k => h2 H' (k.sub s), h3⟩
theorem Ln.append {K : PySem.W.Frag} {S : Ft} {H : Hp} : ∀ {ls ms : Ls} {F G : Ft}, Ln K S H ls F → Ln K S H ms G → Dj F G → Ln K S H (ls ++ ms) (Or2 F G)
  | [], ms, F, G, h, h', _ => by
    cases h' with
    | nil => exact .nil
    | cons a b c d e => exact .cons a b (fun x h => .inr (c x h)) (fun x h => .inr (d x h)) e
  | q :: ls, ms, F, G, h, h', dj' => by
    cases h with
    | @cons i a d ls _ F1 F2 r rs s1 s2 d12 =>
      refine .cons r (Ln.append rs h' (dj'.sub s2 Sub.refl)) (fun x h => .inl (s1 x h)) (fun x h => h.elim (fun z => .inl (s2 x z)) .inr) fun x h1 h2 => ?_
      rcases h2 with h2 | h2
      · exact d12 x h1 h2
      · exact dj' x (s1 x h1) h2
theorem Ln.wide {K : PySem.W.Frag} {S : Ft} {H : Hp} {ls : Ls} {F F' : Ft} (h : Ln K S H ls F) (s : Sub F F') : Ln K S H ls F' := by
  cases h with
  | nil => exact .nil
  | cons a b c d e => exact .cons a b (c.trans s) (d.trans s) e
/-- a walked operand is lent -/
theorem lend {K : PySem.W.Frag} {S F S1 F1 G1 Go : Ft} {H H1 : Hp} {σ : L2.St} {e1 : Env} {v : V} {o : Opd} {Q : List PD → Ls → Env → Prop} (kh : KH K H1) (n : Nx S F H S1 F1 G1 H1) (es : ES K S1 H1 σ e1 F1) (ov : OV K S1 H1 σ v o Go) (q : lentQ o e1 Q) :
    ∃ xs ls e2 F2 G2, Nx S F H S1 F2 (Or2 G1 G2) H1 ∧ ES K S1 H1 σ e2 F2 ∧ Sub F2 F1 ∧ Sub G2 F1 ∧ Ln K S1 H1 ls G2 ∧ (ls.map (·.1)).Nodup ∧ (∀ p ∈ ls, dj e2[p.1]? = .lent p.2.1) ∧ (∀ (j : Nat) (a : Addr), dj e1[j]? = .lent a → dj e2[j]? = .lent a) ∧ (∀ p ∈ ls, ∀ a, dj e1[p.1]? ≠ .lent a) ∧ SeqF K S1 (Or2 Go G2) H1 v xs ∧ Q xs ls e2 := by
  cases o with
  | val d =>
    have q : (match d.seq with
    | some xs => Q xs [] e1
    | none => False) := q
    cases z : d.seq with
    | none => rw [z] at q; exact q.elim
    | some xs =>
      rw [z] at q
      have ov : R K S1 H1 v d Go := ov
      obtain ⟨a, rfl⟩ := ov.isRef z
      exact ⟨xs, [], e1, F1, Em, n.g fun x h => h.elim id (fun z => z.elim), es, Sub.refl, fun _ z => z.elim, .nil, List.nodup_nil, by simp, fun _ _ h => h, by simp, SeqF.wide ⟨a, rfl, ItOk.seq ov z⟩ fun x h => .inl h, q⟩
  | ref i π =>
    have q : (match (e1.at i π).seq with
    | some xs => ∀ a, Q xs [(i, a, dj e1[i]?)] (e1.set i (.lent a))
    | none => False) := q
    cases z : (e1.at i π).seq with
    | none => rw [z] at q; exact q.elim
    | some xs =>
      rw [z] at q
      have ne : e1.at i π ≠ .hole := fun z' => by rw [z'] at z; cases z
      have nh : dj e1[i]? ≠ .hole := fun z' => by
        have e : (dj e1[i]?).at π = e1.at i π := rfl
        rw [z'] at e
        cases π <;> exact ne e.symm
      have nl : ∀ a, dj e1[i]? ≠ .lent a := fun a z' => by
        have e : (dj e1[i]?).at π = e1.at i π := rfl
        rw [z'] at e
        cases π with
        | nil => have e : D.lent a = e1.at i [] := e; rw [← e] at z; cases z
        | cons _ _ => exact ne e.symm
      obtain ⟨v0, Fa, Fb, ev, r0, sa, sb, dab, cl, _⟩ := es.slot i nh
      obtain ⟨u, Fc, Fd, pv, rc, sc, _, _, _⟩ := R.lens π r0 rfl ne
      obtain ⟨v1, ev1, pv1⟩ : PV K S1 H1 σ i π v := ov
      rw [ev] at ev1; cases ev1
      have := PVp.inj kh π pv1 pv
      subst this
      have hr : ∃ a0, v0 = .ref a0 := by
        cases π with
        | nil =>
          have e : v = v0 := pv1
          subst e
          exact R.isRef (show R K S1 H1 v (e1.at i []) Fc from rc) z
        | cons k π =>
          obtain ⟨a, _, _, e, _⟩ := pv1
          exact ⟨a, e⟩
      obtain ⟨a0, rfl⟩ := hr
      have hl := lt_of_dj nh
      have es2 := cl S1 H1 Em (.lent a0) kp_id Sub.refl .lent fun _ z => z.elim
      refine ⟨xs, [(i, a0, dj e1[i]?)], e1.set i (.lent a0), Fb, Fa, ⟨n.keep, n.ss, n.sn, fun x h => n.fn x (sb x h), fun x h => h.elim (n.gn x) (fun z => n.fn x (sa x z)), ⟨fun x h h' => n.w.sf x h (sb x h'), fun x h h' => h'.elim (n.w.sg x h) (fun z => n.w.sf x h (sa x z)), fun x h h' => h'.elim (n.w.fg x (sb x h)) (fun z => dab x z h), n.w.sd, fun x h => n.w.fm x (sb x h), fun x h => h.elim (n.w.gm x) (fun z => n.w.fm x (sa x z))⟩⟩,
        es2.wide fun x h => h.elim (fun z => z.elim) id, sb, sa, .cons (F1 := Fa) (F2 := Em) r0 .nil Sub.refl (fun _ z => z.elim) (fun _ _ z => z), by simp, ?_, ?_, ?_, ?_, q a0⟩
      · intro p hp
        rw [List.mem_singleton] at hp
        subst hp
        exact dj_set_eq hl
      · intro j a h
        by_cases hj : i = j
        · subst hj; exact absurd h (nl a)
        · rw [dj_set_ne hj]; exact h
      · intro p hp a
        rw [List.mem_singleton] at hp
        subst hp
        exact nl a
      · obtain ⟨a, rfl⟩ := rc.isRef z
        exact SeqF.wide ⟨a, rfl, ItOk.seq rc z⟩ fun x h => .inr (sc x h)
section
variable {X : Cx} {tg e a b : Expr} {t ta tb : DT} {tr : DTA} {pos p : Pos} {es : List Expr}
theorem di_seq (h : DO X e t) : DI X tg e (diSeq t) := by
  refine ⟨fun W tk σ S F H env Q E kh w hs hx q => toI (pi_seq (we X e)) ?_⟩
  refine (h.run W tk σ S F H env _ E kh w hs hx q).mono fun v H1 kh1 ⟨S1, F1, G1, o, e1, n1, es1, ov, q1⟩ => ?_
  obtain ⟨xs, ls, e2, F2, G2, n2, es2, _, _, ln, nd, _, _, _, ⟨a, ea, sf⟩, q2⟩ := lend kh1 n1 es1 ov q1
  refine ⟨a, ea, ?_⟩
  have lw := ln.wide (F' := Or2 G1 G2) fun x h => .inr h
  rcases sf with ⟨us, h1, h2, h3⟩ | ⟨us, h1, h2, h3⟩
  · exact .inl ⟨us, h1, S1, F2, Or2 G1 G2, xs, ls, e2, n2, es2, itl_ok h2 h3, lw, nd, q2⟩
  · exact .inr ⟨us, h1, S1, F2, Or2 G1 G2, xs, ls, e2, n2, es2, itt_ok h2 h3, lw, nd, q2⟩
def rangeP (lo : Int) (n : Nat) : List PD := (List.range n).map fun (k : Nat) => PyData.int (lo + k)
def oneI (os : List Opd) (Q : Int → Prop) : Prop := match os with
  | [.val (.p (.int j))] => Q j
  | _ => False
def twoI (os : List Opd) (Q : Int → Int → Prop) : Prop := match os with
  | [.val (.p (.int i)), .val (.p (.int j))] => Q i j
  | _ => False
def oneS (o : Opd) (Q : Str → Prop) : Prop := match o with
  | .val (.p (.str x)) => Q x
  | _ => False
def diRange (ta : DTA) : DTI := fun env Q E => ta env (fun os e1 => oneI os fun j => (-(2 ^ 62) ≤ j ∧ j < 2 ^ 62) ∧ Q (rangeP 0 j.toNat) [] e1) E
theorem rangeP_get {lo : Int} {n i : Nat} : (rangeP lo n)[i]? = if i < n then some (.int (lo + i)) else none := by
  unfold rangeP
  rw [List.getElem?_map]
  by_cases h : i < n
  · rw [List.getElem?_range h, if_pos h]; rfl
  · rw [if_neg h, List.getElem?_eq_none (by simp; omega)]; rfl
theorem itr_ok {K : PySem.W.Frag} {S G : Ft} {H : Hp} {lo : Int} {n : Nat} : ItOk K S G H (Itr lo n) (rangeP lo n) := fun H' k i => by
  rw [rangeP_get]
  refine ⟨fun x e => ?_, fun e => ?_⟩
  · split at e
    · rename_i hi
      cases e
      refine ⟨hi, fun v H'' ⟨e1, e2⟩ => ?_⟩
      subst e1; subst e2
      exact ⟨Nw.refl, .int _⟩
    · cases e
  · split at e
    · cases e
    · rename_i hi
      show n ≤ i
      omega
theorem ovs_one_int {K : PySem.W.Frag} {S G : Ft} {H : Hp} {σ : L2.St} {vs : List V} {j : Int} (h : OVs K S H σ vs [.val (.p (.int j))] G) : vs = [.int j] := by
  cases h with
  | cons a b c d e =>
    cases b
    have a : R K S H _ (.p (.int j)) _ := a
    cases a with | p a => cases a; rfl
theorem di_range (hg : Gl X "range") (hm : X.mg "range" = none) (ha : DA X [a] tr) (hs : starEach [a] X.env = [(false, eval a X.env)] := by rfl) : DI X tg (.Call (.Name "range" p) [a] [] pos) (diRange tr) := by
  refine ⟨fun W tk σ S F H env Q E kh w hs' hx q => toI (pi_range1 hg hm (wa X [a]) hs) ?_⟩
  refine (ha.run W tk σ S F H env _ E kh w hs' hx q).mono fun vs H1 kh1 ⟨S1, F1, G1, os, e1, n1, es1, ovs, q1⟩ => ?_
  replace q1 : oneI os _ := q1
  unfold oneI at q1
  split at q1
  · rename_i j
    rw [ovs_one_int ovs]
    exact ⟨j, rfl, q1.1.1, q1.1.2, S1, F1, G1, _, [], e1, n1, es1, itr_ok, .nil, List.nodup_nil, q1.2⟩
  · exact q1.elim
def diRange2 (ta : DTA) : DTI := fun env Q E => ta env (fun os e1 => twoI os fun i j => (-(2 ^ 62) ≤ i ∧ i < 2 ^ 62 ∧ -(2 ^ 62) ≤ j ∧ j < 2 ^ 62) ∧ Q (rangeP i (j - i).toNat) [] e1) E
theorem di_range2 (hg : Gl X "range") (hm : X.mg "range" = none) (ha : DA X [a, b] tr) (hs : starEach [a, b] X.env = [(false, eval a X.env), (false, eval b X.env)] := by rfl) (hs2 : starEach [b] X.env = [(false, eval b X.env)] := by rfl) : DI X tg (.Call (.Name "range" p) [a, b] [] pos) (diRange2 tr) := by
  refine ⟨fun W tk σ S F H env Q E kh w hs' hx q => toI (pi_range2 hg hm (wa X [a, b]) hs hs2) ?_⟩
  refine (ha.run W tk σ S F H env _ E kh w hs' hx q).mono fun vs H1 kh1 ⟨S1, F1, G1, os, e1, n1, es1, ovs, q1⟩ => ?_
  replace q1 : twoI os _ := q1
  unfold twoI at q1
  split at q1
  · rename_i i j
    cases ovs with
    | cons a1 b1 c1 d1 e2 =>
      have a1 : R X.K S1 H1 _ (.p (.int i)) _ := a1
      cases a1 with
      | p a1 =>
        cases a1
        rw [ovs_one_int b1]
        exact ⟨i, j, rfl, q1.1, S1, F1, G1, _, [], e1, n1, es1, itr_ok, .nil, List.nodup_nil, q1.2⟩
  · exact q1.elim
def signsP (x : Str) : List PD := x.cps.toList.map fun c => PyData.str ⟨#[c]⟩
def diStr (t : DT) : DTI := fun env Q E => t env (fun o e1 => oneS o fun x => Q (signsP x) [] e1) E
theorem its_ok {K : PySem.W.Frag} {S G : Ft} {H : Hp} {x : Str} : ItOk K S G H (Its x) (signsP x) := fun H' k i => by
  have e : (signsP x)[i]? = x.cps[i]?.map fun c => PyData.str ⟨#[c]⟩ := by
    unfold signsP
    rw [List.getElem?_map, Array.getElem?_toList]
  rw [e]
  refine ⟨fun y e => ?_, fun e => ?_⟩
  · cases z : x.cps[i]? with
    | none => rw [z] at e; cases e
    | some c =>
      rw [z] at e; cases e
      refine ⟨(Array.getElem?_eq_some_iff.mp z).1, fun v H'' ⟨e1, c', e2, e3⟩ => ?_⟩
      rw [z] at e2; cases e2
      subst e1; subst e3
      exact ⟨Nw.refl, .str _⟩
  · cases z : x.cps[i]? with
    | none => exact Array.getElem?_eq_none_iff.mp z
    | some c => rw [z] at e; cases e
theorem di_str (h : DO X e t) : DI X tg e (diStr t) := by
  refine ⟨fun W tk σ S F H env Q E kh w hs hx q => toI (pi_str (we X e)) ?_⟩
  refine (h.run W tk σ S F H env _ E kh w hs hx q).mono fun v H1 kh1 ⟨S1, F1, G1, o, e1, n1, es1, ov, q1⟩ => ?_
  replace q1 : oneS o _ := q1
  unfold oneS at q1
  split at q1
  · rename_i x
    have ov : R X.K S1 H1 v (.p (.str x)) G1 := ov
    cases ov with | p ov => cases ov; exact ⟨x, rfl, S1, F1, G1, _, [], e1, n1, es1, its_ok, .nil, List.nodup_nil, q1⟩
  · exact q1.elim
/-! enumerate, zip -/
def enumP (xs : List PD) : List PD := xs.zipIdx.map fun p => PyData.tuple [.int p.2, p.1]
def zipP (xs ys : List PD) : List PD := (xs.zip ys).map fun p => PyData.tuple [p.1, p.2]
end
end Dv

set_option Elab.async false
set_option linter.all false
set_option maxRecDepth 100000
/-! Dv, part K: list comprehensions. -/
namespace Dv
open PySem PySem.Spec PyProof.Rows L2

def wip : List Nat → Env → Env
  | [], e => e
  | v :: vs, e => (wip vs e).set v .hole
theorem wip_in {e : Env} {j : Nat} : ∀ {vs : List Nat}, j ∈ vs → dj (wip vs e)[j]? = .hole
  | v :: vs, h => by
    show dj ((wip vs e).set v .hole)[j]? = _
    by_cases hj : v = j
    · subst hj
      by_cases hl : v < (wip vs e).length
      · exact dj_set_eq hl
      · rw [List.getElem?_eq_none (by simpa using hl)]; rfl
    · rw [dj_set_ne hj]
      rcases List.mem_cons.mp h with h | h
      · exact absurd h.symm hj
      · exact wip_in h
theorem wip_out {e : Env} {j : Nat} : ∀ {vs : List Nat}, j ∉ vs → dj (wip vs e)[j]? = dj e[j]?
  | [], _ => rfl
  | v :: vs, h => by
    show dj ((wip vs e).set v .hole)[j]? = _
    rw [dj_set_ne (fun z => h (by rw [z]; exact List.mem_cons_self))]
    exact wip_out fun z => h (List.mem_cons_of_mem _ z)
theorem wipe_eq {σ σ' : L2.St} {vs : List Nat} (hl : σ'.length = σ.length) (h : ∀ j, j ∉ vs → σ'[j]? = σ[j]?) : wipe σ' vs = wipe σ vs := by
  apply List.ext_getElem?
  intro j
  by_cases hj : j ∈ vs
  · have go : ∀ (τ τ' : L2.St) (us : List Nat), τ.length = τ'.length → j ∈ us → (wipe τ us)[j]? = (wipe τ' us)[j]? := by
      intro τ τ' us
      induction us with
      | nil => intro _ h; cases h
      | cons v us ih =>
        intro hl h
        show ((wipe τ us).set v none)[j]? = ((wipe τ' us).set v none)[j]?
        by_cases hv : v = j
        · subst hv
          by_cases hlt : v < τ.length
          · rw [List.getElem?_set_self (by rw [wipe_length]; exact hlt), List.getElem?_set_self (by rw [wipe_length, ← hl]; exact hlt)]
          · rw [List.getElem?_eq_none (by simp [wipe_length]; omega), List.getElem?_eq_none (by simp [wipe_length]; omega)]
        · rw [List.getElem?_set_ne hv, List.getElem?_set_ne hv]
          rcases List.mem_cons.mp h with h | h
          · exact absurd h.symm hv
          · exact ih hl h
    exact go _ _ vs hl hj
  · rw [wipe_out hj, wipe_out hj]; exact h j hj
section
variable {K : PySem.W.Frag} {S F S1 F1 G : Ft} {H H1 : Hp}
theorem ES.wip {σ : L2.St} {env : Env} (h : ES K S H σ env F) (vs : List Nat) {σ' : L2.St} (e : ∀ j, j ∉ vs → σ'[j]? = σ[j]?) : ES K S H σ' (Dv.wip vs env) F := h.weak fun j => by
  by_cases hj : j ∈ vs
  · exact .inl (wip_in hj)
  · exact .inr ⟨wip_out hj, by rw [e j hj]⟩
theorem wipe_none {σ : L2.St} {vs : List Nat} {j : Nat} (h : j ∈ vs) : oj (wipe σ vs)[j]? = none := by
  cases e : (wipe σ vs)[j]? with
  | none => rfl
  | some o =>
    cases o with
    | none => rfl
    | some v => exact absurd h (wipe_some e).2
theorem ES.unwipe {σ : L2.St} {env : Env} {vs : List Nat} (h : ES K S H (wipe σ vs) env F) : ES K S H σ env F := by
  obtain ⟨Fs, a, b, c⟩ := id h
  refine h.weak fun j => ?_
  by_cases hj : j ∈ vs
  · rcases a j with e | ⟨v, e, _⟩
    · exact .inl e
    · rw [wipe_none hj] at e; cases e
  · exact .inr ⟨rfl, by rw [wipe_out hj]⟩
/-- a temp is changed -/
theorem Nx.mutG (n : Nx S F H S1 F1 G H1) {p : Addr} {o : HO} (hp : G p) (m : MuO (some o)) : Nx S F H S1 F1 G (upd H1 p o) where
  keep := fun a u e f => by
    have ne : a ≠ p := fun z => by
      subst z
      rcases n.gn a hp with h | h
      · exact f h
      · rw [h] at e; cases e
    rw [upd_ne ne]; exact n.keep a u e f
  ss := n.ss
  sn := n.sn
  fn := n.fn
  gn := n.gn
  w := by
    refine ⟨n.w.sf, n.w.sg, n.w.fg, fun a h => ?_, fun a h => ?_, fun a h => ?_⟩
    · rw [upd_ne (fun z => n.w.sg a h (by rw [z]; exact hp))]; exact n.w.sd a h
    · rw [upd_ne (fun z => n.w.fg a h (by rw [z]; exact hp))]; exact n.w.fm a h
    · by_cases z : a = p
      · subst z; rw [upd_same]; exact m
      · rw [upd_ne z]; exact n.w.gm a h
theorem Rs.snoc : ∀ {us : List V} {ds : List D} {y : V} {d : D} {G G6 : Ft}, Rs K S H us ds G → R K S H y d G6 → Dj G G6 → Rs K S H (us ++ [y]) (ds ++ [d]) (Or2 G G6)
  | _, [], y, d, G, G6, h, r, dj => by
    cases h
    exact .cons (F1 := G6) (F2 := Em) r .nil (fun _ h => .inr h) (fun _ z => z.elim) (fun _ _ z => z)
  | _, d0 :: ds, y, d, G, G6, h, r, dj => by
    cases h with
    | cons a b c f g =>
      exact .cons a (Rs.snoc b r (dj.sub f Sub.refl)) (fun x h => .inl (c x h)) (fun x h => h.elim (fun z => .inl (f x z)) .inr) fun x h1 h2 => h2.elim (g x h1) (fun z => dj x (c x h1) z)
end
/-- no exception leaves -/
abbrev EF : EK := fun _ _ _ => False
def W0 : WX := fun _ _ _ _ => False
theorem hx0 {X : Cx} {P : L2.St → Prop} {S F : Ft} {H : Hp} : HX X W0 P S F H EF := fun _ _ _ _ _ _ _ _ _ _ _ _ _ _ _ q => q
def wTs (X : Cx) (ifs : List Expr) : TT := fun σ H Q => ∀ (pins : List (Addr × Obj)) (s : Shared), Inv X pins σ H s →
    wpAny (model X.prog X.w) X.A (forIn ifs true fun c r => if r = true then do let ok ← isTrue c X.env (eval c X.env); pure (ForInStep.yield ok) else pure (ForInStep.yield r)) (TP X pins σ Q) X.xe s
structure DTs (X : Cx) (ifs : List Expr) (t : DTB) : Prop where
  run : ∀ (W : WX) (_ : Takes X W) (σ : L2.St) (S F : Ft) (H : Hp) (env : Env) (Q : Bool → Env → Prop) (E : EK), KH X.K H → WF S F Em H → ES X.K S H σ env F → HX X W (Eq σ) S F H E → t env Q E → wTs X ifs σ H (QB X.K σ S F H Q)
theorem wTs.mono {X : Cx} {ifs : List Expr} {σ : L2.St} {H : Hp} {Q Q' : Bool → Hp → Prop} (h : wTs X ifs σ H Q) (m : ∀ b H', KH X.K H' → Q b H' → Q' b H') : wTs X ifs σ H Q' := fun pins s I => thn (h pins s I) fun b s' ⟨H', I', q⟩ => ⟨H', I', m b H' (kh_of I') q⟩
section
variable {X : Cx} {c : Expr} {t : DTB}
def dYes : DTB := fun env Q _ => Q true env
theorem dts_nil : DTs X [] dYes := ⟨fun W tk σ S F H env Q E kh w es hx q => fun pins s I => pts_nil.run pins s σ H _ I ⟨S, F, env, Nx.refl w, es, q⟩⟩
theorem dts_one (h : DB X c t) : DTs X [c] t := ⟨fun W tk σ S F H env Q E kh w es hx q => fun pins s I => (pts_one (wt X c)).run pins s σ H _ I (h.run W tk σ S F H env Q E kh w es hx q)⟩
end
section
variable {K : PySem.W.Frag} {S F : Ft} {H : Hp} {σ : L2.St}
theorem ES.setD {G : Ft} {env : Env} {i : Nat} {v : V} {d : D} (h : ES K S H σ env F) (e : oj σ[i]? = some v) (r : R K S H v d G) (dj' : Dj G F) (he : i < env.length) : ES K S H σ (env.set i d) (Or2 G F) := by
  obtain ⟨Fs, a, b, c⟩ := h
  refine ES.core (Fs := Fs) i (fun j hj => ?_) ?_ (fun j k h _ _ => b j k h) (fun j hj x h1 h2 => dj' x h1 (c j x h2)) (fun j hj => c j)
  · rw [dj_set_ne (Ne.symm hj)]
    exact a j
  · rw [dj_set_eq he]
    exact .inr ⟨v, e, r⟩
end
/-- the comprehension's own slots as they were, where plain -/
def rsP : List Nat → Env → Env → Env
  | [], _, e => e
  | v :: vs, e0, e => match dj e0[v]? with
    | .p x => (rsP vs e0 e).set v (.p x)
    | _ => rsP vs e0 e
theorem ES.rsP {K : PySem.W.Frag} {S F : Ft} {H : Hp} {σ : L2.St} {e0 : Env} : ∀ {vs : List Nat} {e : Env}, ES K S H σ e F → (∀ j x, j ∈ vs → dj e0[j]? = .p x → ∃ v, oj σ[j]? = some v ∧ RP K S H v x) → ES K S H σ (Dv.rsP vs e0 e) F
  | [], e, h, _ => h
  | v :: vs, e, h, k => by
    have ih := ES.rsP (vs := vs) h fun j x hj => k j x (List.mem_cons_of_mem _ hj)
    unfold Dv.rsP
    split
    · rename_i x hx
      obtain ⟨u, eu, r⟩ := k v x List.mem_cons_self hx
      by_cases hl : v < (Dv.rsP vs e0 e).length
      · exact (ih.setD (G := Em) eu (.p r) (fun _ z => z.elim) hl).wide fun x h => h.elim (fun z => z.elim) _root_.id
      · rw [List.set_eq_of_length_le (by omega)]; exact ih
    · exact ih
def dLc (ti : DTI) (g : DTG) (tt : DTB) (te : DT) (vs : List Nat) : DT := fun env Q E => ti env (fun xs ls e1 => xs.length ≤ 1000000 ∧ ∃ W : Nat → List D → Env → Prop, W 0 [] (wip vs e1) ∧
  (∀ i x acc env, xs[i]? = some x → W i acc env → g (.p x) env fun e2 => tt e2 (fun b e3 => if b = true then te e3 (fun o e4 => match o with
    | .val d => W (i + 1) (acc ++ [d]) (wip vs e4)
    | .ref _ _ => False) EF else W (i + 1) acc (wip vs e3)) EF) ∧
  ∀ acc env, W xs.length acc env → RS ls (fun e => Q (.val (.lst acc)) (rsP vs e1 e)) env) E
abbrev Cx.bk (X : Cx) (scope : Scope) (s : Shared) (H : Hp) (C : Addr) (cl : List (Str × Addr)) (fp : List Addr) : Cx := X.blk s H scope (compEnvC scope cl C X.env) fp
def gBk (X : Cx) (scope : Scope) (tg : Expr) : TG := fun v σ H Q => ∀ s0 H0 C cl fp, wG (Cx.bk X scope s0 H0 C cl fp) tg v σ H Q
def tBk (X : Cx) (scope : Scope) (ifs : List Expr) : TT := fun σ H Q => ∀ s0 H0 C cl fp, wTs (Cx.bk X scope s0 H0 C cl fp) ifs σ H Q
def eBk (X : Cx) (scope : Scope) (elt : Expr) : TE := fun σ H Q => ∀ s0 H0 C cl fp, wE (Cx.bk X scope s0 H0 C cl fp) elt σ H Q
theorem pg_bk {X : Cx} {scope : Scope} {tg : Expr} (s : Shared) (H : Hp) (C : Addr) (cl : List (Str × Addr)) (fp : List Addr) : PG (Cx.bk X scope s H C cl fp) tg (gBk X scope tg) := ⟨fun pins s' σ H' v u Q I r h => h s H C cl fp pins s' u I r⟩
theorem pt_bk {X : Cx} {scope : Scope} {ifs : List Expr} (s : Shared) (H : Hp) (C : Addr) (cl : List (Str × Addr)) (fp : List Addr) : PTs (Cx.bk X scope s H C cl fp) ifs (tBk X scope ifs) := ⟨fun pins s' σ H' Q I h => h s H C cl fp pins s' I⟩
theorem pe_bk {X : Cx} {scope : Scope} {elt : Expr} (s : Shared) (H : Hp) (C : Addr) (cl : List (Str × Addr)) (fp : List Addr) : PE (Cx.bk X scope s H C cl fp) elt (eBk X scope elt) := ⟨fun pins s' σ H' Q I h => h s H C cl fp pins s' I⟩
section
variable {X : Cx} {elt tg iter : Expr} {ifs : List Expr} {scope : Scope} {own : List (Str × Nat)} {ti : DTI} {g : DTG} {tt : DTB} {te : DT} {tv : List Nat}
theorem lc_go (hi : DI X tg iter ti)
    (hg : ∀ (s : Shared) (H : Hp) (C : Addr) (cl : List (Str × Addr)) (fp : List Addr), DG (Cx.bk X scope s H C cl fp) tg tv g) (ht : ∀ (s : Shared) (H : Hp) (C : Addr) (cl : List (Str × Addr)) (fp : List Addr), DTs (Cx.bk X scope s H C cl fp) ifs tt)
    (he : ∀ (s : Shared) (H : Hp) (C : Addr) (cl : List (Str × Addr)) (fp : List Addr), DO (Cx.bk X scope s H C cl fp) elt te) (hv : ∀ j ∈ tv, j ∈ own.map (·.2))
    {W : WX} (tk : Takes X W) {σ : L2.St} {S F : Ft} {H : Hp} {env : Env} {Q : Opd → Env → Prop} {E : EK} (kh : KH X.K H) (w : WF S F Em H) (es : ES X.K S H σ env F) (hx : HX X W (Eq σ) S F H E) (q : dLc ti g tt te (own.map (·.2)) env Q E) :
    tLc (wI X tg iter) (gBk X scope tg) (tBk X scope ifs) (eBk X scope elt) (own.map (·.2)) σ H (QO X.K σ S F H Q) := by
  generalize own.map (·.2) = vs at hv q ⊢
  refine (hi.run W tk σ S F H env _ E kh w es hx q).mono fun J H1 kh1 ⟨S1, F1, G1, xs, ls, e1, n1, es1, ok, ln, nd, hlen, I, i0, turn, dn⟩ => ?_
  intro A hA
  have n0 : Nx S1 F1 H1 S1 F1 (fun a => a = A) (upd H1 A (.lst [])) := Nx.new n1.w hA trivial
  refine ⟨fun i m H' => m = xs.length - i ∧ i ≤ xs.length ∧ ∃ S' F' GD acc env', Nx S1 F1 H1 S' F' GD H' ∧ R X.K S' H' (.ref A) (.lst acc) GD ∧ ES X.K S' H' (wipe σ vs) env' F' ∧ acc.length ≤ i ∧ I i acc env',
    ⟨xs.length, by simp, Nat.zero_le _, S1, F1, _, [], wip vs e1, n0, .lst (F' := Em) upd_same rfl (fun _ z => z.elim) .nil, (es1.kp (kp_new hA) Sub.refl).wip vs fun j hj => wipe_out hj, Nat.le_refl _, i0⟩, ?_⟩
  rintro i m H2 ⟨em, hi', S2, F2, GD, acc, e2, n2, rA, es2, hacc, i2⟩
  have kpG := n2.kpG n1.w
  obtain ⟨ok1, ok2⟩ := ok H2 kpG i
  cases hxi : xs[i]? with
  | none =>
    have : i = xs.length := by
      have := List.getElem?_eq_none_iff.mp hxi
      omega
    subst this
    have q := dn acc e2 i2
    obtain ⟨n3, es3⟩ := give_backR n1 ln nd n2 es2.unwipe q.1
    have es4 := es3.rsP (e0 := e1) (vs := vs) fun j x hj ex => by
      obtain ⟨Fs, a, _, _⟩ := id es1
      rcases a j with z | ⟨u, eu, r⟩
      · rw [z] at ex; cases ex
      · rw [ex] at r
        cases r with
        | p r => exact ⟨u, eu, RP.kp (n2.kpS n1.w) n2.ss _ r⟩
    exact .inl ⟨ok2 hxi, S2, _, GD, .val (.lst acc), _, n3, es4, rA, q.2⟩
  | some x =>
    obtain ⟨go, yl⟩ := ok1 x hxi
    have hlt : i < xs.length := (List.getElem?_eq_some_iff.mp hxi).1
    refine .inr ⟨go, fun H' => ∃ S' F' GD acc env', Nx S1 F1 H1 S' F' GD H' ∧ R X.K S' H' (.ref A) (.lst acc) GD ∧ ES X.K S' H' (wipe σ vs) env' F' ∧ acc.length ≤ i + 1 ∧ I (i + 1) acc env', fun H' h => ⟨xs.length - (i + 1), by omega, rfl, hlt, h⟩, fun v H3 hy => ?_⟩
    obtain ⟨nw, rp⟩ := yl v H3 hy
    have n3 : Nx S2 F2 H2 S2 F2 Em H3 := nw.nx n2.w
    have n23 : Nx S1 F1 H1 S2 F2 GD H3 := (n2.seq n3).g fun a h => .inl h
    have rA3 := R.kp (F := GD) n3.ss _ (n3.kpG n2.w) rA
    have es3 : ES X.K S2 H3 (wipe σ vs) e2 F2 := es2.kp nw.kp Sub.refl
    have rp' : R X.K S2 H3 v (.p x) Em := .p (RP.kp (F := Em) kp_id n2.ss _ rp)
    intro s0 H0 C cl fp pins s u Iv r
    refine thn ((hg s0 H0 C cl fp).run (wipe σ vs) S2 F2 Em H3 v (.p x) e2 _ Iv.len (kh_of Iv) es3 rp' (fun _ _ z => z.elim) (turn i x acc e2 hxi i2) pins s u Iv r) fun _ s' ⟨σ4, H4, I4, ⟨eq, l4, a4⟩, e4, F4, es4, sb4, q4⟩ => ⟨σ4, H4, I4, ?_⟩
    subst eq
    have a4' : ∀ j, j ∉ vs → σ4[j]? = σ[j]? := fun j hj => (a4 j fun z => hj (hv j z)).trans (wipe_out hj)
    have l4' : σ4.length = σ.length := l4.trans (wipe_length σ vs)
    have wq := wipe_eq l4' a4'
    refine ⟨wq, ?_⟩
    have n4 : Nx S1 F1 H1 S2 F4 GD H4 := ⟨n23.keep, n23.ss, n23.sn, fun a h => (sb4 a h).elim (n23.fn a) (fun z => z.elim), n23.gn, ⟨fun a h h' => (sb4 a h').elim (n23.w.sf a h) (fun z => z.elim), n23.w.sg, fun a h h' => (sb4 a h).elim (fun z => n23.w.fg a z h') (fun z => z.elim), n23.w.sd, fun a h => (sb4 a h).elim (n23.w.fm a) (fun z => z.elim), n23.w.gm⟩⟩
    have kh4 : KH X.K H4 := kh_of (X := Cx.bk X scope s0 H0 C cl fp) I4
    intro s0 H0 C cl fp
    refine ((ht s0 H0 C cl fp).run W0 takes0 σ4 S2 F4 H4 e4 _ EF kh4 n4.w.e es4 hx0 q4).mono fun b H5 kh5 ⟨S5, F5, e5, n5, es5, q5⟩ => ?_
    have n15 : Nx S1 F1 H1 S5 F5 GD H5 := (n4.seq n5).g fun a h => .inl h
    have rA5 := R.kp (F := GD) n5.ss _ (n5.kpG n4.w) rA3
    have back : ∀ {S' F' : Ft} {H' : Hp} {e : Env}, ES X.K S' H' σ4 e F' → ES X.K S' H' (wipe σ vs) (wip vs e) F' := fun h => h.wip vs fun j hj => by rw [a4' j hj, wipe_out hj]
    cases b with
    | false =>
      rw [if_neg Bool.false_ne_true]
      exact ⟨S5, F5, GD, acc, _, n15, rA5, back es5, Nat.le_succ_of_le hacc, iff_ff q5⟩
    | true =>
      rw [if_pos rfl]
      intro s0 H0 C cl fp
      refine ((he s0 H0 C cl fp).run W0 takes0 σ4 S5 F5 H5 e5 _ EF kh5 n5.w.e es5 hx0 (iff_tt q5)).mono fun y H6 kh6 ⟨S6, F6, G6, o, e6, n6, es6, ov, q6⟩ => ?_
      cases o with
      | ref _ _ => exact q6.elim
      | val d =>
        have n16 := n15.seq n6
        have rA6 := R.kp (F := GD) n6.ss _ (n6.kpG n15.w) rA5
        have d6 : Dj GD G6 := fun a h1 h2 => by
          rcases n6.gn a h2 with h | h
          · exact n15.w.fg a h h1
          · exact (n15.w.gm a h1).ne h
        have ov : R X.K S6 H6 y d G6 := ov
        cases rA6 with
        | @lst _ us _ _ GA h1 h2 h3 h4 =>
          have n17 := n16.mutG (p := A) (o := .lst (us ++ [y])) (.inl h2) trivial
          have neq : ∀ a : Addr, GA a ∨ S6 a ∨ G6 a → a ≠ A := fun a h => by
            rcases h with h | h | h
            · exact (h3 a h).2
            · exact fun z => n16.w.sg a h (.inl (by rw [z]; exact h2))
            · exact fun z => d6 a (by rw [z]; exact h2) h
          have nmu : ∀ a u, H6 a = some u → ¬ MuO (some u) → a ≠ A := fun a u e m z => by
            subst z; rw [h1] at e; cases e; exact m trivial
          have k1 : Kp S6 GA H6 (upd H6 A (.lst (us ++ [y]))) := fun a u e c => by
            rw [upd_ne (by
              rcases c with c | c | c
              · exact neq a (.inl c)
              · exact neq a (.inr (.inl c))
              · exact nmu a u e c)]
            exact e
          have k2 : Kp S6 G6 H6 (upd H6 A (.lst (us ++ [y]))) := fun a u e c => by
            rw [upd_ne (by
              rcases c with c | c | c
              · exact neq a (.inr (.inr c))
              · exact neq a (.inr (.inl c))
              · exact nmu a u e c)]
            exact e
          have k3 : Kp S6 F6 H6 (upd H6 A (.lst (us ++ [y]))) := fun a u e c => by
            rw [upd_ne (by
              rcases c with c | c | c
              · exact fun z => n16.w.fg a c (.inl (by rw [z]; exact h2))
              · exact neq a (.inr (.inl c))
              · exact nmu a u e c)]
            exact e
          have hl := Rs.length _ h4
          refine ⟨us, h1, ?_, S6, F6, Or2 GD G6, acc ++ [d], wip vs e6, n17, .lst (F' := Or2 GA G6) upd_same (.inl h2) ?_ ((Rs.kp Sub.refl _ k1 h4).snoc (R.kp Sub.refl _ k2 ov) fun a z1 z2 => d6 a (h3 a z1).1 z2), back (es6.kp k3 Sub.refl), by simp; omega, q6⟩
          · rw [hl]
            have : (1000000 : Nat) < sizeLine := by rw [sizeLine_eq]; decide
            omega
          · intro a z
            rcases z with z | z
            · exact ⟨.inl (h3 a z).1, (h3 a z).2⟩
            · exact ⟨.inr z, neq a (.inr (.inr z))⟩
theorem tLc_mono {X : Cx} {tg iter : Expr} {g : TG} {tt : TT} {te : TE} {vs : List Nat} {σ : L2.St} {H : Hp} {Q Q' : VK} (h : tLc (wI X tg iter) g tt te vs σ H Q) (m : ∀ v H', Q v H' → Q' v H') : tLc (wI X tg iter) g tt te vs σ H Q' :=
  wI.mono h fun J H1 _ h A hA => by
    obtain ⟨W, h0, h1⟩ := h A hA
    exact ⟨W, h0, fun i k H2 w => (h1 i k H2 w).imp (fun ⟨a, b⟩ => ⟨a, m _ _ b⟩) _root_.id⟩
variable {pos : Pos}
theorem do_lc (hc : X.calm = true) (hN : X.N.Nodup) (hi : DI X tg iter ti) (ok : BlkOk X.N X.env.scope scope own)
    (hg : ∀ (s : Shared) (H : Hp) (C : Addr) (cl : List (Str × Addr)) (fp : List Addr), DG (Cx.bk X scope s H C cl fp) tg tv g) (ht : ∀ (s : Shared) (H : Hp) (C : Addr) (cl : List (Str × Addr)) (fp : List Addr), DTs (Cx.bk X scope s H C cl fp) ifs tt)
    (he : ∀ (s : Shared) (H : Hp) (C : Addr) (cl : List (Str × Addr)) (fp : List Addr), DO (Cx.bk X scope s H C cl fp) elt te) (hv : ∀ j ∈ tv, j ∈ own.map (·.2)) (hs : ∀ x, foldedSetIterable iter X.env x = pure x := by intro _; rfl) {vs : List Nat} (hvs : own.map (·.2) = vs := by rfl) :
    DO X (.ListComp elt [⟨tg, iter, ifs, 0⟩] scope pos) (dLc ti g tt te vs) := by
  subst hvs
  refine ⟨fun W tk σ S F H env Q E kh w es hx q => toE (pe_lc hc hN (wi X tg iter) ok pg_bk pt_bk pe_bk hs) (lc_go hi hg ht he hv tk kh w es hx q)⟩
/-- name = [..] on one line -/
theorem ds_setLc {i : Nat} {y : Str} {py spos : Pos} (hc : X.calm = true) (hN : X.N.Nodup) (hy : X.N[i]? = some y) (hyl : X.env.scope.names.lookup y = some .local) (hsw : swapsWith (.ListComp elt [⟨tg, iter, ifs, 0⟩] scope pos) (some (.Name y py)) spos.line X.env = pure true)
    (hi : DI X tg iter ti) (ok : BlkOk X.N X.env.scope scope own)
    (hg : ∀ (s : Shared) (H : Hp) (C : Addr) (cl : List (Str × Addr)) (fp : List Addr), DG (Cx.bk X scope s H C cl fp) tg tv g) (ht : ∀ (s : Shared) (H : Hp) (C : Addr) (cl : List (Str × Addr)) (fp : List Addr), DTs (Cx.bk X scope s H C cl fp) ifs tt)
    (he : ∀ (s : Shared) (H : Hp) (C : Addr) (cl : List (Str × Addr)) (fp : List Addr), DO (Cx.bk X scope s H C cl fp) elt te) (hv : ∀ j ∈ tv, j ∈ own.map (·.2)) (hs : ∀ x, foldedSetIterable iter X.env x = pure x := by intro _; rfl) {vs : List Nat} (hvs : own.map (·.2) = vs := by rfl) :
    DS X (.Assign [.Name y py] (.ListComp elt [⟨tg, iter, ifs, 0⟩] scope pos) spos) [i] (dAsg (dLc ti g tt te vs) (gNm i)) := by
  subst hvs
  refine ⟨fun W tk σ S F H env D E kh hl w es hx q => toS (ps_setLc hc hN hy hyl hsw (wi X tg iter) ok pg_bk pt_bk pe_bk hs) ?_⟩
  have h := lc_go hi hg ht he hv tk kh w es hx.eq q
  refine tLc_mono h fun v H1 ⟨S1, F1, G1, o, e1, n1, es1, ov, q1⟩ => ?_
  cases o with
  | ref _ _ => exact q1.elim
  | val d =>
    have q1 : D.nx (e1.set i d) := q1
    have hσ : i < σ.length := by rw [hl]; exact (List.getElem?_eq_some_iff.mp hy).1
    refine ⟨Ag.set, ?_⟩
    by_cases he : i < e1.length
    · exact ⟨S1, Or2 G1 F1, e1.set i d, n1.give fun a h => h.elim .inr .inl, es1.set i ov n1.w.fg.symm hσ he, q1⟩
    · rw [List.set_eq_of_length_le (by omega)] at q1
      refine ⟨S1, F1, e1, n1.e, es1.weak fun j => ?_, q1⟩
      by_cases hj : j = i
      · subst hj; rw [List.getElem?_eq_none (by omega)]; exact .inl rfl
      · rw [List.getElem?_set_ne (Ne.symm hj)]; exact .inr ⟨rfl, rfl⟩
end
end Dv

set_option Elab.async false
set_option linter.all false
set_option maxRecDepth 100000
/-! Dv, part L: calls of the text's defs; a def by its body. -/
namespace Dv
open PySem PySem.Spec PyProof.Rows L2

/-- what a def does with values: the arguments; the answer and the arguments behind; an exception likewise -/
abbrev FD := List D → (D → List D → Prop) → (Str → Option (Str × D) → List D → Prop) → Prop
def SpD (K : PySem.W.Frag) (n : Nat) (f : FD) : Sp := fun vs H Q Ex => ∃ (S Fa : Ft) (ds : List D) (QD : D → List D → Prop) (ED : Str → Option (Str × D) → List D → Prop), ds.length = n ∧ WF S Fa Em H ∧ Rs K S H vs ds Fa ∧ f ds QD ED ∧
  (∀ v H' S' F' G r ds', Nx S Fa H S' F' G H' → Rs K S' H' vs ds' F' → R K S' H' v r G → QD r ds' → Q v H') ∧
  (∀ C nc d x ds' S' F' G H', Nx S Fa H S' F' G H' → Rs K S' H' vs ds' F' → XR K S' H' d x G → CN K nc C → ED nc x ds' → Ex (.ref C) d H')

/-! ### handing over arguments -/
def slots : List Opd → List Nat
  | [] => []
  | .val _ :: os => slots os
  | .ref i _ :: os => i :: slots os
/-- the places that are handed over are there -/
def okR : List Opd → Env → Prop
  | [], _ => True
  | .val _ :: os, env => okR os env
  | .ref i π :: os, env => (match env.at i π with
    | .hole => False
    | _ => True) ∧ okR os env
def putAll : List Opd → List D → Env → Env
  | .val _ :: os, _ :: ds, env => putAll os ds env
  | .ref i π :: os, d :: ds, env => (putAll os ds (env.set i .hole)).set i ((dj env[i]?).put d π)
  | _, _, env => env
section
variable {K : PySem.W.Frag} {S F : Ft} {H : Hp} {σ : L2.St}
theorem putAll_len : ∀ (os : List Opd) (ds : List D) (env : Env), (putAll os ds env).length = env.length
  | [], _, _ => by simp [putAll]
  | .val _ :: os, [], _ => by simp [putAll]
  | .ref _ _ :: os, [], _ => by simp [putAll]
  | .val _ :: os, _ :: ds, env => by simp [putAll, putAll_len os ds env]
  | .ref i π :: os, d :: ds, env => by simp [putAll, putAll_len os ds]
theorem get_set : ∀ (os : List Opd) (env : Env) (i : Nat) (d : D), i ∉ slots os → os.map (Opd.get (env.set i d)) = os.map (Opd.get env)
  | [], _, _, _, _ => rfl
  | .val x :: os, env, i, d, h => by
    rw [List.map_cons, List.map_cons, get_set os env i d h]; rfl
  | .ref j π :: os, env, i, d, h => by
    have h1 : i ≠ j := fun z => h (by rw [z]; exact List.mem_cons_self)
    have h2 : i ∉ slots os := fun z => h (List.mem_cons_of_mem _ z)
    rw [List.map_cons, List.map_cons, get_set os env i d h2]
    show (dj (env.set i d)[j]?).at π :: _ = (dj env[j]?).at π :: _
    rw [dj_set_ne h1]
theorem okR_set : ∀ (os : List Opd) (env : Env) (i : Nat) (d : D), i ∉ slots os → okR os env → okR os (env.set i d)
  | [], _, _, _, _, _ => trivial
  | .val x :: os, env, i, d, h, q => okR_set os env i d h q
  | .ref j π :: os, env, i, d, h, q => by
    have h1 : i ≠ j := fun z => h (by rw [z]; exact List.mem_cons_self)
    have h2 : i ∉ slots os := fun z => h (List.mem_cons_of_mem _ z)
    refine ⟨?_, okR_set os env i d h2 q.2⟩
    have e : Env.at (env.set i d) j π = env.at j π := by
      show (dj (env.set i d)[j]?).at π = (dj env[j]?).at π
      rw [dj_set_ne h1]
    rw [e]; exact q.1
/-- the arguments taken out of the slots, and put back -/
theorem take_args (kh : KH K H) : ∀ {vs : List V} {os : List Opd} {env : Env} {F G : Ft}, ES K S H σ env F → OVs K S H σ vs os G → Dj F G → (slots os).Nodup → okR os env →
    ∃ Fa Fr, Rs K S H vs (os.map (Opd.get env)) Fa ∧ Sub Fa (Or2 F G) ∧ Sub Fr F ∧ Dj Fa Fr ∧
      ∀ S' H' ds' Fa', Kp S Fr H H' → Sub S S' → Rs K S' H' vs ds' Fa' → Dj Fa' Fr → ES K S' H' σ (putAll os ds' env) (Or2 Fa' Fr)
  | _, [], env, F, G, es, ov, _, _, _ => by
    cases ov
    refine ⟨Em, F, .nil, fun _ z => z.elim, Sub.refl, fun _ z => z.elim, fun S' H' ds' Fa' kp s rs dj' => ?_⟩
    cases rs
    exact (es.kp kp s).wide fun x h => .inr h
  | v :: vs, .val d :: os, env, F, G, es, ov, dfg, nd, ok => by
    cases ov with
    | @cons _ _ _ _ _ G1 G2 a b s1 s2 d12 =>
      obtain ⟨Fa, Fr, rs, sa, sr, dar, cl⟩ := take_args kh es b (dfg.sub Sub.refl s2) nd ok
      refine ⟨Or2 G1 Fa, Fr, ?_, fun x h => h.elim (fun z => .inr (s1 x z)) (fun z => (sa x z).elim .inl (fun z => .inr (s2 x z))), sr, fun x h1 h2 => h1.elim (fun z => dfg x (sr x h2) (s1 x z)) (fun z => dar x z h2), fun S' H' ds' Fa' kp s rs' dj' => ?_⟩
      · rw [List.map_cons]
        exact .cons a rs (fun x h => .inl h) (fun x h => .inr h) fun x h1 h2 => (sa x h2).elim (fun z => dfg x z (s1 x h1)) (fun z => d12 x h1 z)
      · cases rs' with
        | @cons _ _ d' ds'' _ Fx Fy a' b' t1 t2 t12 =>
          exact (cl S' H' ds'' Fy kp s b' (dj'.sub t2 Sub.refl)).wide fun x h => h.elim (fun z => .inl (t2 x z)) .inr
  | v :: vs, .ref i π :: os, env, F, G, es, ov, dfg, nd, ok => by
    cases ov with
    | @cons _ _ _ _ _ G1 G2 a b s1 s2 d12 =>
      have nd' : i ∉ slots os ∧ (slots os).Nodup := List.nodup_cons.mp nd
      have ne : env.at i π ≠ .hole := fun z => by
        have q := ok.1
        rw [z] at q; exact q
      have nh : dj env[i]? ≠ .hole := fun z' => by
        have e : (dj env[i]?).at π = env.at i π := rfl
        rw [z'] at e
        cases π <;> exact ne e.symm
      obtain ⟨v0, F1, F2, ev, r0, sb1, sb2, db12, clS, _⟩ := es.slot i nh
      obtain ⟨u, Fp, Fq, pv, rp, sp, sq, dpq, clL⟩ := R.lens π r0 rfl ne
      obtain ⟨v1, ev1, pv1⟩ : PV K S H σ i π v := a
      rw [ev] at ev1; cases ev1
      have := PVp.inj kh π pv1 pv
      subst this
      have es2 : ES K S H σ (env.set i .hole) F2 := (clS S H Em .hole kp_id Sub.refl .hole fun _ z => z.elim).wide fun x h => h.elim (fun z => z.elim) _root_.id
      obtain ⟨Fa, Fr, rs, sa, sr, dar, cl⟩ := take_args kh es2 b ((dfg.sub sb2 Sub.refl).sub Sub.refl s2) nd'.2 (okR_set os env i .hole nd'.1 ok.2)
      rw [get_set os env i .hole nd'.1] at rs
      refine ⟨Or2 Fp Fa, Or2 Fq Fr, ?_, ?_, ?_, ?_, fun S' H' ds' Fa' kp s rs' dj' => ?_⟩
      · rw [List.map_cons]
        refine .cons rp rs (fun x h => .inl h) (fun x h => .inr h) fun x h1 h2 => ?_
        rcases sa x h2 with z | z
        · exact db12 x (sp x h1) z
        · exact dfg x (sb1 x (sp x h1)) (s2 x z)
      · intro x h
        rcases h with h | h
        · exact .inl (sb1 x (sp x h))
        · exact (sa x h).elim (fun z => .inl (sb2 x z)) (fun z => .inr (s2 x z))
      · intro x h
        exact h.elim (fun z => sb1 x (sq x z)) (fun z => sb2 x (sr x z))
      · intro x h1 h2
        rcases h1 with h1 | h1
        · exact h2.elim (dpq x h1) (fun z => db12 x (sp x h1) (sr x z))
        · rcases h2 with h2 | h2
          · rcases sa x h1 with z | z
            · exact db12 x (sq x h2) z
            · exact dfg x (sb1 x (sq x h2)) (s2 x z)
          · exact dar x h1 h2
      · cases rs' with
        | @cons _ _ d' ds'' _ Fx Fy a' b' t1 t2 t12 =>
          have e1 := cl S' H' ds'' Fy (kp.sub fun x h => .inr h) s b' fun x h1 h2 => dj' x (t2 x h1) (.inr h2)
          have e2 := clL S' H' Fx d' (kp.sub fun x h => .inl h) s a' fun x h1 h2 => dj' x (t1 x h1) (.inl h2)
          have e3 := e1.setD ev e2 (fun x h1 h2 => ?_) (by rw [putAll_len, List.length_set]; exact lt_of_dj nh)
          · exact e3.wide fun x h => by
              rcases h with (h | h) | h | h
              · exact .inl (t1 x h)
              · exact .inr (.inl h)
              · exact .inl (t2 x h)
              · exact .inr (.inr h)
          · rcases h1 with h1 | h1
            · rcases h2 with h2 | h2
              · exact t12 x h1 h2
              · exact dj' x (t1 x h1) (.inr h2)
            · rcases h2 with h2 | h2
              · exact dj' x (t2 x h2) (.inl h1)
              · exact db12 x (sq x h1) (sr x h2)
/-- behind a call: the whole step -/
theorem call_step {S1 F1 G1 Fa Fr S' F' G : Ft} {H1 H' : Hp} (n1 : Nx S F H S1 F1 G1 H1) (sa : Sub Fa (Or2 F1 G1)) (sr : Sub Fr F1) (d : Dj Fa Fr) (n2 : Nx S1 Fa H1 S' F' G H') :
    Nx S F H S' (Or2 F' Fr) G H' ∧ Kp S1 Fr H1 H' ∧ Dj F' Fr := by
  have fa : ∀ a, Fa a → F a ∨ H a = none := fun a h => (sa a h).elim (n1.fn a) (n1.gn a)
  have fam : ∀ a, Fa a → MuO (H1 a) := fun a h => (sa a h).elim (n1.w.fm a) (n1.w.gm a)
  have fas : ∀ a, S1 a → ¬ Fa a := fun a h z => (sa a z).elim (n1.w.sf a h) (n1.w.sg a h)
  have kp : Kp S1 Fr H1 H' := fun a o e c => n2.keep a o e fun z => by
    rcases c with c | c | c
    · exact d a z c
    · exact fas a c z
    · exact c (by rw [← e]; exact fam a z)
  have bk : ∀ a, H1 a = none → F a ∨ H a = none := fun a h => n1.back h
  have d' : Dj F' Fr := fun a h1 h2 => by
    rcases n2.fn a h1 with h | h
    · exact d a h h2
    · exact (n1.w.fm a (sr a h2)).ne h
  refine ⟨⟨fun a o e f => n2.keep a o (n1.keep a o e f) fun z => (fa a z).elim f fun q => by (rw [q] at e; cases e), n1.ss.trans n2.ss, fun a h => ?_, fun a h => ?_, fun a h => ?_, ⟨fun a h1 h2 => ?_, n2.w.sg, fun a h1 h2 => ?_, n2.w.sd, fun a h => ?_, n2.w.gm⟩⟩, kp, d'⟩
  · rcases n2.sn a h with h | h | h
    · exact n1.sn a h
    · exact .inr (fa a h)
    · exact .inr (bk a h)
  · rcases h with h | h
    · rcases n2.fn a h with h | h
      · exact fa a h
      · exact bk a h
    · exact n1.fn a (sr a h)
  · rcases n2.gn a h with h | h
    · exact fa a h
    · exact bk a h
  · rcases h2 with h2 | h2
    · exact n2.w.sf a h1 h2
    · rcases n2.sn a h1 with h | h | h
      · exact n1.w.sf a h (sr a h2)
      · exact d a h h2
      · exact (n1.w.fm a (sr a h2)).ne h
  · rcases h1 with h1 | h1
    · exact n2.w.fg a h1 h2
    · rcases n2.gn a h2 with h | h
      · exact d a h h1
      · exact (n1.w.fm a (sr a h1)).ne h
  · rcases h with h | h
    · exact n2.w.fm a h
    · have m := n1.w.fm a (sr a h)
      obtain ⟨u, e⟩ := m.some
      rw [kp a u e (.inl h), ← e]; exact m
end
def dCallF (f : FD) (tr : DTA) : DT := fun env Q E => tr env (fun os e1 => ((slots os).Nodup ∧ okR os e1) ∧ f (os.map (Opd.get e1)) (fun r ds' => Q (.val r) (putAll os ds' e1)) (fun C x ds' => E C x (putAll os ds' e1))) E
section
variable {X : Cx} {k n : Nat} {f : Addr} {fd : FuncData} {ps : List Str} {fD : FD} {x : Str} {p pos : Pos} {e : Expr} {es : List Expr} {tr : DTA}
theorem do_call (F : FnOk X.prog X.w X.K X.mg X.base (L2N.CX X.prog X.w) k f fd ps (SpD X.K n fD)) (hn : ∀ ds Q E, fD ds Q E → ds.length = n) (hr : Room k X.A) (hg : Gl X x) (hm : X.mg x = some (.ref f)) (hk : PySem.W.keepIn X.K (.ref f) = true) (hb : Binds X.K fd ps []) (ha : DA X (e :: es) tr)
    (hdb : (x == ("__debug__" : Str)) = false := by decide) (he : starEach (e :: es) X.env = (false, eval e X.env) :: starEach es X.env := by rfl) (hpl : (backTo pos (starEach es X.env)).any (·.1) = false := by rfl) :
    DO X (.Call (.Name x p) (e :: es) [] pos) (dCallF fD tr) := by
  refine ⟨fun W tk σ S F' H env Q E kh w hs hx q => toE (pe_callS (E := WE W) F hr hg hm hk hb (L2N.passAt tk.n) (wa X (e :: es)) hdb he hpl) ?_⟩
  refine (ha.run W tk σ S F' H env _ E kh w hs hx q).mono fun vs H1 kh1 ⟨S1, F1, G1, os, e1, n1, es1, ovs, ⟨nd, ok⟩, q1⟩ => ?_
  obtain ⟨Fa, Fr, rs, sa, sr, dar, cl⟩ := take_args kh1 es1 ovs n1.w.fg nd ok
  have wa : WF S1 Fa Em H1 := ⟨fun a h1 h2 => (sa a h2).elim (n1.w.sf a h1) (n1.w.sg a h1), fun _ _ z => z.elim, fun _ _ z => z.elim, n1.w.sd, fun a h => (sa a h).elim (n1.w.fm a) (n1.w.gm a), fun _ z => z.elim⟩
  refine ⟨S1, Fa, _, _, _, hn _ _ _ q1, wa, rs, q1, fun v H' S' F2 G r ds' n2 rs' rv qd => ?_, fun C nc d y ds' S' F2 G H' n2 rs' xr cn qd => ?_⟩
  · obtain ⟨n3, kp, dj⟩ := call_step n1 sa sr dar n2
    exact ⟨S', _, G, .val r, _, n3, cl S' H' ds' F2 kp n2.ss rs' dj, rv, qd⟩
  · obtain ⟨n3, kp, dj⟩ := call_step n1 sa sr dar n2
    exact hx σ S' _ G H' C nc d y _ rfl n3 (cl S' H' ds' F2 kp n2.ss rs' dj) xr cn qd
end

/-! ### a def by its body -/
def startD (m : Nat) (ds : List D) : Env := ds ++ List.replicate (m - ds.length) .hole
/-- the parameters behind the body: one that was stored to is told only where it was plain -/
def outs (tv : List Nat) : Nat → List D → Env → List D
  | _, [], _ => []
  | i, d :: ds, env => (if i ∈ tv then (match d with
    | .p x => .p x
    | _ => .hole) else dj env[i]?) :: outs tv (i + 1) ds env
section
variable {K : PySem.W.Frag} {S F : Ft} {H : Hp}
theorem Rs.fs : ∀ {vs : List V} {ds : List D} {F : Ft}, Rs K S H vs ds F → ∃ Fs : Nat → Ft, (∀ i, RO K S H (vs[i]?) (dj ds[i]?) (Fs i)) ∧ (∀ i j, i ≠ j → Dj (Fs i) (Fs j)) ∧ ∀ i, Sub (Fs i) F
  | _, [], F, h => by
    cases h
    exact ⟨fun _ => Em, fun i => .inl (by simp [Dv.dj]), fun i j _ _ z => z.elim, fun i _ z => z.elim⟩
  | _, d :: ds, F, h => by
    cases h with
    | @cons v vs _ _ _ F1 F2 a b c f g =>
      obtain ⟨Fs, h1, h2, h3⟩ := Rs.fs b
      refine ⟨fun i => match i with
        | 0 => F1
        | j + 1 => Fs j, fun i => ?_, fun i j hij => ?_, fun i => ?_⟩
      · cases i with
        | zero => exact .inr ⟨v, rfl, a⟩
        | succ j => simpa using h1 j
      · cases i with
        | zero => cases j with
          | zero => exact absurd rfl hij
          | succ j => exact g.sub Sub.refl (h3 j)
        | succ i => cases j with
          | zero => exact (g.sub Sub.refl (h3 i)).symm
          | succ j => exact h2 i j fun z => hij (by rw [z])
      · cases i with
        | zero => exact c
        | succ j => exact (h3 j).trans f
theorem Rs.es {vs : List V} {ds : List D} (h : Rs K S H vs ds F) (N : List Str) (hN : ds.length ≤ N.length) : ES K S H (L2.start N vs) (startD N.length ds) F := by
  obtain ⟨Fs, h1, h2, h3⟩ := h.fs
  have hl := h.length
  refine ⟨Fs, fun i => ?_, h2, h3⟩
  by_cases hi : i < ds.length
  · have e1 : (L2.start N vs)[i]? = vs[i]?.map some := by
      unfold L2.start
      rw [List.getElem?_append_left (by simp; omega), List.getElem?_map]
    have e2 : (startD N.length ds)[i]? = ds[i]? := by
      unfold startD
      rw [List.getElem?_append_left hi]
    rw [e1, e2]
    have := h1 i
    cases e : vs[i]? with
    | none => rw [List.getElem?_eq_none_iff] at e; omega
    | some v => rw [e] at this; exact this
  · refine .inl ?_
    unfold startD
    rw [List.getElem?_append_right (by omega), List.getElem?_replicate]
    split <;> rfl
theorem outs_rs {tv : List Nat} {σ : L2.St} {env : Env} {Fs : Nat → Ft} (a : ∀ i : Nat, RO K S H (oj σ[i]?) (dj env[i]?) (Fs i)) (b : ∀ i j : Nat, i ≠ j → Dj (Fs i) (Fs j)) :
    ∀ (vs : List V) (ds : List D) (i : Nat), vs.length = ds.length → (∀ (j : Nat) (v : V), vs[j]? = some v → i + j ∉ tv → oj σ[i + j]? = some v) → (∀ (j : Nat) (v : V) (x : PD), vs[j]? = some v → ds[j]? = some (D.p x) → RP K S H v x) → Rs K S H vs (outs tv i ds env) (fun x => ∃ j, i ≤ j ∧ Fs j x)
  | [], [], i, _, _, _ => .nil
  | [], _ :: _, _, h, _, _ => by simp at h
  | _ :: _, [], _, h, _, _ => by simp at h
  | v :: vs, d :: ds, i, hl, h1, h2 => by
    have ih := outs_rs (tv := tv) a b vs ds (i + 1) (by simpa using hl) (fun j w e n => by
      have := h1 (j + 1) w (by simpa using e) (by rw [show i + (j + 1) = i + 1 + j by omega]; exact n)
      rw [show i + (j + 1) = i + 1 + j by omega] at this; exact this) (fun j w x e e2 => h2 (j + 1) w x (by simpa using e) (by simpa using e2))
    unfold outs
    refine .cons (F1 := Fs i) ?_ ih (fun x h => ⟨i, Nat.le_refl _, h⟩) (fun x ⟨j, hj, h⟩ => ⟨j, by omega, h⟩) (fun x h ⟨j, hj, h'⟩ => b i j (by omega) x h h')
    split
    · cases d with
      | p x => exact .p (h2 0 v x rfl rfl)
      | _ => exact .hole
    · rename_i hn
      rcases a i with e | ⟨w, e, r⟩
      · rw [e]; exact .hole
      · have := h1 0 v rfl hn
        rw [show i + 0 = i from rfl, e] at this
        cases this
        exact r
end
section
variable {P : Program} {w : World} {K : PySem.W.Frag} {mg : Str → Option Value} {base : Heap}
/-- a body whose exceptions go by L2N -/
theorem okN {x qual : Str} {st : Stmt} {f : Addr} {fd : FuncData} {N ps : List Str} {k : Nat} {sp : Sp} (F : Fun K x qual st f fd) (Sc : FnScope N ps (defScope st)) (hl : ∀ vs H Q E, sp vs H Q E → vs.length = ps.length)
    (hb : ∀ (cdv : Value) (A : Around) (outer : List PySem.Env) (s : Shared) (H : Hp) (vs : List V) (Q : VK) (E : XK), Room k (A.deeper (envOfC qual (defScope st) s.heap.objs.size f cdv)) → sp vs H Q E →
      ∃ t, PSs (cxOf (L2N.CX P w) P w K mg base N qual (defScope st) f cdv A outer s H E) (defBody st) t ∧ t { nx := fun _ H' => Q .non H', rt := Q } (L2.start N vs) H) : FnOk P w K mg base (L2N.CX P w) (k + 1) f fd ps sp := by
  obtain ⟨_, _, _, _, _, _, cdv, _, _, e, look, code⟩ := F.ex
  subst e
  exact fn_of look code Sc hl fun A outer s H vs Q E room asked => hb cdv A outer s H vs Q E room asked
/-- THE RULE for a def -/
theorem fn_d {x qual : Str} {st : Stmt} {f : Addr} {fd : FuncData} {N ps : List Str} {k : Nat} {fD : FD} (F : Fun K x qual st f fd) (Sc : FnScope N ps (defScope st)) (hlen : ∀ ds Q E, fD ds Q E → ds.length = ps.length) (hN : ps.length ≤ N.length)
    (hbody : ∀ (cdv : Value) (A : Around) (outer : List PySem.Env) (s : Shared) (H : Hp) (E : XK), Room k (A.deeper (envOfC qual (defScope st) s.heap.objs.size f cdv)) →
      ∃ tv t, DSs (cxOf (L2N.CX P w) P w K mg base N qual (defScope st) f cdv A outer s H E) (defBody st) tv t ∧
        ∀ ds QD ED, fD ds QD ED → t { nx := fun env => QD (.p .none) (outs tv 0 ds env), rt := fun r env => QD r (outs tv 0 ds env) } (startD N.length ds) (fun C y env => ED C y (outs tv 0 ds env))) :
    FnOk P w K mg base (L2N.CX P w) (k + 1) f fd ps (SpD K ps.length fD) := by
  refine okN F Sc (fun vs H Q E ⟨S, Fa, ds, QD, ED, hl, wf, rs, _⟩ => by rw [rs.length]; exact hl) (fun cdv A outer s H vs Q E hr hsp => ?_)
  obtain ⟨S, Fa, ds, QD, ED, hl, wf, rs, hf, hret, hexc⟩ := hsp
  obtain ⟨tv, t, ht, hq⟩ := hbody cdv A outer s H E hr
  have hq := hq ds QD ED hf
  refine ⟨wSs _ (defBody st), wss _ _, ?_⟩
  refine wSs.pre fun kh hσ => ?_
  have hvl : vs.length = ds.length := rs.length
  -- the parameters at the end
  have fin : ∀ {S' F' G : Ft} {H' : Hp} {σ' : L2.St} {env' : Env}, Nx S Fa H S' F' G H' → ES K S' H' σ' env' F' → (∀ j, j ∉ tv → σ'[j]? = (L2.start N vs)[j]?) → ∃ F2, Nx S Fa H S' F2 G H' ∧ Rs K S' H' vs (outs tv 0 ds env') F2 := by
    intro S' F' G H' σ' env' n es ag
    obtain ⟨Fs, a, b, c⟩ := es
    refine ⟨_, ⟨n.keep, n.ss, n.sn, fun x ⟨j, _, h⟩ => n.fn x (c j x h), n.gn, ⟨fun x h ⟨j, _, h'⟩ => n.w.sf x h (c j x h'), n.w.sg, fun x ⟨j, _, h⟩ h' => n.w.fg x (c j x h) h', n.w.sd, fun x ⟨j, _, h⟩ => n.w.fm x (c j x h), n.w.gm⟩⟩, outs_rs a b vs ds 0 hvl (fun j v e nt => ?_) (fun j v y e e2 => ?_)⟩
    · rw [Nat.zero_add] at nt ⊢
      rw [ag j nt]
      unfold L2.start
      have hj : j < vs.length := (List.getElem?_eq_some_iff.mp e).1
      rw [List.getElem?_append_left (by simpa using hj), List.getElem?_map, e]
      rfl
    · obtain ⟨v', F1, e3, r, _⟩ := rs.get j e2
      rw [e] at e3; cases e3
      cases r with | p r => exact RP.kp (n.kpS wf) n.ss _ r
  have hx : HX (cxOf (L2N.CX P w) P w K mg base N qual (defScope st) f cdv A outer s H E) (fun cls d _ H => E cls d H) (Ag tv (L2.start N vs)) S Fa H (fun C y env => ED C y (outs tv 0 ds env)) := fun σ' S' F' G H' C nc d y env' ag n es xr cn q => by
    obtain ⟨F2, n2, r2⟩ := fin n es ag
    exact hexc C nc d y _ S' F2 G H' n2 r2 xr cn q
  refine (ht.run (fun cls d _ H => E cls d H) (takes_def rfl (L2N.takes_of rfl rfl rfl rfl)) (L2.start N vs) S Fa H (startD N.length ds) _ _ kh hσ wf (rs.es N (by rw [hl]; exact hN)) hx hq).mono (fun σ' H' _ _ ⟨ag, S', F', env', n, es, q⟩ => ?_) (fun v H' _ ⟨S', F', G, σ', d, env', ag, n, es, r, q⟩ => ?_) (fun _ _ _ _ ⟨_, _, _, _, _, _, q⟩ => q) (fun _ _ _ _ ⟨_, _, _, _, _, _, q⟩ => q)
  · obtain ⟨F2, n2, r2⟩ := fin n es ag
    exact hret .non H' S' F2 Em _ _ n2 r2 (.p .non) q
  · obtain ⟨F2, n2, r2⟩ := fin n es ag
    exact hret v H' S' F2 G _ _ n2 r2 r q
end
end Dv

set_option Elab.async false
set_option linter.all false
set_option maxRecDepth 100000
/-! Dv, part M: what changes a list or a dict. -/
namespace Dv
open PySem PySem.Spec PyProof.Rows L2

def isLst : D → Prop
  | .lst _ => True
  | _ => False
/-- a list operand is changed -/
def mutO (o : Opd) (e : Env) (k : List D → (List D → PD → Prop) → Prop) (Q : Opd → Env → Prop) : Prop := match o with
  | .ref i π => match e.at i π with
    | .lst ds => k ds fun ds' x => Q (.val (.p x)) (e.put i π (.lst ds'))
    | _ => False
  | .val (.lst ds) => k ds fun ds' x => Q (.val (.p x)) e
  | _ => False
/-- owned arguments -/
abbrev FM := List D → List D → (List D → PD → Prop) → Prop
def wM (X : Cx) (id : String) : V → List V → Hp → VK → Prop := fun x vs H Q => ∀ (pins : List (Addr × Obj)) (s : Shared) (σ : L2.St) (v : Value) (us : List Value), Inv X pins σ H s → RelV x v → Vals vs us → wpAny (model X.prog X.w) X.A (call (.builtin id) (v :: us)) (EP X pins σ Q) X.xe s
theorem wm (X : Cx) (id : String) : MtR X id (wM X id) := fun pins s σ H x xs v us Q I rx rv h => h pins s σ v us I rx rv
theorem toM {X : Cx} {id : String} {r : V → List V → Hp → VK → Prop} (h : MtR X id r) {x : V} {vs : List V} {H : Hp} {Q : VK} (q : r x vs H Q) : wM X id x vs H Q := fun pins s σ v us I rx rv => h pins s σ H x vs v us Q I rx rv q
structure MutD (X : Cx) (id : String) (m : FM) : Prop where
  run : ∀ (S : Ft) (H : Hp) (a : Addr) (us : List V) (ds : List D) (Fc : Ft) (vs : List V) (as : List D) (Ga : Ft) (Q : List D → PD → Prop), H a = some (.lst us) → Rs X.K S H us ds Fc → Rs X.K S H vs as Ga → Dj Fc Ga → m ds as Q →
    wM X id (.ref a) vs H (fun v H' => ∃ us' ds' x Fc', H' = upd H a (.lst us') ∧ Rs X.K S H us' ds' Fc' ∧ Sub Fc' (Or2 Fc Ga) ∧ RP X.K S H v x ∧ Q ds' x)
/-- read arguments -/
structure MutR (X : Cx) (id : String) (m : FM) : Prop where
  run : ∀ (S : Ft) (H : Hp) (a : Addr) (us : List V) (ds : List D) (Fc : Ft) (vs : List V) (as : List D) (Q : List D → PD → Prop), H a = some (.lst us) → Rs X.K S H us ds Fc → RL X.K S H vs as → m ds as Q →
    wM X id (.ref a) vs H (fun v H' => ∃ us' ds' x Fc', H' = upd H a (.lst us') ∧ Rs X.K S H us' ds' Fc' ∧ Sub Fc' Fc ∧ RP X.K S H v x ∧ Q ds' x)
section
variable {K : PySem.W.Frag} {S F S1 F1 G : Ft} {H H1 : Hp}
theorem Nx.mutF (n : Nx S F H S1 F1 G H1) {p : Addr} {o : HO} (hp : F1 p) (m : MuO (some o)) : Nx S F H S1 F1 G (upd H1 p o) where
  keep := fun a u e f => by
    have ne : a ≠ p := fun z => by
      subst z
      rcases n.fn a hp with h | h
      · exact f h
      · rw [h] at e; cases e
    rw [upd_ne ne]; exact n.keep a u e f
  ss := n.ss
  sn := n.sn
  fn := n.fn
  gn := n.gn
  w := by
    refine ⟨n.w.sf, n.w.sg, n.w.fg, fun a h => ?_, fun a h => ?_, fun a h => ?_⟩
    · rw [upd_ne (fun z => n.w.sf a h (by rw [z]; exact hp))]; exact n.w.sd a h
    · by_cases z : a = p
      · subst z; rw [upd_same]; exact m
      · rw [upd_ne z]; exact n.w.fm a h
    · rw [upd_ne (fun z => n.w.fg a (by rw [z]; exact hp) h)]; exact n.w.gm a h
/-- all but p is kept -/
theorem kp_upd {F : Ft} {p : Addr} {o : HO} (h1 : ¬ F p) (h2 : ¬ S p) (h3 : MuO (H p)) : Kp S F H (upd H p o) := fun a u e c => by
  have ne : a ≠ p := fun z => by
    subst z
    rcases c with c | c | c
    · exact h1 c
    · exact h2 c
    · rw [e] at h3; exact c h3
  rw [upd_ne ne]; exact e
theorem RP.upd {p : Addr} {o : HO} {v : V} {x : PD} (h2 : ¬ S p) (h3 : MuO (H p)) (h : RP K S H v x) : RP K S (L2.upd H p o) v x := RP.kp (F := Em) (kp_upd (fun z => z) h2 h3) Sub.refl _ h
/-- a place of a list is changed -/
theorem ES.mutAt {σ : L2.St} {env : Env} (kh : KH K H1) (n : Nx S F H S1 F1 G H1) (es : ES K S1 H1 σ env F1) {i : Nat} {π : List Nat} {v : V} (pv : PV K S1 H1 σ i π v) {ds : List D} (e : env.at i π = .lst ds) :
    ∃ a us Fc, v = .ref a ∧ H1 a = some (.lst us) ∧ Rs K S1 H1 us ds Fc ∧ Sub Fc F1 ∧ ∀ us' ds' Fc', Rs K S1 H1 us' ds' Fc' → Sub Fc' (Or2 Fc G) → ∃ F2, Nx S F H S1 F2 Em (upd H1 a (.lst us')) ∧ ES K S1 (upd H1 a (.lst us')) σ (env.put i π (.lst ds')) F2 := by
  obtain ⟨u, Fa, Fb, pv', r, sa, sb, dab, cl⟩ := es.lens i π e (by simp)
  have := PV.inj kh pv pv'
  subst this
  cases r with
  | @lst a us _ _ F' h1 h2 h3 h4 =>
    refine ⟨a, us, F', rfl, h1, h4, fun x h => sa x (h3 x h).1, fun us' ds' Fc' rs sc => ?_⟩
    have n2 := n.mutF (o := .lst us') (sa a h2) trivial
    have ha : MuO (H1 a) := by rw [h1]; trivial
    have hS : ¬ S1 a := fun z => n.w.sf a z (sa a h2)
    have hFc : ∀ x, Fc' x → x ≠ a := fun x h => (sc x h).elim (fun z => (h3 x z).2) (fun z q => n.w.fg x (by rw [q]; exact sa a h2) z)
    have rs' := Rs.kp (H' := upd H1 a (.lst us')) Sub.refl ds' (kp_upd (fun z => hFc a z rfl) hS ha) rs
    have r' : R K S1 (upd H1 a (.lst us')) (.ref a) (.lst ds') (fun x => x = a ∨ Fc' x) := .lst (F' := Fc') upd_same (.inl rfl) (fun x h => ⟨.inr h, hFc x h⟩) rs'
    have es' := cl S1 (upd H1 a (.lst us')) _ (.lst ds') (kp_upd (fun z => dab a h2 z) hS ha) Sub.refl r' fun x h1' h2' => by
      rcases h1' with z | z
      · subst z; exact dab x h2 h2'
      · rcases sc x z with q | q
        · exact dab x (h3 x q).1 h2'
        · exact n.w.fg x (sb x h2') q
    refine ⟨_, n2.give fun x h => ?_, es'⟩
    rcases h with (z | z) | z
    · subst z; exact .inl (sa x h2)
    · rcases sc x z with q | q
      · exact .inl (sa x (h3 x q).1)
      · exact .inr q
    · exact .inl (sb x z)
end
def dMut (m : FM) (t : DT) (tr : DTA) : DT := fun env Q E => t env (fun o e1 => isLst (o.get e1) ∧ tr e1 (fun os e2 => match vals os with
  | some as => mutO o e2 (fun ds k => m ds as k) Q
  | none => False) E) E
def dMutR (m : FM) (t : DT) (tr : DTA) : DT := fun env Q E => t env (fun o e1 => isLst (o.get e1) ∧ tr e1 (fun os e2 => mutO o e2 (fun ds k => m ds (os.map (Opd.get e2)) k) Q) E) E
def dMut0 (m : FM) (t : DT) : DT := fun env Q E => t env (fun o e1 => mutO o e1 (fun ds k => m ds [] k) Q) E
theorem isLst_eq {d : D} (h : isLst d) : ∃ ds, d = .lst ds := by
  cases d with
  | lst ds => exact ⟨ds, rfl⟩
  | _ => exact h.elim
section
variable {X : Cx} {o e : Expr} {es : List Expr} {t : DT} {tr : DTA} {m : FM} {name : Str} {id : String} {apos cpos : Pos}
/-- the operand's list is changed: what is left to show by the method's rule -/
theorem mut_go {W : WX} (tk : Takes X W) {σ : L2.St} {S F S1 F1 G1 Go : Ft} {H H1 : Hp} {e1 : Env} {ov : Opd} {v : V} {vs : List V} {k : List D → (List D → PD → Prop) → Prop} {Q : Opd → Env → Prop} (kh : KH X.K H1) (n : Nx S F H S1 F1 G1 H1) (hs : ES X.K S1 H1 σ e1 F1) (hov : OV X.K S1 H1 σ v ov Go) (sg : Sub Go G1)
    (q : mutO ov e1 k Q) (hm : ∀ a us ds Fc Q', H1 a = some (.lst us) → Rs X.K S1 H1 us ds Fc → (Sub Fc F1 ∨ Sub Fc Go) → k ds Q' → wM X id (.ref a) vs H1 (fun v H' => ∃ us' ds' x Fc', H' = upd H1 a (.lst us') ∧ Rs X.K S1 H1 us' ds' Fc' ∧ Sub Fc' (Or2 Fc G1) ∧ RP X.K S1 H1 v x ∧ Q' ds' x)) :
    wM X id v vs H1 (QO X.K σ S F H Q) := by
  cases ov with
  | ref i π =>
    have q : (match e1.at i π with
    | .lst ds => k ds fun ds' x => Q (.val (.p x)) (e1.put i π (.lst ds'))
    | _ => False) := q
    split at q
    · rename_i ds e
      obtain ⟨a, us, Fc, rfl, h1, rs, sc, cl⟩ := ES.mutAt kh n hs hov e
      intro pins s σ' v us0 I rx rv
      refine thn (hm a us ds Fc _ h1 rs (.inl sc) q pins s σ' v us0 I rx rv) fun z s' ⟨z', H', I', rz, us', ds', x, Fc', e1', rs', sc', rp, q'⟩ => ⟨z', H', I', rz, ?_⟩
      subst e1'
      obtain ⟨F2, n2, es2⟩ := cl us' ds' Fc' rs' sc'
      have mu : MuO (H1 a) := by rw [h1]; trivial
      have ns : ¬ S1 a := fun z => by
        obtain ⟨u, Fa, Fb, pv', r, sa, _⟩ := hs.lens i π e (by simp)
        have := PV.inj kh hov pv'
        cases r with
        | lst _ h2 _ _ => cases this; exact n.w.sf a z (sa _ h2)
      exact ⟨S1, F2, Em, .val (.p x), _, n2, es2, R.p (rp.upd ns mu), q'⟩
    · exact q.elim
  | val d =>
    have q : (match Opd.val d with
    | .val (.lst ds) => k ds fun ds' x => Q (.val (.p x)) e1
    | _ => False) := by
      cases d <;> exact q
    split at q
    · rename_i ds e
      cases e
      have hov : R X.K S1 H1 v (.lst ds) Go := hov
      cases hov with
      | @lst a us _ _ F' h1 h2 h3 h4 =>
        intro pins s σ' v us0 I rx rv
        refine thn (hm a us ds F' _ h1 h4 (.inr fun x h => (h3 x h).1) q pins s σ' v us0 I rx rv) fun z s' ⟨z', H', I', rz, us', ds', x, Fc', e1', rs', sc', rp, q'⟩ => ⟨z', H', I', rz, ?_⟩
        subst e1'
        have ga := sg a h2
        have mu : MuO (H1 a) := by rw [h1]; trivial
        have ns : ¬ S1 a := fun z => n.w.sg a z ga
        have n2 := n.mutG (o := .lst us') ga trivial
        exact ⟨S1, F1, Em, .val (.p x), e1, n2.e, hs.kp (kp_upd (fun z => n.w.fg a z ga) ns mu) Sub.refl, R.p (rp.upd ns mu), q'⟩
    · exact q.elim
theorem do_mut (pa : PlainAttrs "list") (slot : Slot "list" name id) (hty : typeOf (.builtin id) = pure (.type "method_descriptor")) (hm : MutD X id m) (ho : DO X o t) (ha : DA X (e :: es) tr)
    (hbase : attributeBase o name X.env (eval o X.env) = eval o X.env := by rfl)
    (hfew : ((backTo cpos (starEach (e :: es) X.env)).all (fun x => !x.1) && (backToKw cpos (keywordEach [] X.env)).all (fun x => x.1.isSome)
      && decide ((e :: es).length + ([] : List Keyword).length + (if ([] : List Keyword).isEmpty then 0 else 1) < 30)) = true := by rfl)
    (hline : (apos.endLine == cpos.line) = true := by rfl) (hs : starEach (e :: es) X.env = (false, eval e X.env) :: starEach es X.env := by rfl) (hplain : (backTo cpos (starEach es X.env)).any (·.1) = false := by rfl) :
    DO X (.Call (.Attribute o name apos) (e :: es) [] cpos) (dMut m t tr) := by
  refine ⟨fun W tk σ S F H env Q E kh w hes hx q => toE (pe_bm pa slot hty (wm X id) (we X o) (wa X (e :: es)) hbase hfew hline hs hplain) ?_⟩
  refine (ho.run W tk σ S F H env _ E kh w hes hx q).mono fun v H1 kh1 ⟨S1, F1, G1, ov, e1, n1, es1, hov, ⟨il, q1⟩⟩ => ?_
  obtain ⟨ds0, ed⟩ := isLst_eq il
  obtain ⟨Fx, rx⟩ := hov.r kh1 es1 (by rw [ed]; simp)
  rw [ed] at rx
  refine ⟨by cases rx with | lst h1 _ _ _ => exact .inl ⟨rfl, _, SqL.of h1⟩, ?_⟩
  refine (ha.run W tk σ S1 F1 H1 e1 _ E kh1 n1.w.e es1 (hx.on n1) q1).mono fun vs H2 kh2 ⟨S2, F2, G2, os, e2, n2, es2, ovs, q2⟩ => ?_
  have q2 : (match vals os with
  | some as => mutO ov e2 (fun ds k => m ds as k) Q
  | none => False) := q2
  cases z : vals os with
  | none => rw [z] at q2; exact q2.elim
  | some as =>
    rw [z] at q2
    have ra := ovs.vals z
    have n12 := n1.seq n2
    have d12 : Dj G1 G2 := fun a h1 h2 => by
      rcases n2.gn a h2 with h | h
      · exact n1.w.fg a h h1
      · exact (n1.w.gm a h1).ne h
    exact mut_go tk kh2 n12 es2 (hov.kp (n2.kpG n1.w) n2.ss) (fun x h => .inl h) q2 fun a us ds Fc Q' h1 rs sc q' pins s σ' v us0 I rx rv =>
      thn (hm.run S2 H2 a us ds Fc vs as G2 Q' h1 rs ra (fun x h h' => sc.elim (fun z => n2.w.fg x (z x h) h') (fun z => d12 x (z x h) h')) q' pins s σ' v us0 I rx rv) fun y s' ⟨z', H', I', rz, us', ds', x, Fc', e', rs', sc', rp, q''⟩ =>
        ⟨z', H', I', rz, us', ds', x, Fc', e', rs', fun x h => (sc' x h).elim .inl (fun z => .inr (.inr z)), rp, q''⟩
theorem do_mutR (pa : PlainAttrs "list") (slot : Slot "list" name id) (hty : typeOf (.builtin id) = pure (.type "method_descriptor")) (hm : MutR X id m) (ho : DO X o t) (ha : DA X (e :: es) tr)
    (hbase : attributeBase o name X.env (eval o X.env) = eval o X.env := by rfl)
    (hfew : ((backTo cpos (starEach (e :: es) X.env)).all (fun x => !x.1) && (backToKw cpos (keywordEach [] X.env)).all (fun x => x.1.isSome)
      && decide ((e :: es).length + ([] : List Keyword).length + (if ([] : List Keyword).isEmpty then 0 else 1) < 30)) = true := by rfl)
    (hline : (apos.endLine == cpos.line) = true := by rfl) (hs : starEach (e :: es) X.env = (false, eval e X.env) :: starEach es X.env := by rfl) (hplain : (backTo cpos (starEach es X.env)).any (·.1) = false := by rfl) :
    DO X (.Call (.Attribute o name apos) (e :: es) [] cpos) (dMutR m t tr) := by
  refine ⟨fun W tk σ S F H env Q E kh w hes hx q => toE (pe_bm pa slot hty (wm X id) (we X o) (wa X (e :: es)) hbase hfew hline hs hplain) ?_⟩
  refine (ho.run W tk σ S F H env _ E kh w hes hx q).mono fun v H1 kh1 ⟨S1, F1, G1, ov, e1, n1, es1, hov, ⟨il, q1⟩⟩ => ?_
  obtain ⟨ds0, ed⟩ := isLst_eq il
  obtain ⟨Fx, rx⟩ := hov.r kh1 es1 (by rw [ed]; simp)
  rw [ed] at rx
  refine ⟨by cases rx with | lst h1 _ _ _ => exact .inl ⟨rfl, _, SqL.of h1⟩, ?_⟩
  refine (ha.run W tk σ S1 F1 H1 e1 _ E kh1 n1.w.e es1 (hx.on n1) q1).mono fun vs H2 kh2 ⟨S2, F2, G2, os, e2, n2, es2, ovs, q2⟩ => ?_
  have n12 := n1.seq n2
  exact mut_go tk kh2 n12 es2 (hov.kp (n2.kpG n1.w) n2.ss) (fun x h => .inl h) q2 fun a us ds Fc Q' h1 rs sc q' pins s σ' v us0 I rx rv =>
    thn (hm.run S2 H2 a us ds Fc vs _ Q' h1 rs (ovs.rl kh2 es2) q' pins s σ' v us0 I rx rv) fun y s' ⟨z', H', I', rz, us', ds', x, Fc', e', rs', sc', rp, q''⟩ =>
      ⟨z', H', I', rz, us', ds', x, Fc', e', rs', fun x h => .inl (sc' x h), rp, q''⟩
theorem do_mut0 (pa : PlainAttrs "list") (slot : Slot "list" name id) (hty : typeOf (.builtin id) = pure (.type "method_descriptor")) (hm : MutR X id m) (ho : DO X o t)
    (hbase : attributeBase o name X.env (eval o X.env) = eval o X.env := by rfl) (hline : (apos.endLine == cpos.line) = true := by rfl) : DO X (.Call (.Attribute o name apos) [] [] cpos) (dMut0 m t) := by
  refine ⟨fun W tk σ S F H env Q E kh w hes hx q => toE (pe_bm0 pa slot hty (wm X id) (we X o) hbase hline) ?_⟩
  refine (ho.run W tk σ S F H env _ E kh w hes hx q).mono fun v H1 kh1 ⟨S1, F1, G1, ov, e1, n1, es1, hov, q1⟩ => ?_
  refine ⟨?_, mut_go tk kh1 n1 es1 hov Sub.refl q1 fun a us ds Fc Q' h1 rs sc q' pins s σ' v us0 I rx rv =>
    thn (hm.run S1 H1 a us ds Fc [] [] Q' h1 rs .nil q' pins s σ' v us0 I rx rv) fun y s' ⟨z', H', I', rz, us', ds', x, Fc', e', rs', sc', rp, q''⟩ =>
      ⟨z', H', I', rz, us', ds', x, Fc', e', rs', fun x h => .inl (sc' x h), rp, q''⟩⟩
  have hl : isLst (ov.get e1) := by
    cases ov with
    | ref i π =>
      have q1 : (match e1.at i π with
      | .lst ds => m ds [] fun ds' x => Q (.val (.p x)) (e1.put i π (.lst ds'))
      | _ => False) := q1
      show isLst (e1.at i π)
      split at q1
      · rename_i e; rw [e]; trivial
      · exact q1.elim
    | val d =>
      cases d with
      | lst ds => trivial
      | _ => exact q1.elim
  obtain ⟨ds0, ed⟩ := isLst_eq hl
  obtain ⟨Fx, rx⟩ := hov.r kh1 es1 (by rw [ed]; simp)
  rw [ed] at rx
  cases rx with | lst h1 _ _ _ => exact .inl ⟨rfl, _, SqL.of h1⟩
/-! append, extend, clear, reverse, pop(i) -/
def mAppend : FM := fun ds as Q => match as with
  | [d] => ds.length < 1000000 ∧ Q (ds ++ [d]) .none
  | _ => False
theorem million : (1000000 : Nat) ≤ sizeLine := by rw [sizeLine_eq]; decide
theorem md_append : MutD X "list.append" mAppend := by
  refine ⟨fun S H a us ds Fc vs as Ga Q h1 rs ra dj q => ?_⟩
  unfold mAppend at q
  split at q
  · rename_i d
    cases ra with
    | @cons v _ _ _ _ G1 G2 r r2 s1 s2 d12 =>
      cases r2
      refine toM mt_append ⟨a, us, v, rfl, rfl, h1, by rw [Rs.length _ rs]; exact Nat.lt_of_lt_of_le q.1 million, ?_⟩
      exact ⟨us ++ [v], ds ++ [d], .none, _, rfl, rs.snoc r (dj.sub Sub.refl s1), fun x h => h.elim .inl (fun z => .inr (s1 x z)), .non, q.2⟩
  · exact q.elim
def mClear : FM := fun ds as Q => match as with
  | [] => Q [] .none
  | _ => False
theorem md_clear : MutR X "list.clear" mClear := by
  refine ⟨fun S H a us ds Fc vs as Q h1 rs ra q => ?_⟩
  unfold mClear at q
  split at q
  · cases ra
    exact toM mt_clear ⟨a, us, rfl, rfl, h1, [], [], .none, Em, rfl, .nil, fun _ z => z.elim, .non, q⟩
  · exact q.elim
def mReverse : FM := fun ds as Q => match as with
  | [] => match pys ds with
    | some xs => Q (xs.reverse.map D.p) .none
    | none => False
  | _ => False
theorem md_reverse : MutR X "list.reverse" mReverse := by
  refine ⟨fun S H a us ds Fc vs as Q h1 rs ra q => ?_⟩
  unfold mReverse at q
  split at q
  · split at q
    · rename_i xs e
      cases ra
      exact toM mt_reverse ⟨a, us, rfl, rfl, h1, us.reverse, _, .none, Em, rfl, RPs.up (rs.pys _ e).reverse, fun _ z => z.elim, .non, q⟩
    · exact q.elim
  · exact q.elim
def mPopAt : FM := fun ds as Q => match as with
  | [.p (.int i)] => match pys ds with
    | some xs => 0 ≤ i ∧ match xs[i.toNat]? with
      | some x => Q ((xs.eraseIdx i.toNat).map D.p) x
      | none => False
    | none => False
  | _ => False
theorem RPs.erase {K : PySem.W.Frag} {S : Ft} {H : Hp} : ∀ {vs : List V} {xs : List PD} (i : Nat), RPs K S H vs xs → RPs K S H (vs.eraseIdx i) (xs.eraseIdx i)
  | _, [], i, h => by cases h; exact .nil
  | _, x :: xs, 0, h => by cases h with | cons a b => exact b
  | _, x :: xs, i + 1, h => by cases h with | cons a b => exact .cons a (RPs.erase i b)
theorem md_popAt : MutR X "list.pop" mPopAt := by
  refine ⟨fun S H a us ds Fc vs as Q h1 rs ra q => ?_⟩
  unfold mPopAt at q
  split at q
  · rename_i i
    split at q
    · rename_i xs e
      obtain ⟨h0, q⟩ := q
      split at q
      · rename_i x ex
        have rp := rs.pys _ e
        obtain ⟨v, ev, r⟩ := rp.get _ ex
        have hlt : i.toNat < us.length := (List.getElem?_eq_some_iff.mp ev).1
        cases ra with
        | cons r1 r2 =>
          cases r2
          cases r1 with
          | p r1 =>
            cases r1
            intro pins s σ v0 us0 I rx rv
            obtain ⟨hz, _⟩ := I.lstM h1
            have hz2 : (sizeLine : Nat) < 2 ^ 63 := line63
            have hix : ixN us.length i = some i.toNat := by
              unfold ixN
              rw [if_pos h0, if_pos (by omega)]
            exact toM mt_popAt ⟨a, us, i, i.toNat, v, rfl, rfl, h1, by omega, by omega, (ixN_seq hix).1, ev, us.eraseIdx i.toNat, _, x, Em, rfl, RPs.up (rp.erase _), fun _ z => z.elim, r, q⟩ pins s σ v0 us0 I rx rv
      · exact q.elim
    · exact q.elim
  · exact q.elim
def mExtend : FM := fun ds as Q => match as with
  | [.lst es] => match pys es with
    | some ys => ds.length + ys.length ≤ 1000000 ∧ Q (ds ++ ys.map D.p) .none
    | none => False
  | _ => False
theorem Rs.apP {K : PySem.W.Frag} {S : Ft} {H : Hp} : ∀ {us vs : List V} {ds : List D} {xs : List PD} {G : Ft}, Rs K S H us ds G → RPs K S H vs xs → Rs K S H (us ++ vs) (ds ++ xs.map D.p) G
  | _, _, [], _, _, h, r => by cases h; exact RPs.up r
  | _, _, d :: ds, _, _, h, r => by
    cases h with
    | cons a b c f g => exact .cons a (Rs.apP b r) c f g
theorem md_extend : MutR X "list.extend" mExtend := by
  refine ⟨fun S H a us ds Fc vs as Q h1 rs ra q => ?_⟩
  unfold mExtend at q
  split at q
  · split at q
    · rename_i ys e
      cases ra with
      | cons r1 r2 =>
        cases r2
        cases r1 with
        | lst g1 g2 g3 g4 =>
          have rp := g4.pys _ e
          refine toM mt_extend ⟨a, _, us, _, rfl, rfl, h1, g1, by rw [Rs.length _ rs, RPs.length _ rp]; exact Nat.le_trans q.1 million, us ++ _, _, .none, Fc, rfl, rs.apP rp, Sub.refl, .non, q.2⟩
    · exact q.elim
  · exact q.elim
end
end Dv

set_option Elab.async false
set_option linter.all false
set_option maxRecDepth 100000
/-! Dv, part N: stores, dict displays, some unary operators. -/
namespace Dv
open PySem PySem.Spec PyProof.Rows L2
section
variable {X : Cx} {o i e : Expr} {to ti tv : DT} {pos pos' p2 : Pos}
/-- xs[i] = e -/
def dSetL (tv to ti : DT) : DTS := fun D env E => tv env (fun y e1 => match y with
  | .val d => to e1 (fun ob e2 => ti e2 (fun ix e3 => match ix with
    | .val (.p (.int k)) => mutO ob e3 (fun ds K => match ixN ds.length k with
      | some j => K (ds.set j d) .none
      | none => False) (fun _ e4 => D.nx e4)
    | _ => False) E) E
  | .ref _ _ => False) E
theorem Rs.setAt {K : PySem.W.Frag} {S : Ft} {H : Hp} : ∀ {us : List V} {ds : List D} {y : V} {d : D} {G G6 : Ft} (j : Nat), Rs K S H us ds G → R K S H y d G6 → Dj G G6 → j < ds.length → Rs K S H (us.set j y) (ds.set j d) (Or2 G G6)
  | _, [], _, _, _, _, j, _, _, _, h => by simp at h
  | _, d0 :: ds, y, d, G, G6, 0, h, r, dj, _ => by
    cases h with
    | cons a b c f g => exact .cons r b (fun x h => .inr h) (fun x h => .inl (f x h)) fun x h1 h2 => dj x (f x h2) h1
  | _, d0 :: ds, y, d, G, G6, j + 1, h, r, dj, hl => by
    cases h with
    | cons a b c f g =>
      exact .cons a (Rs.setAt j b r (dj.sub f Sub.refl) (by simpa using hl)) (fun x h => .inl (c x h)) (fun x h => h.elim (fun z => .inl (f x z)) .inr) fun x h1 h2 => h2.elim (g x h1) (fun z => dj x (c x h1) z)
theorem ixN_lt {n : Nat} {k : Int} {j : Nat} (h : ixN n k = some j) : j < n := (ixN_seq h).2.1
theorem ds_setL (hv : DO X e tv) (ho : DO X o to) (hi : DO X i ti) (hs : swapsWithSole [.Subscript o i p2] e pos.line X.env = pure false := by rfl) (hw : swappedStores [.Subscript o i p2] e X.env = pure none := by rfl)
    (h1 : (assignEach [.Subscript o i p2] X.env).map (·.2) = [assign (.Subscript o i p2) X.env] := by rfl)
    (hsub : ∀ v, assign (.Subscript o i p2) X.env v = (do
      let ov ← holding [v] (eval o X.env)
      let iv ← holding [v, ov] (eval i X.env)
      standAt p2
      holding [v, ov, iv] (setItem ov iv v)
      release [v, ov, iv] []) := by intro _; rfl) : DS X (.Assign [.Subscript o i p2] e pos) [] (dSetL tv to ti) := by
  refine ⟨fun W tk σ S F H env D E kh hl w es hx q => toS (ps_asg (we X e) (pg_sub (we X o) (we X i) set_list hsub) hs hw h1) ?_⟩
  refine (hv.run W tk σ S F H env _ E kh w es hx.eq q).mono fun v H1 kh1 ⟨S1, F1, G1, y, e1, n1, es1, ov1, q1⟩ => ?_
  cases y with
  | ref _ _ => exact q1.elim
  | val d =>
    have ov1 : R X.K S1 H1 v d G1 := ov1
    refine (ho.run W tk σ S1 F1 H1 e1 _ E kh1 n1.w.e es1 (hx.eq.on n1) q1).mono fun u H2 kh2 ⟨S2, F2, G2, ob, e2, n2, es2, ov2, q2⟩ => ?_
    refine (hi.run W tk σ S2 F2 H2 e2 _ E kh2 n2.w.e es2 ((hx.eq.on n1).on n2) q2).mono fun iv H3 kh3 ⟨S3, F3, G3, ix, e3, n3, es3, ov3, q3⟩ => ?_
    cases ix with
    | ref _ _ => exact q3.elim
    | val dk =>
      cases dk with
      | p xk =>
        cases xk with
        | int k =>
          have ov3 : R X.K S3 H3 iv (.p (.int k)) G3 := ov3
          cases ov3 with
          | p ov3 =>
            cases ov3
            have n23 := n2.seq n3
            have n13 := n1.seq n23
            have rv := R.kp n23.ss _ (n23.kpG n1.w) ov1
            have hob := ov2.kp (n3.kpG n2.w) n3.ss
            have d12 : Dj G1 (Or2 G2 G3) := fun a h1 h2 => by
              rcases n23.gn a h2 with h | h
              · exact n1.w.fg a h h1
              · exact (n1.w.gm a h1).ne h
            -- the object
            have q3 : mutO ob e3 (fun ds K => match ixN ds.length k with
              | some j => K (ds.set j d) .none
              | none => False) (fun _ e4 => D.nx e4) := q3
            cases ob with
            | ref m π =>
              have q3 : (match e3.at m π with
              | .lst ds => (match ixN ds.length k with
                | some j => D.nx (e3.put m π (.lst (ds.set j d)))
                | none => False)
              | _ => False) := q3
              split at q3
              · rename_i ds ed
                split at q3
                · rename_i j ej
                  obtain ⟨a, us, Fc, rfl, h1, rs, sc, cl⟩ := ES.mutAt kh3 n13 es3 hob ed
                  have hlen := Rs.length _ rs
                  obtain ⟨F4, n4, es4⟩ := cl (us.set j v) (ds.set j d) (Or2 Fc G1) (rs.setAt j rv (fun x h h' => n13.w.fg x (sc x h) (.inl h')) (ixN_lt ej)) (fun x h => h.elim .inl (fun z => .inr (.inl z)))
                  exact ⟨a, us, k, j, rfl, rfl, h1, by rw [hlen]; exact ej, Ag.refl, S3, F4, _, n4, es4, q3⟩
                · exact q3.elim
              · exact q3.elim
            | val d0 =>
              cases d0 with
              | lst ds =>
                have q3 : (match ixN ds.length k with
                | some j => D.nx e3
                | none => False) := q3
                split at q3
                · rename_i j ej
                  have hob : R X.K S3 H3 u (.lst ds) G2 := hob
                  cases hob with
                  | @lst a us _ _ F' g1 g2 g3 g4 =>
                    have hlen := Rs.length _ g4
                    have ga : (Or2 G1 (Or2 G2 G3)) a := .inr (.inl g2)
                    have n4 := n13.mutG (o := .lst (us.set j v)) ga trivial
                    exact ⟨a, us, k, j, rfl, rfl, g1, by rw [hlen]; exact ej, Ag.refl, S3, F3, e3, n4.e, es3.kp (kp_upd (fun z => n13.w.fg a z ga) (fun z => n13.w.sg a z ga) (by rw [g1]; trivial)) Sub.refl, q3⟩
                · exact q3.elim
              | _ => exact q3.elim
        | _ => exact q3.elim
      | _ => exact q3.elim

/-! ### dicts -/
/-- d[k] = e, keys and values plain -/
def dSetD (tv to ti : DT) : DTS := fun D env E => tv env (fun y e1 => match y with
  | .val (.p x) => to e1 (fun ob e2 => ti e2 (fun ix e3 => match ob with
    | .ref n π => match e3.at n π, (ix.get e3).key with
      | .dct kvs, some k => kvs.length < 1000000 ∧ D.nx (e3.put n π (.dct (dput kvs k x)))
      | _, _ => False
    | .val _ => False) E) E
  | _ => False) E
theorem RK.put {K : PySem.W.Frag} {S : Ft} {H : Hp} {k : Key} {v : V} {x : PD} (r : RP K S H v x) : ∀ {vs : List (Key × V)} {ds : List (Key × PD)}, RK K S H vs ds → RK K S H (putK vs k v) (dput ds k x) := by
  intro vs ds h
  have any : ∀ {vs : List (Key × V)} {ds : List (Key × PD)}, RK K S H vs ds → (vs.any fun kv => decide (kv.1 = k)) = (ds.any fun kv => decide (kv.1 = k)) := by
    intro vs ds h
    induction h with
    | nil => rfl
    | cons a b ih => simp [List.any_cons, ih]
  have mp : ∀ {vs : List (Key × V)} {ds : List (Key × PD)}, RK K S H vs ds → RK K S H (vs.map (fun kv => if kv.1 = k then (kv.1, v) else kv)) (ds.map (fun kv => if kv.1 = k then (kv.1, x) else kv)) := by
    intro vs ds h
    induction h with
    | nil => exact .nil
    | @cons k' v' d' vs ds a b ih =>
      rw [List.map_cons, List.map_cons]
      by_cases e : k' = k
      · simp only [e, if_true]; exact .cons r ih
      · simp only [e, if_false]; exact .cons a ih
  have ap : ∀ {vs : List (Key × V)} {ds : List (Key × PD)}, RK K S H vs ds → RK K S H (vs ++ [(k, v)]) (ds ++ [(k, x)]) := by
    intro vs ds h
    induction h with
    | nil => exact .cons r .nil
    | cons a b ih => exact .cons a ih
  unfold putK dput
  rw [any h]
  split
  · exact mp h
  · exact ap h
theorem ds_setD {k : Nat} (hr : Room k X.A) (hv : DO X e tv) (ho : DO X o to) (hi : DO X i ti) (hs : swapsWith e (some (.Subscript o i pos')) pos.line X.env = pure false := by rfl) : DS X (.Assign [.Subscript o i pos'] e pos) [] (dSetD tv to ti) := by
  refine ⟨fun W tk σ S F H env D E kh hl w es hx q => toS (ps_dput (hu_of hr) (we X o) (we X i) (we X e) hs) ?_⟩
  refine (hv.run W tk σ S F H env _ E kh w es hx.eq q).mono fun v H1 kh1 ⟨S1, F1, G1, y, e1, n1, es1, ov1, q1⟩ => ?_
  cases y with
  | ref _ _ => exact q1.elim
  | val d =>
    cases d with
    | p x =>
      have ov1 : R X.K S1 H1 v (.p x) G1 := ov1
      cases ov1 with
      | p rx =>
        refine (ho.run W tk σ S1 F1 H1 e1 _ E kh1 n1.w.e es1 (hx.eq.on n1) q1).mono fun u H2 kh2 ⟨S2, F2, G2, ob, e2, n2, es2, ov2, q2⟩ => ?_
        refine (hi.run W tk σ S2 F2 H2 e2 _ E kh2 n2.w.e es2 ((hx.eq.on n1).on n2) q2).mono fun iv H3 kh3 ⟨S3, F3, G3, ix, e3, n3, es3, ov3, q3⟩ => ?_
        have n13 := n1.seq (n2.seq n3)
        have rx3 := RP.kp ((n2.seq n3).kpS n1.w) (n2.seq n3).ss _ rx
        have hob := ov2.kp (n3.kpG n2.w) n3.ss
        cases ob with
        | val _ => exact q3.elim
        | ref m π =>
          have q3 : (match e3.at m π, (ix.get e3).key with
          | .dct kvs, some k => kvs.length < 1000000 ∧ D.nx (e3.put m π (.dct (dput kvs k x)))
          | _, _ => False) := q3
          split at q3
          · rename_i kvs key ed ek
            have ne : ix.get e3 ≠ .hole := fun z => by rw [z] at ek; cases ek
            obtain ⟨Fx, rk⟩ := ov3.r kh3 es3 ne
            have ev := rk.key ek
            subst ev
            obtain ⟨u', Fa, Fb, pv', r, sa, sb, dab, cl⟩ := es3.lens m π ed (by simp)
            have := PV.inj kh3 hob pv'
            subst this
            cases r with
            | @dct a vs _ _ h1 h2 h3 =>
              have ha : MuO (H3 a) := by rw [h1]; trivial
              have hS : ¬ S3 a := fun z => n13.w.sf a z (sa a h2)
              have n4 := n13.mutF (o := .dK (putK vs key v)) (sa a h2) trivial
              have rk3 := (RK.put (k := key) rx3 h3).kp (F := Em) (H' := upd H3 a (.dK (putK vs key v))) (kp_upd (fun z => z) hS ha) Sub.refl
              have r' : R X.K S3 (upd H3 a (.dK (putK vs key v))) (.ref a) (.dct (dput kvs key x)) Fa := .dct upd_same h2 rk3
              have es4 := cl S3 _ Fa _ (kp_upd (fun z => dab a h2 z) hS ha) Sub.refl r' dab
              refine ⟨a, _, rfl, DPut.k h1 (by rw [h3.length]; exact Nat.lt_of_lt_of_le q3.1 million), Ag.refl, S3, _, _, n4.give fun x h => .inl (h.elim (sa x) (sb x)), es4, q3.2⟩
          · exact q3.elim
    | _ => exact q1.elim
/-- {} -/
def dNewD : DT := fun env Q _ => Q (.val (.dct [])) env
theorem do_newD : DO X (.Dict [] [] pos) dNewD := by
  refine ⟨fun W tk σ S F H env Q E kh w es hx q => toE pe_dnewK fun p hp => ?_⟩
  exact ⟨S, F, _, .val (.dct []), env, Nx.new w hp trivial, es.kp (kp_new hp) Sub.refl, .dct upd_same rfl .nil, q⟩
/-! ### -n -/
def dNeg (t : DT) : DT := fun env Q E => t env (fun ob e1 => match ob with
  | .val (.p (.int k)) => Q (.val (.p (.int (-k)))) e1
  | _ => False) E
theorem do_neg {t : DT} (h : DO X e t) : DO X (.UnaryOp .USub e pos) (dNeg t) := by
  refine ⟨fun W tk σ S F H env Q E kh w es hx q => toE (pe_un un_neg (we X e)) ?_⟩
  refine (h.run W tk σ S F H env _ E kh w es hx q).mono fun v H1 kh1 ⟨S1, F1, G1, ob, e1, n1, es1, ov, q1⟩ => ?_
  cases ob with
  | ref _ _ => exact q1.elim
  | val d =>
    cases d with
    | p x =>
      cases x with
      | int k =>
        have ov : R X.K S1 H1 v (.p (.int k)) G1 := ov
        cases ov with | p ov => cases ov; exact ⟨k, rfl, S1, F1, Em, .val (.p (.int _)), e1, n1.e, es1, R.p (.int _), q1⟩
      | _ => exact q1.elim
    | _ => exact q1.elim
end
end Dv
namespace Dv
open PySem PySem.Spec PyProof.Rows L2
/-! ### a tuple whose parts are taken out of their places when it is made -/
def dTupM (ta : DTA) : DT := fun env Q E => ta env (fun os e1 => ((slots os).Nodup ∧ okR os e1) ∧ os.length ≤ 1000 ∧ Q (.val (tupD (os.map (Opd.get e1)))) (putAll os (os.map fun _ => .hole) e1)) E
theorem Rs.holes {K : PySem.W.Frag} {S : Ft} {H : Hp} : ∀ {vs : List V} {os : List Opd}, vs.length = os.length → Rs K S H vs (os.map fun _ => .hole) Em
  | [], [], _ => .nil
  | v :: vs, o :: os, h => .cons (F1 := Em) (F2 := Em) .hole (Rs.holes (by simpa using h)) (fun _ z => z) (fun _ z => z) (fun _ z => z.elim)
theorem do_tupM {X : Cx} {es : List Expr} {ta : DTA} {pos : Pos} {x1} (ha : DA X es ta) : DO X (.Tuple es x1 pos) (dTupM ta) := by
  refine ⟨fun W tk σ S F H env Q E kh w hs hx q => toE (pe_tup (wa X _)) ?_⟩
  refine (ha.run W tk σ S F H env _ E kh w hs hx q).mono fun vs H1 kh1 ⟨S1, F1, G1, os, e1, n1, es1, ovs, ⟨⟨nd, ok⟩, hl, q1⟩⟩ => ?_
  obtain ⟨Fa, Fr, rs, sa, sr, dar, cl⟩ := take_args kh1 es1 ovs n1.w.fg nd ok
  have hlen : vs.length = os.length := by have := rs.length; simpa using this
  refine ⟨by rw [hlen]; exact line1000 hl, fun p hp => ?_⟩
  have es2 := cl S1 H1 _ Em kp_id Sub.refl (Rs.holes hlen) fun _ z => z.elim
  have n2 : Nx S F H S1 Fr Fa H1 := ⟨n1.keep, n1.ss, n1.sn, fun a h => n1.fn a (sr a h), fun a h => (sa a h).elim (n1.fn a) (n1.gn a), ⟨fun a h h' => n1.w.sf a h (sr a h'), fun a h h' => (sa a h').elim (n1.w.sf a h) (n1.w.sg a h), dar.symm, n1.w.sd, fun a h => n1.w.fm a (sr a h), fun a h => (sa a h).elim (n1.w.fm a) (n1.w.gm a)⟩⟩
  have n3 : Nx S F H S1 Fr Fa (upd H1 p (.tup vs)) := (n2.seq (Nx.newT n2.w hp)).g fun a h => .inl h
  have es3 := (es2.wide (F' := Fr) fun x h => h.elim (fun z => z.elim) _root_.id).kp (kp_new (S := S1) hp) Sub.refl (H' := upd H1 p (.tup vs))
  refine ⟨S1, Fr, Fa, .val (tupD (os.map (Opd.get e1))), _, n3, es3, ?_, q1⟩
  show R X.K S1 _ _ (tupD (os.map (Opd.get e1))) Fa
  unfold tupD
  split
  · rename_i xs hxs
    exact .p (.tup (SqT.of upd_same) (RPs.kp (kp_new (F := Em) hp) Sub.refl _ (rs.pys _ hxs)))
  · exact .tup (SqT.of upd_same) (Rs.kp Sub.refl _ (kp_new hp) rs)
end Dv

set_option Elab.async false
set_option linter.all false
set_option maxRecDepth 100000
/-! Dv, part O: the defs of a text, known one by one. -/
namespace Dv
open PySem PySem.Spec PyProof.Rows L2

structure DefAt (K : PySem.W.Frag) (mg : Str → Option Value) (nm : Str) (st : Stmt) (ps : List Str) (f : Addr) (fd : FuncData) : Prop where
  fn : Fun K nm nm st f fd
  bd : Binds K fd ps []
  bq : ∀ us : List Value, us.length = ps.length → bindArgs fd ⟨us, []⟩ = pure (ps.zip us)
  pt : mg nm = some (.ref f)
/-- a def that keeps its promise -/
structure Kn (P : Program) (w : World) (K : PySem.W.Frag) (mg : Str → Option Value) (base : Heap) (k : Nat) (nm : Str) (st : Stmt) (ps : List Str) (fD : FD) : Prop where
  ex : ∃ f fd, DefAt K mg nm st ps f fd ∧ FnOk P w K mg base (L2N.CX P w) k f fd ps (SpD K ps.length fD)
  hn : ∀ ds Q E, fD ds Q E → ds.length = ps.length
theorem do_kn {X : Cx} {k j : Nat} {nm : Str} {st : Stmt} {ps : List Str} {fD : FD} {p pos : Pos} {e : Expr} {es : List Expr} {tr : DTA} (G : Kn X.prog X.w X.K X.mg X.base j nm st ps fD) (hr : Room k X.A) (hj : j ≤ k) (hg : Gl X nm) (ha : DA X (e :: es) tr)
    (hdb : (nm == ("__debug__" : Str)) = false := by decide) (he : starEach (e :: es) X.env = (false, eval e X.env) :: starEach es X.env := by rfl) (hpl : (backTo pos (starEach es X.env)).any (·.1) = false := by rfl) :
    DO X (.Call (.Name nm p) (e :: es) [] pos) (dCallF fD tr) := by
  obtain ⟨f, fd, D, F⟩ := G.ex
  exact do_call F G.hn (hr.mono hj) hg D.pt D.fn.kp D.bd ha hdb he hpl
/-- what the body asks, in plain words -/
def Body (t : DTS) (tv : List Nat) (n : Nat) (fD : FD) : Prop := ∀ ds QD ED, fD ds QD ED →
  t { nx := fun env => QD (.p .none) (outs tv 0 ds env), rt := fun r env => QD r (outs tv 0 ds env) } (startD n ds) (fun C y env => ED C y (outs tv 0 ds env))
theorem kn_of {P : Program} {w : World} {K : PySem.W.Frag} {mg : Str → Option Value} {base : Heap} {k : Nat} {nm : Str} {st : Stmt} {ps N : List Str} {fD : FD} {tv : List Nat} {t : DTS} (T : ∃ f fd, DefAt K mg nm st ps f fd) (Sc : FnScope N ps (defScope st)) (hn : ∀ ds Q E, fD ds Q E → ds.length = ps.length) (hN : ps.length ≤ N.length)
    (ht : ∀ (f : Addr) (cdv : Value) (A : Around) (outer : List PySem.Env) (s : Shared) (H : Hp) (E : XK), Room k (A.deeper (envOfC nm (defScope st) s.heap.objs.size f cdv)) → DSs (cxOf (L2N.CX P w) P w K mg base N nm (defScope st) f cdv A outer s H E) (defBody st) tv t)
    (hb : Body t tv N.length fD) : Kn P w K mg base (k + 1) nm st ps fD := by
  obtain ⟨f, fd, D⟩ := T
  exact ⟨⟨f, fd, D, fn_d D.fn Sc hn hN fun cdv A outer s H E hr => ⟨tv, t, ht f cdv A outer s H E hr, hb⟩⟩, hn⟩
theorem def_mk {K : PySem.W.Frag} {h : Heap} {mg : Str → Option Value} (X : K.In h) (G : h.Ns mainGlobals mg) {nm : Str} {st : Stmt} {ps : List Str} {f : Addr} {od an : Option Addr} {sl : Array (Option Value)} {oc kV dc pm cd ct : Value}
    (a : PySem.W.nsIn K mainGlobals nm = some (some (.ref f))) (l : K.lookup f = some ⟨oc, od, .func (PySem.W.fnOf nm nm (defArgs st) (defBody st) (defScope st) .none kV dc pm an cd ct), sl⟩) (c : PySem.W.codeIn K cd nm = true) (k : PySem.W.keepIn K (.ref f) = true)
    (b : ∀ (kV doc pm : Value) (an : Option Addr) (cdv ct : Value) (us : List Value), us.length = ps.length → bindArgs (PySem.W.fnOf nm nm (defArgs st) (defBody st) (defScope st) .none kV doc pm an cdv ct) ⟨us, []⟩ = pure (ps.zip us)) : ∃ f fd, DefAt K mg nm st ps f fd :=
  let F := fun_mk (st := st) l c k
  ⟨f, _, F, F.binds b, fun us hl => b kV dc pm an cd ct us hl, PySem.W.mg_of X G a⟩
theorem do_globE {X : Cx} {x : Str} {v : V} {d : PD} {pos : Pos} (hg : Gl X x) (hm : ∃ u, X.mg x = some u ∧ RelV v u) (rp : ∀ S H, RP X.K S H v d) (hd : (x == ("__debug__" : Str)) = false := by decide) : DO X (.Name x pos) (dK d) := by
  obtain ⟨u, e, r⟩ := hm
  exact do_glob hg e r rp hd
/-! ### built-in names -/
theorem b_len : bootBuiltins "len" = some (.builtin "len") := by decide +kernel
theorem b_sum : bootBuiltins "sum" = some (.builtin "sum") := by decide +kernel
theorem b_sorted : bootBuiltins "sorted" = some (.builtin "sorted") := by decide +kernel
theorem b_max : bootBuiltins "max" = some (.builtin "max") := by decide +kernel
theorem b_min : bootBuiltins "min" = some (.builtin "min") := by decide +kernel
theorem b_all : bootBuiltins "all" = some (.builtin "all") := by decide +kernel
theorem b_any : bootBuiltins "any" = some (.builtin "any") := by decide +kernel
theorem b_tuple : bootBuiltins "tuple" = some (.type "tuple") := by decide +kernel
theorem b_list : bootBuiltins "list" = some (.type "list") := by decide +kernel
theorem b_int : bootBuiltins "int" = some (.type "int") := by decide +kernel
theorem b_str : bootBuiltins "str" = some (.type "str") := by decide +kernel
theorem b_bool : bootBuiltins "bool" = some (.type "bool") := by decide +kernel
/-! ### list(range(..)) -/
def dLrange (t : DT) : DT := fun env Q E => t env (fun o e1 => match o with
  | .val (.p (.int j)) => j ≤ 1000000 ∧ -(1000000) ≤ j ∧ Q (.val (.lst ((rangeP 0 j.toNat).map D.p))) e1
  | _ => False) E
theorem rps_range {K : PySem.W.Frag} {S : Ft} {H : Hp} (j : Int) : RPs K S H (rgV 0 j) (rangeP 0 j.toNat) := by
  unfold rgV rangeP
  rw [show j - 0 = j by omega]
  generalize List.range j.toNat = l
  induction l with
  | nil => exact .nil
  | cons n r ih => exact .cons (.int _) ih
theorem do_lrange {X : Cx} {e : Expr} {t : DT} {p p2 pos pos2 : Pos} (hc : X.calm = true) (hg : Gl X "list") (hm : X.mg "list" = none) (hg2 : Gl X "range") (hm2 : X.mg "range" = none) (he : DO X e t)
    (na : starEach [.Call (.Name "range" p2) [e] [] pos2] X.env = (false, eval (.Call (.Name "range" p2) [e] [] pos2) X.env) :: starEach [] X.env := by rfl) (nb : starEach [e] X.env = (false, eval e X.env) :: starEach [] X.env := by rfl) :
    DO X (.Call (.Name "list" p) [.Call (.Name "range" p2) [e] [] pos2] [] pos) (dLrange t) := by
  refine ⟨fun W tk σ S F H env Q E kh w es hx q => toE (pe_listRg hc hg hm (prg_1 hg2 hm2 (we X e) nb) na) ?_⟩
  refine (he.run W tk σ S F H env _ E kh w es hx q).mono fun v H1 kh1 ⟨S1, F1, G1, o, e1, n1, es1, ov, q1⟩ => ?_
  cases o with
  | ref _ _ => exact q1.elim
  | val d =>
    cases d with
    | p x =>
      cases x with
      | int j =>
        have ov : R X.K S1 H1 v (.p (.int j)) G1 := ov
        cases ov with
        | p ov =>
          cases ov
          obtain ⟨h1, h2, q1⟩ := q1
          exact ⟨j, rfl, ⟨by omega, by omega, by omega, by omega, by omega⟩, fun q hq => QV.fin (W := W) n1 es1 (QV.ll (Q := fun d => Q (.val d) e1) hq (rps_range j) q1)⟩
      | _ => exact q1.elim
    | _ => exact q1.elim
end Dv

set_option Elab.async false
set_option linter.all false
set_option maxRecDepth 100000
/-! Dv, part P: the end of a law. -/
namespace Dv
open PySem PySem.Spec PyProof.Rows L2
theorem Fun.inj {K : PySem.W.Frag} {x : Str} {st : Stmt} {f : Addr} {fd fd' : FuncData} (h : Fun K x x st f fd) (h' : Fun K x x st f fd') : fd = fd' := by
  obtain ⟨oc, od, kV, doc, pm, an, cdv, ct, osl, _, l, _⟩ := h.ex
  obtain ⟨oc', od', kV', doc', pm', an', cdv', ct', osl', _, l', _⟩ := h'.ex
  rw [l] at l'
  injection l' with l'
  injection l' with _ _ e _
  injection e
theorem law_walk {l : PySem.W.OpenLaw} {n k : Nat} {q : Program} {loose : List Str} {XP : (Str → Option Value) → Heap → Prop} {YP : World → Heap → Prop} {d : DefRec} {K : Params → PySem.W.Frag} {st : Stmt} {x : Str} {fD : FD}
    (hn : l.most = some n) (hn2 : n ≤ sizeLine) (hdf : d.params.defaults = []) (hr : Room k callerA)
    (hY : ∀ (w : World) (h : Heap), YP w h → (K w.params).In h)
    (F : ∀ (w : World) (mg : Str → Option Value) (h : Heap), (K w.params).In h → h.Ns mainGlobals mg → (∃ f fd, DefAt (K w.params) mg d.name st [x] f fd) ∧
        ∀ base : Heap, (K w.params).In base → base.Ns mainGlobals mg → Kn l.prog w (K w.params) mg base k d.name st [x] fD)
    (hsp : ∀ ns : List Int, ns.length ≤ n → (∀ z ∈ ns, Builtin.Int.intBits z ≤ 1048576) → fD [.p (.list (ns.map PyData.int))] (fun r _ => r = .p (.bool true)) (fun _ _ _ => False)) :
    PySem.W.WalkO q loose XP YP l.row.toRowW d [] (fun f vs => PySem.call f vs) := by
  refine L2.walk_ofB (l := l) (n := n) (k := k) (x := x) (K := K) (CX := fun w => L2N.CX l.prog w) (sp := fun w => SpD (K w.params) 1 fD) hn hn2 hdf hr hY (fun w mg fa h KX G hmg => ?_) (fun w H a ns h1 h2 hO hS => ?_) (fun w H s e s' ⟨_, _, _, _, _, _, _, _, _, _, _, _, z⟩ => z)
  · obtain ⟨⟨f, fd, D⟩, hb⟩ := F w mg h KX G
    have e := D.pt
    rw [hmg] at e
    injection e with e
    injection e with e
    subst e
    refine ⟨fd, fun s u => .of_eq (D.bq [u] rfl), fun base h1 h2 => ?_⟩
    obtain ⟨f', fd', D', ok⟩ := (hb base h1 h2).ex
    have e := D'.pt
    rw [hmg] at e
    injection e with e
    injection e with e
    subst e
    have e2 := Fun.inj D.fn D'.fn
    subst e2
    exact ok
  · have sl : StL (K w.params) Em H a (ns.map V.int) := by
      rcases hS with (h | ⟨o, h⟩) | h
      · rcases hO a with z | ⟨o, xs, z⟩
        · rw [z] at h; cases h
        · rw [z] at h; cases h
      · exact .inr (.inl ⟨o, h⟩)
      · exact .inr (.inr h)
    refine ⟨Em, Em, [.p (.list (ns.map PyData.int))], fun r _ => r = .p (.bool true), fun _ _ _ => False, rfl, ⟨fun _ z => z.elim, fun _ z => z.elim, fun _ z => z.elim, fun _ z => z.elim, fun _ z => z.elim, fun _ z => z.elim⟩, .cons (F1 := Em) (F2 := Em) (.p (.lst sl (RPs.ofInts ns))) .nil (fun _ z => z) (fun _ z => z) (fun _ z => z.elim), hsp ns h1 h2, fun v H' S' F' G r ds' _ _ rv e => ?_, fun _ _ _ _ _ _ _ _ _ _ _ _ _ z => z⟩
    subst e
    cases rv with
    | p rv => cases rv; rfl
end Dv

set_option Elab.async false
set_option linter.all false
set_option maxRecDepth 100000
/-! Dv, part Q: readings, step by step. -/
namespace Dv
open PySem PySem.Spec PyProof.Rows L2
def kVal (f : D → Env → Prop) : Opd → Env → Prop := fun o e => match o with
  | .val d => f d e
  | .ref _ _ => False
def kTst (f : Bool → Env → Prop) : Opd → Env → Prop := fun o e => match o with
  | .val (.p (.bool b)) => f b e
  | _ => False
def kInt (f : Int → Env → Prop) : Opd → Env → Prop := fun o e => match o with
  | .val (.p (.int b)) => f b e
  | _ => False
section
variable {env e e1 : Env} {Q : Opd → Env → Prop} {E : EK} {t u ta tb tc : DT} {g : DTG} {gs : DTGs} {n b c : Env → Prop} {r : D → Env → Prop} {D' : DE} {s s2 : DTS} {tr : DTA} {ct cu : DTB} {o ox oy : Opd} {d x y : D} {ds : List D} {QD : D → Prop} {i : Nat} {π : List Nat}
theorem k_val {f : D → Env → Prop} (h : f d e) : kVal f (.val d) e := h
theorem k_tst {f : Bool → Env → Prop} {b : Bool} (hd : d = .p (.bool b)) (h : f b e) : kTst f (.val d) e := by subst hd; exact h
theorem k_int {f : Int → Env → Prop} {b : Int} (hd : d = .p (.int b)) (h : f b e) : kInt f (.val d) e := by subst hd; exact h
-- statements
theorem i_seq (h : s ⟨fun e1 => s2 ⟨n, r, b, c⟩ e1 E, r, b, c⟩ env E) : dSeq s s2 ⟨n, r, b, c⟩ env E := h
theorem i_seqA {g' : DTG} (h : (dAsg t g') ⟨fun e1 => s2 ⟨n, r, b, c⟩ e1 E, r, b, c⟩ env E) : dSeq (dAsg t g') s2 ⟨n, r, b, c⟩ env E := h
theorem i_seqL {k : Nat} (h : (dAsgL k t gs) ⟨fun e1 => s2 ⟨n, r, b, c⟩ e1 E, r, b, c⟩ env E) : dSeq (dAsgL k t gs) s2 ⟨n, r, b, c⟩ env E := h
theorem i_seqX (h : (dDrop t) ⟨fun e1 => s2 ⟨n, r, b, c⟩ e1 E, r, b, c⟩ env E) : dSeq (dDrop t) s2 ⟨n, r, b, c⟩ env E := h
theorem i_seqF {ti : DTI} {g' : DTG} (h : (dFor ti g' s) ⟨fun e1 => s2 ⟨n, r, b, c⟩ e1 E, r, b, c⟩ env E) : dSeq (dFor ti g' s) s2 ⟨n, r, b, c⟩ env E := h
theorem i_seqW (h : (dWhile ct s) ⟨fun e1 => s2 ⟨n, r, b, c⟩ e1 E, r, b, c⟩ env E) : dSeq (dWhile ct s) s2 ⟨n, r, b, c⟩ env E := h
theorem i_seqSL (h : (dSetL t ta tb) ⟨fun e1 => s2 ⟨n, r, b, c⟩ e1 E, r, b, c⟩ env E) : dSeq (dSetL t ta tb) s2 ⟨n, r, b, c⟩ env E := h
theorem i_seqSD (h : (dSetD t ta tb) ⟨fun e1 => s2 ⟨n, r, b, c⟩ e1 E, r, b, c⟩ env E) : dSeq (dSetD t ta tb) s2 ⟨n, r, b, c⟩ env E := h
/-- what is known between two statements -/
theorem i_cut (I : Env → Prop) (h1 : ∀ K : Env → Prop, (∀ e, I e → K e) → s ⟨K, r, b, c⟩ env E) (h2 : ∀ e, I e → s2 ⟨n, r, b, c⟩ e E) : dSeq s s2 ⟨n, r, b, c⟩ env E := h1 _ h2
theorem i_next (h : n env) : dNext ⟨n, r, b, c⟩ env E := h
theorem i_asg (h : t env (kVal fun d e1 => g d e1 n) E) : dAsg t g ⟨n, r, b, c⟩ env E := h
theorem i_drop (h : t env (fun _ e1 => n e1) E) : dDrop t ⟨n, r, b, c⟩ env E := h
theorem i_ret (h : t env (kVal fun d e1 => r d e1) E) : dRet t ⟨n, r, b, c⟩ env E := h
theorem i_ifs (h : ct env (fun b' e1 => if b' = true then s ⟨n, r, b, c⟩ e1 E else s2 ⟨n, r, b, c⟩ e1 E) E) : dIfS ct s s2 ⟨n, r, b, c⟩ env E := h
theorem i_ite {b : Bool} {A B : Prop} (h1 : b = true → A) (h2 : b = false → B) : if b = true then A else B := by
  cases b
  · rw [if_neg (by decide)]; exact h2 rfl
  · rw [if_pos rfl]; exact h1 rfl
theorem i_itT {b : Bool} {A B : Prop} (hb : b = true) (h1 : A) : if b = true then A else B := by rw [if_pos hb]; exact h1
theorem i_itF {b : Bool} {A B : Prop} (hb : b = false) (h1 : B) : if b = true then A else B := by rw [if_neg (by simp [hb])]; exact h1
def whQ (ct : DTB) (s : DTS) (n : Env → Prop) (r : D → Env → Prop) (env : Env) (E : EK) : Prop := dWhile ct s ⟨n, r, n, n⟩ env E
theorem wh_mk (W : Nat → Env → Prop) (m : Nat) (h0 : W m env) (h : ∀ m env, W m env → ct env (fun b' e1 => if b' = true then s ⟨fun e => ∃ m', m' < m ∧ W m' e, r, n, fun e => ∃ m', m' < m ∧ W m' e⟩ e1 E else n e1) E) : dWhile ct s ⟨n, r, b, c⟩ env E := ⟨W, ⟨m, h0⟩, h⟩
def forQ (xs : List PD) (ls : Ls) (e1 : Env) (g : DTG) (tb : DTS) (n : Env → Prop) (r : D → Env → Prop) (E : EK) : Prop := ∃ W : Nat → Env → Prop, W 0 e1 ∧
  (∀ i x env, xs[i]? = some x → W i env → g (.p x) env fun e2 => tb ⟨W (i + 1), fun r' => RS ls (r r'), RS ls n, W (i + 1)⟩ e2 (fun C y => RS ls (E C y))) ∧ ∀ env, W xs.length env → RS ls n env
theorem i_for {ti : DTI} (h : ti env (fun xs ls e1 => forQ xs ls e1 g s n r E) E) : dFor ti g s ⟨n, r, b, c⟩ env E := h
theorem for_mk {xs : List PD} {ls : Ls} (W : Nat → Env → Prop) (h0 : W 0 e1) (h : ∀ i x env, xs[i]? = some x → W i env → g (.p x) env fun e2 => s ⟨W (i + 1), fun r' => RS ls (r r'), RS ls n, W (i + 1)⟩ e2 (fun C y => RS ls (E C y)))
    (h1 : ∀ env, W xs.length env → RS ls n env) : forQ xs ls e1 g s n r E := ⟨W, h0, h, h1⟩
/-- the walk over a typed list, with a typed state -/
theorem for_st {α β : Type} {xs : List PD} {ls : Ls} (enc : α → PD) (ys : List α) (hx : xs = ys.map enc) (f : β → Env) (I : Nat → β → Prop) (s0 : β) (he : e1 = f s0) (h0 : I 0 s0)
    (h : ∀ i x st, ys[i]? = some x → I i st → g (.p (enc x)) (f st) fun e2 => s ⟨fun e => ∃ st', e = f st' ∧ I (i + 1) st', fun r' => RS ls (r r'), RS ls n, fun e => ∃ st', e = f st' ∧ I (i + 1) st'⟩ e2 (fun C y => RS ls (E C y)))
    (h1 : ∀ st, I ys.length st → RS ls n (f st)) : forQ xs ls e1 g s n r E := by
  subst hx
  refine for_mk (fun i e => ∃ st, e = f st ∧ I i st) ⟨s0, he, h0⟩ (fun i x env hi ⟨st, he, hI⟩ => ?_) (fun env ⟨st, he, hI⟩ => ?_)
  · subst he
    rw [List.getElem?_map] at hi
    cases z : ys[i]? with
    | none => rw [z] at hi; cases hi
    | some y => rw [z] at hi; cases hi; exact h i y st z hI
  · subst he; rw [List.length_map] at hI; exact h1 st hI
theorem wh_st {β : Type} (f : β → Env) (M : β → Nat) (I : β → Prop) (s0 : β) (he : env = f s0) (h0 : I s0)
    (h : ∀ st, I st → ct (f st) (fun b' e1 => if b' = true then s ⟨fun e => ∃ st', e = f st' ∧ I st' ∧ M st' < M st, r, n, fun e => ∃ st', e = f st' ∧ I st' ∧ M st' < M st⟩ e1 E else n e1) E) : dWhile ct s ⟨n, r, b, c⟩ env E := by
  refine wh_mk (fun m e => ∃ st, e = f st ∧ I st ∧ M st = m) (M s0) ⟨s0, he, h0, rfl⟩ fun m env ⟨st, he, hI, hm⟩ => ?_
  subst he
  have := h st hI
  have e : (fun e => ∃ m', m' < m ∧ ∃ st', e = f st' ∧ I st' ∧ M st' = m') = (fun e => ∃ st', e = f st' ∧ I st' ∧ M st' < M st) := by
    funext e
    refine propext ⟨fun ⟨m', h1, st', h2, h3, h4⟩ => ⟨st', h2, h3, by omega⟩, fun ⟨st', h2, h3, h4⟩ => ⟨M st', by omega, st', h2, h3, rfl⟩⟩
  rw [e]
  exact this
theorem i_rs0 (h : n env) : RS [] n env := by rw [RS_nil]; exact h
theorem i_rs1 {a : Addr} {e' : Env} (he : dj env[i]? = .lent a) (hn : env.set i d = e') (h : n e') : RS [(i, a, d)] n env := by
 subst hn
 exact ⟨(fun p hp => by
  cases hp with
  | head => exact he
  | tail _ h => cases h), h⟩
theorem i_newD (h : Q (.val (.dct [])) env) : dNewD env Q E := h
-- targets
theorem i_gNm {e' : Env} (he : env.set i d = e') (h : n e') : gNm i d env n := by subst he; exact h
theorem i_gNl (h : n env) : gNl [] env n := h
theorem i_gCn (h : g d env fun e1 => gs ds e1 n) : gCn g gs (d :: ds) env n := h
theorem i_gCn0 {ds' : List D} (hd : ds' = d :: ds) (h : g d env fun e1 => gs ds e1 n) : gCn g gs ds' env n := by subst hd; exact h
theorem i_gNl0 (hd : ds = []) (h : n env) : gNl ds env n := by subst hd; exact h
theorem i_gTuP {k : Nat} {xs : List PD} (hd : d = .p (.tuple xs)) (hl : xs.length = k) (h : gs (xs.map Dv.D.p) env n) : gTu k gs d env n := by subst hd; exact ⟨hl, h⟩
theorem i_gTuD {k : Nat} (hd : d = .tup ds) (hl : ds.length = k) (h : gs ds env n) : gTu k gs d env n := by subst hd; exact ⟨hl, h⟩
theorem i_asgL {k : Nat} (h : t env (fun o e1 => match (o.get e1).lseq with
  | some xs => xs.length = k ∧ gs (xs.map Dv.D.p) e1 n
  | none => False) E) : dAsgL k t gs ⟨n, r, b, c⟩ env E := h
-- names, constants
theorem i_nmP {x : PD} (hd : dj env[i]? = .p x) (h : Q (.val (.p x)) env) : dNm i env Q E := by unfold dNm; rw [hd]; exact h
def D.big : D → Bool
  | .tup _ => true
  | .lst _ => true
  | .dct _ => true
  | .ins _ _ _ => true
  | .exn _ _ _ _ => true
  | .fdc _ => true
  | .opl _ => true
  | .opi _ _ _ => true
  | _ => false
theorem i_nmR (hd : (dj env[i]?).big = true) (h : Q (.ref i []) env) : dNm i env Q E := by
  unfold dNm
  cases z : dj env[i]? with
  | p _ => rw [z] at hd; cases hd
  | hole => rw [z] at hd; cases hd
  | lent _ => rw [z] at hd; cases hd
  | _ => exact h
theorem i_k {x : PD} (h : Q (.val (.p x)) env) : dK x env Q E := h
theorem i_mv (h : t env (fun o e => match o with
  | .val d => Q (.val d) e
  | .ref i π => match e.at i π with
    | .hole => False
    | d => Q (.val d) (e.put i π .hole)) E) : dMv t env Q E := h
def kMv (Q : Opd → Env → Prop) : Opd → Env → Prop := fun o e => match o with
  | .val d => Q (.val d) e
  | .ref i π => match e.at i π with
    | .hole => False
    | d => Q (.val d) (e.put i π .hole)
theorem i_mvK (h : t env (kMv Q) E) : dMv t env Q E := h
theorem k_mvV (h : Q (.val d) e) : kMv Q (.val d) e := h
theorem k_mvR {e' : Env} (hd : e.at i π = d) (hb : d.big = true) (hn : e.put i π .hole = e') (h : Q (.val d) e') : kMv Q (.ref i π) e := by
  subst hn
  unfold kMv
  show (match e.at i π with
    | .hole => False
    | d => Q (.val d) (e.put i π .hole))
  rw [hd]
  cases d with
  | hole => cases hb
  | p _ => cases hb
  | lent _ => cases hb
  | _ => exact h
def kFz (Q : Opd → Env → Prop) : Opd → Env → Prop := fun o e => match o with
  | .val d => Q (.val d) e
  | .ref i π => match fz (e.at i π) with
    | none => False
    | some x => Q (.val (.p x)) (e.put i π (.p x))
theorem i_fzK (h : t env (kFz Q) E) : dFz t env Q E := h
theorem k_fzV (h : Q (.val d) e) : kFz Q (.val d) e := h
theorem k_fzR {x : PD} {e' : Env} (hd : fz (e.at i π) = some x) (hn : e.put i π (.p x) = e') (h : Q (.val (.p x)) e') : kFz Q (.ref i π) e := by
  subst hn
  unfold kFz
  show (match fz (e.at i π) with
    | none => False
    | some x => Q (.val (.p x)) (e.put i π (.p x)))
  rw [hd]; exact h
-- operations
theorem i_bin {f : F2} (h : ta env (fun x e1 => tb e1 (fun y e2 => f (x.get e2) (y.get e2) fun d => Q (.val d) e2) E) E) : dBin f ta tb env Q E := h
section
variable {a a' : Int} {p q : Str} {xs ys : List PD}
theorem f_addI (h1 : x = .p (.int a)) (h2 : y = .p (.int a')) (h : QD (.p (.int (a + a')))) : fAdd x y QD := by subst h1 h2; exact h
theorem f_addS (h1 : x = .p (.str p)) (h2 : y = .p (.str q)) (hl : p.length + q.length ≤ sizeLine) (h : QD (.p (.str (p ++ q)))) : fAdd x y QD := by subst h1 h2; exact ⟨hl, h⟩
theorem f_addT (h1 : x = .p (.tuple xs)) (h2 : y = .p (.tuple ys)) (hl : xs.length + ys.length ≤ sizeLine) (h : QD (.p (.tuple (xs ++ ys)))) : fAdd x y QD := by subst h1 h2; exact ⟨hl, h⟩
theorem f_addL (h1 : x = .lst (xs.map D.p)) (h2 : y = .lst (ys.map D.p)) (hl : xs.length + ys.length ≤ sizeLine) (h : QD (.lst ((xs ++ ys).map D.p))) : fAdd x y QD := by
  subst h1 h2
  show (match pys (xs.map D.p), pys (ys.map D.p) with
    | some a, some b => a.length + b.length ≤ sizeLine ∧ QD (.lst ((a ++ b).map D.p))
    | _, _ => False)
  rw [pys_map, pys_map]; exact ⟨hl, h⟩
theorem f_sub (h1 : x = .p (.int a)) (h2 : y = .p (.int a')) (h : QD (.p (.int (a - a')))) : fSub x y QD := by subst h1 h2; exact h
theorem f_mul (h1 : x = .p (.int a)) (h2 : y = .p (.int a')) (hl : CMulX a a') (h : QD (.p (.int (a * a')))) : fMul x y QD := by subst h1 h2; exact ⟨hl, h⟩
theorem f_mulL (h1 : x = .lst (xs.map D.p)) (h2 : y = .p (.int a')) (hl : 0 ≤ a' ∧ xs.length * a'.toNat ≤ sizeLine ∧ a' ≤ 1000000) (h : QD (.lst ((List.replicate a'.toNat xs).flatten.map D.p))) : fMul x y QD := by
  subst h1 h2
  show (match pys (xs.map D.p) with
    | some a => 0 ≤ a' ∧ a.length * a'.toNat ≤ sizeLine ∧ a' ≤ 1000000 ∧ QD (.lst ((List.replicate a'.toNat a).flatten.map D.p))
    | _ => False)
  rw [pys_map]; exact ⟨hl.1, hl.2.1, hl.2.2, h⟩
theorem f_mod (h1 : x = .p (.int a)) (h2 : y = .p (.int a')) (hl : 0 < a') (h : QD (.p (.int (a % a')))) : fMod x y QD := by subst h1 h2; exact ⟨hl, h⟩
theorem f_div (h1 : x = .p (.int a)) (h2 : y = .p (.int a')) (hl : CDivW a a') (h : QD (.p (.int (a / a')))) : fDiv x y QD := by subst h1 h2; exact ⟨hl, h⟩
theorem f_pow (h1 : x = .p (.int a)) (h2 : y = .p (.int a')) (hl : CPowW a a') (h : QD (.p (.int (a ^ a'.toNat)))) : fPow x y QD := by subst h1 h2; exact ⟨hl, h⟩
theorem f_shl (h1 : x = .p (.int a)) (h2 : y = .p (.int a')) (hl : CPow a a') (h : QD (.p (.int (a * 2 ^ a'.toNat)))) : fShl x y QD := by subst h1 h2; exact ⟨hl, h⟩
theorem f_shr (h1 : x = .p (.int a)) (h2 : y = .p (.int a')) (hl : 0 ≤ a') (h : QD (.p (.int (a / 2 ^ a'.toNat)))) : fShr x y QD := by subst h1 h2; exact ⟨hl, h⟩
theorem f_and (h1 : x = .p (.int a)) (h2 : y = .p (.int a')) (h : QD (.p (.int (Builtin.bitAnd a a')))) : fAnd x y QD := by subst h1 h2; exact h
theorem f_cmp {k : Int → Int → Bool} (h1 : x = .p (.int a)) (h2 : y = .p (.int a')) (h : QD (.p (.bool (k a a')))) : fCmp k x y QD := by subst h1 h2; exact h
theorem f_eqI (h1 : x = .p (.int a)) (h2 : y = .p (.int a')) (h : QD (.p (.bool (decide (a = a'))))) : fEq x y QD := by
  subst h1 h2
  refine ⟨rfl, rfl, ?_⟩
  have : PyData.eqv (.int a) (.int a') = decide (a = a') := by simp only [PyData.eqv]; by_cases h : a = a' <;> simp [h]
  rw [this]; exact h
theorem f_neI (h1 : x = .p (.int a)) (h2 : y = .p (.int a')) (h : QD (.p (.bool (!decide (a = a'))))) : fNe x y QD := by
  subst h1 h2
  refine ⟨rfl, rfl, ?_⟩
  have : PyData.eqv (.int a) (.int a') = decide (a = a') := by simp only [PyData.eqv]; by_cases h : a = a' <;> simp [h]
  rw [this]; exact h
theorem f_eqS (h1 : x = .p (.str p)) (h2 : y = .p (.str q)) (l1 : SeqAt.shaped (.str p) = true) (l2 : SeqAt.shaped (.str q) = true) (h : QD (.p (.bool (p == q)))) : fEq x y QD := by
  subst h1 h2
  refine ⟨l1, l2, ?_⟩
  have : PyData.eqv (.str p) (.str q) = (p == q) := by simp [PyData.eqv]
  rw [this]; exact h
theorem f_neS (h1 : x = .p (.str p)) (h2 : y = .p (.str q)) (l1 : SeqAt.shaped (.str p) = true) (l2 : SeqAt.shaped (.str q) = true) (h : QD (.p (.bool (!(p == q))))) : fNe x y QD := by
  subst h1 h2
  refine ⟨l1, l2, ?_⟩
  have : PyData.eqv (.str p) (.str q) = (p == q) := by simp [PyData.eqv]
  rw [this]; exact h
theorem f_eq {u v : PD} (h1 : x.py = some u) (h2 : y.py = some v) (s1 : SeqAt.shaped u = true) (s2 : SeqAt.shaped v = true) (h : QD (.p (.bool (PyData.eqv u v)))) : fEq x y QD := by
  unfold fEq; rw [h1, h2]; exact ⟨s1, s2, h⟩
theorem f_ne {u v : PD} (h1 : x.py = some u) (h2 : y.py = some v) (s1 : SeqAt.shaped u = true) (s2 : SeqAt.shaped v = true) (h : QD (.p (.bool (!PyData.eqv u v)))) : fNe x y QD := by
  unfold fNe; rw [h1, h2]; exact ⟨s1, s2, h⟩
def D.live : D → Bool
  | .hole => false
  | _ => true
theorem f_isN (h2 : y = .p .none) (hx : x.live = true) (h : QD (.p (.bool x.isNone))) : fIs x y QD := by subst h2; exact ⟨(fun z => by subst z; cases hx), h⟩
theorem f_isnotN (h2 : y = .p .none) (hx : x.live = true) (h : QD (.p (.bool (!x.isNone)))) : fIsNot x y QD := by subst h2; exact ⟨(fun z => by subst z; cases hx), h⟩
theorem f_isB {u v : Bool} (h1 : x = .p (.bool u)) (h2 : y = .p (.bool v)) (h : QD (.p (.bool (decide (u = v))))) : fIs x y QD := by subst h1 h2; exact h
theorem f_isnotB {u v : Bool} (h1 : x = .p (.bool u)) (h2 : y = .p (.bool v)) (h : QD (.p (.bool (!decide (u = v))))) : fIsNot x y QD := by subst h1 h2; exact h
theorem f_inD {neg : Bool} {kvs : List (Key × PD)} {k : Key} (h1 : x.key = some k) (h2 : y = .dct kvs) (h : QD (.p (.bool (neg ^^ (dget kvs k).isSome)))) : fInB neg x y QD := by
  subst h2
  cases x with
  | p z =>
    cases z with
    | int i => cases h1; exact h
    | str i => cases h1; exact h
    | _ => cases h1
  | _ => cases h1
theorem f_inS {neg : Bool} {u : PD} (h1 : x = .p u) (h2 : y.seq = some ys) (hu : flatP u = true) (hy : ys.all flatP = true) (h : QD (.p (.bool (neg ^^ ys.any fun z => PyData.eqv z u)))) : fInB neg x y QD := by
  subst h1
  have q : (match y.seq with
    | some ys => flatP u = true ∧ ys.all flatP = true ∧ QD (.p (.bool (neg ^^ ys.any fun z => PyData.eqv z u)))
    | none => False) := by rw [h2]; exact ⟨hu, hy, h⟩
  cases y with
  | dct _ => cases h2
  | p z =>
    cases z with
    | str _ => cases h2
    | _ => cases u <;> exact q
  | _ => cases u <;> exact q
end
theorem i_tst (h : t env (kTst fun b e1 => Q' b e1) E) : dTst t env Q' E := h
theorem i_and {Q : Bool → Env → Prop} (h : ct env (fun c e1 => if c = true then cu e1 Q E else Q false e1) E) : dAnd ct cu env Q E := h
theorem i_or {Q : Bool → Env → Prop} (h : ct env (fun c e1 => if c = true then Q true e1 else cu e1 Q E) E) : dOr ct cu env Q E := h
theorem i_not {Q : Bool → Env → Prop} (h : ct env (fun c e1 => Q (!c) e1) E) : dNot ct env Q E := h
theorem i_andV (h : t env (kTst fun c e1 => if c = true then u e1 Q E else Q (.val (.p (.bool false))) e1) E) : dAndV t u env Q E := h
theorem i_orV (h : t env (kTst fun c e1 => if c = true then Q (.val (.p (.bool true))) e1 else u e1 Q E) E) : dOrV t u env Q E := h
theorem i_notV (h : t env (kTst fun c e1 => Q (.val (.p (.bool !c))) e1) E) : dNotV t env Q E := h
theorem i_if (h : ct env (fun b e1 => if b = true then t e1 Q E else u e1 Q E) E) : dIf ct t u env Q E := h
def kB (f : Bool → Prop) : D → Prop := fun d => match d with
  | .p (.bool k) => f k
  | _ => False
theorem k_b {f : Bool → Prop} {b : Bool} (hd : d = .p (.bool b)) (h : f b) : kB f d := by subst hd; exact h
theorem i_chain {f g : F2} (h : ta env (fun x e1 => tb e1 (fun y e2 => f (x.get e2) (y.get e2) (kB fun k => if k = true then tc e2 (fun z e3 => g (y.get e3) (z.get e3) fun d => Q (.val d) e3) E else Q (.val (.p (.bool false))) e2)) E) E) : dChain f g ta tb tc env Q E := h
-- arguments
theorem i_nil {Q : List Opd → Env → Prop} (h : Q [] env) : dNil env Q E := h
theorem i_cons {Q : List Opd → Env → Prop} (h : t env (fun o e1 => tr e1 (fun os e2 => Q (o :: os) e2) E) E) : dCons t tr env Q E := h
def kVals (f : List D → Env → Prop) : List Opd → Env → Prop := fun os e => match vals os with
  | some ds => f ds e
  | none => False
theorem k_vals {f : List D → Env → Prop} {os : List Opd} (hd : vals os = some ds) (h : f ds e) : kVals f os e := by unfold kVals; rw [hd]; exact h
theorem i_tup (h : tr env (kVals fun ds e1 => ds.length ≤ 1000 ∧ Q (.val (tupD ds)) e1) E) : dTup tr env Q E := h
theorem i_lst (h : tr env (kVals fun ds e1 => ds.length ≤ 1000 ∧ Q (.val (.lst ds)) e1) E) : dLst tr env Q E := h
theorem i_len1000 {A : Prop} (hl : ds.length ≤ 1000) (h : A) : ds.length ≤ 1000 ∧ A := ⟨hl, h⟩
theorem i_tupM (h : tr env (fun os e1 => ((slots os).Nodup ∧ okR os e1) ∧ os.length ≤ 1000 ∧ Q (.val (tupD (os.map (Opd.get e1)))) (putAll os (os.map fun _ => .hole) e1)) E) : dTupM tr env Q E := h
theorem ok_nil : okR [] e := True.intro
theorem ok_val {os : List Opd} (h : okR os e) : okR (.val d :: os) e := h
theorem ok_ref {os : List Opd} (hb : (e.at i π).big = true) (h : okR os e) : okR (.ref i π :: os) e := by
  refine ⟨?_, h⟩
  cases z : e.at i π with
  | hole => rw [z] at hb; cases hb
  | _ => exact True.intro
def tmQ (os : List Opd) (e : Env) (Q : Opd → Env → Prop) : Prop := ((slots os).Nodup ∧ okR os e) ∧ os.length ≤ 1000 ∧ Q (.val (tupD (os.map (Opd.get e)))) (putAll os (os.map fun _ => .hole) e)
theorem i_tupMK (h : tr env (fun os e1 => tmQ os e1 Q) E) : dTupM tr env Q E := h
theorem k_tm {os : List Opd} {e' : Env} (h1 : (slots os).Nodup) (h2 : okR os e) (h3 : os.length ≤ 1000) (hn : putAll os (os.map fun _ => .hole) e = e') (h : Q (.val (tupD (os.map (Opd.get e)))) e') : tmQ os e Q := by
  subst hn
  exact ⟨⟨h1, h2⟩, h3, h⟩
theorem i_call {g : FC} (h : tr env (fun os e1 => g (os.map (Opd.get e1)) fun d => Q (.val d) e1) E) : dCall g tr env Q E := h
def cfQ (os : List Opd) (e : Env) (f : FD) (Q : Opd → Env → Prop) (E : EK) : Prop := f (os.map (Opd.get e)) (fun r ds' => Q (.val r) (putAll os ds' e)) (fun C x ds' => E C x (putAll os ds' e))
def cf0 (os : List Opd) (e : Env) (f : FD) (Q : Opd → Env → Prop) (E : EK) : Prop := ((slots os).Nodup ∧ okR os e) ∧ cfQ os e f Q E
theorem i_callF {f : FD} (h : tr env (fun os e1 => cf0 os e1 f Q E) E) : dCallF f tr env Q E := h
theorem i_cf {os : List Opd} {f : FD} (h1 : (slots os).Nodup) (h2 : okR os e) (h : cfQ os e f Q E) : cf0 os e f Q E := ⟨⟨h1, h2⟩, h⟩
def cfK (os : List Opd) (e : Env) (Q : Opd → Env → Prop) : D → List D → Prop := fun r' ds' => Q (.val r') (putAll os ds' e)
def cfX (os : List Opd) (e : Env) (E : EK) : Str → Option (Str × D) → List D → Prop := fun C x' ds' => E C x' (putAll os ds' e)
theorem cf_mk {os : List Opd} {f : FD} (ds : List D) (hd : os.map (Opd.get e) = ds) (h : f ds (cfK os e Q) (cfX os e E)) : cfQ os e f Q E := by subst hd; exact h
theorem k_cfK {os : List Opd} {e' : Env} (hn : putAll os ds e = e') (h : Q (.val d) e') : cfK os e Q d ds := by subst hn; exact h
theorem k_cfX {os : List Opd} {C : Str} {x' : Option (Str × D)} {e' : Env} (hn : putAll os ds e = e') (h : E C x' e') : cfX os e E C x' ds := by subst hn; exact h
theorem i_isi {T : String} {nm : String} (h : t env (fun o e1 => match (o.get e1).ty with
  | some n => Q (.val (.p (.bool (isiB n T)))) e1
  | none => False) E) : dIsi T t env Q E := h
def kIsi (T : String) (Q : Opd → Env → Prop) : Opd → Env → Prop := fun o e1 => match (o.get e1).ty with
  | some n => Q (.val (.p (.bool (isiB n T)))) e1
  | none => False
theorem i_isiK {T : String} (h : t env (kIsi T Q) E) : dIsi T t env Q E := h
theorem k_isi {T nm : String} (hd : (o.get e).ty = some nm) (h : Q (.val (.p (.bool (isiB nm T)))) e) : kIsi T Q o e := by unfold kIsi; rw [hd]; exact h
theorem i_lrange (h : t env (kInt fun j e1 => j ≤ 1000000 ∧ -(1000000) ≤ j ∧ Q (.val (.lst ((rangeP 0 j.toNat).map D.p))) e1) E) : dLrange t env Q E := h
theorem i_neg (h : t env (kInt fun j e1 => Q (.val (.p (.int (-j)))) e1) E) : dNeg t env Q E := h
-- the parts
section
variable {a : Int} {xs : List PD} {z : PD} {ky : D} {QO : Opd → Prop}
theorem i_ix (h : ta env (fun x e1 => tb e1 (fun y e2 => ixO x (x.get e2) (y.get e2) fun o => Q o e2) E) E) : dIx ta tb env Q E := h
theorem x_T (h1 : d = .p (.tuple xs)) (h2 : ky = .p (.int a)) (hz : atI xs a = some z) (h : QO (.val (.p z))) : ixO o d ky QO := by
  subst h1 h2
  show (match atI xs a with
    | some z => QO (.val (.p z))
    | none => False)
  rw [hz]; exact h
theorem x_F (h1 : d = .p (.list xs)) (h2 : ky = .p (.int a)) (hz : atI xs a = some z) (h : QO (.val (.p z))) : ixO o d ky QO := by
  subst h1 h2
  show (match atI xs a with
    | some z => QO (.val (.p z))
    | none => False)
  rw [hz]; exact h
theorem x_L (h1 : d = .lst ds) (h2 : ky = .p (.int a)) (hz : atI ds a = some (.p z)) (h : QO (.val (.p z))) : ixO o d ky QO := by
  subst h1 h2
  show (match atI ds a with
      | some (.p z) => QO (.val (.p z))
      | some z => match o with
        | .val _ => QO (.val z)
        | .ref _ _ => False
      | none => False)
  rw [hz]; exact h
theorem x_U {j : Nat} (h1 : d = .tup ds) (h2 : ky = .p (.int a)) (hj : ixN ds.length a = some j) (hz : ds[j]? = some (.p z)) (h : QO (.val (.p z))) : ixO o d ky QO := by
  subst h1 h2
  show (match ixN ds.length a with
      | some j => match ds[j]? with
        | some (.p z) => QO (.val (.p z))
        | some z => match o with
          | .val _ => QO (.val z)
          | .ref n π => QO (.ref n (π ++ [j]))
        | none => False
      | none => False)
  rw [hj]
  show (match ds[j]? with
        | some (.p z) => QO (.val (.p z))
        | some z => match o with
          | .val _ => QO (.val z)
          | .ref n π => QO (.ref n (π ++ [j]))
        | none => False)
  rw [hz]; exact h
theorem x_UR {j n : Nat} {w : D} (h0 : o = .ref n π) (h1 : d = .tup ds) (h2 : ky = .p (.int a)) (hj : ixN ds.length a = some j) (hz : ds[j]? = some w) (hb : w.big = true) (h : QO (.ref n (π ++ [j]))) : ixO o d ky QO := by
  subst h0 h1 h2
  show (match ixN ds.length a with
      | some j => match ds[j]? with
        | some (.p z) => QO (.val (.p z))
        | some z => QO (.ref n (π ++ [j]))
        | none => False
      | none => False)
  rw [hj]
  show (match ds[j]? with
        | some (.p z) => QO (.val (.p z))
        | some z => QO (.ref n (π ++ [j]))
        | none => False)
  rw [hz]
  cases w with
  | p _ => cases hb
  | _ => exact h
theorem x_D {k : Key} {kvs : List (Key × PD)} (h1 : d = .dct kvs) (h2 : ky.key = some k) (hz : dget kvs k = some z) (h : QO (.val (.p z))) : ixO o d ky QO := by
  subst h1
  show (match ky.key with
    | some k => match dget kvs k with
      | some z => QO (.val (.p z))
      | none => False
    | none => False)
  rw [h2]
  show (match dget kvs k with
      | some z => QO (.val (.p z))
      | none => False)
  rw [hz]; exact h
end
-- built-ins
section
variable {xs : List PD} {ns : List Int} {bs : List Bool}
theorem sq_T (h : d = .p (.tuple xs)) : d.seq = some xs := by subst h; rfl
theorem sq_F (h : d = .p (.list xs)) : d.seq = some xs := by subst h; rfl
theorem sq_L (h : d = .lst (xs.map D.p)) : d.seq = some xs := by subst h; exact pys_map xs
theorem sq_U (h : d = .tup (xs.map D.p)) : d.seq = some xs := by subst h; exact pys_map xs
theorem lq_F (h : d = .p (.list xs)) : d.lseq = some xs := by subst h; rfl
theorem lq_L (h : d = .lst (xs.map D.p)) : d.lseq = some xs := by subst h; exact pys_map xs
theorem g_lenT (h : ds = [.p (.tuple xs)]) (q : QD (.p (.int xs.length))) : gLen ds QD := by subst h; exact q
theorem g_lenF (h : ds = [.p (.list xs)]) (q : QD (.p (.int xs.length))) : gLen ds QD := by subst h; exact q
theorem g_lenU {zs : List D} (h : ds = [.tup zs]) (q : QD (.p (.int zs.length))) : gLen ds QD := by subst h; exact q
theorem g_lenL {zs : List D} (h : ds = [.lst zs]) (q : QD (.p (.int zs.length))) : gLen ds QD := by subst h; exact q
theorem g_lenD {zs : List (Key × PD)} (h : ds = [.dct zs]) (q : QD (.p (.int zs.length))) : gLen ds QD := by subst h; exact q
theorem g_lenS {s : Str} (h : ds = [.p (.str s)]) (hl : s.length ≤ sizeLine) (q : QD (.p (.int s.length))) : gLen ds QD := by subst h; exact ⟨hl, q⟩
theorem g_tuple (h : ds = [d]) (hs : d.seq = some xs) (q : QD (.p (.tuple xs))) : gTuple ds QD := by
  subst h
  show (match d.seq with
    | some xs => QD (.p (.tuple xs))
    | none => False)
  rw [hs]; exact q
theorem g_listD {kvs : List (Key × PD)} (h : ds = [.dct kvs]) (q : QD (.lst ((kvs.map fun kv => keyP kv.1).map D.p))) : gList ds QD := by subst h; exact q
theorem g_list (h : ds = [d]) (hs : d.seq = some xs) (q : QD (.lst (xs.map D.p))) : gList ds QD := by
  subst h
  have q' : (match d.seq with
    | some xs => QD (.lst (xs.map D.p))
    | none => False) := by rw [hs]; exact q
  cases d with
  | dct _ => cases hs
  | _ => exact q'
theorem g_ints {f : List Int → (D → Prop) → Prop} (h : ds = [d]) (hs : d.lseq = some xs) (hn : intsP xs = some ns) (q : f ns QD) : gInts f ds QD := by
  subst h
  show (match d.lseq with
    | some xs => match intsP xs with
      | some ns => f ns QD
      | none => False
    | none => False)
  rw [hs]
  show (match intsP xs with
      | some ns => f ns QD
      | none => False)
  rw [hn]; exact q
theorem g_bools {f : List Bool → Bool} (h : ds = [d]) (hs : d.lseq = some xs) (hn : boolsP xs = some bs) (q : QD (.p (.bool (f bs)))) : gBools f ds QD := by
  subst h
  show (match d.lseq with
    | some xs => match boolsP xs with
      | some ns => QD (.p (.bool (f ns)))
      | none => False
    | none => False)
  rw [hs]
  show (match boolsP xs with
      | some ns => QD (.p (.bool (f ns)))
      | none => False)
  rw [hn]; exact q
theorem g_max2 {i j : Int} (h : ds = [.p (.int i), .p (.int j)]) (q : QD (.p (.int (max i j)))) : gMax ds QD := by subst h; exact q
theorem g_min2 {i j : Int} (h : ds = [.p (.int i), .p (.int j)]) (q : QD (.p (.int (min i j)))) : gMin ds QD := by subst h; exact q
theorem g_max1 (h : ds = [d]) (q : gInts (fun ns Q => 0 < ns.length ∧ ∀ m, m ∈ ns → (∀ y ∈ ns, y ≤ m) → Q (.p (.int m))) [d] QD) : gMax ds QD := by
  subst h
  unfold gMax
  split
  · rename_i e; cases e
  · exact q
theorem g_min1 (h : ds = [d]) (q : gInts (fun ns Q => 0 < ns.length ∧ ∀ m, m ∈ ns → (∀ y ∈ ns, m ≤ y) → Q (.p (.int m))) [d] QD) : gMin ds QD := by
  subst h
  unfold gMin
  split
  · rename_i e; cases e
  · exact q
theorem g_intI {i : Int} (h : ds = [.p (.int i)]) (q : QD (.p (.int i))) : gInt ds QD := by subst h; exact q
theorem g_intB {b : Bool} (h : ds = [.p (.bool b)]) (q : QD (.p (.int (if b then 1 else 0)))) : gInt ds QD := by subst h; exact q
theorem g_strI {i : Int} (h : ds = [.p (.int i)]) (hl : i.natAbs.log2 < 1920) (q : QD (.p (.str (toString i)))) : gStr ds QD := by subst h; exact ⟨hl, q⟩
end
-- slices
theorem i_noP {Q : Option Int → Env → Prop} (h : Q none env) : dNoP env Q E := h
theorem i_soP {Q : Option Int → Env → Prop} (h : t env (kInt fun j e1 => Q (some j) e1) E) : dSoP t env Q E := h
theorem i_sl {tl th : DTP} (h : ta env (fun x e1 => tl e1 (fun l e2 => th e2 (fun h e3 => slD (x.get e3) l h fun d => Q (.val d) e3) E) E) E) : dSl ta tl th env Q E := h
section
variable {lo hi : Option Int} {xs : List PD}
theorem s_T (h : d = .p (.tuple xs)) (q : QD (.p (.tuple (cutP xs lo hi)))) : slD d lo hi QD := by subst h; exact q
theorem s_F (h : d = .p (.list xs)) (q : QD (.lst ((cutP xs lo hi).map D.p))) : slD d lo hi QD := by subst h; exact q
theorem s_L (h : d = .lst (xs.map D.p)) (q : QD (.lst ((cutP xs lo hi).map D.p))) : slD d lo hi QD := by
  subst h
  show (match pys (xs.map D.p) with
    | some xs => QD (.lst ((cutP xs lo hi).map D.p))
    | none => False)
  rw [pys_map]; exact q
theorem s_S {s : Str} (h : d = .p (.str s)) (hl : s.length ≤ sizeLine) (q : QD (.p (.str (cutS s lo hi)))) : slD d lo hi QD := by subst h; exact ⟨hl, q⟩
def kRev (Q : Opd → Env → Prop) : Opd → Env → Prop := fun x e1 => match (x.get e1).lseq with
  | some xs => Q (.val (.lst (xs.reverse.map D.p))) e1
  | none => False
theorem i_rev (h : t env (kRev Q) E) : dRev t env Q E := h
theorem k_rev (hd : (o.get e).lseq = some xs) (h : Q (.val (.lst (xs.reverse.map D.p))) e) : kRev Q o e := by unfold kRev; rw [hd]; exact h
end
-- changes
def mutA (m : FM) (o : Opd) (e1 : Env) (tr : DTA) (Q : Opd → Env → Prop) (E : EK) : Prop := isLst (o.get e1) ∧ tr e1 (kVals fun as e2 => mutO o e2 (fun ds k => m ds as k) Q) E
def mutAR (m : FM) (o : Opd) (e1 : Env) (tr : DTA) (Q : Opd → Env → Prop) (E : EK) : Prop := isLst (o.get e1) ∧ tr e1 (fun os e2 => mutO o e2 (fun ds k => m ds (os.map (Opd.get e2)) k) Q) E
theorem i_mut {m : FM} (h : t env (fun o e1 => mutA m o e1 tr Q E) E) : dMut m t tr env Q E := h
theorem i_mutA {m : FM} (hl : isLst (o.get e)) (h : tr e (kVals fun as e2 => mutO o e2 (fun ds k => m ds as k) Q) E) : mutA m o e tr Q E := ⟨hl, h⟩
theorem i_mutR {m : FM} (h : t env (fun o e1 => mutAR m o e1 tr Q E) E) : dMutR m t tr env Q E := h
theorem i_mutAR {m : FM} (hl : isLst (o.get e)) (h : tr e (fun os e2 => mutO o e2 (fun ds k => m ds (os.map (Opd.get e2)) k) Q) E) : mutAR m o e tr Q E := ⟨hl, h⟩
theorem i_mut0 {m : FM} (h : t env (fun o e1 => mutO o e1 (fun ds k => m ds [] k) Q) E) : dMut0 m t env Q E := h
theorem i_mutO {k : List D → (List D → PD → Prop) → Prop} (hd : e.at i π = .lst ds) (h : k ds fun ds' x => Q (.val (.p x)) (e.put i π (.lst ds'))) : mutO (.ref i π) e k Q := by
  show (match e.at i π with
    | .lst ds => k ds fun ds' x => Q (.val (.p x)) (e.put i π (.lst ds'))
    | _ => False)
  rw [hd]; exact h
section
variable {as ds : List D} {QM : List D → PD → Prop} {xs ys : List PD}
theorem m_app (hl : ds.length < 1000000) (h : QM (ds ++ [d]) .none) : mAppend ds [d] QM := ⟨hl, h⟩
theorem m_clear (h : QM [] .none) : mClear ds [] QM := h
theorem m_rev (hd : ds = xs.map D.p) (h : QM (xs.reverse.map D.p) .none) : mReverse ds [] QM := by
  subst hd
  show (match pys (xs.map D.p) with
    | some xs => QM (xs.reverse.map D.p) .none
    | none => False)
  rw [pys_map]; exact h
theorem m_pop {a : Int} {z : PD} (ha : as = [.p (.int a)]) (hd : ds = xs.map D.p) (h0 : 0 ≤ a) (hz : xs[a.toNat]? = some z) (h : QM ((xs.eraseIdx a.toNat).map D.p) z) : mPopAt ds as QM := by
  subst ha hd
  show (match pys (xs.map D.p) with
    | some xs => 0 ≤ a ∧ match xs[a.toNat]? with
      | some x => QM ((xs.eraseIdx a.toNat).map D.p) x
      | none => False
    | none => False)
  rw [pys_map]
  refine ⟨h0, ?_⟩
  show (match xs[a.toNat]? with
      | some x => QM ((xs.eraseIdx a.toNat).map D.p) x
      | none => False)
  rw [hz]; exact h
theorem m_ext (ha : as = [.lst (ys.map D.p)]) (hl : ds.length + ys.length ≤ 1000000) (h : QM (ds ++ ys.map D.p) .none) : mExtend ds as QM := by
  subst ha
  show (match pys (ys.map D.p) with
    | some ys => ds.length + ys.length ≤ 1000000 ∧ QM (ds ++ ys.map D.p) .none
    | none => False)
  rw [pys_map]; exact ⟨hl, h⟩
end
def setLQ (d : D) (ob : Opd) (k : Int) (e3 : Env) (n : Env → Prop) : Prop := mutO ob e3 (fun ds K => match ixN ds.length k with
      | some j => K (ds.set j d) .none
      | none => False) (fun _ e4 => n e4)
theorem i_setL {to ti : DT} (h : t env (kVal fun d e1 => to e1 (fun ob e2 => ti e2 (kInt fun k e3 => setLQ d ob k e3 n) E) E) E) : dSetL t to ti ⟨n, r, b, c⟩ env E := h
theorem k_setL {k : Int} {j : Nat} {e' : Env} (hd : e.at i π = .lst ds) (hj : ixN ds.length k = some j) (hn : e.put i π (.lst (ds.set j d)) = e') (h : n e') : setLQ d (.ref i π) k e n := by
  subst hn
  unfold setLQ
  refine i_mutO hd ?_
  show (match ixN ds.length k with
      | some j => n (e.put i π (.lst (ds.set j d)))
      | none => False)
  rw [hj]; exact h
def setDQ (x : PD) (ob ix : Opd) (e3 : Env) (n : Env → Prop) : Prop := match ob with
    | .ref i π => match e3.at i π, (ix.get e3).key with
      | .dct kvs, some k => kvs.length < 1000000 ∧ n (e3.put i π (.dct (dput kvs k x)))
      | _, _ => False
    | .val _ => False
def kP (f : PD → Env → Prop) : Opd → Env → Prop := fun o e => match o with
  | .val (.p x) => f x e
  | _ => False
theorem k_p {f : PD → Env → Prop} {x : PD} (hd : d = .p x) (h : f x e) : kP f (.val d) e := by subst hd; exact h
theorem i_setD {to ti : DT} (h : t env (kP fun x e1 => to e1 (fun ob e2 => ti e2 (fun ix e3 => setDQ x ob ix e3 n) E) E) E) : dSetD t to ti ⟨n, r, b, c⟩ env E := h
theorem k_setD {x : PD} {ix : Opd} {kvs : List (Key × PD)} {k : Key} {e' : Env} (hd : e.at i π = .dct kvs) (hk : (ix.get e).key = some k) (hl : kvs.length < 1000000) (hn : e.put i π (.dct (dput kvs k x)) = e') (h : n e') : setDQ x (.ref i π) ix e n := by
  subst hn
  unfold setDQ
  show (match e.at i π, (ix.get e).key with
      | .dct kvs, some k => kvs.length < 1000000 ∧ n (e.put i π (.dct (dput kvs k x)))
      | _, _ => False)
  rw [hd, hk]; exact ⟨hl, h⟩
-- what is walked
section
variable {QI : List PD → Ls → Env → Prop} {xs : List PD}
theorem i_diSeq (h : t env (fun o e1 => lentQ o e1 QI) E) : diSeq t env QI E := h
theorem l_val (hd : d.seq = some xs) (h : QI xs [] e) : lentQ (.val d) e QI := by
  show (match d.seq with
    | some xs => QI xs [] e
    | none => False)
  rw [hd]; exact h
theorem l_ref {d0 : D} {e' : Addr → Env} (hd : (e.at i π).seq = some xs) (h0 : dj e[i]? = d0) (hn : ∀ a, e.set i (.lent a) = e' a) (h : ∀ a, QI xs [(i, a, d0)] (e' a)) : lentQ (.ref i π) e QI := by
  subst h0
  have h : ∀ a, QI xs [(i, a, dj e[i]?)] (e.set i (.lent a)) := fun a => by rw [hn a]; exact h a
  show (match (e.at i π).seq with
    | some xs => ∀ a, QI xs [(i, a, dj e[i]?)] (e.set i (.lent a))
    | none => False)
  rw [hd]; exact h
theorem i_range {a : Int} (h : tr env (fun os e1 => oneI os fun j => (-(2 ^ 62) ≤ j ∧ j < 2 ^ 62) ∧ QI (rangeP 0 j.toNat) [] e1) E) : diRange tr env QI E := h
def rg1 (os : List Opd) (e1 : Env) (QI : List PD → Ls → Env → Prop) : Prop := oneI os fun j => (-(2 ^ 62) ≤ j ∧ j < 2 ^ 62) ∧ QI (rangeP 0 j.toNat) [] e1
theorem i_rg (h : tr env (fun os e1 => rg1 os e1 QI) E) : diRange tr env QI E := h
theorem k_rg {os : List Opd} {a : Int} (hd : os = [.val (.p (.int a))]) (hl : -(2 ^ 62) ≤ a ∧ a < 2 ^ 62) (h : QI (rangeP 0 a.toNat) [] e) : rg1 os e QI := by subst hd; exact ⟨hl, h⟩
def rg2 (os : List Opd) (e1 : Env) (QI : List PD → Ls → Env → Prop) : Prop := twoI os fun i j => (-(2 ^ 62) ≤ i ∧ i < 2 ^ 62 ∧ -(2 ^ 62) ≤ j ∧ j < 2 ^ 62) ∧ QI (rangeP i (j - i).toNat) [] e1
theorem i_rg2 (h : tr env (fun os e1 => rg2 os e1 QI) E) : diRange2 tr env QI E := h
theorem k_rg2 {os : List Opd} {a a' : Int} (hd : os = [.val (.p (.int a)), .val (.p (.int a'))]) (hl : -(2 ^ 62) ≤ a ∧ a < 2 ^ 62 ∧ -(2 ^ 62) ≤ a' ∧ a' < 2 ^ 62) (h : QI (rangeP a (a' - a).toNat) [] e) : rg2 os e QI := by subst hd; exact ⟨hl, h⟩
theorem i_diStr (h : t env (fun o e1 => oneS o fun x => QI (signsP x) [] e1) E) : diStr t env QI E := h
theorem k_oneS {f : Str → Prop} {x : Str} (hd : d = .p (.str x)) (h : f x) : oneS (.val d) f := by subst hd; exact h
end
-- comprehensions
def lcQ (xs : List PD) (ls : Ls) (e1 : Env) (g : DTG) (tt : DTB) (te : DT) (vs : List Nat) (Q : Opd → Env → Prop) : Prop := xs.length ≤ 1000000 ∧ ∃ W : Nat → List D → Env → Prop, W 0 [] (wip vs e1) ∧
  (∀ i x acc env, xs[i]? = some x → W i acc env → g (.p x) env fun e2 => tt e2 (fun b e3 => if b = true then te e3 (kVal fun d e4 => W (i + 1) (acc ++ [d]) (wip vs e4)) EF else W (i + 1) acc (wip vs e3)) EF) ∧
  ∀ acc env, W xs.length acc env → RS ls (fun e => Q (.val (.lst acc)) (rsP vs e1 e)) env
theorem i_lc {ti : DTI} {tt : DTB} {vs : List Nat} (h : ti env (fun xs ls e1 => lcQ xs ls e1 g tt t vs Q) E) : dLc ti g tt t vs env Q E := h
theorem lc_mk {xs : List PD} {ls : Ls} {tt : DTB} {vs : List Nat} (W : Nat → List D → Env → Prop) (hl : xs.length ≤ 1000000) (h0 : W 0 [] (wip vs e1))
    (h : ∀ i x acc env, xs[i]? = some x → W i acc env → g (.p x) env fun e2 => tt e2 (fun b e3 => if b = true then t e3 (kVal fun d e4 => W (i + 1) (acc ++ [d]) (wip vs e4)) EF else W (i + 1) acc (wip vs e3)) EF)
    (h1 : ∀ acc env, W xs.length acc env → RS ls (fun e => Q (.val (.lst acc)) (rsP vs e1 e)) env) : lcQ xs ls e1 g tt t vs Q := ⟨hl, W, h0, h, h1⟩
/-- a filtered map over typed items, the slots back as they were -/
theorem lc_fm {α : Type} {xs : List PD} {ls : Ls} {tt : DTB} {vs : List Nat} (enc : α → PD) (ys : List α) (hx : xs = ys.map enc) (hl : ys.length ≤ 1000000) (p : α → Bool) (f : α → D) (e0 : Env) (he0 : wip vs e1 = e0)
    (h : ∀ (i : Nat) x (W : List D → Env → Prop) acc, ys[i]? = some x → W (acc ++ (if p x then [f x] else [])) e0 → g (.p (enc x)) e0 fun e2 => tt e2 (fun b e3 => if b = true then t e3 (kVal fun d e4 => W (acc ++ [d]) (wip vs e4)) EF else W acc (wip vs e3)) EF)
    (h1 : RS ls (fun e => Q (.val (.lst ((ys.filter p).map f))) (rsP vs e1 e)) e0) : lcQ xs ls e1 g tt t vs Q := by
  subst hx he0
  refine lc_mk (fun i acc e => acc = ((ys.take i).filter p).map f ∧ e = wip vs e1) (by simpa using hl) ⟨by simp, rfl⟩ (fun i x acc env hi ⟨ha, he⟩ => ?_) (fun acc env ⟨ha, he⟩ => ?_)
  · subst he
    rw [List.getElem?_map] at hi
    cases z : ys[i]? with
    | none => rw [z] at hi; cases hi
    | some y =>
      rw [z] at hi; cases hi
      refine h i y (fun acc e => acc = ((ys.take (i + 1)).filter p).map f ∧ e = wip vs e1) acc z ⟨?_, rfl⟩
      obtain ⟨hlt, e5⟩ := List.getElem?_eq_some_iff.mp z
      rw [List.take_succ_eq_append_getElem hlt, List.filter_append, List.map_append, e5, ← ha]
      cases hp : p y <;> simp [hp]
  · subst ha he
    rw [List.length_map, List.take_length]; exact h1
theorem i_yes {Q : Bool → Env → Prop} (h : Q true env) : dYes env Q E := h
end
/-! ### a comprehension in a comprehension -/
theorem relab_seen {env : PySem.Env} {x : Str} : ∀ {names : List (Str × NameKind)}, names.lookup x = some .cell ∨ names.lookup x = some .free →
    (names.map fun (n, k) => if (k == NameKind.free && env.scope.kind == .function && env.kindOf n == some .cell) then (n, NameKind.cell) else (n, k)).lookup x = some .cell ∨
    (names.map fun (n, k) => if (k == NameKind.free && env.scope.kind == .function && env.kindOf n == some .cell) then (n, NameKind.cell) else (n, k)).lookup x = some .free
  | [], h => by simp at h
  | (n, k) :: r, h => by
    have ih := @relab_seen env x r
    rw [List.map_cons]
    by_cases e : x = n
    · subst e
      have hk : k = .cell ∨ k = .free := by
        rw [List.lookup_cons_self] at h
        simpa using h
      by_cases c : (k == NameKind.free && env.scope.kind == .function && env.kindOf x == some .cell) = true
      · left
        show List.lookup x ((if (k == NameKind.free && env.scope.kind == .function && env.kindOf x == some .cell) = true then (x, NameKind.cell) else (x, k)) :: _) = _
        rw [if_pos c, List.lookup_cons_self]
      · show List.lookup x ((if (k == NameKind.free && env.scope.kind == .function && env.kindOf x == some .cell) = true then (x, NameKind.cell) else (x, k)) :: _) = _ ∨ List.lookup x ((if (k == NameKind.free && env.scope.kind == .function && env.kindOf x == some .cell) = true then (x, NameKind.cell) else (x, k)) :: _) = _
        rw [if_neg c, List.lookup_cons_self]
        rcases hk with z | z <;> subst z <;> simp
    · have ne : (x == n) = false := by simpa using e
      have h' : r.lookup x = some .cell ∨ r.lookup x = some .free := by
        simp only [List.lookup_cons, ne] at h
        exact h
      have ih := ih h'
      show List.lookup x ((if (k == NameKind.free && env.scope.kind == .function && env.kindOf n == some .cell) = true then (n, NameKind.cell) else (n, k)) :: _) = _ ∨ List.lookup x ((if (k == NameKind.free && env.scope.kind == .function && env.kindOf n == some .cell) = true then (n, NameKind.cell) else (n, k)) :: _) = _
      split <;> simpa only [List.lookup_cons, ne] using ih
theorem blkOk_in {N : List Str} {env : PySem.Env} {sc scope : Scope} {own : List (Str × Nat)} (h : blkC N sc scope own = true) : BlkOk N (relabel sc env) scope own := by
  have b := blkOk_by h
  exact ⟨b.kind, b.uniq, b.ix, fun y hy e => relab_seen (b.free y hy e), b.own⟩
end Dv

set_option Elab.async false
set_option linter.all false
set_option maxRecDepth 100000
/-! Dv, part R: the steps of readings, found by their heads (printed by mkr.py). -/
namespace Dv
open PySem PySem.Spec PyProof.Rows L2
class Stp (A : Prop) (B : outParam Prop) : Prop where
  go : B → A
def dnQ (R : Prop) : Prop := R
theorem dnI {R : Prop} (h : R) : dnQ R := h
def exQ {α : Type} (p : α → Prop) : Prop := ∃ x, p x
theorem exI {α : Type} {p : α → Prop} (w : α) (h : p w) : exQ p := ⟨w, h⟩
theorem exE {α : Type} {p : α → Prop} {R : Prop} (h : exQ p) (f : ∀ x, p x → R) : R := h.elim f
def orQ (P R : Prop) : Prop := P ∨ R
theorem orL {P R : Prop} (h : P) : orQ P R := .inl h
theorem orR {P R : Prop} (h : R) : orQ P R := .inr h
theorem orE {P R T : Prop} (h : orQ P R) (f : P → T) (g : R → T) : T := h.elim f g
def eqQ (P R : Prop) : Prop := P ∧ R
theorem eqI {P R : Prop} (h : P) (r : R) : eqQ P R := ⟨h, r⟩
def asQ (P R : Prop) : Prop := P ∧ R
theorem asI {P R : Prop} (h : P) (r : R) : asQ P R := ⟨h, r⟩
def arQ (P R : Prop) : Prop := P ∧ R
theorem arI {P R : Prop} (h : P) (r : R) : arQ P R := ⟨h, r⟩
def sdQ (P R : Prop) : Prop := P ∧ R
theorem sdI {P R : Prop} (h : P) (r : R) : sdQ P R := ⟨h, r⟩
def sqQ (P R : Prop) : Prop := P ∧ R
theorem sqI {P R : Prop} (h : P) (r : R) : sqQ P R := ⟨h, r⟩
def lqQ (P R : Prop) : Prop := P ∧ R
theorem lqI {P R : Prop} (h : P) (r : R) : lqQ P R := ⟨h, r⟩
def bgQ (P R : Prop) : Prop := P ∧ R
theorem bgI {P R : Prop} (h : P) (r : R) : bgQ P R := ⟨h, r⟩
def okQ (P R : Prop) : Prop := P ∧ R
theorem okI {P R : Prop} (h : P) (r : R) : okQ P R := ⟨h, r⟩
def trQ (P R : Prop) : Prop := P ∧ R
theorem trI {P R : Prop} (h : P) (r : R) : trQ P R := ⟨h, r⟩
def blQ (P R : Prop) : Prop := P ∧ R
theorem blI {P R : Prop} (h : P) (r : R) : blQ P R := ⟨h, r⟩
def ndQ (P R : Prop) : Prop := P ∧ R
theorem ndI {P R : Prop} (h : P) (r : R) : ndQ P R := ⟨h, r⟩
def imQ (P R : Prop) : Prop := P ∧ R
theorem imI {P R : Prop} (h : P) (r : R) : imQ P R := ⟨h, r⟩
def bmQ (P R : Prop) : Prop := P ∧ R
theorem bmI {P R : Prop} (h : P) (r : R) : bmQ P R := ⟨h, r⟩
def nfQ (P R : Prop) : Prop := P ∧ R
theorem nfI {P R : Prop} (h : P) (r : R) : nfQ P R := ⟨h, r⟩
def nlQ (P R : Prop) : Prop := P ∧ R
theorem nlI {P R : Prop} (h : P) (r : R) : nlQ P R := ⟨h, r⟩
instance {env : Env} {E : EK} {t : DT} {n : Env → Prop} {b : Env → Prop} {c : Env → Prop} {r : D → Env → Prop} {s2 : DTS} {g' : DTG} : Stp (dSeq (dAsg t g') s2 ⟨n, r, b, c⟩ env E) (dnQ ((dAsg t g') ⟨fun e1 => s2 ⟨n, r, b, c⟩ e1 E, r, b, c⟩ env E)) := ⟨fun h => i_seqA h⟩
instance {env : Env} {E : EK} {t : DT} {n : Env → Prop} {b : Env → Prop} {c : Env → Prop} {r : D → Env → Prop} {s2 : DTS} : Stp (dSeq (dDrop t) s2 ⟨n, r, b, c⟩ env E) (dnQ ((dDrop t) ⟨fun e1 => s2 ⟨n, r, b, c⟩ e1 E, r, b, c⟩ env E)) := ⟨fun h => i_seqX h⟩
instance {env : Env} {E : EK} {n : Env → Prop} {b : Env → Prop} {c : Env → Prop} {r : D → Env → Prop} {s : DTS} {s2 : DTS} {ti : DTI} {g' : DTG} : Stp (dSeq (dFor ti g' s) s2 ⟨n, r, b, c⟩ env E) (dnQ ((dFor ti g' s) ⟨fun e1 => s2 ⟨n, r, b, c⟩ e1 E, r, b, c⟩ env E)) := ⟨fun h => i_seqF h⟩
instance {env : Env} {E : EK} {t : DT} {ta : DT} {tb : DT} {n : Env → Prop} {b : Env → Prop} {c : Env → Prop} {r : D → Env → Prop} {s2 : DTS} : Stp (dSeq (dSetL t ta tb) s2 ⟨n, r, b, c⟩ env E) (dnQ ((dSetL t ta tb) ⟨fun e1 => s2 ⟨n, r, b, c⟩ e1 E, r, b, c⟩ env E)) := ⟨fun h => i_seqSL h⟩
instance {env : Env} {E : EK} {t : DT} {ta : DT} {tb : DT} {n : Env → Prop} {b : Env → Prop} {c : Env → Prop} {r : D → Env → Prop} {s2 : DTS} : Stp (dSeq (dSetD t ta tb) s2 ⟨n, r, b, c⟩ env E) (dnQ ((dSetD t ta tb) ⟨fun e1 => s2 ⟨n, r, b, c⟩ e1 E, r, b, c⟩ env E)) := ⟨fun h => i_seqSD h⟩
instance {env : Env} {E : EK} {n : Env → Prop} {b : Env → Prop} {c : Env → Prop} {r : D → Env → Prop} {s : DTS} {s2 : DTS} {ct : DTB} : Stp (dSeq (dWhile ct s) s2 ⟨n, r, b, c⟩ env E) (dnQ ((dWhile ct s) ⟨fun e1 => s2 ⟨n, r, b, c⟩ e1 E, r, b, c⟩ env E)) := ⟨fun h => i_seqW h⟩
instance {env : Env} {E : EK} {t : DT} {gs : DTGs} {n : Env → Prop} {b : Env → Prop} {c : Env → Prop} {r : D → Env → Prop} {s2 : DTS} {k : Nat} : Stp (dSeq (dAsgL k t gs) s2 ⟨n, r, b, c⟩ env E) (dnQ ((dAsgL k t gs) ⟨fun e1 => s2 ⟨n, r, b, c⟩ e1 E, r, b, c⟩ env E)) := ⟨fun h => i_seqL h⟩
instance {env : Env} {E : EK} {n : Env → Prop} {b : Env → Prop} {c : Env → Prop} {r : D → Env → Prop} : Stp (dNext ⟨n, r, b, c⟩ env E) (dnQ (n env)) := ⟨fun h => i_next h⟩
instance {env : Env} {E : EK} {t : DT} {g : DTG} {n : Env → Prop} {b : Env → Prop} {c : Env → Prop} {r : D → Env → Prop} : Stp (dAsg t g ⟨n, r, b, c⟩ env E) (dnQ (t env (kVal fun d e1 => g d e1 n) E)) := ⟨fun h => i_asg h⟩
instance {env : Env} {E : EK} {t : DT} {n : Env → Prop} {b : Env → Prop} {c : Env → Prop} {r : D → Env → Prop} : Stp (dDrop t ⟨n, r, b, c⟩ env E) (dnQ (t env (fun _ e1 => n e1) E)) := ⟨fun h => i_drop h⟩
instance {env : Env} {E : EK} {t : DT} {n : Env → Prop} {b : Env → Prop} {c : Env → Prop} {r : D → Env → Prop} : Stp (dRet t ⟨n, r, b, c⟩ env E) (dnQ (t env (kVal fun d e1 => r d e1) E)) := ⟨fun h => i_ret h⟩
instance {env : Env} {E : EK} {n : Env → Prop} {b : Env → Prop} {c : Env → Prop} {r : D → Env → Prop} {s : DTS} {s2 : DTS} {ct : DTB} : Stp (dIfS ct s s2 ⟨n, r, b, c⟩ env E) (dnQ (ct env (fun b' e1 => if b' = true then s ⟨n, r, b, c⟩ e1 E else s2 ⟨n, r, b, c⟩ e1 E) E)) := ⟨fun h => i_ifs h⟩
instance {env : Env} {E : EK} {g : DTG} {n : Env → Prop} {b : Env → Prop} {c : Env → Prop} {r : D → Env → Prop} {s : DTS} {ti : DTI} : Stp (dFor ti g s ⟨n, r, b, c⟩ env E) (dnQ (ti env (fun xs ls e1 => forQ xs ls e1 g s n r E) E)) := ⟨fun h => i_for h⟩
instance {e : Env} {d : D} {f : D → Env → Prop} : Stp (kVal f (.val d) e) (dnQ (f d e)) := ⟨fun h => k_val h⟩
instance {e : Env} {d : D} {f : Bool → Env → Prop} : Stp (kTst f (.val d) e) (exQ fun (b : Bool) => eqQ (d = .p (.bool b)) (dnQ (f b e))) := ⟨fun h => exE h fun _ h => k_tst h.1 h.2⟩
instance {e : Env} {d : D} {f : Int → Env → Prop} : Stp (kInt f (.val d) e) (exQ fun (b : Int) => eqQ (d = .p (.int b)) (dnQ (f b e))) := ⟨fun h => exE h fun _ h => k_int h.1 h.2⟩
instance {e : Env} {d : D} {f : PD → Env → Prop} : Stp (kP f (.val d) e) (exQ fun (x : PD) => eqQ (d = .p x) (dnQ (f x e))) := ⟨fun h => exE h fun _ h => k_p h.1 h.2⟩
instance {d : D} {f : Bool → Prop} : Stp (kB f d) (exQ fun (b : Bool) => eqQ (d = .p (.bool b)) (dnQ (f b))) := ⟨fun h => exE h fun _ h => k_b h.1 h.2⟩
instance {e : Env} {f : List D → Env → Prop} {os : List Opd} : Stp (kVals f os e) (exQ fun (ds : List D) => eqQ (vals os = some ds) (dnQ (f ds e))) := ⟨fun h => exE h fun _ h => k_vals h.1 h.2⟩
instance {env : Env} {Q : Opd → Env → Prop} {E : EK} {i : Nat} : Stp (dNm i env Q E) (orQ (exQ fun (x : PD) => eqQ (dj env[i]? = .p x) (dnQ (Q (.val (.p x)) env))) (bgQ ((dj env[i]?).big = true) (dnQ (Q (.ref i []) env)))) := ⟨fun h => orE h (fun h => exE h fun _ h => i_nmP h.1 h.2) (fun h => i_nmR h.1 h.2)⟩
instance {env : Env} {Q : Opd → Env → Prop} {E : EK} {x : PD} : Stp (dK x env Q E) (dnQ (Q (.val (.p x)) env)) := ⟨fun h => i_k h⟩
instance {env : Env} {n : Env → Prop} {d : D} {i : Nat} : Stp (gNm i d env n) (exQ fun (e' : Env) => nfQ (env.set i d = e') (dnQ (n e'))) := ⟨fun h => exE h fun _ h => i_gNm h.1 h.2⟩
instance {env : Env} {n : Env → Prop} : Stp (RS [] n env) (dnQ (n env)) := ⟨fun h => i_rs0 h⟩
instance {env : Env} {n : Env → Prop} {d : D} {i : Nat} {a : Addr} : Stp (RS [(i, a, d)] n env) (exQ fun (e' : Env) => eqQ (dj env[i]? = .lent a) (nfQ (env.set i d = e') (dnQ (n e')))) := ⟨fun h => exE h fun _ h => i_rs1 h.1 h.2.1 h.2.2⟩
instance {env : Env} {Q : Opd → Env → Prop} {E : EK} {ta : DT} {tb : DT} {f : F2} : Stp (dBin f ta tb env Q E) (dnQ (ta env (fun x e1 => tb e1 (fun y e2 => f (x.get e2) (y.get e2) fun d => Q (.val d) e2) E) E)) := ⟨fun h => i_bin h⟩
instance {env : Env} {Q : Opd → Env → Prop} {E : EK} {ta : DT} {tb : DT} : Stp (dIx ta tb env Q E) (dnQ (ta env (fun x e1 => tb e1 (fun y e2 => ixO x (x.get e2) (y.get e2) fun o => Q o e2) E) E)) := ⟨fun h => i_ix h⟩
instance {env : Env} {E : EK} {t : DT} : Stp (dTst t env Q' E) (dnQ (t env (kTst fun b e1 => Q' b e1) E)) := ⟨fun h => i_tst h⟩
instance {env : Env} {Q : List Opd → Env → Prop} {E : EK} {t : DT} {tr : DTA} : Stp (dCons t tr env Q E) (dnQ (t env (fun o e1 => tr e1 (fun os e2 => Q (o :: os) e2) E) E)) := ⟨fun h => i_cons h⟩
instance {env : Env} {Q : List Opd → Env → Prop} {E : EK} : Stp (dNil env Q E) (dnQ (Q [] env)) := ⟨fun h => i_nil h⟩
instance {env : Env} {Q : Opd → Env → Prop} {E : EK} {g : FC} {tr : DTA} : Stp (dCall g tr env Q E) (dnQ (tr env (fun os e1 => g (os.map (Opd.get e1)) fun d => Q (.val d) e1) E)) := ⟨fun h => i_call h⟩
instance {env : Env} {Q : Opd → Env → Prop} {E : EK} {tr : DTA} {f : FD} : Stp (dCallF f tr env Q E) (dnQ (tr env (fun os e1 => cf0 os e1 f Q E) E)) := ⟨fun h => i_callF h⟩
instance {e : Env} {Q : Opd → Env → Prop} {E : EK} {os : List Opd} {f : FD} : Stp (cf0 os e f Q E) (ndQ ((slots os).Nodup) (okQ (okR os e) (dnQ (cfQ os e f Q E)))) := ⟨fun h => i_cf h.1 h.2.1 h.2.2⟩
instance {b : Bool} {A : Prop} {B : Prop} : Stp (if b = true then A else B) (orQ (arQ (b = true) (dnQ (A))) (arQ (b = false) (dnQ (B)))) := ⟨fun h => orE h (fun h => i_itT h.1 h.2) (fun h => i_itF h.1 h.2)⟩
instance {env : Env} {Q : Opd → Env → Prop} {E : EK} : Stp (dNewD env Q E) (dnQ (Q (.val (.dct [])) env)) := ⟨fun h => i_newD h⟩
instance {env : Env} {Q : Bool → Env → Prop} {E : EK} {ct : DTB} {cu : DTB} : Stp (dAnd ct cu env Q E) (dnQ (ct env (fun c e1 => if c = true then cu e1 Q E else Q false e1) E)) := ⟨fun h => i_and h⟩
instance {env : Env} {Q : Bool → Env → Prop} {E : EK} {ct : DTB} {cu : DTB} : Stp (dOr ct cu env Q E) (dnQ (ct env (fun c e1 => if c = true then Q true e1 else cu e1 Q E) E)) := ⟨fun h => i_or h⟩
instance {env : Env} {Q : Bool → Env → Prop} {E : EK} {ct : DTB} : Stp (dNot ct env Q E) (dnQ (ct env (fun c e1 => Q (!c) e1) E)) := ⟨fun h => i_not h⟩
instance {env : Env} {Q : Opd → Env → Prop} {E : EK} {ta : DT} {tb : DT} {tc : DT} {g : F2} {f : F2} : Stp (dChain f g ta tb tc env Q E) (dnQ (ta env (fun x e1 => tb e1 (fun y e2 => f (x.get e2) (y.get e2) (kB fun k => if k = true then tc e2 (fun z e3 => g (y.get e3) (z.get e3) fun d => Q (.val d) e3) E else Q (.val (.p (.bool false))) e2)) E) E)) := ⟨fun h => i_chain h⟩
instance {env : Env} {Q : Opd → Env → Prop} {E : EK} {t : DT} {u : DT} {ct : DTB} : Stp (dIf ct t u env Q E) (dnQ (ct env (fun b e1 => if b = true then t e1 Q E else u e1 Q E) E)) := ⟨fun h => i_if h⟩
instance {env : Env} {Q : Bool → Env → Prop} {E : EK} : Stp (dYes env Q E) (dnQ (Q true env)) := ⟨fun h => i_yes h⟩
instance {env : Env} {Q : Opd → Env → Prop} {E : EK} {t : DT} : Stp (dMv t env Q E) (dnQ (t env (kMv Q) E)) := ⟨fun h => i_mvK h⟩
instance {e : Env} {Q : Opd → Env → Prop} {d : D} : Stp (kMv Q (.val d) e) (dnQ (Q (.val d) e)) := ⟨fun h => k_mvV h⟩
instance {e : Env} {Q : Opd → Env → Prop} {i : Nat} {π : List Nat} : Stp (kMv Q (.ref i π) e) (exQ fun (d : D) => exQ fun (e' : Env) => eqQ (e.at i π = d) (bgQ (d.big = true) (nfQ (e.put i π .hole = e') (dnQ (Q (.val d) e'))))) := ⟨fun h => exE h fun _ h => exE h fun _ h => k_mvR h.1 h.2.1 h.2.2.1 h.2.2.2⟩
instance {env : Env} {Q : Opd → Env → Prop} {E : EK} {t : DT} : Stp (dFz t env Q E) (dnQ (t env (kFz Q) E)) := ⟨fun h => i_fzK h⟩
instance {e : Env} {Q : Opd → Env → Prop} {d : D} : Stp (kFz Q (.val d) e) (dnQ (Q (.val d) e)) := ⟨fun h => k_fzV h⟩
instance {e : Env} {Q : Opd → Env → Prop} {i : Nat} {π : List Nat} : Stp (kFz Q (.ref i π) e) (exQ fun (x : PD) => exQ fun (e' : Env) => arQ (fz (e.at i π) = some x) (nfQ (e.put i π (.p x) = e') (dnQ (Q (.val (.p x)) e')))) := ⟨fun h => exE h fun _ h => exE h fun _ h => k_fzR h.1 h.2.1 h.2.2⟩
instance {x : D} {y : D} {QD : D → Prop} : Stp (fAdd x y QD) (orQ (exQ fun (a : Int) => exQ fun (a' : Int) => eqQ (x = .p (.int a)) (eqQ (y = .p (.int a')) (dnQ (QD (.p (.int (a + a'))))))) (orQ (exQ fun (xs : List PD) => exQ fun (ys : List PD) => eqQ (x = .p (.tuple xs)) (eqQ (y = .p (.tuple ys)) (sdQ (xs.length + ys.length ≤ sizeLine) (dnQ (QD (.p (.tuple (xs ++ ys)))))))) (orQ (exQ fun (xs : List PD) => exQ fun (ys : List PD) => eqQ (x = .lst (xs.map D.p)) (eqQ (y = .lst (ys.map D.p)) (sdQ (xs.length + ys.length ≤ sizeLine) (dnQ (QD (.lst ((xs ++ ys).map D.p))))))) (exQ fun (p : Str) => exQ fun (q : Str) => eqQ (x = .p (.str p)) (eqQ (y = .p (.str q)) (sdQ (p.length + q.length ≤ sizeLine) (dnQ (QD (.p (.str (p ++ q))))))))))) := ⟨fun h => orE h (fun h => exE h fun _ h => exE h fun _ h => f_addI h.1 h.2.1 h.2.2) (fun h => orE h (fun h => exE h fun _ h => exE h fun _ h => f_addT h.1 h.2.1 h.2.2.1 h.2.2.2) (fun h => orE h (fun h => exE h fun _ h => exE h fun _ h => f_addL h.1 h.2.1 h.2.2.1 h.2.2.2) (fun h => exE h fun _ h => exE h fun _ h => f_addS h.1 h.2.1 h.2.2.1 h.2.2.2)))⟩
instance {x : D} {y : D} {QD : D → Prop} : Stp (fSub x y QD) (exQ fun (a : Int) => exQ fun (a' : Int) => eqQ (x = .p (.int a)) (eqQ (y = .p (.int a')) (dnQ (QD (.p (.int (a - a'))))))) := ⟨fun h => exE h fun _ h => exE h fun _ h => f_sub h.1 h.2.1 h.2.2⟩
instance {x : D} {y : D} {QD : D → Prop} : Stp (fMul x y QD) (exQ fun (a : Int) => exQ fun (a' : Int) => eqQ (x = .p (.int a)) (eqQ (y = .p (.int a')) (asQ (CMulX a a') (dnQ (QD (.p (.int (a * a')))))))) := ⟨fun h => exE h fun _ h => exE h fun _ h => f_mul h.1 h.2.1 h.2.2.1 h.2.2.2⟩
instance {x : D} {y : D} {QD : D → Prop} : Stp (fMod x y QD) (exQ fun (a : Int) => exQ fun (a' : Int) => eqQ (x = .p (.int a)) (eqQ (y = .p (.int a')) (sdQ (0 < a') (dnQ (QD (.p (.int (a % a')))))))) := ⟨fun h => exE h fun _ h => exE h fun _ h => f_mod h.1 h.2.1 h.2.2.1 h.2.2.2⟩
instance {x : D} {y : D} {QD : D → Prop} : Stp (fDiv x y QD) (exQ fun (a : Int) => exQ fun (a' : Int) => eqQ (x = .p (.int a)) (eqQ (y = .p (.int a')) (asQ (CDivW a a') (dnQ (QD (.p (.int (a / a')))))))) := ⟨fun h => exE h fun _ h => exE h fun _ h => f_div h.1 h.2.1 h.2.2.1 h.2.2.2⟩
instance {x : D} {y : D} {QD : D → Prop} : Stp (fPow x y QD) (exQ fun (a : Int) => exQ fun (a' : Int) => eqQ (x = .p (.int a)) (eqQ (y = .p (.int a')) (asQ (CPowW a a') (dnQ (QD (.p (.int (a ^ a'.toNat)))))))) := ⟨fun h => exE h fun _ h => exE h fun _ h => f_pow h.1 h.2.1 h.2.2.1 h.2.2.2⟩
instance {x : D} {y : D} {QD : D → Prop} : Stp (fShl x y QD) (exQ fun (a : Int) => exQ fun (a' : Int) => eqQ (x = .p (.int a)) (eqQ (y = .p (.int a')) (asQ (CPow a a') (dnQ (QD (.p (.int (a * 2 ^ a'.toNat)))))))) := ⟨fun h => exE h fun _ h => exE h fun _ h => f_shl h.1 h.2.1 h.2.2.1 h.2.2.2⟩
instance {x : D} {y : D} {QD : D → Prop} : Stp (fShr x y QD) (exQ fun (a : Int) => exQ fun (a' : Int) => eqQ (x = .p (.int a)) (eqQ (y = .p (.int a')) (sdQ (0 ≤ a') (dnQ (QD (.p (.int (a / 2 ^ a'.toNat)))))))) := ⟨fun h => exE h fun _ h => exE h fun _ h => f_shr h.1 h.2.1 h.2.2.1 h.2.2.2⟩
instance {x : D} {y : D} {QD : D → Prop} : Stp (fAnd x y QD) (exQ fun (a : Int) => exQ fun (a' : Int) => eqQ (x = .p (.int a)) (eqQ (y = .p (.int a')) (dnQ (QD (.p (.int (Builtin.bitAnd a a'))))))) := ⟨fun h => exE h fun _ h => exE h fun _ h => f_and h.1 h.2.1 h.2.2⟩
instance {x : D} {y : D} {QD : D → Prop} {k : Int → Int → Bool} : Stp (fCmp k x y QD) (exQ fun (a : Int) => exQ fun (a' : Int) => eqQ (x = .p (.int a)) (eqQ (y = .p (.int a')) (dnQ (QD (.p (.bool (k a a'))))))) := ⟨fun h => exE h fun _ h => exE h fun _ h => f_cmp h.1 h.2.1 h.2.2⟩
instance {x : D} {y : D} {QD : D → Prop} : Stp (fEq x y QD) (exQ fun (a : Int) => exQ fun (a' : Int) => eqQ (x = .p (.int a)) (eqQ (y = .p (.int a')) (dnQ (QD (.p (.bool (decide (a = a')))))))) := ⟨fun h => exE h fun _ h => exE h fun _ h => f_eqI h.1 h.2.1 h.2.2⟩
instance {x : D} {y : D} {QD : D → Prop} : Stp (fNe x y QD) (exQ fun (a : Int) => exQ fun (a' : Int) => eqQ (x = .p (.int a)) (eqQ (y = .p (.int a')) (dnQ (QD (.p (.bool (!decide (a = a')))))))) := ⟨fun h => exE h fun _ h => exE h fun _ h => f_neI h.1 h.2.1 h.2.2⟩
instance {x : D} {y : D} {QD : D → Prop} : Stp (fIs x y QD) (orQ (eqQ (y = .p .none) (eqQ (x.live = true) (dnQ (QD (.p (.bool x.isNone)))))) (exQ fun (u : Bool) => exQ fun (v : Bool) => eqQ (x = .p (.bool u)) (eqQ (y = .p (.bool v)) (dnQ (QD (.p (.bool (decide (u = v))))))))) := ⟨fun h => orE h (fun h => f_isN h.1 h.2.1 h.2.2) (fun h => exE h fun _ h => exE h fun _ h => f_isB h.1 h.2.1 h.2.2)⟩
instance {x : D} {y : D} {QD : D → Prop} : Stp (fIsNot x y QD) (orQ (eqQ (y = .p .none) (eqQ (x.live = true) (dnQ (QD (.p (.bool (!x.isNone))))))) (exQ fun (u : Bool) => exQ fun (v : Bool) => eqQ (x = .p (.bool u)) (eqQ (y = .p (.bool v)) (dnQ (QD (.p (.bool (!decide (u = v))))))))) := ⟨fun h => orE h (fun h => f_isnotN h.1 h.2.1 h.2.2) (fun h => exE h fun _ h => exE h fun _ h => f_isnotB h.1 h.2.1 h.2.2)⟩
instance {x : D} {y : D} {QD : D → Prop} {neg : Bool} : Stp (fInB neg x y QD) (exQ fun (k : Key) => exQ fun (kvs : List (Key × PD)) => eqQ (x.key = some k) (eqQ (y = .dct kvs) (dnQ (QD (.p (.bool (neg ^^ (dget kvs k).isSome))))))) := ⟨fun h => exE h fun _ h => exE h fun _ h => f_inD h.1 h.2.1 h.2.2⟩
instance {o : Opd} {d : D} {ky : D} {QO : Opd → Prop} : Stp (ixO o d ky QO) (orQ (exQ fun (xs : List PD) => exQ fun (a : Int) => exQ fun (z : PD) => eqQ (d = .p (.tuple xs)) (eqQ (ky = .p (.int a)) (arQ (atI xs a = some z) (dnQ (QO (.val (.p z))))))) (orQ (exQ fun (xs : List PD) => exQ fun (a : Int) => exQ fun (z : PD) => eqQ (d = .p (.list xs)) (eqQ (ky = .p (.int a)) (arQ (atI xs a = some z) (dnQ (QO (.val (.p z))))))) (orQ (exQ fun (ds : List D) => exQ fun (a : Int) => exQ fun (z : PD) => eqQ (d = .lst ds) (eqQ (ky = .p (.int a)) (arQ (atI ds a = some (.p z)) (dnQ (QO (.val (.p z))))))) (orQ (exQ fun (ds : List D) => exQ fun (a : Int) => exQ fun (j : Nat) => exQ fun (z : PD) => eqQ (d = .tup ds) (eqQ (ky = .p (.int a)) (eqQ (ixN ds.length a = some j) (eqQ (ds[j]? = some (.p z)) (dnQ (QO (.val (.p z)))))))) (orQ (exQ fun (n : Nat) => exQ fun (π : List Nat) => exQ fun (ds : List D) => exQ fun (a : Int) => exQ fun (j : Nat) => exQ fun (w : D) => eqQ (o = .ref n π) (eqQ (d = .tup ds) (eqQ (ky = .p (.int a)) (eqQ (ixN ds.length a = some j) (eqQ (ds[j]? = some w) (bgQ (w.big = true) (dnQ (QO (.ref n (π ++ [j])))))))))) (exQ fun (kvs : List (Key × PD)) => exQ fun (k : Key) => exQ fun (z : PD) => eqQ (d = .dct kvs) (eqQ (ky.key = some k) (arQ (dget kvs k = some z) (dnQ (QO (.val (.p z)))))))))))) := ⟨fun h => orE h (fun h => exE h fun _ h => exE h fun _ h => exE h fun _ h => x_T h.1 h.2.1 h.2.2.1 h.2.2.2) (fun h => orE h (fun h => exE h fun _ h => exE h fun _ h => exE h fun _ h => x_F h.1 h.2.1 h.2.2.1 h.2.2.2) (fun h => orE h (fun h => exE h fun _ h => exE h fun _ h => exE h fun _ h => x_L h.1 h.2.1 h.2.2.1 h.2.2.2) (fun h => orE h (fun h => exE h fun _ h => exE h fun _ h => exE h fun _ h => exE h fun _ h => x_U h.1 h.2.1 h.2.2.1 h.2.2.2.1 h.2.2.2.2) (fun h => orE h (fun h => exE h fun _ h => exE h fun _ h => exE h fun _ h => exE h fun _ h => exE h fun _ h => exE h fun _ h => x_UR h.1 h.2.1 h.2.2.1 h.2.2.2.1 h.2.2.2.2.1 h.2.2.2.2.2.1 h.2.2.2.2.2.2) (fun h => exE h fun _ h => exE h fun _ h => exE h fun _ h => x_D h.1 h.2.1 h.2.2.1 h.2.2.2)))))⟩
instance {env : Env} {Q : Opd → Env → Prop} {E : EK} {tr : DTA} : Stp (dTup tr env Q E) (dnQ (tr env (kVals fun ds e1 => ds.length ≤ 1000 ∧ Q (.val (tupD ds)) e1) E)) := ⟨fun h => i_tup h⟩
instance {env : Env} {Q : Opd → Env → Prop} {E : EK} {tr : DTA} : Stp (dLst tr env Q E) (dnQ (tr env (kVals fun ds e1 => ds.length ≤ 1000 ∧ Q (.val (.lst ds)) e1) E)) := ⟨fun h => i_lst h⟩
instance {ds : List D} {A : Prop} : Stp (ds.length ≤ 1000 ∧ A) (blQ (ds.length ≤ 1000) (dnQ (A))) := ⟨fun h => i_len1000 h.1 h.2⟩
instance {env : Env} {Q : Opd → Env → Prop} {E : EK} {t : DT} {u : DT} : Stp (dAndV t u env Q E) (dnQ (t env (kTst fun c e1 => if c = true then u e1 Q E else Q (.val (.p (.bool false))) e1) E)) := ⟨fun h => i_andV h⟩
instance {env : Env} {Q : Opd → Env → Prop} {E : EK} {t : DT} {u : DT} : Stp (dOrV t u env Q E) (dnQ (t env (kTst fun c e1 => if c = true then Q (.val (.p (.bool true))) e1 else u e1 Q E) E)) := ⟨fun h => i_orV h⟩
instance {env : Env} {Q : Opd → Env → Prop} {E : EK} {t : DT} : Stp (dNotV t env Q E) (dnQ (t env (kTst fun c e1 => Q (.val (.p (.bool !c))) e1) E)) := ⟨fun h => i_notV h⟩
instance {env : Env} {Q : Opd → Env → Prop} {E : EK} {t : DT} {T : String} : Stp (dIsi T t env Q E) (dnQ (t env (kIsi T Q) E)) := ⟨fun h => i_isiK h⟩
instance {e : Env} {Q : Opd → Env → Prop} {o : Opd} {T : String} : Stp (kIsi T Q o e) (exQ fun (nm : String) => eqQ ((o.get e).ty = some nm) (dnQ (Q (.val (.p (.bool (isiB nm T)))) e))) := ⟨fun h => exE h fun _ h => k_isi h.1 h.2⟩
instance {env : Env} {Q : Opd → Env → Prop} {E : EK} {t : DT} : Stp (dLrange t env Q E) (dnQ (t env (kInt fun j e1 => j ≤ 1000000 ∧ -(1000000) ≤ j ∧ Q (.val (.lst ((rangeP 0 j.toNat).map D.p))) e1) E)) := ⟨fun h => i_lrange h⟩
instance {env : Env} {Q : Opd → Env → Prop} {E : EK} {t : DT} : Stp (dNeg t env Q E) (dnQ (t env (kInt fun j e1 => Q (.val (.p (.int (-j)))) e1) E)) := ⟨fun h => i_neg h⟩
instance {env : Env} {Q : Option Int → Env → Prop} {E : EK} : Stp (dNoP env Q E) (dnQ (Q none env)) := ⟨fun h => i_noP h⟩
instance {env : Env} {Q : Option Int → Env → Prop} {E : EK} {t : DT} : Stp (dSoP t env Q E) (dnQ (t env (kInt fun j e1 => Q (some j) e1) E)) := ⟨fun h => i_soP h⟩
instance {env : Env} {Q : Opd → Env → Prop} {E : EK} {ta : DT} {tl : DTP} {th : DTP} : Stp (dSl ta tl th env Q E) (dnQ (ta env (fun x e1 => tl e1 (fun l e2 => th e2 (fun h e3 => slD (x.get e3) l h fun d => Q (.val d) e3) E) E) E)) := ⟨fun h => i_sl h⟩
instance {d : D} {QD : D → Prop} {lo : Option Int} {hi : Option Int} : Stp (slD d lo hi QD) (orQ (exQ fun (xs : List PD) => eqQ (d = .p (.tuple xs)) (dnQ (QD (.p (.tuple (cutP xs lo hi)))))) (orQ (exQ fun (xs : List PD) => eqQ (d = .p (.list xs)) (dnQ (QD (.lst ((cutP xs lo hi).map D.p))))) (orQ (exQ fun (xs : List PD) => eqQ (d = .lst (xs.map D.p)) (dnQ (QD (.lst ((cutP xs lo hi).map D.p))))) (exQ fun (s : Str) => eqQ (d = .p (.str s)) (sdQ (s.length ≤ sizeLine) (dnQ (QD (.p (.str (cutS s lo hi)))))))))) := ⟨fun h => orE h (fun h => exE h fun _ h => s_T h.1 h.2) (fun h => orE h (fun h => exE h fun _ h => s_F h.1 h.2) (fun h => orE h (fun h => exE h fun _ h => s_L h.1 h.2) (fun h => exE h fun _ h => s_S h.1 h.2.1 h.2.2)))⟩
instance {env : Env} {Q : Opd → Env → Prop} {E : EK} {t : DT} : Stp (dRev t env Q E) (dnQ (t env (kRev Q) E)) := ⟨fun h => i_rev h⟩
instance {e : Env} {Q : Opd → Env → Prop} {o : Opd} : Stp (kRev Q o e) (exQ fun (xs : List PD) => lqQ ((o.get e).lseq = some xs) (dnQ (Q (.val (.lst (xs.reverse.map D.p))) e))) := ⟨fun h => exE h fun _ h => k_rev h.1 h.2⟩
instance {ds : List D} {QD : D → Prop} : Stp (gLen ds QD) (orQ (exQ fun (xs : List PD) => eqQ (ds = [.p (.tuple xs)]) (dnQ (QD (.p (.int xs.length))))) (orQ (exQ fun (xs : List PD) => eqQ (ds = [.p (.list xs)]) (dnQ (QD (.p (.int xs.length))))) (orQ (exQ fun (zs : List D) => eqQ (ds = [.lst zs]) (dnQ (QD (.p (.int zs.length))))) (orQ (exQ fun (zs : List (Key × PD)) => eqQ (ds = [.dct zs]) (dnQ (QD (.p (.int zs.length))))) (orQ (exQ fun (zs : List D) => eqQ (ds = [.tup zs]) (dnQ (QD (.p (.int zs.length))))) (exQ fun (s : Str) => eqQ (ds = [.p (.str s)]) (sdQ (s.length ≤ sizeLine) (dnQ (QD (.p (.int s.length))))))))))) := ⟨fun h => orE h (fun h => exE h fun _ h => g_lenT h.1 h.2) (fun h => orE h (fun h => exE h fun _ h => g_lenF h.1 h.2) (fun h => orE h (fun h => exE h fun _ h => g_lenL h.1 h.2) (fun h => orE h (fun h => exE h fun _ h => g_lenD h.1 h.2) (fun h => orE h (fun h => exE h fun _ h => g_lenU h.1 h.2) (fun h => exE h fun _ h => g_lenS h.1 h.2.1 h.2.2)))))⟩
instance {ds : List D} {QD : D → Prop} : Stp (gTuple ds QD) (exQ fun (d : D) => exQ fun (xs : List PD) => eqQ (ds = [d]) (sqQ (d.seq = some xs) (dnQ (QD (.p (.tuple xs)))))) := ⟨fun h => exE h fun _ h => exE h fun _ h => g_tuple h.1 h.2.1 h.2.2⟩
instance {ds : List D} {QD : D → Prop} : Stp (gList ds QD) (orQ (exQ fun (kvs : List (Key × PD)) => eqQ (ds = [.dct kvs]) (dnQ (QD (.lst ((kvs.map fun kv => keyP kv.1).map D.p))))) (exQ fun (d : D) => exQ fun (xs : List PD) => eqQ (ds = [d]) (sqQ (d.seq = some xs) (dnQ (QD (.lst (xs.map D.p))))))) := ⟨fun h => orE h (fun h => exE h fun _ h => g_listD h.1 h.2) (fun h => exE h fun _ h => exE h fun _ h => g_list h.1 h.2.1 h.2.2)⟩
instance {ds : List D} {QD : D → Prop} {f : List Int → (D → Prop) → Prop} : Stp (gInts f ds QD) (exQ fun (d : D) => exQ fun (xs : List PD) => exQ fun (ns : List Int) => eqQ (ds = [d]) (lqQ (d.lseq = some xs) (imQ (intsP xs = some ns) (dnQ (f ns QD))))) := ⟨fun h => exE h fun _ h => exE h fun _ h => exE h fun _ h => g_ints h.1 h.2.1 h.2.2.1 h.2.2.2⟩
instance {ds : List D} {QD : D → Prop} {f : List Bool → Bool} : Stp (gBools f ds QD) (exQ fun (d : D) => exQ fun (xs : List PD) => exQ fun (bs : List Bool) => eqQ (ds = [d]) (lqQ (d.lseq = some xs) (bmQ (boolsP xs = some bs) (dnQ (QD (.p (.bool (f bs)))))))) := ⟨fun h => exE h fun _ h => exE h fun _ h => exE h fun _ h => g_bools h.1 h.2.1 h.2.2.1 h.2.2.2⟩
instance {ds : List D} {QD : D → Prop} : Stp (gMax ds QD) (orQ (exQ fun (i : Int) => exQ fun (j : Int) => eqQ (ds = [.p (.int i), .p (.int j)]) (dnQ (QD (.p (.int (max i j)))))) (exQ fun (d : D) => eqQ (ds = [d]) (dnQ (gInts (fun ns Q => 0 < ns.length ∧ ∀ m, m ∈ ns → (∀ y ∈ ns, y ≤ m) → Q (.p (.int m))) [d] QD)))) := ⟨fun h => orE h (fun h => exE h fun _ h => exE h fun _ h => g_max2 h.1 h.2) (fun h => exE h fun _ h => g_max1 h.1 h.2)⟩
instance {ds : List D} {QD : D → Prop} : Stp (gMin ds QD) (orQ (exQ fun (i : Int) => exQ fun (j : Int) => eqQ (ds = [.p (.int i), .p (.int j)]) (dnQ (QD (.p (.int (min i j)))))) (exQ fun (d : D) => eqQ (ds = [d]) (dnQ (gInts (fun ns Q => 0 < ns.length ∧ ∀ m, m ∈ ns → (∀ y ∈ ns, m ≤ y) → Q (.p (.int m))) [d] QD)))) := ⟨fun h => orE h (fun h => exE h fun _ h => exE h fun _ h => g_min2 h.1 h.2) (fun h => exE h fun _ h => g_min1 h.1 h.2)⟩
instance {ds : List D} {QD : D → Prop} : Stp (gInt ds QD) (orQ (exQ fun (i : Int) => eqQ (ds = [.p (.int i)]) (dnQ (QD (.p (.int i))))) (exQ fun (b : Bool) => eqQ (ds = [.p (.bool b)]) (dnQ (QD (.p (.int (if b then 1 else 0))))))) := ⟨fun h => orE h (fun h => exE h fun _ h => g_intI h.1 h.2) (fun h => exE h fun _ h => g_intB h.1 h.2)⟩
instance {ds : List D} {QD : D → Prop} : Stp (gStr ds QD) (exQ fun (i : Int) => eqQ (ds = [.p (.int i)]) (sdQ (i.natAbs.log2 < 1920) (dnQ (QD (.p (.str (toString i))))))) := ⟨fun h => exE h fun _ h => g_strI h.1 h.2.1 h.2.2⟩
instance {env : Env} {Q : Opd → Env → Prop} {E : EK} {t : DT} {tr : DTA} {m : FM} : Stp (dMut m t tr env Q E) (dnQ (t env (fun o e1 => mutA m o e1 tr Q E) E)) := ⟨fun h => i_mut h⟩
instance {e : Env} {Q : Opd → Env → Prop} {E : EK} {tr : DTA} {o : Opd} {m : FM} : Stp (mutA m o e tr Q E) (trQ (isLst (o.get e)) (dnQ (tr e (kVals fun as e2 => mutO o e2 (fun ds k => m ds as k) Q) E))) := ⟨fun h => i_mutA h.1 h.2⟩
instance {env : Env} {Q : Opd → Env → Prop} {E : EK} {t : DT} {tr : DTA} {m : FM} : Stp (dMutR m t tr env Q E) (dnQ (t env (fun o e1 => mutAR m o e1 tr Q E) E)) := ⟨fun h => i_mutR h⟩
instance {e : Env} {Q : Opd → Env → Prop} {E : EK} {tr : DTA} {o : Opd} {m : FM} : Stp (mutAR m o e tr Q E) (trQ (isLst (o.get e)) (dnQ (tr e (fun os e2 => mutO o e2 (fun ds k => m ds (os.map (Opd.get e2)) k) Q) E))) := ⟨fun h => i_mutAR h.1 h.2⟩
instance {env : Env} {Q : Opd → Env → Prop} {E : EK} {t : DT} {m : FM} : Stp (dMut0 m t env Q E) (dnQ (t env (fun o e1 => mutO o e1 (fun ds k => m ds [] k) Q) E)) := ⟨fun h => i_mut0 h⟩
instance {e : Env} {Q : Opd → Env → Prop} {i : Nat} {π : List Nat} {k : List D → (List D → PD → Prop) → Prop} : Stp (mutO (.ref i π) e k Q) (exQ fun (ds : List D) => eqQ (e.at i π = .lst ds) (dnQ (k ds fun ds' x => Q (.val (.p x)) (e.put i π (.lst ds'))))) := ⟨fun h => exE h fun _ h => i_mutO h.1 h.2⟩
instance {d : D} {ds : List D} {QM : List D → PD → Prop} : Stp (mAppend ds [d] QM) (sdQ (ds.length < 1000000) (dnQ (QM (ds ++ [d]) .none))) := ⟨fun h => m_app h.1 h.2⟩
instance {ds : List D} {QM : List D → PD → Prop} : Stp (mClear ds [] QM) (dnQ (QM [] .none)) := ⟨fun h => m_clear h⟩
instance {ds : List D} {QM : List D → PD → Prop} : Stp (mReverse ds [] QM) (exQ fun (xs : List PD) => eqQ (ds = xs.map D.p) (dnQ (QM (xs.reverse.map D.p) .none))) := ⟨fun h => exE h fun _ h => m_rev h.1 h.2⟩
instance {ds : List D} {as : List D} {QM : List D → PD → Prop} : Stp (mExtend ds as QM) (exQ fun (ys : List PD) => eqQ (as = [.lst (ys.map D.p)]) (sdQ (ds.length + ys.length ≤ 1000000) (dnQ (QM (ds ++ ys.map D.p) .none)))) := ⟨fun h => exE h fun _ h => m_ext h.1 h.2.1 h.2.2⟩
instance {env : Env} {E : EK} {t : DT} {n : Env → Prop} {b : Env → Prop} {c : Env → Prop} {r : D → Env → Prop} {to : DT} {ti : DT} : Stp (dSetL t to ti ⟨n, r, b, c⟩ env E) (dnQ (t env (kVal fun d e1 => to e1 (fun ob e2 => ti e2 (kInt fun k e3 => setLQ d ob k e3 n) E) E) E)) := ⟨fun h => i_setL h⟩
instance {e : Env} {n : Env → Prop} {d : D} {i : Nat} {π : List Nat} {k : Int} : Stp (setLQ d (.ref i π) k e n) (exQ fun (ds : List D) => exQ fun (j : Nat) => exQ fun (e' : Env) => eqQ (e.at i π = .lst ds) (arQ (ixN ds.length k = some j) (nfQ (e.put i π (.lst (ds.set j d)) = e') (dnQ (n e'))))) := ⟨fun h => exE h fun _ h => exE h fun _ h => exE h fun _ h => k_setL h.1 h.2.1 h.2.2.1 h.2.2.2⟩
instance {env : Env} {E : EK} {t : DT} {n : Env → Prop} {b : Env → Prop} {c : Env → Prop} {r : D → Env → Prop} {to : DT} {ti : DT} : Stp (dSetD t to ti ⟨n, r, b, c⟩ env E) (dnQ (t env (kP fun x e1 => to e1 (fun ob e2 => ti e2 (fun ix e3 => setDQ x ob ix e3 n) E) E) E)) := ⟨fun h => i_setD h⟩
instance {e : Env} {n : Env → Prop} {x : PD} {i : Nat} {π : List Nat} {ix : Opd} : Stp (setDQ x (.ref i π) ix e n) (exQ fun (kvs : List (Key × PD)) => exQ fun (k : Key) => exQ fun (e' : Env) => eqQ (e.at i π = .dct kvs) (eqQ ((ix.get e).key = some k) (sdQ (kvs.length < 1000000) (nfQ (e.put i π (.dct (dput kvs k x)) = e') (dnQ (n e')))))) := ⟨fun h => exE h fun _ h => exE h fun _ h => exE h fun _ h => k_setD h.1 h.2.1 h.2.2.1 h.2.2.2.1 h.2.2.2.2⟩
instance {env : Env} {E : EK} {t : DT} {QI : List PD → Ls → Env → Prop} : Stp (diSeq t env QI E) (dnQ (t env (fun o e1 => lentQ o e1 QI) E)) := ⟨fun h => i_diSeq h⟩
instance {e : Env} {d : D} {QI : List PD → Ls → Env → Prop} : Stp (lentQ (.val d) e QI) (exQ fun (xs : List PD) => sqQ (d.seq = some xs) (dnQ (QI xs [] e))) := ⟨fun h => exE h fun _ h => l_val h.1 h.2⟩
instance {e : Env} {i : Nat} {π : List Nat} {QI : List PD → Ls → Env → Prop} : Stp (lentQ (.ref i π) e QI) (exQ fun (xs : List PD) => exQ fun (d0 : D) => exQ fun (e' : Addr → Env) => sqQ ((e.at i π).seq = some xs) (nfQ (dj e[i]? = d0) (nfQ (∀ a, e.set i (.lent a) = e' a) (dnQ (∀ a, QI xs [(i, a, d0)] (e' a)))))) := ⟨fun h => exE h fun _ h => exE h fun _ h => exE h fun _ h => l_ref h.1 h.2.1 h.2.2.1 h.2.2.2⟩
instance {env : Env} {E : EK} {tr : DTA} {QI : List PD → Ls → Env → Prop} : Stp (diRange tr env QI E) (dnQ (tr env (fun os e1 => rg1 os e1 QI) E)) := ⟨fun h => i_rg h⟩
instance {e : Env} {QI : List PD → Ls → Env → Prop} {os : List Opd} : Stp (rg1 os e QI) (exQ fun (a : Int) => eqQ (os = [.val (.p (.int a))]) (sdQ (-(2 ^ 62) ≤ a ∧ a < 2 ^ 62) (dnQ (QI (rangeP 0 a.toNat) [] e)))) := ⟨fun h => exE h fun _ h => k_rg h.1 h.2.1 h.2.2⟩
instance {env : Env} {E : EK} {tr : DTA} {QI : List PD → Ls → Env → Prop} : Stp (diRange2 tr env QI E) (dnQ (tr env (fun os e1 => rg2 os e1 QI) E)) := ⟨fun h => i_rg2 h⟩
instance {e : Env} {QI : List PD → Ls → Env → Prop} {os : List Opd} : Stp (rg2 os e QI) (exQ fun (a : Int) => exQ fun (a' : Int) => eqQ (os = [.val (.p (.int a)), .val (.p (.int a'))]) (sdQ (-(2 ^ 62) ≤ a ∧ a < 2 ^ 62 ∧ -(2 ^ 62) ≤ a' ∧ a' < 2 ^ 62) (dnQ (QI (rangeP a (a' - a).toNat) [] e)))) := ⟨fun h => exE h fun _ h => exE h fun _ h => k_rg2 h.1 h.2.1 h.2.2⟩
instance {env : Env} {E : EK} {t : DT} {QI : List PD → Ls → Env → Prop} : Stp (diStr t env QI E) (dnQ (t env (fun o e1 => oneS o fun x => QI (signsP x) [] e1) E)) := ⟨fun h => i_diStr h⟩
instance {d : D} {f : Str → Prop} : Stp (oneS (.val d) f) (exQ fun (x : Str) => eqQ (d = .p (.str x)) (dnQ (f x))) := ⟨fun h => exE h fun _ h => k_oneS h.1 h.2⟩
instance {env : Env} {Q : Opd → Env → Prop} {E : EK} {t : DT} {g : DTG} {ti : DTI} {tt : DTB} {vs : List Nat} : Stp (dLc ti g tt t vs env Q E) (dnQ (ti env (fun xs ls e1 => lcQ xs ls e1 g tt t vs Q) E)) := ⟨fun h => i_lc h⟩
instance {env : Env} {gs : DTGs} {n : Env → Prop} {d : D} {k : Nat} : Stp (gTu k gs d env n) (orQ (exQ fun (xs : List PD) => eqQ (d = .p (.tuple xs)) (eqQ (xs.length = k) (dnQ (gs (xs.map Dv.D.p) env n)))) (exQ fun (ds : List D) => eqQ (d = .tup ds) (eqQ (ds.length = k) (dnQ (gs ds env n))))) := ⟨fun h => orE h (fun h => exE h fun _ h => i_gTuP h.1 h.2.1 h.2.2) (fun h => exE h fun _ h => i_gTuD h.1 h.2.1 h.2.2)⟩
instance {env : Env} {g : DTG} {gs : DTGs} {n : Env → Prop} {ds' : List D} : Stp (gCn g gs ds' env n) (exQ fun (d : D) => exQ fun (ds : List D) => eqQ (ds' = d :: ds) (dnQ (g d env fun e1 => gs ds e1 n))) := ⟨fun h => exE h fun _ h => exE h fun _ h => i_gCn0 h.1 h.2⟩
instance {env : Env} {n : Env → Prop} {ds : List D} : Stp (gNl ds env n) (eqQ (ds = []) (dnQ (n env))) := ⟨fun h => i_gNl0 h.1 h.2⟩
instance {env : Env} {E : EK} {t : DT} {gs : DTGs} {n : Env → Prop} {b : Env → Prop} {c : Env → Prop} {r : D → Env → Prop} {k : Nat} : Stp (dAsgL k t gs ⟨n, r, b, c⟩ env E) (dnQ (t env (fun o e1 => match (o.get e1).lseq with
  | some xs => xs.length = k ∧ gs (xs.map Dv.D.p) e1 n
  | none => False) E)) := ⟨fun h => i_asgL h⟩
instance {env : Env} {Q : Opd → Env → Prop} {E : EK} {tr : DTA} : Stp (dTupM tr env Q E) (dnQ (tr env (fun os e1 => tmQ os e1 Q) E)) := ⟨fun h => i_tupMK h⟩
instance {e : Env} {Q : Opd → Env → Prop} {os : List Opd} : Stp (tmQ os e Q) (exQ fun (e' : Env) => ndQ ((slots os).Nodup) (okQ (okR os e) (blQ (os.length ≤ 1000) (nfQ (putAll os (os.map fun _ => .hole) e = e') (dnQ (Q (.val (tupD (os.map (Opd.get e)))) e')))))) := ⟨fun h => exE h fun _ h => k_tm h.1 h.2.1 h.2.2.1 h.2.2.2.1 h.2.2.2.2⟩
instance {e : Env} {Q : Opd → Env → Prop} {d : D} {ds : List D} {os : List Opd} : Stp (cfK os e Q d ds) (exQ fun (e' : Env) => nfQ (putAll os ds e = e') (dnQ (Q (.val d) e'))) := ⟨fun h => exE h fun _ h => k_cfK h.1 h.2⟩
instance {e : Env} {E : EK} {ds : List D} {os : List Opd} {C : Str} {x' : Option (Str × D)} : Stp (cfX os e E C x' ds) (exQ fun (e' : Env) => nfQ (putAll os ds e = e') (dnQ (E C x' e'))) := ⟨fun h => exE h fun _ h => k_cfX h.1 h.2⟩
end Dv

set_option Elab.async false
set_option linter.all false
set_option maxRecDepth 100000
/-! Dv, part S: comprehensions over typed items, sorted keys, small facts. -/
namespace Dv
open PySem PySem.Spec PyProof.Rows L2
section
variable {e1 : Env} {g : DTG} {t : DT} {tt : DTB} {vs : List Nat} {Q : Opd → Env → Prop} {xs : List PD} {ls : Ls} {α : Type}
theorem lc_fil (enc : α → PD) (ys : List α) (e0 : Env) (p : α → Bool) (f : α → PD) (hx : xs = ys.map enc) (hl : ys.length ≤ 1000000) (he0 : wip vs e1 = e0)
    (h : ∀ (i : Nat) x (W : List D → Env → Prop) acc, ys[i]? = some x → W (acc ++ (if p x then [D.p (f x)] else [])) e0 → g (.p (enc x)) e0 fun e2 => tt e2 (fun b e3 => if b = true then t e3 (kVal fun d e4 => W (acc ++ [d]) (wip vs e4)) EF else W acc (wip vs e3)) EF)
    (h1 : RS ls (fun e => Q (.val (.lst (((ys.filter p).map f).map D.p))) (rsP vs e1 e)) e0) : lcQ xs ls e1 g tt t vs Q := by
  refine lc_fm enc ys hx hl p (fun x => D.p (f x)) e0 he0 h ?_
  rw [List.map_map] at h1
  exact h1
theorem lc_all (enc : α → PD) (ys : List α) (e0 : Env) (f : α → PD) (hx : xs = ys.map enc) (hl : ys.length ≤ 1000000) (he0 : wip vs e1 = e0)
    (h : ∀ (i : Nat) x (W : List D → Env → Prop) acc, ys[i]? = some x → W (acc ++ [D.p (f x)]) e0 → g (.p (enc x)) e0 fun e2 => tt e2 (fun b e3 => if b = true then t e3 (kVal fun d e4 => W (acc ++ [d]) (wip vs e4)) EF else W acc (wip vs e3)) EF)
    (h1 : RS ls (fun e => Q (.val (.lst ((ys.map f).map D.p))) (rsP vs e1 e)) e0) : lcQ xs ls e1 g tt t vs Q := by
  refine lc_fil enc ys e0 (fun _ => true) f hx hl he0 (fun i x W acc hi hw => h i x W acc hi (by simpa using hw)) ?_
  rw [List.filter_eq_self.mpr (fun _ _ => rfl)]
  exact h1
theorem lc_allI (enc : α → PD) (ys : List α) (e0 : Env) (f : α → Int) (hx : xs = ys.map enc) (hl : ys.length ≤ 1000000) (he0 : wip vs e1 = e0)
    (h : ∀ (i : Nat) x (W : List D → Env → Prop) acc, ys[i]? = some x → W (acc ++ [D.p (.int (f x))]) e0 → g (.p (enc x)) e0 fun e2 => tt e2 (fun b e3 => if b = true then t e3 (kVal fun d e4 => W (acc ++ [d]) (wip vs e4)) EF else W acc (wip vs e3)) EF)
    (h1 : RS ls (fun e => Q (.val (.lst (((ys.map f).map PyData.int).map D.p))) (rsP vs e1 e)) e0) : lcQ xs ls e1 g tt t vs Q := by
  refine lc_all enc ys e0 (fun x => PyData.int (f x)) hx hl he0 h ?_
  have e : (ys.map fun x => PyData.int (f x)) = (ys.map f).map PyData.int := by rw [List.map_map]; rfl
  rw [e]
  exact h1
end
/-- behind a comprehension whose name's slot held one knows not what -/
theorem rsP_any {Q' : Env → Prop} {v : Nat} {e0 e : Env} (he : e.set v .hole = e) (h : ∀ y, Q' (e.set v y)) : Q' (rsP [v] e0 e) := by
  unfold rsP
  split
  · exact h _
  · have := h .hole
    rw [he] at this
    exact this
theorem rangeP_map (n : Nat) : rangeP 0 n = (List.range n).map fun (k : Nat) => PyData.int (k : Int) := by
  unfold rangeP
  refine List.map_congr_left fun k _ => ?_
  rw [Int.zero_add]
/-- ascending numbers, sorted: themselves -/
theorem sortI_of {xs ys : List Int} (hp : xs.Perm ys) (hs : ys.Pairwise (· ≤ ·)) : sortI xs = ys :=
  perm_sorted_eq ((sortI_perm xs).trans hp) (sortI_sorted xs) hs
/-! ### what == tells of plain data -/
def Lay (n : Nat) (d : PD) : Prop := d.canLay0 = true ∧ d.depth ≤ n
theorem Lay.ok {n : Nat} {d : PD} (h : Lay n d) (hn : n ≤ 64) : SeqAt.shaped d = true := by
  unfold SeqAt.shaped
  rw [h.1, Bool.true_and, decide_eq_true_iff]
  exact Nat.le_trans h.2 hn
theorem lay_all {n : Nat} : ∀ {xs : List PD}, (∀ x ∈ xs, Lay n x) → PyData.canLayAll0 xs = true ∧ PyData.depthAll xs ≤ n
  | [], _ => ⟨by simp [PyData.canLayAll0], by simp [PyData.depthAll]⟩
  | x :: xs, h => by
    have h1 := h x List.mem_cons_self
    have h2 := lay_all fun y hy => h y (List.mem_cons_of_mem _ hy)
    refine ⟨?_, ?_⟩
    · simp only [PyData.canLayAll0, h1.1, h2.1, Bool.and_self]
    · simp only [PyData.depthAll]
      have := h1.2
      have := h2.2
      omega
theorem Lay.list {n : Nat} {xs : List PD} (h : ∀ x ∈ xs, Lay n x) : Lay (n + 1) (.list xs) := by
  have h2 := lay_all h
  refine ⟨by simpa [PyData.canLay0] using h2.1, ?_⟩
  simp only [PyData.depth]
  have := h2.2
  omega
theorem Lay.tuple {n : Nat} {xs : List PD} (h : ∀ x ∈ xs, Lay n x) : Lay (n + 1) (.tuple xs) := by
  have h2 := lay_all h
  refine ⟨by simpa [PyData.canLay0] using h2.1, ?_⟩
  simp only [PyData.depth]
  have := h2.2
  omega
theorem Lay.int {n : Nat} (i : Int) : Lay n (.int i) := ⟨rfl, Nat.zero_le _⟩
theorem Lay.none {n : Nat} : Lay n .none := ⟨rfl, Nat.zero_le _⟩
theorem Lay.bool {n : Nat} (b : Bool) : Lay n (.bool b) := ⟨rfl, Nat.zero_le _⟩
theorem Lay.mono {n m : Nat} {d : PD} (h : Lay n d) (hm : n ≤ m) : Lay m d := ⟨h.1, Nat.le_trans h.2 hm⟩
theorem eqv_ints (i j : Int) : PyData.eqv (.int i) (.int j) = decide (i = j) := by simp only [PyData.eqv]; by_cases h : i = j <;> simp [h]
theorem eqv_bools (a b : Bool) : PyData.eqv (.bool a) (.bool b) = decide (a = b) := by cases a <;> cases b <;> simp [PyData.eqv]
theorem eqv_lists (xs ys : List PD) : PyData.eqv (.list xs) (.list ys) = PyData.eqvAll xs ys := by simp only [PyData.eqv]
theorem eqv_tuples (xs ys : List PD) : PyData.eqv (.tuple xs) (.tuple ys) = PyData.eqvAll xs ys := by simp only [PyData.eqv]
theorem eqvAll_map {α : Type} [DecidableEq α] {enc : α → PD} (h : ∀ x y, PyData.eqv (enc x) (enc y) = decide (x = y)) : ∀ xs ys : List α, PyData.eqvAll (xs.map enc) (ys.map enc) = decide (xs = ys)
  | [], [] => by simp [PyData.eqvAll]
  | [], y :: ys => by simp [PyData.eqvAll]
  | x :: xs, [] => by simp [PyData.eqvAll]
  | x :: xs, y :: ys => by
    simp only [List.map_cons, PyData.eqvAll, h, eqvAll_map h xs ys]
    by_cases e : x = y <;> by_cases e2 : xs = ys <;> simp [e, e2]
theorem any_map {α : Type} [DecidableEq α] {enc : α → PD} (h : ∀ x y, PyData.eqv (enc x) (enc y) = decide (x = y)) (xs : List α) (x : α) : ((xs.map enc).any fun z => PyData.eqv z (enc x)) = decide (x ∈ xs) := by
  rw [List.any_map]
  induction xs with
  | nil => rfl
  | cons y r ih =>
    rw [List.any_cons, ih]
    show (PyData.eqv (enc y) (enc x) || _) = _
    rw [h]
    by_cases e : y = x
    · subst e; simp
    · have e' : ¬ x = y := fun z => e z.symm
      simp [e, e']
theorem eqv_nil (xs : List PD) : PyData.eqv (.list xs) (.list []) = decide (xs = []) := by
  rw [eqv_lists]
  cases xs with
  | nil => simp [PyData.eqvAll]
  | cons x r => simp [PyData.eqvAll]
theorem py_lst (xs : List PD) : D.py (.lst (xs.map D.p)) = some (.list xs) := by simp [D.py]
theorem py_tup (xs : List PD) : D.py (.tup (xs.map D.p)) = some (.tuple xs) := by simp [D.py]
theorem ixN_of {n : Nat} {i : Int} (h0 : 0 ≤ i) (h1 : i < (n : Int)) : ixN n i = some i.toNat := by
  unfold ixN
  rw [if_pos h0, if_pos (by omega)]
end Dv

set_option Elab.async false
set_option linter.all false
set_option maxRecDepth 100000
/-! Dv, part T: a list that is only read while a statement runs. -/
namespace Dv
open PySem PySem.Spec PyProof.Rows L2
mutual
/-- no list within -/
def nolP : PD → Bool
  | .none => true
  | .bool _ => true
  | .int _ => true
  | .str _ => true
  | .tuple xs => nolPs xs
  | .list _ => false
  | .dict _ => false
def nolPs : List PD → Bool
  | [] => true
  | x :: xs => nolP x && nolPs xs
end
def nolK : List (Key × PD) → Bool
  | [] => true
  | kv :: r => nolP kv.2 && nolK r
mutual
def nolD : D → Bool
  | .p x => nolP x
  | .tup ds => nolDs ds
  | .lst ds => nolDs ds
  | .dct kvs => nolK kvs
  | .ins _ _ vs => nolDs vs
  | .exn _ _ _ y => nolD y
  | .fdc kvs => nolK kvs
  | .opl _ => false
  | .opi _ _ _ => false
  | .lent _ => true
  | .hole => true
def nolDs : List D → Bool
  | [] => true
  | d :: ds => nolD d && nolDs ds
end
section
variable {K : PySem.W.Frag} {S S' : Ft} {H : Hp}
mutual
theorem RP.nol : ∀ {v : V} (x : PD), RP K S H v x → nolP x = true → RP K S' H v x
  | _, .none, h, _ => by cases h; exact .non
  | _, .bool _, h, _ => by cases h; exact .bl _
  | _, .int _, h, _ => by cases h; exact .int _
  | _, .str _, h, _ => by cases h; exact .str _
  | _, .list _, _, z => by simp [nolP] at z
  | _, .tuple xs, h, z => by
    have z : nolPs xs = true := by simpa [nolP] using z
    cases h with | tup a b => exact .tup a (RPs.nol xs b z)
  | _, .dict _, h, _ => by cases h
theorem RPs.nol : ∀ {vs : List V} (xs : List PD), RPs K S H vs xs → nolPs xs = true → RPs K S' H vs xs
  | _, [], h, _ => by cases h; exact .nil
  | _, x :: xs, h, z => by
    have z : nolP x = true ∧ nolPs xs = true := by simpa [nolPs] using z
    cases h with | cons a b => exact .cons (RP.nol x a z.1) (RPs.nol xs b z.2)
end
theorem RK.nol : ∀ {vs : List (Key × V)} (xs : List (Key × PD)), RK K S H vs xs → nolK xs = true → RK K S' H vs xs
  | _, [], h, _ => by cases h; exact .nil
  | _, (k, x) :: xs, h, z => by
    have z : nolP x = true ∧ nolK xs = true := by simpa [nolK] using z
    cases h with | cons a b => exact .cons (RP.nol x a z.1) (RK.nol xs b z.2)
mutual
theorem R.nol : ∀ {v : V} (d : D) {F : Ft}, R K S H v d F → nolD d = true → R K S' H v d F
  | _, .p x, _, h, z => by
    have z : nolP x = true := by simpa [nolD] using z
    cases h with | p a => exact .p (RP.nol x a z)
  | _, .tup ds, _, h, z => by
    have z : nolDs ds = true := by simpa [nolD] using z
    cases h with | tup a b => exact .tup a (Rs.nol ds b z)
  | _, .lst ds, _, h, z => by
    have z : nolDs ds = true := by simpa [nolD] using z
    cases h with | lst a b c d => exact .lst a b c (Rs.nol ds d z)
  | _, .dct ds, _, h, z => by
    have z : nolK ds = true := by simpa [nolD] using z
    cases h with | dct a b c => exact .dct a b (RK.nol ds c z)
  | _, .ins C ns vs, _, h, z => by
    have z : nolDs vs = true := by simpa [nolD] using z
    cases h with | ins n a b c d => exact .ins n a b c (Rs.nol vs d z)
  | _, .exn _ _ _ y, _, h, z => by
    have z : nolD y = true := by simpa [nolD] using z
    cases h with
    | exn0 a c => exact .exn0 a c
    | exn1 y0 a c d e => exact .exn1 y0 a c d (R.nol y e z)
  | _, .fdc ds, _, h, z => by
    have z : nolK ds = true := by simpa [nolD] using z
    cases h with | fdc a c => exact .fdc a (RK.nol ds c z)
  | _, .opl _, _, _, z => by simp [nolD] at z
  | _, .opi _ _ _, _, _, z => by simp [nolD] at z
  | _, .lent _, _, h, _ => by cases h; exact .lent
  | _, .hole, _, _, _ => .hole
theorem Rs.nol : ∀ {vs : List V} (ds : List D) {F : Ft}, Rs K S H vs ds F → nolDs ds = true → Rs K S' H vs ds F
  | _, [], _, h, _ => by cases h; exact .nil
  | _, d :: ds, _, h, z => by
    have z : nolD d = true ∧ nolDs ds = true := by simpa [nolDs] using z
    cases h with | cons a b c f g => exact .cons (R.nol d a z.1) (Rs.nol ds b z.2) c f g
end
end
/-- slot k holds no list that is only read, or what it held before -/
def okSl (tv : List Nat) (i : Nat) (e0 : Env) (k : Nat) (d : D) : Prop := k = i ∨ nolD d = true ∨ (k ∉ tv ∧ ∃ x, d = .p x ∧ e0[k]? = some (.p x))
def okSls (tv : List Nat) (i : Nat) (e0 : Env) : Nat → List D → Prop
  | _, [] => True
  | k, d :: r => okSl tv i e0 k d ∧ okSls tv i e0 (k + 1) r
def thw (tv : List Nat) (e0 : Env) (i : Nat) (xs : List PD) (Q : Env → Prop) : Env → Prop := fun e => dj e[i]? = .p (.list xs) ∧ okSls tv i e0 0 e ∧ Q (e.set i (.lst (xs.map Dv.D.p)))
theorem okSls_get {tv : List Nat} {i : Nat} {e0 : Env} : ∀ {e : List D} {k : Nat} (j : Nat), okSls tv i e0 k e → j < e.length → okSl tv i e0 (k + j) (dj e[j]?)
  | [], _, j, _, h => by simp at h
  | d :: r, k, 0, h, _ => h.1
  | d :: r, k, j + 1, h, hl => by
    have := okSls_get (k := k + 1) j h.2 (by simpa using hl)
    rw [show k + 1 + j = k + (j + 1) by omega] at this
    exact this
def frt (tv : List Nat) (e0 : Env) (i : Nat) (xs : List PD) (Q : D → Env → Prop) : D → Env → Prop := fun r e => Q r e ∨ (nolD r = true ∧ thw tv e0 i xs (Q r) e)
/-- the list of a slot is read only, while t runs -/
def dFrz (tv : List Nat) (i : Nat) (t : DTS) : DTS := fun D env E => ∃ xs : List PD, dj env[i]? = .lst (xs.map Dv.D.p) ∧ t ⟨thw tv env i xs D.nx, frt tv env i xs D.rt, thw tv env i xs D.bk, thw tv env i xs D.ct⟩ (env.set i (.p (.list xs))) E
/-- given back -/
theorem thaw {K : PySem.W.Frag} {S S' F F' G : Ft} {H H' : Hp} {σ : L2.St} {env : Env} {i : Nat} {a : Addr} {us : List V} {xs : List PD} (w : WF S F Em H) (ha : H a = some (.lst us)) (fa : F a) (rp : RPs K S H us xs)
    (n : Nx (Or2 S fun b => b = a) (fun b => F b ∧ b ≠ a) H S' F' G H') (es : ES K S' H' σ env F') (ev : oj σ[i]? = some (.ref a)) (e : dj env[i]? = .p (.list xs)) (nl : ∀ j, j ≠ i → nolD (dj env[j]?) = true ∨ ∃ v x, oj σ[j]? = some v ∧ dj env[j]? = .p x ∧ RP K S H v x) :
    Nx S F H S (Or2 (fun b => b = a) F') G H' ∧ ES K S H' σ (env.set i (.lst (xs.map Dv.D.p))) (Or2 (fun b => b = a) F') := by
  have sa : S' a := n.ss a (.inr rfl)
  have hk : H' a = some (.lst us) := n.keep a _ ha fun z => z.2 rfl
  have nf : ¬ F' a := fun z => n.w.sf a sa z
  have ng : ¬ G a := fun z => n.w.sg a sa z
  have il : i < env.length := by
    rcases Nat.lt_or_ge i env.length with h | h
    · exact h
    · rw [List.getElem?_eq_none h] at e; cases e
  have kpS : Kp S Em H H' := fun b o hb hc => n.keep b o hb fun z => by
    rcases hc with hc | hc | hc
    · exact hc
    · exact w.sf b hc z.1
    · have := w.fm b z.1
      rw [hb] at this
      exact hc this
  refine ⟨⟨fun b o hb nF => n.keep b o hb fun z => nF z.1, fun b hb => hb, fun b hb => .inl hb, fun b hb => ?_, fun b hb => ?_, ⟨fun b h1 h2 => ?_, fun b h1 h2 => n.w.sg b (n.ss b (.inl h1)) h2, fun b h1 h2 => ?_, fun b hb => n.w.sd b (n.ss b (.inl hb)), fun b hb => ?_, n.w.gm⟩⟩, ?_⟩
  · rcases hb with hb | hb
    · have hb : b = a := hb
      rw [hb]; exact .inl fa
    · rcases n.fn b hb with z | z
      · exact .inl z.1
      · exact .inr z
  · rcases n.gn b hb with z | z
    · exact .inl z.1
    · exact .inr z
  · rcases h2 with h2 | h2
    · have h2 : b = a := h2
      rw [h2] at h1
      exact w.sf a h1 fa
    · exact n.w.sf b (n.ss b (.inl h1)) h2
  · rcases h1 with h1 | h1
    · have h1 : b = a := h1
      rw [h1] at h2
      exact ng h2
    · exact n.w.fg b h1 h2
  · rcases hb with hb | hb
    · have hb : b = a := hb
      rw [hb, hk]; trivial
    · exact n.w.fm b hb
  · obtain ⟨Fs, h1, h2, h3⟩ := es
    refine (ES.core (S := S) (F1 := fun b => b = a) (F2 := F') (Fs := Fs) i (fun j hj => ?_) ?_ (fun j k h _ _ => h2 j k h) (fun j hj x hx h => ?_) (fun j hj => h3 j))
    · rw [dj_set_ne (Ne.symm hj)]
      rcases h1 j with z | ⟨v, z, r⟩
      · exact .inl z
      · rcases nl j hj with q | ⟨v', x, q1, q2, q3⟩
        · exact .inr ⟨v, z, R.nol _ r q⟩
        · rw [q1] at z
          cases z
          rw [q2]
          exact .inr ⟨_, q1, .p (RP.kp (F := Em) kpS Sub.refl _ q3)⟩
    · rw [dj_set_eq il]
      refine .inr ⟨_, ev, .lst (F' := Em) hk rfl (fun _ z => z.elim) (RPs.up (RPs.kp (F := Em) kpS Sub.refl _ rp))⟩
    · have hx : x = a := hx
      rw [hx] at h
      exact nf (h3 j a h)
theorem ds_frz {X : Cx} {st : Stmt} {tv : List Nat} {t : DTS} (i : Nat) (hi : i ∉ tv) (h : DS X st tv t) : DS X st tv (dFrz tv i t) := by
  refine ⟨fun W tk σ S F H env D E kh hl w es hx ⟨xs, e, q⟩ => ?_⟩
  obtain ⟨v, F1, F2, ev, rv, s1, s2, d12, cl, _⟩ := es.slot i (by rw [e]; simp)
  rw [e] at rv
  cases rv with
  | @lst a us _ _ Fi ha fa sub rs =>
    have rp : RPs X.K S H us xs := rs.pys _ (pys_map xs)
    have es2 : ES X.K (Or2 S fun b => b = a) H σ (env.set i (.p (.list xs))) (fun b => F b ∧ b ≠ a) := by
      refine (cl (Or2 S fun b => b = a) H Em (.p (.list xs)) kp_id (fun b hb => .inl hb) (.p (.lst (.inl ⟨.inr rfl, ha⟩) (RPs.kp (F := Em) kp_id (fun b hb => .inl hb) _ rp))) fun _ z => z.elim).wide fun b hb => ?_
      rcases hb with hb | hb
      · exact hb.elim
      · exact ⟨s2 b hb, fun z => by rw [z] at hb; exact d12 a fa hb⟩
    have n0 : Nx S F H (Or2 S fun b => b = a) (fun b => F b ∧ b ≠ a) Em H := by
      refine ⟨fun b o hb _ => hb, fun b hb => .inl hb, fun b hb => ?_, fun b hb => .inl hb.1, fun b hb => hb.elim, ⟨fun b h1 h2 => ?_, fun b _ z => z.elim, fun b _ z => z.elim, fun b hb => ?_, fun b hb => w.fm b hb.1, fun b z => z.elim⟩⟩
      · rcases hb with hb | hb
        · exact .inl hb
        · have hb : b = a := hb
          rw [hb]; exact .inr (.inl (s1 a fa))
      · rcases h1 with h1 | h1
        · exact w.sf b h1 h2.1
        · exact h2.2 h1
      · rcases hb with hb | hb
        · exact w.sd b hb
        · have hb : b = a := hb
          rw [hb, ha]; simp
    have evi : ∀ σ', Ag tv σ σ' → oj σ'[i]? = some (.ref a) := fun σ' ag => by rw [ag i hi]; exact ev
    have nls : ∀ σ' env', Ag tv σ σ' → okSls tv i env 0 env' → ∀ j, j ≠ i → nolD (dj env'[j]?) = true ∨ ∃ v x, oj σ'[j]? = some v ∧ dj env'[j]? = .p x ∧ RP X.K S H v x := fun σ' env' ag ok j hj => by
      by_cases hl : j < env'.length
      · rcases okSls_get j ok hl with z | z | ⟨z1, x, z2, z3⟩
        · exact absurd (by omega) hj
        · exact .inl z
        · rw [Nat.zero_add] at z1 z3
          obtain ⟨Fs, h1, h2, h3⟩ := es
          rcases h1 j with y | ⟨v, y1, y2⟩
          · rw [z3] at y; cases y
          · rw [z3] at y2
            have y2 : R X.K S H v (.p x) (Fs j) := y2
            cases y2 with | p y2 => exact .inr ⟨v, x, by rw [ag j z1]; exact y1, z2, y2⟩
      · rw [List.getElem?_eq_none (by omega)]; exact .inl rfl
    have back : ∀ (Q : Env → Prop) σ' H', QN X.K tv σ (Or2 S fun b => b = a) (fun b => F b ∧ b ≠ a) H (thw tv env i xs Q) σ' H' → QN X.K tv σ S F H Q σ' H' := fun Q σ' H' ⟨ag, S', F', env', n, es', q1, q2, q3⟩ => by
      obtain ⟨n2, es3⟩ := thaw w ha (s1 a fa) rp n es' (evi σ' ag) q1 (nls σ' env' ag q2)
      exact ⟨ag, _, _, _, n2, es3, q3⟩
    refine (h.run W tk σ _ _ H _ _ E kh hl n0.w es2 (hx.on n0) q).mono (fun σ' H' _ _ z => back _ _ _ z) (fun u H' _ ⟨S', F', G, σ', d, env', ag, n, es', r, q⟩ => ?_) (fun σ' H' _ _ z => back _ _ _ z) (fun σ' H' _ _ z => back _ _ _ z)
    rcases q with q | ⟨nd, q1, q2, q3⟩
    · exact ⟨S', F', G, σ', d, env', ag, n0.seq0 n, es', r, q⟩
    · obtain ⟨n2, es3⟩ := thaw w ha (s1 a fa) rp n es' (evi σ' ag) q1 (nls σ' env' ag q2)
      exact ⟨S, _, G, σ', d, _, ag, n2, es3, R.nol _ r nd, q3⟩
section
variable {i : Nat} {tv : List Nat} {t : DTS} {n b c : Env → Prop} {r : D → Env → Prop} {env e e0 e' : Env} {E : EK} {xs : List PD} {d : D}
theorem i_frz {e1 : Env} (h0 : env = e1) (h1 : dj env[i]? = .lst (xs.map Dv.D.p)) (hn : env.set i (.p (.list xs)) = e') (h : t ⟨thw tv e1 i xs n, frt tv e1 i xs r, thw tv e1 i xs b, thw tv e1 i xs c⟩ e' E) : dFrz tv i t ⟨n, r, b, c⟩ env E := by subst hn; subst h0; exact ⟨xs, h1, h⟩
theorem i_thw (h1 : dj e[i]? = .p (.list xs)) (h2 : okSls tv i e0 0 e) (hn : e.set i (.lst (xs.map Dv.D.p)) = e') (h : n e') : thw tv e0 i xs n e := by subst hn; exact ⟨h1, h2, h⟩
theorem i_frtL (h : r d e) : frt tv e0 i xs r d e := .inl h
theorem i_frtR (h0 : nolD d = true) (h : thw tv e0 i xs (r d) e) : frt tv e0 i xs r d e := .inr ⟨h0, h⟩
theorem sl_nil {k : Nat} : okSls tv i e0 k [] := True.intro
theorem sl_cons {k : Nat} {r : List D} (h : okSl tv i e0 k d) (hr : okSls tv i e0 (k + 1) r) : okSls tv i e0 k (d :: r) := ⟨h, hr⟩
theorem sl_own {k : Nat} (h : k = i) : okSl tv i e0 k d := .inl h
theorem sl_nol {k : Nat} (h : nolD d = true) : okSl tv i e0 k d := .inr (.inl h)
theorem sl_old {k : Nat} {x : PD} (h : k ∉ tv) (hd : d = .p x) (he : e0[k]? = some (.p x)) : okSl tv i e0 k d := .inr (.inr ⟨h, x, hd, he⟩)
instance : Stp (dFrz tv i t ⟨n, r, b, c⟩ env E) (exQ fun (e1 : Env) => exQ fun (xs : List PD) => exQ fun (e' : Env) => nfQ (env = e1) (eqQ (dj env[i]? = .lst (xs.map Dv.D.p)) (nfQ (env.set i (.p (.list xs)) = e') (dnQ (t ⟨thw tv e1 i xs n, frt tv e1 i xs r, thw tv e1 i xs b, thw tv e1 i xs c⟩ e' E))))) := ⟨fun h => exE h fun _ h => exE h fun _ h => exE h fun _ h => i_frz h.1 h.2.1 h.2.2.1 h.2.2.2⟩
instance : Stp (thw tv e0 i xs n e) (exQ fun (e' : Env) => eqQ (dj e[i]? = .p (.list xs)) (nlQ (okSls tv i e0 0 e) (nfQ (e.set i (.lst (xs.map Dv.D.p)) = e') (dnQ (n e'))))) := ⟨fun h => exE h fun _ h => i_thw h.1 h.2.1 h.2.2.1 h.2.2.2⟩
instance {s2 : DTS} : Stp (dSeq (dFrz tv i t) s2 ⟨n, r, b, c⟩ env E) (dnQ (dFrz tv i t ⟨fun e1 => s2 ⟨n, r, b, c⟩ e1 E, r, b, c⟩ env E)) := ⟨fun h => h⟩
end
theorem rsP_nol {Q' : Env → Prop} {v : Nat} {e0 e : Env} (hn : nolD (dj e0[v]?) = true) (he : e.set v .hole = e) (h : ∀ y, nolD y = true → Q' (e.set v y)) : Q' (rsP [v] e0 e) := by
  unfold rsP
  split
  · rename_i x hx
    rw [hx] at hn
    exact h _ hn
  · have := h .hole rfl
    rw [he] at this
    exact this
end Dv

set_option Elab.async false
set_option linter.all false
set_option maxRecDepth 100000
/-! Dv, part U: enumerate and zip over lists and tuples, mixed. -/
namespace Dv
open PySem PySem.Spec PyProof.Rows L2
def SqX (k : Bool) (K : PySem.W.Frag) (H : Hp) (a : Addr) (xs : List V) : Prop := if k = true then SqT K H a xs else SqL K H a xs
def IsIt (k : Bool) (h : Heap) (it a : Addr) (i : Nat) : Prop := if k = true then h.IsTupleIter it a i else h.IsListIter it a i
def IsSq (k : Bool) (h : Heap) (a : Addr) (items : Array Value) : Prop := if k = true then h.IsTuple a items else h.IsList a items
def itO (k : Bool) (a : Addr) : Obj := if k = true then { cls := .type "tuple_iterator", data := .fields #[.ref a, .int 0 0] } else { cls := .type "list_iterator", data := .fields #[.ref a, .int 0 0] }
theorem IsIt.at {k : Bool} {h h' : Heap} {it a : Addr} {i : Nat} (x : IsIt k h it a i) (e : ∀ o, h.get? it = some o → h'.get? it = some o) : IsIt k h' it a i := by
  cases k
  · exact Heap.IsListIter.at (show h.IsListIter it a i from x) e
  · exact Heap.IsTupleIter.at (show h.IsTupleIter it a i from x) e
theorem IsIt.obj {k : Bool} {h : Heap} {it a : Addr} {i : Nat} (x : IsIt k h it a i) : ∃ o, h.get? it = some o ∧ ∀ v, o.data ≠ .cell v := by
  cases k
  · obtain ⟨o, e, _, d⟩ := (show h.IsListIter it a i from x)
    exact ⟨o, e, fun v q => by rw [d] at q; cases q⟩
  · obtain ⟨o, e, _, d⟩ := (show h.IsTupleIter it a i from x)
    exact ⟨o, e, fun v q => by rw [d] at q; cases q⟩
theorem IsIt.new {k : Bool} {h : Heap} {it a : Addr} (e : h.get? it = some (itO k a)) : IsIt k h it a 0 := by
  cases k
  · exact ⟨_, e, rfl, rfl⟩
  · exact ⟨_, e, rfl, rfl⟩
theorem drawsX {prog : Program} {w : World} {A : Around} (k : Bool) (hh : A.handled = none) (it l : Addr) (hne : l ≠ it) (items : Array Value) :
    Draws prog w A it [it, l] items.size (fun i v => items[i]? = some v) (fun i h => IsIt k h it l i ∧ IsSq k h l items) := by
  cases k
  · exact Draws.list hh it l hne items
  · exact Draws.tuple hh it l hne items
theorem beginsX (k : Bool) (l : Addr) (items : Array Value) : Begins (.ref l) (itO k l) fun h => IsSq k h l items := by
  cases k
  · exact begins_list l items
  · exact begins_tuple l items
section
variable {X : Cx} {pins : List (Addr × Obj)} {σ : L2.St} {H : Hp} {s : Shared} {k : Bool} {a : Addr} {xs ys : List V}
theorem inv_sq (I : Inv X pins σ H s) (h : SqX k X.K H a xs) : ∃ its : List Value, Vals xs its ∧ IsSq k s.heap a its.toArray ∧ a < s.heap.objs.size := by
  cases k
  · obtain ⟨its, rv, p, _⟩ := I.list (show SqL X.K H a xs from h)
    exact ⟨its, rv, p.isList, p.lt⟩
  · obtain ⟨its, rv, p, _⟩ := I.tuple (show SqT X.K H a xs from h)
    have p' : s.heap.IsTuple a its.toArray := p
    obtain ⟨o, ho, _⟩ := id p'
    exact ⟨its, rv, p', Heap.lt_size ho⟩
theorem inv_sqj (I : Inv X pins σ H s) (h : SqX k X.K H a xs) (h' : SqX k X.K H a ys) : xs = ys := by
  cases k
  · exact I.list_inj (show SqL X.K H a xs from h) (show SqL X.K H a ys from h')
  · exact I.tuple_inj (show SqT X.K H a xs from h) (show SqT X.K H a ys from h')
end
/-! ### enumerate -/
def IteX (k : Bool) (K : PySem.W.Frag) (a : Addr) (n : Nat) : It :=
  ⟨fun i H => ∃ (xs : List V) (x : V), SqX k K H a xs ∧ xs.length = n ∧ xs[i]? = some x, fun i H v H' => ∃ T x, v = .ref T ∧ H T = none ∧ H' = upd H T (.tup [.int (i : Nat), x]) ∧ ∀ xs, SqX k K H a xs → xs[i]? = some x, fun i H => ∃ xs : List V, SqX k K H a xs ∧ xs.length = n ∧ n ≤ i⟩
theorem turn_enumX {P : Program} {w : World} {K : PySem.W.Frag} {elts : List Expr} {kk : Nat} {tpos : Pos} (k : Bool) (a e it : Addr) (n : Nat) :
    Turn P w K (.Tuple elts kk tpos) (IteX k K a n) [e, it] e (fun i h => (∃ old, IsEnum h e it ((i : Nat) : Int) old) ∧ IsIt k h it a i ∧ i ≤ n ∧ e ≠ it ∧ a ≠ it ∧ a ≠ e) where
  mem := by simp
  obj := fun i h st b hb => by
    obtain ⟨⟨old, he⟩, hi, _⟩ := st
    have e' : b = e ∨ b = it := by simpa using hb
    rcases e' with z | z
    · rw [z]; exact ⟨_, he, fun v q => nomatch q⟩
    · rw [z]; exact hi.obj
  keep := fun i h h' st kp => let ⟨⟨old, he⟩, hi, hn⟩ := st; ⟨⟨old, kp e (by simp) _ he⟩, hi.at fun o q => kp it (by simp) o q, hn⟩
  item := by
    intro X hP hw hK hc i pins s σ H E I hf st hg
    subst hP hw hK
    obtain ⟨⟨old, he⟩, hit, hin, hne, ha1, ha2⟩ := st
    obtain ⟨xs, x, hq, hxn, hx⟩ := hg
    obtain ⟨its, rv, p, hz⟩ := inv_sq I hq
    obtain ⟨u, hu, ru⟩ := rv.get hx
    have hel : e < s.heap.objs.size := Heap.lt_size he
    have hil : it < s.heap.objs.size := by obtain ⟨_, q, _⟩ := hit.obj; exact Heap.lt_size q
    have hlt : i < its.toArray.size := by simp; exact (List.getElem?_eq_some_iff.mp hu).1
    refine wpAny_pyNext_enum_itemC (drawsX (prog := X.prog) (w := X.w) (A := X.A.in1) k (show X.A.in1.handled = none from I.ok.hd hc) it a ha1 its.toArray) he ⟨hit, p⟩ hlt hne (by simp [hne, Ne.symm ha2]) fun x' h' tk hP ho hst hT hsz hk => ?_
    have ex : x' = u := by
      have : its[i]? = some x' := by simpa using hP
      rw [hu] at this; exact (Option.some.inj this).symm
    subst ex
    refine ⟨_, rfl, wpAny_letOwnedTupleGo_enum (s := { s with heap := h', toks := tk + 1 }) ho fun h'' he' sb => ?_⟩
    have hT2 : h''.get? s.heap.objs.size = some { cls := .type "tuple", data := .seq #[.int i tk, x'] } := (sb.2 _ (Nat.ne_of_gt hel)).trans hT
    have new : ObjOk X.prog X.w (upd H s.heap.objs.size (.tup [.int (i : Nat), x])) h'' s.heap.objs.size (.tup [.int (i : Nat), x]) :=
      ⟨by show 2 ≤ sizeLine; decide, [.int i tk, x'], .cons ⟨_, rfl⟩ (.cons ru .nil), ⟨_, hT2, rfl, _, rfl⟩⟩
    have I1 : Inv X pins σ (upd H s.heap.objs.size (.tup [.int (i : Nat), x])) { s with heap := h'', toks := tk + 1 } :=
      I.turnedNew (ch := [e, it]) (fun b ob hb q => (sb.2 b (fun z => hb (by simp [z]))).trans (hk b ob (fun z => hb (by simp [z])) (fun z => hb (by simp [z])) q)) hf (Nat.le_refl _) new
    refine ⟨.ref s.heap.objs.size, _, I1, rfl, ⟨_, x, rfl, I.hok.fresh (Nat.le_refl _), rfl, fun ys hy => by rw [inv_sqj I hy hq]; exact hx⟩, ⟨⟨x', ?_⟩, hst.1.at fun o q => (sb.2 it (Ne.symm hne)).trans q, ?_, hne, ha1, ha2⟩, fun b hb => ?_⟩
    · have e1 : ((i + 1 : Nat) : Int) = (i : Int) + 1 := by omega
      rw [e1]; exact he'
    · have := (List.getElem?_eq_some_iff.mp hx).1
      omega
    · have hb' : b < s.heap.objs.size := by
        have e' : b = e ∨ b = it := by simpa using hb
        rcases e' with z | z
        · rw [z]; exact hel
        · rw [z]; exact hil
      rw [upd_ne (Nat.ne_of_lt hb')]
      exact (hf b hb).1
  done := by
    intro X hP hw hK hc i pins s σ H E I hf st hg
    subst hP hw hK
    obtain ⟨⟨old, he⟩, hit, hin, hne, ha1, ha2⟩ := st
    obtain ⟨xs, hq, hxn, hx⟩ := hg
    obtain ⟨its, rv, p, hz⟩ := inv_sq I hq
    obtain ⟨f0, f1, f2, f3, f4, f5⟩ := hf it (by simp)
    have hl := rv.length
    have ei : i = its.toArray.size := by simp; omega
    exact wpAny_pyNext_enum_endD (drawsX (prog := X.prog) (w := X.w) (A := X.A.in1) k (show X.A.in1.handled = none from I.ok.hd hc) it a ha1 its.toArray) he (by rw [← ei]; exact ⟨hit, p⟩) fun h' eb => ⟨rfl, I.turned (t' := s.toks) (fun b o hb q => eb b o hb q) f0 f1 f3 f4 f5⟩
  self := fun A i s Q E st h => let ⟨⟨_, he⟩, _⟩ := st; wpAny_pyIter_enum he h
set_option maxHeartbeats 1000000 in
theorem meets_enumX {v : Value} {o : Obj} {H : Heap → Prop} (B : Begins v o H) :
    Meets (Builtin.«enumerate.__new__» ⟨[.type "enumerate", v], []⟩) (fun _ R s => H s.heap ∧
      R (.ok (.ret (.ref (s.heap.push o).objs.size))) { s with heap := (s.heap.push o).push { cls := .type "enumerate", data := .fields #[.none, .bool false, .ref s.heap.objs.size, rawInt 0, .none, .none] } }) :=
  .of_wp fun prog w A R s h => by
    obtain ⟨hp, g, d, tk, os⟩ := s; obtain ⟨h1, h⟩ := h
    have hsub := sub_enumerate
    have q1 : ∀ {A' : Around} {E : Value → Shared → Prop} {Q : Value → Shared → Prop}, Q (.ref hp.objs.size) ⟨hp.push o, g, d, tk, os⟩ → wpAny (model prog w) A' (pyIter v) Q E ⟨hp, g, d, tk, os⟩ :=
      fun q => B.iter prog w _ _ ⟨hp, g, d, tk, os⟩ _ h1 q
    wp_walk using q1
    refine wpAny_stack_any fun st => wpAny_pure ?_
    split
    · rename_i c _ _ _ _ _
      cases (c == Value.type "enumerate")
      · wp_walk using q1
        exact ⟨_, rfl, h⟩
      · wp_walk using q1
        exact ⟨_, rfl, h⟩
    · wp_walk using q1
      exact ⟨_, rfl, h⟩
theorem call_enumX {prog : Program} {w : World} {A : Around} {E : Value → Shared → Prop} {s : Shared} {v : Value} {o : Obj} {H : Heap → Prop} {Q : Value → Shared → Prop} (B : Begins v o H) (h1 : H s.heap)
    (h : ∀ h', IsEnum h' (s.heap.objs.size + 1) s.heap.objs.size 0 .none → h'.get? s.heap.objs.size = some o → h'.objs.size = s.heap.objs.size + 2 →
      (∀ b o, s.heap.get? b = some o → h'.get? b = some o) → Q (.ref (s.heap.objs.size + 1)) { s with heap := h' }) :
    wpAny (model prog w) A (call (.type "enumerate") [v]) Q E s := by
  refine callType_new F.called_enumerate (by decide) (F.typeCall_enumerate_1 _) (F.newCall_enumerate_1 _) (fun obj => F.args_object_init_2 obj _) F.entry_enumerate_new
    (meets_enumX B) ⟨h1, ?_⟩
  have hz : (s.heap.push o).objs.size = s.heap.objs.size + 1 := Heap.size_push ..
  show _ ∧ _
  rw [hz]
  have he : IsEnum ((s.heap.push o).push { cls := .type "enumerate", data := .fields #[.none, .bool false, .ref s.heap.objs.size, rawInt 0, .none, .none] }) (s.heap.objs.size + 1) s.heap.objs.size 0 .none := by
    have := Heap.get?_push_size (s.heap.push o) (o := { cls := .type "enumerate", data := .fields #[.none, .bool false, .ref s.heap.objs.size, rawInt 0, .none, .none] }) rfl
    rw [hz] at this; exact this
  refine ⟨⟨_, he, rfl⟩, h _ he (Heap.get?_push_of_some _ (Heap.get?_push_size _ B.free)) (by rw [Heap.size_push, hz]) fun b o x => Heap.get?_push_of_some _ (Heap.get?_push_of_some _ x)⟩
def iEnumX (K : PySem.W.Frag) (ta : TA) : TI := fun σ H R => ta σ H fun vs H1 => ∃ a k xs, vs = [.ref a] ∧ SqX k K H1 a xs ∧ R (IteX k K a xs.length) H1
theorem pi_enumX {X : Cx} {e : Expr} {ta : TA} {p pos tpos : Pos} {elts : List Expr} {kk : Nat} (hg : Gl X "enumerate") (hm : X.mg "enumerate" = none) (ha : PA X [e] ta) (hs : starEach [e] X.env = [(false, eval e X.env)] := by rfl) :
    PI X (.Tuple elts kk tpos) (.Call (.Name "enumerate" p) [e] [] pos) (iEnumX X.K ta) := by
  refine ⟨fun pins s σ H R I h => ?_⟩
  refine Call_ (ld_blt I hg hm boot_enumerate (PyProof.Rows.callWith_type1 (thn (ha.run pos pins s σ H _ I h) fun us s1 ⟨vs, H1, I1, r1, q1⟩ => ?_) hs rfl))
  obtain ⟨a, k, xs, ex, hq, q⟩ := q1
  subst ex
  cases r1 with
  | cons r rr =>
    cases rr
    cases r
    obtain ⟨its, rv, p', hz⟩ := inv_sq I1 hq
    refine call_enumX (beginsX k a its.toArray) p' fun h' he hit hsz hk => wpAny_pyIter_enum he ?_
    have I2 : Inv X pins σ H1 { s1 with heap := h' } := I1.kept (t' := s1.toks) hk
    refine ⟨s1.heap.objs.size + 1, [s1.heap.objs.size + 1, s1.heap.objs.size], _, _, H1, rfl, I2, turn_enumX k a (s1.heap.objs.size + 1) s1.heap.objs.size xs.length, ⟨⟨.none, he⟩, IsIt.new hit, Nat.zero_le _, Nat.succ_ne_self _, Nat.ne_of_lt hz, Nat.ne_of_lt (Nat.lt_succ_of_lt hz)⟩, fun b hb => ?_, q⟩
    have e' : b = s1.heap.objs.size + 1 ∨ b = s1.heap.objs.size := by simpa using hb
    have hle : s1.heap.objs.size ≤ b := by
      rcases e' with z | z
      · rw [z]; exact Nat.le_add_right _ _
      · rw [z]; exact Nat.le_refl _
    exact I1.fpOk hle (I1.hok.fresh hle)
/-! ### zip -/
def ItzX (k1 k2 : Bool) (K : PySem.W.Frag) (a b : Addr) (n m : Nat) : It :=
  ⟨fun i H => ∃ (xs ys : List V) (x y : V), SqX k1 K H a xs ∧ SqX k2 K H b ys ∧ xs.length = n ∧ ys.length = m ∧ xs[i]? = some x ∧ ys[i]? = some y,
    fun i H v H' => ∃ T x y, v = .ref T ∧ H T = none ∧ H' = upd H T (.tup [x, y]) ∧ (∀ xs, SqX k1 K H a xs → xs[i]? = some x) ∧ ∀ ys, SqX k2 K H b ys → ys[i]? = some y,
    fun i H => ∃ xs ys : List V, SqX k1 K H a xs ∧ SqX k2 K H b ys ∧ xs.length = n ∧ ys.length = m ∧ (n ≤ i ∨ m ≤ i)⟩
theorem turn_zipX {P : Program} {w : World} {K : PySem.W.Frag} {elts : List Expr} {kk : Nat} {tpos : Pos} {k1 k2 : Bool} {a b z TI TO i1 i2 : Addr} {n m : Nat} (D : ZipSep2 z TI TO i1 i2 [i1, a] [i2, b]) :
    Turn P w K (.Tuple elts kk tpos) (ItzX k1 k2 K a b n m) [z, TI, TO, i1, i2] z (fun i h => IsZip h z TI TO .none ∧ IsTupOf2 h TI (.ref i1) (.ref i2) ∧ (∃ x y, IsTupOf2 h TO x y) ∧ IsIt k1 h i1 a i ∧ IsIt k2 h i2 b i ∧ i ≤ n ∧ i ≤ m ∧ a ≠ i1 ∧ b ≠ i2) where
  mem := by simp
  obj := fun i h st c hc => by
    obtain ⟨hz, hTI, ⟨x, y, hTO⟩, h1, h2, _⟩ := st
    have e' : c = z ∨ c = TI ∨ c = TO ∨ c = i1 ∨ c = i2 := by simpa using hc
    rcases e' with q | q | q | q | q
    · rw [q]; exact ⟨_, hz, fun v q => nomatch q⟩
    · rw [q]; exact ⟨_, hTI, fun v q => nomatch q⟩
    · rw [q]; exact ⟨_, hTO, fun v q => nomatch q⟩
    · rw [q]; exact h1.obj
    · rw [q]; exact h2.obj
  keep := fun i h h' st k => by
    obtain ⟨hz, hTI, ⟨x, y, hTO⟩, h1, h2, r⟩ := st
    exact ⟨k z (by simp) _ hz, k TI (by simp) _ hTI, ⟨x, y, k TO (by simp) _ hTO⟩, h1.at fun o q => k i1 (by simp) o q, h2.at fun o q => k i2 (by simp) o q, r⟩
  item := by
    intro X hP hw hK hc i pins s σ H E I hf st hg
    subst hP hw hK
    obtain ⟨hz, hTI, ⟨x0, y0, hTO⟩, h1, h2, hn, hm, ha, hb⟩ := st
    obtain ⟨xs, ys, x, y, hqx, hqy, lx, ly, hx, hy⟩ := hg
    obtain ⟨its, rv, p, _⟩ := inv_sq I hqx
    obtain ⟨its2, rv2, p2, _⟩ := inv_sq I hqy
    obtain ⟨u, hu, ru⟩ := rv.get hx
    obtain ⟨u2, hu2, ru2⟩ := rv2.get hy
    have hzl : z < s.heap.objs.size := Heap.lt_size hz
    have hl1 : i < its.toArray.size := by simp; exact (List.getElem?_eq_some_iff.mp hu).1
    have hl2 : i < its2.toArray.size := by simp; exact (List.getElem?_eq_some_iff.mp hu2).1
    refine wpAny_pyNext_zipD2_item D (drawsX (prog := X.prog) (w := X.w) (A := X.A.in1) k1 (show X.A.in1.handled = none from I.ok.hd hc) i1 a ha its.toArray) (drawsX (prog := X.prog) (w := X.w) (A := X.A.in1) k2 (show X.A.in1.handled = none from I.ok.hd hc) i2 b hb its2.toArray) hz hTI hTO ⟨h1, p⟩ ⟨h2, p2⟩ hl1 hl2 fun x' y' h' tk e1 e2 z' TO' st1 st2 hT hsz hk => ?_
    have ex : x' = u := by
      have : its[i]? = some x' := by simpa using e1
      rw [hu] at this; exact (Option.some.inj this).symm
    have ey : y' = u2 := by
      have : its2[i]? = some y' := by simpa using e2
      rw [hu2] at this; exact (Option.some.inj this).symm
    subst ex ey
    refine ⟨_, rfl, wpAny_letOwnedTupleGo_zip (s := { s with heap := h', toks := tk }) z' fun h'' z'' sb => ?_⟩
    have hT2 : h''.get? s.heap.objs.size = some { cls := .type "tuple", data := .seq #[x', y'] } := (sb.2 _ (Nat.ne_of_gt hzl)).trans hT
    have new : ObjOk X.prog X.w (upd H s.heap.objs.size (.tup [x, y])) h'' s.heap.objs.size (.tup [x, y]) :=
      ⟨by show 2 ≤ sizeLine; decide, [x', y'], .cons ru (.cons ru2 .nil), ⟨_, hT2, rfl, _, rfl⟩⟩
    have I1 : Inv X pins σ (upd H s.heap.objs.size (.tup [x, y])) { s with heap := h'', toks := tk } :=
      I.turnedNew (t' := tk) (ch := [z, TI, TO, i1, i2]) (fun c o hb q => (sb.2 c (fun q' => hb (by simp [q']))).trans (hk c o (fun q' => hb (by simp [q'])) (fun q' => hb (by simp [q'])) (fun q' => hb (by simp [q'])) (fun q' => hb (by simp [q'])) q)) hf (Nat.le_refl _) new
    refine ⟨.ref s.heap.objs.size, _, I1, rfl, ⟨_, x, y, rfl, I.hok.fresh (Nat.le_refl _), rfl, fun l hl => by rw [inv_sqj I hl hqx]; exact hx, fun l hl => by rw [inv_sqj I hl hqy]; exact hy⟩, ⟨z'', ?_, ⟨x', y', ?_⟩, ?_, ?_, ?_, ?_, ha, hb⟩, fun c hcm => ?_⟩
    · exact (sb.2 _ D.TIz).trans (hk _ _ D.TIz D.TITO D.TIi1 D.TIi2 hTI)
    · exact (sb.2 _ D.TOz).trans TO'
    · exact st1.1.at fun o q => (sb.2 _ (Ne.symm D.zi1)).trans q
    · exact st2.1.at fun o q => (sb.2 _ (Ne.symm D.zi2)).trans q
    · have := (List.getElem?_eq_some_iff.mp hx).1
      omega
    · have := (List.getElem?_eq_some_iff.mp hy).1
      omega
    · have hlt : c < s.heap.objs.size := by
        have e' : c = z ∨ c = TI ∨ c = TO ∨ c = i1 ∨ c = i2 := by simpa using hcm
        rcases e' with q | q | q | q | q
        · rw [q]; exact hzl
        · rw [q]; exact Heap.lt_size hTI
        · rw [q]; exact Heap.lt_size hTO
        · rw [q]; obtain ⟨_, e1, _⟩ := h1.obj; exact Heap.lt_size e1
        · rw [q]; obtain ⟨_, e2, _⟩ := h2.obj; exact Heap.lt_size e2
      rw [upd_ne (Nat.ne_of_lt hlt)]
      exact (hf c hcm).1
  done := by
    intro X hP hw hK hc i pins s σ H E I hf st hg
    subst hP hw hK
    obtain ⟨hz, hTI, ⟨x0, y0, hTO⟩, h1, h2, hn, hm, ha, hb⟩ := st
    obtain ⟨xs, ys, hqx, hqy, lx, ly, hend⟩ := hg
    obtain ⟨its, rv, p, _⟩ := inv_sq I hqx
    obtain ⟨its2, rv2, p2, _⟩ := inv_sq I hqy
    have l1 := rv.length
    have l2 := rv2.length
    exact wpAny_pyNext_zipD2_end D (drawsX (prog := X.prog) (w := X.w) (A := X.A.in1) k1 (show X.A.in1.handled = none from I.ok.hd hc) i1 a ha its.toArray) (drawsX (prog := X.prog) (w := X.w) (A := X.A.in1) k2 (show X.A.in1.handled = none from I.ok.hd hc) i2 b hb its2.toArray) hz hTI hTO ⟨h1, p⟩ ⟨h2, p2⟩ (by simp; omega) (by simp; omega) (by simp; omega) fun h' tk hk => ⟨rfl, I.turnedL (t' := tk) (ch := [z, TI, TO, i1, i2]) (fun c o hb q =>
      hk c o (fun q' => hb (by simp [q'])) (fun q' => hb (by simp [q'])) (fun q' => hb (by simp [q'])) (fun q' => hb (by simp [q'])) q) hf⟩
  self := fun A i s Q E st h => wpAny_pyIter_zip st.1 h
def iZipX (K : PySem.W.Frag) (ta : TA) : TI := fun σ H R => ta σ H fun vs H1 => ∃ a b k1 k2 xs ys, vs = [.ref a, .ref b] ∧ SqX k1 K H1 a xs ∧ SqX k2 K H1 b ys ∧ R (ItzX k1 k2 K a b xs.length ys.length) H1
theorem pi_zipX {X : Cx} {e e2 : Expr} {ta : TA} {p pos tpos : Pos} {elts : List Expr} {kk : Nat} (hg : Gl X "zip") (hm : X.mg "zip" = none) (ha : PA X [e, e2] ta)
    (hs : starEach [e, e2] X.env = (false, eval e X.env) :: starEach [e2] X.env := by rfl) (hpl : (backTo pos (starEach [e2] X.env)).any (·.1) = false := by rfl) :
    PI X (.Tuple elts kk tpos) (.Call (.Name "zip" p) [e, e2] [] pos) (iZipX X.K ta) := by
  refine ⟨fun pins s σ H R I h => ?_⟩
  refine Call_ (ld_blt I hg hm PyProof.Rows.boot_zip (PyProof.Rows.callWith_type1 (thn (ha.run pos pins s σ H _ I h) fun us s1 ⟨vs, H1, I1, r1, q1⟩ => ?_) hs hpl))
  obtain ⟨a, b, k1, k2, xs, ys, ex, hqx, hqy, q⟩ := q1
  subst ex
  cases r1 with
  | cons r rr =>
    cases rr with
    | cons r' rr =>
      cases rr
      cases r
      cases r'
      obtain ⟨its, rv, p1, la⟩ := inv_sq I1 hqx
      obtain ⟨its2, rv2, p2, lb⟩ := inv_sq I1 hqy
      refine zip_begins2 (beginsX k1 a its.toArray) (beginsX k2 b its2.toArray) p1 p2 fun h' hz hTI hTO h1 h2 hsz hk => wpAny_pyIter_zip hz ?_
      have I2 : Inv X pins σ H1 { s1 with heap := h' } := I1.kept (t' := s1.toks) hk
      refine ⟨s1.heap.objs.size + 4, [s1.heap.objs.size + 4, s1.heap.objs.size + 2, s1.heap.objs.size + 3, s1.heap.objs.size, s1.heap.objs.size + 1], _, _, H1, rfl, I2, turn_zipX (zip_sep2 (N := s1.heap.objs.size) (fp1 := [a]) (fp2 := [b]) (by simpa using la) (by simpa using lb)), ⟨hz, hTI, ⟨_, _, hTO⟩, IsIt.new h1, IsIt.new h2, Nat.zero_le _, Nat.zero_le _, Nat.ne_of_lt la, Nat.ne_of_lt (Nat.lt_succ_of_lt lb)⟩, fun c hcm => ?_, q⟩
      have e' : c = s1.heap.objs.size + 4 ∨ c = s1.heap.objs.size + 2 ∨ c = s1.heap.objs.size + 3 ∨ c = s1.heap.objs.size ∨ c = s1.heap.objs.size + 1 := by simpa using hcm
      have hle : s1.heap.objs.size ≤ c := by
        rcases e' with z | z | z | z | z
        · rw [z]; exact Nat.le_add_right _ _
        · rw [z]; exact Nat.le_add_right _ _
        · rw [z]; exact Nat.le_add_right _ _
        · rw [z]; exact Nat.le_refl _
        · rw [z]; exact Nat.le_add_right _ _
      exact I1.fpOk hle (I1.hok.fresh hle)
/-! ### in terms of values -/
theorem SeqF.sx {K : PySem.W.Frag} {S G : Ft} {H : Hp} {v : V} {xs : List PD} (h : SeqF K S G H v xs) : ∃ a k us, v = .ref a ∧ SqX k K H a us ∧ (∀ H', Kp S G H H' → SqX k K H' a us) ∧ RPs K S H us xs := by
  obtain ⟨a, e, ⟨us, h1, h2, h3⟩ | ⟨us, h1, h2, h3⟩⟩ := h
  · exact ⟨a, false, us, e, h1, h2, h3⟩
  · exact ⟨a, true, us, e, h1, h2, h3⟩
theorem SqX.inj {k : Bool} {K : PySem.W.Frag} {H : Hp} (kh : KH K H) {a : Addr} {xs ys : List V} (h : SqX k K H a xs) (h' : SqX k K H a ys) : xs = ys := by
  cases k
  · exact SqL.inj kh (show SqL K H a xs from h) h'
  · exact SqT.inj kh (show SqT K H a xs from h) h'
theorem enumP_get {xs : List PD} {i : Nat} : (enumP xs)[i]? = xs[i]?.map fun x => PyData.tuple [.int (i : Int), x] := by
  unfold enumP
  rw [List.getElem?_map, List.getElem?_zipIdx]
  cases xs[i]? <;> simp
theorem zipP_get {xs ys : List PD} {i : Nat} : (zipP xs ys)[i]? = match xs[i]?, ys[i]? with | some x, some y => some (PyData.tuple [x, y]) | _, _ => none := by
  unfold zipP
  rw [List.getElem?_map, List.zip, List.getElem?_zipWith]
  cases xs[i]? <;> cases ys[i]? <;> rfl
theorem itex_ok {K : PySem.W.Frag} {S G : Ft} {H : Hp} {k : Bool} {a : Addr} {us : List V} {xs : List PD} (kp : ∀ H', Kp S G H H' → SqX k K H' a us) (rp : RPs K S H us xs) : ItOk K S G H (IteX k K a us.length) (enumP xs) := fun H' kk i => by
  have sq := kp H' kk
  have rp' : RPs K S H' us xs := RPs.kp (F := Em) (kk.sub fun _ z => z.elim) Sub.refl _ rp
  rw [enumP_get]
  refine ⟨fun x e => ?_, fun e => ?_⟩
  · cases z : xs[i]? with
    | none => rw [z] at e; cases e
    | some y =>
      rw [z] at e; cases e
      obtain ⟨v, ev, r⟩ := rp'.get i z
      refine ⟨⟨us, v, sq, rfl, ev⟩, fun v' H'' ⟨T, x', e1, hT, e2, f⟩ => ?_⟩
      have := f us sq
      rw [ev] at this; cases this
      subst e1 e2
      exact ⟨Nw.layT hT, .tup (SqT.of upd_same) (.cons (.int _) (.cons (RP.kp (kp_new (F := Em) hT) Sub.refl _ r) .nil))⟩
  · refine ⟨us, sq, rfl, ?_⟩
    cases z : xs[i]? with
    | none =>
      have := RPs.length _ rp
      have := List.getElem?_eq_none_iff.mp z
      omega
    | some y => rw [z] at e; cases e
theorem itzx_ok {K : PySem.W.Frag} {S G : Ft} {H : Hp} {k1 k2 : Bool} {a b : Addr} {us vs : List V} {xs ys : List PD} (kp : ∀ H', Kp S G H H' → SqX k1 K H' a us) (rp : RPs K S H us xs) (kp2 : ∀ H', Kp S G H H' → SqX k2 K H' b vs) (rp2 : RPs K S H vs ys) : ItOk K S G H (ItzX k1 k2 K a b us.length vs.length) (zipP xs ys) := fun H' kk i => by
  have sq := kp H' kk
  have sq2 := kp2 H' kk
  have rp' : RPs K S H' us xs := RPs.kp (F := Em) (kk.sub fun _ z => z.elim) Sub.refl _ rp
  have rp2' : RPs K S H' vs ys := RPs.kp (F := Em) (kk.sub fun _ z => z.elim) Sub.refl _ rp2
  rw [zipP_get]
  have l1 := RPs.length _ rp
  have l2 := RPs.length _ rp2
  cases z : xs[i]? with
  | none =>
    refine ⟨fun x e => (by cases e), fun e => ⟨us, vs, sq, sq2, rfl, rfl, .inl ?_⟩⟩
    have := List.getElem?_eq_none_iff.mp z
    omega
  | some x0 =>
    cases z2 : ys[i]? with
    | none =>
      refine ⟨fun x e => (by cases e), fun e => ⟨us, vs, sq, sq2, rfl, rfl, .inr ?_⟩⟩
      have := List.getElem?_eq_none_iff.mp z2
      omega
    | some y0 =>
      refine ⟨fun x e => ?_, fun e => (by cases e)⟩
      cases e
      obtain ⟨v, ev, r⟩ := rp'.get i z
      obtain ⟨u, eu, r2⟩ := rp2'.get i z2
      refine ⟨⟨us, vs, v, u, sq, sq2, rfl, rfl, ev, eu⟩, fun v' H'' ⟨T, x', y', e1, hT, e2, f1, f2⟩ => ?_⟩
      have := f1 us sq
      rw [ev] at this; cases this
      have := f2 vs sq2
      rw [eu] at this; cases this
      subst e1 e2
      exact ⟨Nw.layT hT, .tup (SqT.of upd_same) (.cons (RP.kp (kp_new (F := Em) hT) Sub.refl _ r) (.cons (RP.kp (kp_new (F := Em) hT) Sub.refl _ r2) .nil))⟩
def oneL (os : List Opd) (e1 : Env) (Q : List PD → Ls → Env → Prop) : Prop := match os with
  | [o] => lentQ o e1 Q
  | _ => False
def twoL (os : List Opd) (e1 : Env) (Q : List PD → Ls → List PD → Ls → Env → Prop) : Prop := match os with
  | [o1, o2] => lentQ o1 e1 fun xs ls e2 => lentQ o2 e2 fun ys ms e3 => Q xs ls ys ms e3
  | _ => False
def diEnumerate (ta : DTA) : DTI := fun env Q E => ta env (fun os e1 => oneL os e1 fun xs ls e2 => Q (enumP xs) ls e2) E
def diZip (ta : DTA) : DTI := fun env Q E => ta env (fun os e1 => twoL os e1 fun xs ls ys ms e3 => Q (zipP xs ys) (ls ++ ms) e3) E
section
variable {X : Cx} {e e2 : Expr} {tr : DTA} {pos p tpos : Pos} {elts : List Expr} {kk : Nat}
theorem di_enumerate (hg : Gl X "enumerate") (hm : X.mg "enumerate" = none) (ha : DA X [e] tr) (hs : starEach [e] X.env = [(false, eval e X.env)] := by rfl) : DI X (.Tuple elts kk tpos) (.Call (.Name "enumerate" p) [e] [] pos) (diEnumerate tr) := by
  refine ⟨fun W tk σ S F H env Q E kh w hs' hx q => toI (pi_enumX hg hm (wa X [e]) hs) ?_⟩
  refine (ha.run W tk σ S F H env _ E kh w hs' hx q).mono fun vs H1 kh1 ⟨S1, F1, G1, os, e1, n1, es1, ovs, q1⟩ => ?_
  replace q1 : oneL os e1 _ := q1
  unfold oneL at q1
  split at q1
  · rename_i o
    cases ovs with
    | @cons v _ _ _ _ Ga Gb a1 b1 c1 d1 e2 =>
      cases b1
      obtain ⟨xs, ls, e2, F2, G2, n2, es2, _, _, ln, nd, _, _, _, sf, q2⟩ := lend kh1 n1 es1 a1 q1
      obtain ⟨a, k, us, rfl, h1, h2, h3⟩ := (sf.wide (G' := Or2 G1 G2) fun x h => h.elim (fun z => .inl (c1 x z)) .inr).sx
      exact ⟨a, k, us, rfl, h1, S1, F2, Or2 G1 G2, _, ls, e2, n2, es2, itex_ok h2 h3, ln.wide fun x h => .inr h, nd, q2⟩
  · exact q1.elim
theorem di_zip (hg : Gl X "zip") (hm : X.mg "zip" = none) (ha : DA X [e, e2] tr) (hs : starEach [e, e2] X.env = (false, eval e X.env) :: starEach [e2] X.env := by rfl) (hpl : (backTo pos (starEach [e2] X.env)).any (·.1) = false := by rfl) :
    DI X (.Tuple elts kk tpos) (.Call (.Name "zip" p) [e, e2] [] pos) (diZip tr) := by
  refine ⟨fun W tk σ S F H env Q E kh w hs' hx q => toI (pi_zipX hg hm (wa X [e, e2]) hs hpl) ?_⟩
  refine (ha.run W tk σ S F H env _ E kh w hs' hx q).mono fun vs H1 kh1 ⟨S1, F1, G1, os, e1, n1, es1, ovs, q1⟩ => ?_
  replace q1 : twoL os e1 _ := q1
  unfold twoL at q1
  split at q1
  · rename_i o1 o2
    cases ovs with
    | @cons v _ _ _ _ Ga Gb a1 b1 c1 d1 x1 =>
      cases b1 with
      | @cons v2 _ _ _ _ Gc Gd a2 b2 c2 d2 x2 =>
        cases b2
        obtain ⟨xs, ls, e2, F2, G2, n2, es2, sF, sG, ln, nd, nl, nk, no, sf, q2⟩ := lend kh1 n1 es1 a1 q1
        obtain ⟨ys, ms, e3, F3, G3, n3, es3, sF3, sG3, lm, md, ml, mk, mo, sg, q3⟩ := lend kh1 n2 es2 a2 q2
        obtain ⟨a, k, us, rfl, h1, h2, h3⟩ := (sf.wide (G' := Or2 (Or2 G1 G2) G3) fun x h => h.elim (fun z => .inl (.inl (c1 x z))) (fun z => .inl (.inr z))).sx
        obtain ⟨b, k', us', rfl, h1', h2', h3'⟩ := (sg.wide (G' := Or2 (Or2 G1 G2) G3) fun x h => h.elim (fun z => .inl (.inl (d1 x (c2 x z)))) (fun z => .inr z)).sx
        refine ⟨a, b, k, k', us, us', rfl, h1, h1', S1, F3, Or2 (Or2 G1 G2) G3, _, ls ++ ms, e3, n3, es3, itzx_ok h2 h3 h2' h3', ?_, ?_, q3⟩
        · refine (ln.append lm fun x h1 h2 => ?_).wide fun x h => h.elim (fun z => .inl (.inr z)) .inr
          exact n2.w.fg x (sG3 x h2) (.inr h1)
        · rw [List.map_append, List.nodup_append]
          refine ⟨nd, md, fun i hi j hj z => ?_⟩
          subst z
          obtain ⟨p1, hp1, e1⟩ := List.mem_map.mp hi
          obtain ⟨p2, hp2, e2⟩ := List.mem_map.mp hj
          have := nl p1 hp1
          rw [e1, ← e2] at this
          exact mo p2 hp2 _ this
  · exact q1.elim
end
section
variable {env : Env} {E : EK} {tr : DTA} {QI : List PD → Ls → Env → Prop} {e1 : Env} {o o2 : Opd}
instance : Stp (diEnumerate tr env QI E) (dnQ (tr env (fun os e1 => oneL os e1 fun xs ls e2 => QI (enumP xs) ls e2) E)) := ⟨fun h => h⟩
instance : Stp (oneL [o] e1 QI) (dnQ (lentQ o e1 QI)) := ⟨fun h => h⟩
instance : Stp (diZip tr env QI E) (dnQ (tr env (fun os e1 => twoL os e1 fun xs ls ys ms e3 => QI (zipP xs ys) (ls ++ ms) e3) E)) := ⟨fun h => h⟩
instance {Q2 : List PD → Ls → List PD → Ls → Env → Prop} : Stp (twoL [o, o2] e1 Q2) (dnQ (lentQ o e1 fun xs ls e2 => lentQ o2 e2 fun ys ms e3 => Q2 xs ls ys ms e3)) := ⟨fun h => h⟩
/-- an item of a tuple or list just made, the rest let go -/
theorem x_UV {ds : List D} {ky w d : D} {d0 : D} {a : Int} {j : Nat} {QO : Opd → Prop} (h1 : d = .tup ds) (h2 : ky = .p (.int a)) (hj : ixN ds.length a = some j) (hz : ds[j]? = some w) (h : QO (.val w)) : ixO (.val d0) d ky QO := by
  subst h1 h2
  show (match ixN ds.length a with
      | some j => match ds[j]? with
        | some (.p z) => QO (.val (.p z))
        | some z => QO (.val z)
        | none => False
      | none => False)
  rw [hj]
  show (match ds[j]? with
        | some (.p z) => QO (.val (.p z))
        | some z => QO (.val z)
        | none => False)
  rw [hz]
  cases w <;> exact h
end
/-! ### {k: v} -/
def d1Q (ok ov : Opd) (e2 : Env) (Q : Opd → Env → Prop) : Prop := match (ok.get e2).key, ov with
  | some k, .val (.p x) => Q (.val (.dct [(k, x)])) e2
  | _, _ => False
def dDict1 (tk tv : DT) : DT := fun env Q E => tk env (fun ok e1 => tv e1 (fun ov e2 => d1Q ok ov e2 Q) E) E
theorem do_dict1 {X : Cx} {k v : Expr} {tk tv : DT} {pos : Pos} (hk : DO X k tk) (hv : DO X v tv) : DO X (.Dict [some k] [v] pos) (dDict1 tk tv) := by
  refine ⟨fun W tk' σ S F H env Q E kh w es hx q => toE (pe_disp (pps_cons (we X k) (we X v) pps_nil) rfl rfl (by simp) (by simp)) fun p hp => ?_⟩
  have n0 := Nx.new (o := .dK []) w hp trivial
  have es0 : ES X.K S (upd H p (.dK [])) σ env F := es.kp (kp_new hp) Sub.refl
  refine wE.pre fun kh0 _ => (hk.run W tk' σ S F _ env _ E kh0 n0.w.e es0 (hx.on n0) q).mono fun kv H1 kh1 ⟨S1, F1, G1, ok, e1, n1, es1, ov1, q1⟩ => ?_
  refine (hv.run W tk' σ S1 F1 H1 e1 _ E kh1 n1.w.e es1 ((hx.on n0).on n1) q1).mono fun vv H2 kh2 ⟨S2, F2, G2, ov, e2, n2, es2, ov2, q2⟩ => ?_
  have n12 := n1.seq n2
  have n := n0.seq n12
  have hpF : ¬ F p := fun z => (w.fm p z).ne hp
  have hp2 : H2 p = some (.dK []) := n12.keep p _ upd_same hpF
  have q2 : d1Q ok ov e2 Q := q2
  unfold d1Q at q2
  cases ek : (Opd.get e2 ok).key with
  | none => rw [ek] at q2; exact q2.elim
  | some key =>
   rw [ek] at q2
   cases ov with
   | ref _ _ => exact q2.elim
   | val d =>
    cases d with
    | p x =>
      have ne : ok.get e2 ≠ .hole := fun z => by rw [z] at ek; cases ek
      obtain ⟨Fx, rk⟩ := (ov1.kp (n2.kpG n1.w) n2.ss).r kh2 es2 ne
      have ev := rk.key ek
      subst ev
      have r2 : R X.K S2 H2 vv (.p x) G2 := ov2
      cases r2 with
      | p r2 =>
        have hG : Or2 (fun a => a = p) (Or2 G1 G2) p := .inl rfl
        have hF2 : ¬ F2 p := fun z => n.w.fg p z hG
        have hS2 : ¬ S2 p := fun z => n.w.sg p z hG
        have hm : MuO (H2 p) := by rw [hp2]; trivial
        refine ⟨hp2, [(key, vv)], rfl, by simp, ?_⟩
        have n' := n.mutG (o := .dK [(key, vv)]) hG trivial
        have es' : ES X.K S2 (upd H2 p (.dK [(key, vv)])) σ e2 F2 := es2.kp (kp_upd hF2 hS2 hm) Sub.refl
        exact ⟨S2, F2, fun a => a = p, .val (.dct [(key, x)]), e2, n'.g fun a h => .inl h, es', .dct upd_same rfl (.cons (RP.kp (kp_upd (F := Em) (fun z => z) hS2 hm) Sub.refl _ r2) .nil), q2⟩
    | _ => exact q2.elim
section
variable {env e : Env} {E : EK} {tk tv : DT} {Q : Opd → Env → Prop} {ok : Opd} {x : PD}
instance : Stp (dDict1 tk tv env Q E) (dnQ (tk env (fun ok e1 => tv e1 (fun ov e2 => d1Q ok ov e2 Q) E) E)) := ⟨fun h => h⟩
instance {d : D} : Stp (d1Q (.val d) (.val (.p x)) e Q) (exQ fun (k : Key) => eqQ (d.key = some k) (dnQ (Q (.val (.dct [(k, x)])) e))) := ⟨fun h => exE h fun k h => by
  unfold d1Q
  have h1 : (Opd.get e (Opd.val d)).key = some k := h.1
  rw [h1]; exact h.2⟩
end
end Dv

set_option Elab.async false
set_option linter.all false
set_option maxRecDepth 100000
/-! Dv, part V: methods that only read: count, index. -/
namespace Dv
open PySem PySem.Spec PyProof.Rows L2
def rCntF (K : PySem.W.Frag) : V → List V → Hp → VK → Prop := fun x xs H Q => ∃ (a : Addr) (ys : List V) (y : V), x = V.ref a ∧ xs = [y] ∧ SqL K H a ys ∧ flatV y = true ∧ ys.all flatV = true ∧ Q (.int (ys.countP fun z => eqV z y : Nat)) H
theorem countP_rel {ys : List V} {its : List Value} {y : V} (rv : Vals ys its) (f : ys.all flatV = true) : its.countP (eqU y) = ys.countP fun z => eqV z y := by
  induction rv with
  | nil => rfl
  | @cons z u zs us r rr ih =>
    rw [List.all_cons, Bool.and_eq_true] at f
    rw [List.countP_cons, List.countP_cons, ih f.2, eqU_of r f.1]
theorem mt_countF {X : Cx} : MtR X "list.count" (rCntF X.K) := by
  intro pins s σ H x xs v us Q I rx rxs h
  obtain ⟨a, ys, y, rfl, rfl, hs, fy, fys, q⟩ := h
  cases rx
  cases rxs with
  | cons ry rt =>
    rename_i uy ut
    cases rt
    obtain ⟨its, rv, ⟨⟨cls, dd, data, sl⟩, n, ho, hc, hdn, hd⟩, hlen⟩ := I.list hs
    simp only at hc hd
    subst hc hd
    refine call_meets PySem.F.slot_list_count ⟨_, ho, rfl⟩ PySem.F.entry_list_count (PySem.F.args_list_count_2 _ _)
      (SeqAt.list_countAt a its.toArray n dd sl uy (eqU y)) ⟨ho, fun u' hu' => mem_eqAt ry fy rv fys u' (by simpa using hu'), ?_⟩
    refine ⟨.int (ys.countP fun z => eqV z y : Nat), H, I.tok _, ⟨s.toks, ?_⟩, q⟩
    show Value.int ((its.toArray.toList.countP (eqU y) : Nat) : Int) s.toks = _
    rw [← countP_rel rv fys]
abbrev FRd := List PD → List D → (PD → Prop) → Prop
structure RdM (X : Cx) (id : String) (f : FRd) : Prop where
  run : ∀ (S : Ft) (H : Hp) (a : Addr) (us : List V) (xs : List PD) (vs : List V) (as : List D) (Q : PD → Prop), SqL X.K H a us → RPs X.K S H us xs → RL X.K S H vs as → f xs as Q → wM X id (.ref a) vs H (fun v H' => H' = H ∧ ∃ x, RP X.K S H v x ∧ Q x)
def isLs (d : D) : Prop := d.lseq.isSome = true
def rdO (f : FRd) (d : D) (as : List D) (k : PD → Prop) : Prop := match d.lseq with
  | some xs => f xs as k
  | none => False
def dRdM (f : FRd) (t : DT) (tr : DTA) : DT := fun env Q E => t env (fun o e1 => isLs (o.get e1) ∧ tr e1 (fun os e2 => rdO f (o.get e2) (os.map (Opd.get e2)) fun x => Q (.val (.p x)) e2) E) E
section
variable {X : Cx} {o e : Expr} {es : List Expr} {t : DT} {tr : DTA} {f : FRd} {name : Str} {id : String} {apos cpos : Pos}
theorem do_rdM (pa : PlainAttrs "list") (slot : Slot "list" name id) (hty : typeOf (.builtin id) = pure (.type "method_descriptor")) (hm : RdM X id f) (ho : DO X o t) (ha : DA X (e :: es) tr)
    (hbase : attributeBase o name X.env (eval o X.env) = eval o X.env := by rfl)
    (hfew : ((backTo cpos (starEach (e :: es) X.env)).all (fun x => !x.1) && (backToKw cpos (keywordEach [] X.env)).all (fun x => x.1.isSome)
      && decide ((e :: es).length + ([] : List Keyword).length + (if ([] : List Keyword).isEmpty then 0 else 1) < 30)) = true := by rfl)
    (hline : (apos.endLine == cpos.line) = true := by rfl) (hs : starEach (e :: es) X.env = (false, eval e X.env) :: starEach es X.env := by rfl) (hplain : (backTo cpos (starEach es X.env)).any (·.1) = false := by rfl) :
    DO X (.Call (.Attribute o name apos) (e :: es) [] cpos) (dRdM f t tr) := by
  refine ⟨fun W tk σ S F H env Q E kh w hes hx q => toE (pe_bm pa slot hty (wm X id) (we X o) (wa X (e :: es)) hbase hfew hline hs hplain) ?_⟩
  refine (ho.run W tk σ S F H env _ E kh w hes hx q).mono fun v H1 kh1 ⟨S1, F1, G1, ov, e1, n1, es1, hov, ⟨il, q1⟩⟩ => ?_
  obtain ⟨xs0, ed⟩ := Option.isSome_iff_exists.mp il
  obtain ⟨Fx, rx⟩ := hov.r kh1 es1 (fun z => by rw [z] at ed; cases ed)
  obtain ⟨a, us, rfl, sq, _⟩ := rx.lseq ed
  refine ⟨.inl ⟨rfl, _, sq⟩, ?_⟩
  refine (ha.run W tk σ S1 F1 H1 e1 _ E kh1 n1.w.e es1 (hx.on n1) q1).mono fun vs H2 kh2 ⟨S2, F2, G2, os, e2, n2, es2, ovs, q2⟩ => ?_
  have n12 := n1.seq n2
  have hov2 := hov.kp (n2.kpG n1.w) n2.ss
  replace q2 : rdO f (ov.get e2) (os.map (Opd.get e2)) _ := q2
  unfold rdO at q2
  cases z : (ov.get e2).lseq with
  | none => rw [z] at q2; exact q2.elim
  | some xs =>
    rw [z] at q2
    obtain ⟨Fy, ry⟩ := hov2.r kh2 es2 (fun z' => by rw [z'] at z; cases z)
    obtain ⟨a', us', ea, sq', rp⟩ := ry.lseq z
    cases ea
    intro pins s σ' v us0 I rx rv
    refine thn (hm.run S2 H2 a us' xs vs _ _ sq' rp (ovs.rl kh2 es2) q2 pins s σ' v us0 I rx rv) fun y s' ⟨z', H', I', rz, e', x, rp', q''⟩ => ?_
    subst e'
    exact ⟨z', H', I', rz, S2, F2, Or2 G1 G2, .val (.p x), e2, n12, es2, R.p rp', q''⟩
end
def fCount : FRd := fun xs as Q => match as with
  | [.p y] => flatP y = true ∧ xs.all flatP = true ∧ Q (.int (xs.countP fun z => PyData.eqv z y : Nat))
  | _ => False
theorem RPs.countP {K : PySem.W.Frag} {S : Ft} {H : Hp} {u : V} {y : PD} (r : RP K S H u y) (fy : flatP y = true) : ∀ {vs : List V} (xs : List PD), RPs K S H vs xs → xs.all flatP = true → (vs.countP fun z => eqV z u) = xs.countP fun z => PyData.eqv z y
  | _, [], h, _ => by cases h; rfl
  | _, x :: xs, h, f => by
    cases h with
    | cons a b =>
      rw [List.all_cons, Bool.and_eq_true] at f
      rw [List.countP_cons, List.countP_cons, RPs.countP r fy xs b f.2, a.eqv r f.1 fy]
theorem rd_count {X : Cx} : RdM X "list.count" fCount := by
  refine ⟨fun S H a us xs vs as Q sq rp ra q => ?_⟩
  unfold fCount at q
  split at q
  · rename_i y
    obtain ⟨fy, fx, q⟩ := q
    cases ra with
    | @cons u _ _ _ _ r rr =>
      cases rr
      cases r with
      | p r =>
        refine toM mt_countF ⟨a, us, u, rfl, rfl, sq, r.flat fy, rp.flat fx, rfl, _, .int _, ?_⟩
        rw [RPs.countP r fy xs rp fx]
        exact q
  · exact q.elim
section
variable {env e : Env} {E : EK} {t : DT} {tr : DTA} {Q : Opd → Env → Prop} {f : FRd} {o : Opd} {os : List Opd} {d : D} {as : List D} {xs : List PD} {k : PD → Prop}
def rdA (f : FRd) (o : Opd) (e1 : Env) (tr : DTA) (Q : Opd → Env → Prop) (E : EK) : Prop := isLs (o.get e1) ∧ tr e1 (fun os e2 => rdO f (o.get e2) (os.map (Opd.get e2)) fun x => Q (.val (.p x)) e2) E
instance : Stp (dRdM f t tr env Q E) (dnQ (t env (fun o e1 => rdA f o e1 tr Q E) E)) := ⟨fun h => h⟩
instance : Stp (rdA f o e tr Q E) (exQ fun (xs : List PD) => lqQ ((o.get e).lseq = some xs) (dnQ (tr e (fun os e2 => rdO f (o.get e2) (os.map (Opd.get e2)) fun x => Q (.val (.p x)) e2) E))) := ⟨fun h => exE h fun xs h => ⟨by show (o.get e).lseq.isSome = true; rw [h.1]; rfl, h.2⟩⟩
instance : Stp (rdO f d as k) (exQ fun (xs : List PD) => lqQ (d.lseq = some xs) (dnQ (f xs as k))) := ⟨fun h => exE h fun xs h => by unfold rdO; rw [h.1]; exact h.2⟩
theorem c_count {y : PD} (ha : as = [.p y]) (fy : flatP y = true) (fx : xs.all flatP = true) (h : k (.int (xs.countP fun z => PyData.eqv z y : Nat))) : fCount xs as k := by subst ha; exact ⟨fy, fx, h⟩
end
section
variable {e : Env} {ds : List D} {k : List D → (List D → PD → Prop) → Prop} {Q : Opd → Env → Prop}
/-- a list just made is changed and let go -/
instance : Stp (mutO (.val (.lst ds)) e k Q) (dnQ (k ds fun ds' x => Q (.val (.p x)) e)) := ⟨fun h => h⟩
end
end Dv

set_option Elab.async false
set_option linter.all false
set_option maxRecDepth 100000
/-! Dv, part W: insert, index, what is not come to, fresh values frozen. -/
namespace Dv
open PySem PySem.Spec PyProof.Rows L2
section
variable {K : PySem.W.Frag} {S F G : Ft} {H : Hp}
theorem Rs.insAt : ∀ {us : List V} {ds : List D} {y : V} {d : D} {G G6 : Ft} (j : Nat), Rs K S H us ds G → R K S H y d G6 → Dj G G6 → Rs K S H (us.take j ++ [y] ++ us.drop j) (ds.take j ++ [d] ++ ds.drop j) (Or2 G G6)
  | us, ds, y, d, G, G6, 0, h, r, dj => by
    simp only [List.take_zero, List.nil_append, List.drop_zero, List.singleton_append]
    exact .cons r h (fun x h => .inr h) (fun x h => .inl h) fun x h1 h2 => dj x h2 h1
  | us, [], y, d, G, G6, j + 1, h, r, dj => by
    cases h
    exact .cons r (Rs.nil (F := Em)) (fun x h => .inr h) (fun _ z => z.elim) (fun _ _ z => z.elim)
  | us, d0 :: ds, y, d, G, G6, j + 1, h, r, dj => by
    cases h with
    | cons a b c f g =>
      have := Rs.insAt j b r (dj.sub f Sub.refl)
      exact .cons a this (fun x h => .inl (c x h)) (fun x h => h.elim (fun z => .inl (f x z)) .inr) fun x h1 h2 => h2.elim (g x h1) (fun z => dj x (c x h1) z)
end
def mInsert : FM := fun ds as Q => match as with
  | [.p (.int i), d] => ds.length < 1000000 ∧ 0 ≤ i ∧ i < 2 ^ 62 ∧ Q (ds.take i.toNat ++ [d] ++ ds.drop i.toNat) .none
  | _ => False
theorem md_insert {X : Cx} : MutD X "list.insert" mInsert := by
  refine ⟨fun S H a us ds Fc vs as Ga Q h1 rs ra dj q => ?_⟩
  unfold mInsert at q
  split at q
  · rename_i i d
    cases ra with
    | @cons v _ _ _ _ G1 G2 r r2 s1 s2 d12 =>
      cases r2 with
      | @cons v2 _ _ _ _ G3 G4 r3 r4 s3 s4 d34 =>
        cases r4
        cases r with
        | p r =>
          cases r
          obtain ⟨q1, q2, q3, q4⟩ := q
          refine toM mt_insert ⟨a, us, i, v2, rfl, rfl, h1, by rw [Rs.length _ rs]; exact Nat.lt_of_lt_of_le q1 million, q2, Int.lt_trans q3 (by decide), ?_⟩
          exact ⟨_, _, .none, _, rfl, rs.insAt i.toNat r3 (dj.sub Sub.refl (s3.trans s2)), fun x h => h.elim .inl (fun z => .inr (s2 x (s3 x z))), .non, q4⟩
  · exact q.elim
def fIndex : FRd := fun xs as Q => match as with
  | [.p y] => flatP y = true ∧ xs.all flatP = true ∧ ∃ j z, xs[j]? = some z ∧ PyData.eqv z y = true ∧ (∀ (m : Nat) z', m < j → xs[m]? = some z' → PyData.eqv z' y = false) ∧ Q (.int (j : Nat))
  | _ => False
theorem rd_index {X : Cx} : RdM X "list.index" fIndex := by
  refine ⟨fun S H a us xs vs as Q sq rp ra q => ?_⟩
  unfold fIndex at q
  split at q
  · rename_i y
    obtain ⟨fy, fx, j, z, hz, ez, hn, q⟩ := q
    cases ra with
    | @cons u _ _ _ _ r rr =>
      cases rr
      cases r with
      | p r =>
        have fat : ∀ {m : Nat} {z' : PD}, xs[m]? = some z' → flatP z' = true := fun e => List.all_eq_true.mp fx _ (List.mem_of_getElem? e)
        obtain ⟨uz, e1, e2⟩ := rp.get j hz
        refine toM mt_index ⟨a, us, u, j, uz, rfl, rfl, sq, r.flat fy, rp.flat fx, e1, by rw [e2.eqv r (fat hz) fy]; exact ez, fun m z' hm e => ?_, rfl, _, .int _, q⟩
        obtain ⟨x', e3, e4⟩ := rp.at e
        rw [e4.eqv r (fat e3) fy]
        exact hn m x' hm e3
  · exact q.elim
/-- what is never come to -/
def dDead : DTS := fun _ _ _ => False
theorem ds_dead {X : Cx} {st : Stmt} {tv : List Nat} : DS X st tv dDead := ⟨fun _ _ _ _ _ _ _ _ _ _ _ _ _ _ q => q.elim⟩
def dDeadE : DT := fun _ _ _ => False
theorem do_dead {X : Cx} {e : Expr} : DO X e dDeadE := ⟨fun _ _ _ _ _ _ _ _ _ _ _ _ _ q => q.elim⟩
/-- a value just made is frozen -/
def kFv (Q : Opd → Env → Prop) : Opd → Env → Prop := fun o e => match o with
  | .val d => match fz d with
    | none => False
    | some x => Q (.val (.p x)) e
  | .ref _ _ => False
def dFv (t : DT) : DT := fun env Q E => t env (kFv Q) E
theorem do_fv {X : Cx} {e : Expr} {t : DT} (h : DO X e t) : DO X e (dFv t) := by
  refine ⟨fun W tk σ S F H env Q E kh w es hx q => ?_⟩
  refine (h.run W tk σ S F H env _ E kh w es hx q).mono fun v H1 kh1 ⟨S1, F1, G1, o, e1, n1, es1, ov, q1⟩ => ?_
  cases o with
  | ref _ _ => exact q1.elim
  | val d =>
    have q1 : (match fz d with
      | none => False
      | some x => Q (.val (.p x)) e1) := q1
    have r : R X.K S1 H1 v d G1 := ov
    cases z : fz d with
    | none => rw [z] at q1; exact q1.elim
    | some x =>
      rw [z] at q1
      have rp : RP X.K (Or2 S1 G1) H1 v x := R.fz subO1 _ subO2 r z
      refine ⟨Or2 S1 G1, F1, Em, .val (.p x), e1, ⟨n1.keep, fun a h => .inl (n1.ss a h), fun a h => h.elim (n1.sn a) (fun h => .inr (n1.gn a h)), n1.fn, fun a h => h.elim, ⟨fun a x y => ?_, fun a x y => y.elim, fun a x y => y.elim, fun a h => ?_, n1.w.fm, fun a h => h.elim⟩⟩, es1.kp kp_id subO1, .p rp, q1⟩
      · rcases x with x | x
        · exact n1.w.sf a x y
        · exact n1.w.fg a y x
      · rcases h with h | h
        · exact n1.w.sd a h
        · exact (n1.w.gm a h).ne
theorem fzs_map : ∀ xs : List PD, fzs (xs.map D.p) = some xs
  | [] => rfl
  | x :: xs => by
    show (match fz (.p x), fzs (xs.map D.p) with
    | some x, some xs => some (x :: xs)
    | _, _ => none) = _
    rw [fzs_map xs]; rfl
theorem fz_L {ds : List D} (xs : List PD) (h : ds = xs.map D.p) : fz (.lst ds) = some (.list xs) := by
  subst h
  show (fzs _).map _ = _
  rw [fzs_map]; rfl
def fvQ (P R : Prop) : Prop := P ∧ R
theorem fvI {P R : Prop} (h : P) (r : R) : fvQ P R := ⟨h, r⟩
section
variable {env e : Env} {E : EK} {t : DT} {tr : DTA} {Q : Opd → Env → Prop} {d : D} {as : List D} {xs : List PD} {k : PD → Prop} {ds : List D} {QM : List D → PD → Prop}
instance : Stp (dFv t env Q E) (dnQ (t env (kFv Q) E)) := ⟨fun h => h⟩
instance : Stp (kFv Q (.val d) e) (exQ fun (x : PD) => fvQ (fz d = some x) (dnQ (Q (.val (.p x)) e))) := ⟨fun h => exE h fun x h => by
  show (match fz d with
    | none => False
    | some x => Q (.val (.p x)) e)
  rw [h.1]; exact h.2⟩
theorem m_ins {i : Int} (h : ds.length < 1000000 ∧ 0 ≤ i ∧ i < 2 ^ 62 ∧ QM (ds.take i.toNat ++ [d] ++ ds.drop i.toNat) .none) : mInsert ds [.p (.int i), d] QM := h
theorem c_index {y z : PD} {j : Nat} (ha : as = [.p y]) (fy : flatP y = true) (fx : xs.all flatP = true) (hz : xs[j]? = some z) (ez : PyData.eqv z y = true) (hn : ∀ (m : Nat) z', m < j → xs[m]? = some z' → PyData.eqv z' y = false) (h : k (.int (j : Nat))) : fIndex xs as k := by subst ha; exact ⟨fy, fx, j, z, hz, ez, hn, h⟩
end
end Dv

set_option Elab.async false
set_option linter.all false
set_option maxRecDepth 100000
/-! Dv, part X: x or y of numbers and None. -/
namespace Dv
open PySem PySem.Spec PyProof.Rows L2
def truP : PD → Option Bool
  | .none => some false
  | .bool b => some b
  | .int i => some (i != 0)
  | _ => none
def kOrT (u : DT) (Q : Opd → Env → Prop) (E : EK) : Opd → Env → Prop := fun o e => match o with
  | .val (.p x) => match truP x with
    | some b => if b = true then Q (.val (.p x)) e else u e Q E
    | none => False
  | _ => False
def dOrT (t u : DT) : DT := fun env Q E => t env (kOrT u Q E) E
theorem RP.tru {K : PySem.W.Frag} {S : Ft} {H : Hp} {v : V} {x : PD} {b : Bool} (h : RP K S H v x) (e : truP x = some b) : TruV K v H b := by
  cases h with
  | non => cases e; rfl
  | bl c => cases e; rfl
  | int i => cases e; rfl
  | str _ => cases e
  | tup _ _ => cases e
  | lst _ _ => cases e
section
variable {X : Cx} {a b : Expr} {rest : List Expr} {ta tb : DT} {pos : Pos}
theorem do_orT (ha : DO X a ta) (hb : DO X (.BoolOp .Or (b :: rest) pos) tb) : DO X (.BoolOp .Or (a :: b :: rest) pos) (dOrT ta tb) := by
  refine ⟨fun W tk σ S F H env Q E kh w es hx q => toE (pe_orT (we X a) (we X _)) ?_⟩
  refine (ha.run W tk σ S F H env _ E kh w es hx q).mono fun v H1 kh1 ⟨S1, F1, G1, o, e1, n1, es1, ov, q1⟩ => ?_
  cases o with
  | ref _ _ => exact q1.elim
  | val d =>
    cases d with
    | p x =>
      have ov : R X.K S1 H1 v (.p x) G1 := ov
      cases ov with
      | p rx =>
        have q1 : (match truP x with
          | some b => if b = true then Q (.val (.p x)) e1 else tb e1 Q E
          | none => False) := q1
        cases z : truP x with
        | none => rw [z] at q1; exact q1.elim
        | some c =>
          rw [z] at q1
          refine ⟨c, rx.tru z, ?_⟩
          cases c with
          | true => rw [if_pos rfl]; exact ⟨S1, F1, G1, .val (.p x), e1, n1, es1, R.p rx, iff_tt q1⟩
          | false => rw [if_neg Bool.false_ne_true]; exact (hb.run W tk σ S1 F1 H1 e1 Q E kh1 n1.w.e es1 (hx.on n1) (iff_ff q1)).mono fun _ _ _ h => h.on n1
    | _ => exact q1.elim
end
section
variable {env e : Env} {E : EK} {t u : DT} {Q : Opd → Env → Prop} {d : D}
instance : Stp (dOrT t u env Q E) (dnQ (t env (kOrT u Q E) E)) := ⟨fun h => h⟩
theorem k_orT {x : PD} {b : Bool} (hd : d = .p x) (hx : truP x = some b) (h : if b = true then Q (.val (.p x)) e else u e Q E) : kOrT u Q E (.val d) e := by
  subst hd
  show (match truP x with
    | some b => if b = true then Q (.val (.p x)) e else u e Q E
    | none => False)
  rw [hx]; exact h
instance : Stp (kOrT u Q E (.val d) e) (exQ fun (x : PD) => exQ fun (b : Bool) => eqQ (d = .p x) (eqQ (truP x = some b) (dnQ (if b = true then Q (.val (.p x)) e else u e Q E)))) := ⟨fun h => exE h fun x h => exE h fun b h => k_orT h.1 h.2.1 h.2.2⟩
end
/-! ### in, not in: deep, of lists -/
def fInP (neg : Bool) : F2 := fun x y Q => match x.py, y.py with
  | some d, some (.list ds) => SeqAt.shaped d = true ∧ SeqAt.shaped (.list ds) = true ∧ Q (.p (.bool (neg ^^ ds.any fun z => PyData.eqv z d)))
  | _, _ => False
theorem od_inP {X : Cx} {k : Nat} (hr : Room k X.A) : OpD X (compareOp .In) (fInP false) := by
  refine ⟨fun S H v u x y Fx Fy Q kh rx ry h => ?_⟩
  unfold fInP at h
  split at h
  · rename_i a b e1 e2
    exact toO (op_inD (by have := hr.un; omega)) ⟨a, b, rx.dp _ e1, ry.dp _ e2, h.1, h.2.1, QV.pp (.bl _) (by have q := h.2.2; rw [Bool.false_xor] at q; exact q)⟩
  · exact h.elim
theorem od_notinP {X : Cx} {k : Nat} (hr : Room k X.A) : OpD X (compareOp .NotIn) (fInP true) := by
  refine ⟨fun S H v u x y Fx Fy Q kh rx ry h => ?_⟩
  unfold fInP at h
  split at h
  · rename_i a b e1 e2
    exact toO (op_notInD (by have := hr.un; omega)) ⟨a, b, rx.dp _ e1, ry.dp _ e2, h.1, h.2.1, QV.pp (.bl _) (by have q := h.2.2; rw [Bool.true_xor] at q; exact q)⟩
  · exact h.elim
theorem st_inP {n : Bool} : Strict (fInP n) := fun x y Q h => by
  unfold fInP at h; split at h
  · rename_i e1 e2; exact ⟨py_ne e1, py_ne e2⟩
  · exact h.elim
theorem f_inP {neg : Bool} {x y : D} {QD : D → Prop} {u : PD} {ds : List PD} (h1 : x.py = some u) (h2 : y.py = some (.list ds)) (s1 : SeqAt.shaped u = true) (s2 : SeqAt.shaped (.list ds) = true) (h : QD (.p (.bool (neg ^^ ds.any fun z => PyData.eqv z u)))) : fInP neg x y QD := by
  unfold fInP; rw [h1, h2]; exact ⟨s1, s2, h⟩
/-! ### list + list, frozen ones too -/
def rCatQ (K : PySem.W.Frag) : R2 := fun x y H Q => ∃ l b xs zs, x = .ref l ∧ y = .ref b ∧ SqL K H l xs ∧ SqL K H b zs ∧ xs.length + zs.length ≤ sizeLine ∧ ∀ p, H p = none → Q (.ref p) (upd H p (.lst (xs ++ zs)))
theorem op_catQ {X : Cx} : OpR X (binaryOp .Add) (rCatQ X.K) := by
  intro pins s σ H x y v u Q I rx ry h
  obtain ⟨l, b, xs, zs, rfl, rfl, hH, hB, hz, q⟩ := h
  cases rx
  cases ry
  obtain ⟨its, r, ⟨⟨c, d, dt, sl⟩, n, e, rfl, ed, rfl⟩, z⟩ := I.list hH
  obtain ⟨its2, r2, ⟨⟨c2, d2, dt2, sl2⟩, n2, e2, rfl, ed2, rfl⟩, z2⟩ := I.list hB
  have hl := r.length
  have hl2 := r2.length
  have hs : its.toArray.size + its2.toArray.size ≤ sizeLine := by rw [List.size_toArray, List.size_toArray]; omega
  refine concat_meets ⟨_, e, rfl⟩ ⟨_, e2, rfl⟩ noFill_list_add seq_list_add PySem.F.slot_list_add PySem.F.entry_list_add (PySem.F.args_list_add_2 _ _) (list_addW l b its.toArray its2.toArray n n2 d d2 sl sl2 hs) ⟨e, e2, ?_⟩
  have ea : its.toArray ++ its2.toArray = (its ++ its2).toArray := by simp
  rw [ea]
  exact ⟨.ref _, _, I.lnew (t' := s.toks) (r.append r2) (by rw [List.length_append]; omega), rfl, q _ I.fresh⟩
def fAddQ : F2 := fun x y Q => match x.lseq, y.lseq with
  | some a, some b => a.length + b.length ≤ sizeLine ∧ Q (.lst ((a ++ b).map D.p))
  | _, _ => False
theorem od_addQ {X : Cx} : OpD X (binaryOp .Add) fAddQ := by
  refine ⟨fun S H v u x y Fx Fy Q kh rx ry h => ?_⟩
  unfold fAddQ at h
  split at h
  · rename_i a b e1 e2
    obtain ⟨l, vs, rfl, s1, p1⟩ := rx.lseq e1
    obtain ⟨l2, vs2, rfl, s2, p2⟩ := ry.lseq e2
    have l1 := RPs.length _ p1
    have l2 := RPs.length _ p2
    exact toO op_catQ ⟨_, _, _, _, rfl, rfl, s1, s2, by rw [l1, l2]; exact h.1, fun p hp => QV.ll hp (p1.append p2) h.2⟩
  · exact h.elim
theorem st_addQ : Strict fAddQ := fun x y Q h => by
  unfold fAddQ at h; split at h
  · rename_i e1 e2
    exact ⟨fun z => (by rw [z] at e1; cases e1), fun z => (by rw [z] at e2; cases e2)⟩
  · exact h.elim
theorem f_addQ {x y : D} {a b : List PD} {QD : D → Prop} (h1 : x.lseq = some a) (h2 : y.lseq = some b) (hl : a.length + b.length ≤ sizeLine) (h : QD (.lst ((a ++ b).map D.p))) : fAddQ x y QD := by
  unfold fAddQ; rw [h1, h2]; exact ⟨hl, h⟩
end Dv

set_option Elab.async false
set_option linter.all false
set_option maxRecDepth 100000
/-! Dv, part Y: t[::-1] of a tuple. -/
namespace HT
open PySem PySem.Spec PyProof.Rows
section
variable {prog : Program} {w : World} {A : Around} {E : Value → Shared → Prop} {s : Shared}
theorem adjust_rev (n : Nat) : Builtin.Slice.sliceAdjust none none (-1) (n : Int) = ((n : Int) - 1, -1) := by
  unfold Builtin.Slice.sliceAdjust
  have h1 : ((-1 : Int) < 0) := by omega
  simp only [h1, if_true]
theorem places_rev (n : Nat) : Builtin.Slice.slicePlaces ((n : Int) - 1) (-1) (-1) = n := by
  unfold Builtin.Slice.slicePlaces
  have h1 : ¬ ((-1 : Int) > 0) := by omega
  have h2 : (- (-1 : Int)) = 1 := by decide
  simp only [h1, if_false, h2, Int.ediv_one]
  split <;> omega
theorem sliceApplied_rev {sl : Addr} {vs : Value} {n : Nat} {Q : Int × Int × Nat → Shared → Prop} {t : Tok} (hs : s.heap.IsSliceOf sl .none .none (.int (-1) t)) (h : Q ((n : Int) - 1, -1, n) s) :
    wpAny (model prog w) A (Builtin.Slice.sliceApplied (.ref sl) (pure (n : Int))) Q E s := by
  obtain ⟨os, hos, hcs, hds⟩ := id hs
  unfold Builtin.Slice.sliceApplied Builtin.Slice.sliceFields
  refine wpAny_bind (wpAny_bind (wpAny_field hos hds (x := .none) rfl (wpAny_bind (wpAny_field hos hds (x := .none) rfl (wpAny_bind (wpAny_field hos hds (x := .int (-1) t) rfl (wpAny_pure ?_)))))))
  refine wpAny_bind (slicePart_int ?_)
  show wpAny _ _ (if ((-1 : Int) == 0) = true then _ else _) _ _ s
  rw [if_neg (by decide)]
  refine wpAny_bind (slicePart_none (wpAny_bind (slicePart_none (wpAny_bind (wpAny_pure ?_)))))
  show wpAny _ _ (match Builtin.Slice.sliceAdjust none none (-1) (n : Int) with | (lo, hi) => pure (lo, (-1 : Int), Builtin.Slice.slicePlaces lo hi (-1))) _ _ s
  rw [adjust_rev n]
  show wpAny _ _ (pure ((n : Int) - 1, (-1 : Int), Builtin.Slice.slicePlaces ((n : Int) - 1) (-1) (-1))) _ _ s
  rw [places_rev]
  exact wpAny_pure h
theorem fm_congr {α β : Type} {f g : α → Option β} : ∀ {l : List α}, (∀ x ∈ l, f x = g x) → l.filterMap f = l.filterMap g
  | [], _ => rfl
  | x :: l, h => by
    rw [List.filterMap_cons, List.filterMap_cons, h x List.mem_cons_self, fm_congr fun y hy => h y (List.mem_cons_of_mem _ hy)]
theorem pick_rev (xs : Array Value) : ((List.range xs.size).filterMap fun (m : Nat) => xs[(((xs.size : Int) - 1) + (m : Int) * (-1)).toNat]?).toArray = xs.toList.reverse.toArray := by
  have e : ((List.range xs.size).filterMap fun (m : Nat) => xs[(((xs.size : Int) - 1) + (m : Int) * (-1)).toNat]?) = ((List.range xs.size).map fun k => xs.size - 1 - k).filterMap (xs[·]?) := by
    rw [List.filterMap_map]
    refine fm_congr fun k hk => ?_
    have := List.mem_range.mp hk
    show xs[(((xs.size : Int) - 1) + (k : Int) * (-1)).toNat]? = xs[xs.size - 1 - k]?
    congr 1
    omega
  rw [e, PySem.W.krv_range, List.filterMap_reverse, PySem.W.krv_all]
theorem getItem_tuple_rev {t sl : Addr} {items : Array Value} {tk : Tok} {Q : Value → Shared → Prop} (ht : IsTup s.heap t items) (hs : s.heap.IsSliceOf sl .none .none (.int (-1) tk))
    (h : Q (.ref s.heap.objs.size) { s with heap := s.heap.push { cls := .type "tuple", data := .seq items.toList.reverse.toArray } })
    (hsz : items.size ≤ sizeLine) : wpAny (model prog w) A (getItem (.ref t) (.ref sl)) Q E s := by
  have htake : sizeOk (.seq items.toList.reverse.toArray) := by
    show items.toList.reverse.toArray.size ≤ sizeLine
    rw [List.size_toArray, List.length_reverse, Array.length_toList]
    exact hsz
  obtain ⟨os, hos, hcs, hds⟩ := id hs
  have hTs : s.TypeIs (.ref sl) "slice" := ⟨os, hos, hcs⟩
  unfold getItem
  try with_reducible refine wpAny_holding ?_
  first | refine wpAny_bind (wpAny_pure ?_) | skip
  refine wpAny_bind (wpAny_sequenceKey ht.typeIs (by decide) ?_)
  refine wpAny_bind (wpAny_callSpecial?_slot (name := Str.ofString "__getitem__") ht.typeIs PyProof.Rows.slot_tuple_getitem
    (wpAny_call_entry PyProof.Rows.slot_tuple_getitem ht.typeIs entry_tuple_getitem ?_ (args_tuple_getitem _ _)))
  show wpAny _ _ (Builtin.Tuple.tupleItemsOf (.ref t) >>= _) _ _ s
  refine wpAny_bind (tupleItemsOf_ ht ?_)
  refine wpAny_bind (wpAny_typeOf hTs ?_)
  rw [if_pos (by decide)]
  refine wpAny_bind (sliceApplied_rev (vs := .none) hs ?_)
  have hno : ¬ ((((items.size : Int) - 1) == 0 && (-1 : Int) == 1 && items.size == items.size) = true) := by
    rw [show ((-1 : Int) == 1) = false from rfl]; simp
  show wpAny _ _ (if (((items.size : Int) - 1) == 0 && (-1 : Int) == 1 && items.size == items.size) = true then _ else _) _ _ s
  rw [if_neg hno, pick_rev]
  first
    | exact wpAny_bind (m := Builtin.Tuple.tupleExact _) (wpAny_newObj_type (wpAny_pure ⟨_, rfl, wpAny_pure h⟩) htake)
    | exact wpAny_bind (m := Builtin.Tuple.tupleExact _) (wpAny_newObj_type (wpAny_bind (wpAny_pure (wpAny_pure ⟨_, rfl, wpAny_pure h⟩))) htake)
    | exact wpAny_bind (wpAny_bind (m := Builtin.Tuple.tupleExact _) (wpAny_newObj_type (wpAny_pure (wpAny_pure ⟨_, rfl, wpAny_pure h⟩)) htake))
    | exact wpAny_bind (wpAny_bind (m := Builtin.Tuple.tupleExact _) (wpAny_newObj_type (wpAny_pure ⟨_, rfl, wpAny_pure h⟩) htake))
end
end HT
namespace Dv
open PySem PySem.Spec PyProof.Rows L2
def tRevTup (K : PySem.W.Frag) (te : TE) : TE := fun σ H Q => te σ H fun x H1 => ∃ a xs, x = .ref a ∧ SqT K H1 a xs ∧ ∀ p, H1 p = none → Q (.ref p) (upd H1 p (.tup xs.reverse))
theorem pe_revTup {X : Cx} {e : Expr} {te : TE} {k : Nat} {p1 p2 p3 pos : Pos} (he : PE X e te) : PE X (.Subscript e (.Slice none none (some (.UnaryOp .USub (.Constant (.int 1) k p1) p2)) p3) pos) (tRevTup X.K te) := by
  refine ⟨fun pins s σ H Q I h => ?_⟩
  refine Subscript_ (thn (he.run pins s σ H _ I h) fun v s1 ⟨x, H1, I1, r1, q1⟩ => ?_)
  obtain ⟨a, xs, ex, hx, q⟩ := q1
  subst ex
  cases r1
  have hst : PO X (some (.UnaryOp .USub (.Constant (.int 1) k p1) p2)) (tPart (tUn (rU fun i => .int (-i)) (tC (.int 1)))) := po_some (pe_un un_neg pe_int)
  refine wpAny_Slice (thn (po_none.run pins s1 σ H1 (fun o H2 => o = none ∧ H2 = H1) I1 ⟨rfl, rfl⟩) fun vl s2 ⟨l, H2, I2, pl, el, e2⟩ => ?_)
  subst el e2
  refine thn (po_none.run pins s2 σ H2 (fun o H3 => o = none ∧ H3 = H2) I2 ⟨rfl, rfl⟩) fun vu s3 ⟨u, H3, I3, pu, eu, e3⟩ => ?_
  subst eu e3
  refine thn (hst.run pins s3 σ H3 (fun o H4 => o = some (-1) ∧ H4 = H3) I3 ⟨1, rfl, -1, rfl, rfl, rfl⟩) fun vs s4 ⟨o, H4, I4, ps, eo, e4⟩ => ?_
  subst eo e4
  have I5 : Inv X pins σ H4 { s4 with heap := s4.heap.push { cls := .type "slice", data := .fields #[vl, vu, vs] } } := I4.kept (t' := s4.toks) fun b ob q => Heap.get?_push_of_some _ q
  obtain ⟨its, r, ht, hz⟩ := I5.tuple hx
  have hlen := r.length
  cases pl
  cases pu
  cases ps with
  | int tk =>
    show wpAny (model X.prog X.w) X.A (subscriptTail e (.Slice none none (some (.UnaryOp .USub (.Constant (.int 1) k p1) p2)) p3) (.ref a) (.ref s4.heap.objs.size)) (EP X pins σ Q) X.xe { s4 with heap := s4.heap.push { cls := .type "slice", data := .fields #[.none, .none, .int (-1) _] } }
    refine tail_any (ops := [.ref a, .ref s4.heap.objs.size]) ht.typeIs PyProof.Rows.slot_tuple_getitem.lookup ?_ (by with_unfolding_all rfl)
    refine HT.getItem_tuple_rev ht (Heap.IsSliceOf.new _ .none .none _) ?_ (by rw [List.size_toArray]; omega)
    refine ⟨.ref _, _, I5.laid (t' := s4.toks) (o := .tup xs.reverse) (fun b ob q => Heap.get?_push_of_some _ q) (Nat.le_refl _) ?_, rfl, q _ (I5.hok.fresh (Nat.le_refl _))⟩
    exact ⟨by rw [List.length_reverse]; exact hz, _, r.reverse, IsTup.new _ _⟩
def kRevT (Q : Opd → Env → Prop) : Opd → Env → Prop := fun x e1 => match x.get e1 with
  | .p (.tuple xs) => Q (.val (.p (.tuple xs.reverse))) e1
  | _ => False
def dRevT (ta : DT) : DT := fun env Q E => ta env (kRevT Q) E
section
variable {X : Cx} {a : Expr} {ta : DT} {pos : Pos}
theorem do_revT {k : Nat} {p1 p2 p3 : Pos} (ha : DO X a ta) : DO X (.Subscript a (.Slice none none (some (.UnaryOp .USub (.Constant (.int 1) k p1) p2)) p3) pos) (dRevT ta) := by
  refine ⟨fun W tk σ S F H env Q E kh w es hx q => toE (pe_revTup (we X a)) ?_⟩
  refine (ha.run W tk σ S F H env _ E kh w es hx q).mono fun v H1 kh1 ⟨S1, F1, G1, x, e1, n1, es1, ov, q1⟩ => ?_
  have q1 : (match x.get e1 with
  | .p (.tuple xs) => Q (.val (.p (.tuple xs.reverse))) e1
  | _ => False) := q1
  split at q1
  · rename_i xs z
    obtain ⟨Fx, rx⟩ := ov.r kh1 es1 (fun z' => by rw [z'] at z; cases z)
    rw [z] at rx
    cases rx with
    | p rx =>
      cases rx with
      | @tup ad us _ sq rp =>
        refine ⟨ad, us, rfl, sq, fun p hp => ?_⟩
        have n2 := n1.seq (Nx.newT n1.w hp (o := .tup us.reverse))
        refine ⟨S1, F1, Em, .val (.p (.tuple xs.reverse)), e1, n2.g fun a h => h.elim, es1.kp (kp_new hp) Sub.refl, R.p (.tup (SqT.of upd_same) (RPs.kp (F := Em) (kp_new hp) Sub.refl _ rp.reverse)), q1⟩
  · exact q1.elim
end
section
variable {env e : Env} {E : EK} {t : DT} {Q : Opd → Env → Prop} {o : Opd}
instance : Stp (dRevT t env Q E) (dnQ (t env (kRevT Q) E)) := ⟨fun h => h⟩
instance : Stp (kRevT Q o e) (exQ fun (xs : List PD) => eqQ (o.get e = .p (.tuple xs)) (dnQ (Q (.val (.p (.tuple xs.reverse))) e))) := ⟨fun h => exE h fun xs h => by
  show (match o.get e with
  | .p (.tuple xs) => Q (.val (.p (.tuple xs.reverse))) e
  | _ => False)
  rw [h.1]; exact h.2⟩
end
/-! ### the parts of a list just made are given to names -/
def asgV (n : Nat) (gs : DTGs) (Q : Env → Prop) : Opd → Env → Prop := fun o e1 => match o with
  | .val (.lst ds) => ds.length = n ∧ gs ds e1 Q
  | _ => False
def dAsgV (n : Nat) (t : DT) (g : DTGs) : DTS := fun D env E => t env (asgV n g D.nx) E
section
variable {X : Cx} {e : Expr} {pos : Pos} {tv : List Nat}
theorem ds_asgV {es : List Expr} {k n : Nat} {t : DT} {gs : DTGs} {p2 : Pos} (hc : X.calm = true) (he : DO X e t) (hg : DGs X es tv gs) (hn : (assignEach es X.env).length = n := by rfl) (hst : (assignEach es X.env).findIdx? (·.1) = none := by rfl)
    (hs : swapsWithSole [.Tuple es k p2] e pos.line X.env = pure false := by rfl) (hw : swappedStores [.Tuple es k p2] e X.env = pure none := by rfl) (h1 : (assignEach [.Tuple es k p2] X.env).map (·.2) = [assign (.Tuple es k p2) X.env] := by rfl) : DS X (.Assign [.Tuple es k p2] e pos) tv (dAsgV n t gs) := by
  refine ⟨fun W tk σ S F H env D E kh hl w es' hx q => toS (ps_asg (we X e) (pg_lst hc (wgs X es) hn hst) hs hw h1) ?_⟩
  refine (he.run W tk σ S F H env _ E kh w es' hx.eq q).mono fun v H1 kh1 ⟨S1, F1, G1, o, e1, n1, es1, ov, q1⟩ => ?_
  cases o with
  | ref _ _ => exact q1.elim
  | val d =>
    cases d with
    | lst ds =>
      have q1 : ds.length = n ∧ gs ds e1 D.nx := q1
      have ov : R X.K S1 H1 v (.lst ds) G1 := ov
      cases ov with
      | @lst a us _ _ F' g1 g2 g3 g4 =>
        refine ⟨a, us, rfl, SqL.of g1, by rw [Rs.length _ g4]; exact q1.1, ?_⟩
        intro pins s us' I r
        refine thn (hg.run σ S1 F1 F' H1 us _ e1 _ hl kh1 es1 g4 (fun x h h' => n1.w.fg x h (g3 x h').1) q1.2 pins s us' I r) fun _ s' ⟨σ', H', I', ⟨eq, _, ag⟩, env', F2, es2, sb, q'⟩ => ⟨σ', H', I', ag, ?_⟩
        subst eq
        exact ⟨S1, F2, env', n1.give fun x h => (sb x h).elim .inl (fun z => .inr (g3 x z).1), es2, q'⟩
    | _ => exact q1.elim
end
section
variable {env e : Env} {E : EK} {t : DT} {gs : DTGs} {k : Nat} {ds : List D} {n b c Q : Env → Prop} {r : D → Env → Prop} {d : D} {s2 : DTS}
instance : Stp (dAsgV k t gs ⟨n, r, b, c⟩ env E) (dnQ (t env (asgV k gs n) E)) := ⟨fun h => h⟩
instance : Stp (asgV k gs Q (.val d) e) (exQ fun (ds : List D) => eqQ (d = .lst ds) (eqQ (ds.length = k) (dnQ (gs ds e Q)))) := ⟨fun h => exE h fun ds h => by
  have e1 := h.1
  subst e1
  exact ⟨h.2.1, h.2.2⟩⟩
instance : Stp (dSeq (dAsgV k t gs) s2 ⟨n, r, b, c⟩ env E) (dnQ (dAsgV k t gs ⟨fun e1 => s2 ⟨n, r, b, c⟩ e1 E, r, b, c⟩ env E)) := ⟨fun h => h⟩
end
end Dv

set_option Elab.async false
set_option linter.all false
set_option maxRecDepth 100000
/-! Dv, part AA: exceptions of the program's own whose __init__ calls that of an own base. -/
namespace Dv
open PySem PySem.Spec PyProof.Rows L2
/-- what the written part says of an own base class B whose __init__ is ValueError's -/
structure BaseI (X : Cx) (b : Str) (N : Addr) : Prop where
  g : Gl X b
  m : X.mg b = some (.ref N)
  sg : PySem.W.specialIn X.K (.ref N) "__getattribute__" = some (some (.builtin "type.__getattribute__"))
  rd : PySem.W.readsIn X.K N (.type "type") = true
  ini : PySem.W.findCls X.K (.ref N) (.type "type") "__init__" = some (.val (.builtin "ValueError.__init__"))
theorem pe_baseInit {X : Cx} {b : Str} {N : Addr} {e : Expr} {es : List Expr} {ta : TA} {pos p1 p2 : Pos} {pl : Sem Bool} (B : BaseI X b N) (hdb : (b == ("__debug__" : Str)) = false) (ha : PA X (e :: es) ta)
    (hc : eval (.Call (.Attribute (.Name b p1) "__init__" p2) (e :: es) [] pos) X.env = (do
      let ov ← eval (.Name b p1) X.env
      standAt p2.atName
      let (f, first) ← holding [ov] (getMethod ov "__init__" pl)
      callWith pos f first (backTo pos (starEach (e :: es) X.env)) (backToKw pos (keywordEach [] X.env))) := by rfl)
    (he : starEach (e :: es) X.env = (false, eval e X.env) :: starEach es X.env := by rfl) (hpl : (backTo pos (starEach es X.env)).any (·.1) = false := by rfl) :
    PE X (.Call (.Attribute (.Name b p1) "__init__" p2) (e :: es) [] pos) (tVeI X.K ta) := by
  refine ⟨fun pins s σ H Q I h => PySem.W.methodCall_KW (ld_glob I B.g B.m ?_ hdb) hc⟩
  refine PySem.W.method_cls I.kIn B.sg (PySem.W.cls_value I.kIn B.rd B.ini (by decide +kernel) ?_)
  refine callWith_method1 (first := []) ?_ he hpl
  have go := ha.run pos pins _ σ H _ (I.tok (s.toks + 1)) h
  refine thn go fun us s1 hq => ?_
  obtain ⟨vs, H1, J, rv, a, C, ws, hv, hl, T, at1, q⟩ := hq
  cases hv
  cases rv with
  | cons r0 rt =>
    cases r0
    have hn := Paired.length rt
    exact oinit_ok T J at1 (by rw [← hn, sizeLine_eq]; omega) fun s2 J2 => ⟨.non, H1, J2, rfl, q⟩
/-- what an __init__ that keeps one thing promises -/
def spKeep (K : PySem.W.Frag) (f : Str) : Sp := fun vs H Q _ => ∃ (a C : Addr) (v : V), vs = [.ref a, v] ∧ OexC K C ∧ PySem.W.findIn K (.ref C) f = some none ∧ H a = some (exo a C none) ∧
  ∀ dx, H dx = none → dx ≠ a → Q .non (upd (upd H dx (exd dx [(f, v)])) a (exo a C (some dx)))
/-- what the written part says of an own class C whose __init__ keeps one thing as f -/
structure KeepC (P : Program) (w : World) (K : PySem.W.Frag) (mg : Str → Option Value) (base : Heap) (k : Nat) (cn f : Str) (C : Addr) : Prop where
  oex : OexC K C
  nof : PySem.W.findIn K (.ref C) f = some none
  named : CN K cn C
  m : mg cn = some (.ref C)
  ini : ∃ (fI : Addr) (fd : FuncData) (ps : List Str), PySem.W.findIn K (.ref C) "__init__" = some (some (.ref fI)) ∧ PySem.W.typeIn K (.ref fI) = some (.type "function") ∧
    FnOk P w K mg base (L2N.CX P w) k fI fd ps (spKeep K f) ∧ Binds K fd ps []
def dRaise (n f : Str) (t : DT) : DTS := fun _ env E => t env (fun o e => match o with
  | .val d => E n (some (f, d)) e
  | .ref _ _ => False) E
/-- what C(y) leaves behind it, the exception itself let go -/
def keptH (H : Hp) (dx : Addr) (f : Str) (y : V) : Hp := upd H dx (.xd [(f, y)])
theorem keptH_eq {H : Hp} {a dx C : Addr} {f : Str} {y : V} (na : H a = none) (ne : dx ≠ a) : upd (del (upd (upd (upd H a (exo a C none)) dx (exd dx [(f, y)])) a (exo a C (some dx))) a) dx (.xd [(f, y)]) = keptH H dx f y := by
  unfold keptH
  funext b
  by_cases c1 : b = dx
  · subst c1; rw [upd_same, upd_same]
  · rw [upd_ne c1, upd_ne c1]
    by_cases c2 : b = a
    · subst c2; rw [del_same, na]
    · rw [del_ne c2, upd_ne c2, upd_ne c1, upd_ne c2]
/-- C(e): an exception of an own class that keeps e; nothing is its context -/
theorem mk_keep {X : Cx} {cn f : Str} {k : Nat} {e : Expr} {te : TE} {p pos2 : Pos} {C : Addr} (T : KeepC X.prog X.w X.K X.mg X.base k cn f C) (hg : Gl X cn) (hr : Room (k + 1) X.A) (hdb : (cn == ("__debug__" : Str)) = false) (he : PE X e te)
    (hs : starEach [e] X.env = (false, eval e X.env) :: starEach [] X.env := by rfl) :
    L2N.PMk X (.Call (.Name cn p) [e] [] pos2) (fun σ H Q => te σ H fun y H1 => ∀ dx, H1 dx = none → Q (.ref C) (some dx) (keptH H1 dx f y)) := by
  obtain ⟨fI, fd, ps, iC, tI, F1, hb⟩ := T.ini
  obtain ⟨nm, qn, bN, bs, bm, sn, sub, ab, col, dd, k0, k1, k2, k3, k5, lk, sub0⟩ := T.oex.cls
  intro pins s σ H Q I h
  have arg := (pa_cons he pa_nil hs).run pos2 pins s σ H (fun vs H1 => match vs with
    | [y] => ∀ dx, H1 dx = none → Q (.ref C) (some dx) (keptH H1 dx f y)
    | _ => False) I h
  refine wpAny_Call_Name_kw (ld_glob I hg T.m (PySem.W.callWith_K (h₀ := X.base) I.ok.mod.kin T.oex.kC (thn arg fun us t q => ?_) hs (by rfl)) hdb)
  obtain ⟨vs, H1, I1, r1, q1⟩ := q
  refine ⟨I1.kIn, ?_⟩
  cases r1 with
  | nil => exact q1.elim
  | @cons y u ys us' ry rn =>
    cases rn with
    | cons _ _ => exact q1.elim
    | nil =>
      obtain ⟨hp, g, dr, n, os⟩ := t
      -- the new object, and the state in which its __init__ runs
      generalize ea : hp.objs.size + 1 = a
      generalize eh : (hp.push (PySem.W.kdv_tup [u])).push (PySem.HandSPX.excO C hp.objs.size) = hq
      have le : hp.objs.size ≤ a := by omega
      have old : ∀ b o, hp.get? b = some o → hq.get? b = some o := fun b o z => by
        rw [← eh]; exact Heap.get?_push_of_some _ (Heap.get?_push_of_some _ z)
      have top : hq.get? a = some (PySem.HandSPX.excO C hp.objs.size) := by
        rw [← eh, ← ea]; heap_get
      have na : H1 a = none := I1.hok.fresh le
      have I2 : Inv X pins σ (upd H1 a (exo a C none)) ⟨hq, g, dr, n, os⟩ := I1.laid (t' := n) old le (exo_ok top)
      have len2 : ([Value.ref a, u] ++ []).length = ps.length := by
        have z := F1.len [V.ref a, y] (upd H1 a (exo a C none)) (fun _ _ => True) (fun _ _ _ => False) ⟨a, C, y, rfl, T.oex, T.nof, upd_same, fun _ _ _ => trivial⟩
        exact z
      have go := F1.run (X.A.under (.builtin "type.__call__" ⟨[.ref C, u], []⟩)) X.stack ⟨hq, g, dr, n, os⟩ (upd H1 a (exo a C none)) ⟨[.ref a, u], []⟩ [.ref a, u] [.ref a, y]
        (fun v H2 => v = .non ∧ ∃ dx, H1 dx = none ∧ dx ≠ a ∧ H2 = upd (upd (upd H1 a (exo a C none)) dx (exd dx [(f, y)])) a (exo a C (some dx))) (fun _ _ _ => False)
        (hr.make C [u] []) (I2.env0.make C [u] []) (by have z := hb ⟨hq, g, dr, n, os⟩ [.ref a, u] I2.kIn len2; exact z) (.cons rfl (.cons ry .nil))
        ⟨a, C, y, rfl, T.oex, T.nof, upd_same, fun dx hd hne => ⟨rfl, dx, by rw [upd_ne hne] at hd; exact hd, hne, rfl⟩⟩
      subst ea eh
      refine wpAny_call (PySem.HandSPX.call_own F.excBase_ValueError (fun Y => PySem.HandSPX.refsVE_contains Y bm sub0) (I1.kIn _ _ lk) (PySem.W.looks_findIn I1.kIn iC) (fun self => PySem.W.bind_fn I1.kIn self tI) (by show 1 ≤ sizeLine; rw [sizeLine_eq]; omega) (codeAny_mono go fun r s' back => ?_))
      cases r with
      | error x => exact passN pins σ _ _ x s' I2 back
      | ok fl =>
        cases fl with
        | ret w =>
          obtain ⟨v, H2, os2, bare2, un2, hok2, rv, ev, dx, hd, hne, eH⟩ := back
          subst ev
          obtain ⟨h2, g2, d2, n2, os'⟩ := s'
          have hea : H2 (hp.objs.size + 1) = some (exo (hp.objs.size + 1) C (some dx)) := by rw [eH, upd_same]
          have hed : H2 dx = some (exd dx [(f, y)]) := by rw [eH, upd_ne hne, upd_same]
          have back := mk_end0 (d2 := d2) (t2 := n2) I1 le old un2 hok2 os2 bare2 hea hed hd
          rw [eH, keptH_eq na hne] at back
          obtain ⟨t0, G, J, kG, ge, hoe, no⟩ := back
          refine ⟨rv, _, _, _, ⟨G, g2, d2, n2, os'⟩, _, .ref C, some dx, rfl, J, kG, ge, hoe, ⟨rfl, rfl, fun vs e => ?_⟩, rfl, rfl, no, rfl, bare2, raises_own T.oex.exC T.oex.tyC, q1 dx hd⟩
          cases e
          rfl
        | next => exact back.elim
        | brk => exact back.elim
        | cont => exact back.elim
theorem ds_raise {X : Cx} {cn f : Str} {k : Nat} {e : Expr} {te : DT} {p pos pos2 : Pos} (hc : X.calm = true) (T : ∃ C, KeepC X.prog X.w X.K X.mg X.base k cn f C) (hg : Gl X cn) (hfn : f ≠ "") (hr : Room (k + 1) X.A) (hdb : (cn == ("__debug__" : Str)) = false) (he : DO X e te)
    (hs : starEach [e] X.env = (false, eval e X.env) :: starEach [] X.env := by rfl) : DS X (.Raise (some (.Call (.Name cn p) [e] [] pos2)) none pos) [] (dRaise cn f te) := by
  obtain ⟨C, T⟩ := T
  refine ⟨fun W tk σ S F H env D E kh hl w es hx q => toS (L2N.ps_raise hc tk.n (mk_keep T hg hr hdb (we X e) hs)) ?_⟩
  refine (he.run W tk σ S F H env _ E kh w es hx.eq q).mono fun v H1 kh1 ⟨S1, F1', G1, o, e1, n1, es1, ov, q1⟩ => ?_
  cases o with
  | ref _ _ => exact q1.elim
  | val d =>
    have r : R X.K S1 H1 v d G1 := ov
    intro dx hd
    have n2 : Nx S F H S1 F1' G1 (keptH H1 dx f v) := (n1.seq (Nx.newT n1.w hd (o := .xd [(f, v)]))).g fun a h => .inl h
    exact hx σ S1 F1' G1 _ C cn (some dx) (some (f, d)) e1 (fun _ _ => rfl) n2 (es1.kp (kp_new hd) Sub.refl) ⟨hfn, dx, v, rfl, upd_same, R.kp Sub.refl _ (kp_new (F := G1) hd) r⟩ T.named q1
/-- what the written part says of an own class C without an __init__ of its own -/
structure BareC (K : PySem.W.Frag) (mg : Str → Option Value) (cn : Str) (C : Addr) : Prop where
  ex : PySem.W.excIn K C PySem.HandSPX.veTail "ValueError.__new__" = true
  keep : PySem.W.keepIn K (.ref C) = true
  exC : PySem.W.subIn K (.ref C) (.type "BaseException") = some true
  tyC : PySem.W.typeIn K (.ref C) = some (.type "type")
  named : CN K cn C
  m : mg cn = some (.ref C)
def dRaise0 (n : Str) : DTS := fun _ env E => E n none env
theorem ds_raise0 {X : Cx} {cn m : Str} {j : Nat} {p p2 pos pos2 : Pos} (hc : X.calm = true) (T : ∃ C, BareC X.K X.mg cn C) (hg : Gl X cn) (hdb : (cn == ("__debug__" : Str)) = false) :
    DS X (.Raise (some (.Call (.Name cn p) [.Constant (.str m) j p2] [] pos2)) none pos) [] (dRaise0 cn) := by
  obtain ⟨C, T⟩ := T
  refine ⟨fun W tk σ S F H env D E kh hl w es hx q => toS (L2N.ps_raise hc tk.n (L2N.pmk_own PySem.F.excBase_ValueError T.ex T.m T.keep (raises_own T.exC T.tyC) hg hdb)) ?_⟩
  exact hx σ S F Em H C cn none none env (fun _ _ => rfl) (Nx.refl w) es rfl T.named q
end Dv

set_option Elab.async false
set_option linter.all false
set_option maxRecDepth 100000
/-! Dv, part AC: try .. except X (as n), one or several clauses; a caught exception is tracked from then on. -/
namespace Dv
open PySem PySem.Spec PyProof.Rows L2
section
variable {K : PySem.W.Frag} {tv tw : List Nat} {σ σ1 : L2.St} {S F S1 F1 G1 : Ft} {H H1 : Hp}
theorem QN.later {Q : Env → Prop} {σ2 : L2.St} {H2 : Hp} (a : Ag tw σ σ1) (sub : ∀ j, j ∈ tv → j ∈ tw) (n : Nx S F H S1 F1 G1 H1) (h : QN K tv σ1 S1 F1 H1 Q σ2 H2) : QN K tw σ S F H Q σ2 H2 := by
  obtain ⟨ag, S3, F3, e3, n3, es3, q⟩ := h
  exact ⟨fun j hj => (ag j fun z => hj (sub j z)).trans (a j hj), S3, F3, e3, (n.seq n3).g fun _ h => h.elim, es3, q⟩
theorem QR.later {Q : D → Env → Prop} {v : V} {H2 : Hp} (a : Ag tw σ σ1) (sub : ∀ j, j ∈ tv → j ∈ tw) (n : Nx S F H S1 F1 G1 H1) (h : QR K tv σ1 S1 F1 H1 Q v H2) : QR K tw σ S F H Q v H2 := by
  obtain ⟨S3, F3, G3, σ3, d, e3, ag, n3, es3, r, q⟩ := h
  exact ⟨S3, F3, G3, σ3, d, e3, fun j hj => (ag j fun z => hj (sub j z)).trans (a j hj), (n.seq n3).g fun _ h => .inr h, es3, r, q⟩
end
/-- an exception of the class at C that was thrown and noted: the state without it, the ground -/
structure AirC (X : Cx) (pins : List (Addr × Obj)) (σ : L2.St) (H : Hp) (a C : Addr) (d : Option Addr) (t : Shared) (B : Heap) (sI : Shared) : Prop where
  inv : Inv X pins σ H sI
  nb : ∀ b o, sI.heap.get? b = some o → b ∉ frs X.stack → B.get? b = some o
  up : sI.heap.UpToSlots t.heap
  fl : HandSPX.FlyingZ B X.stack a (L2N.Zn (.ref C) d) t.heap
  na : H a = none
  os : t.os = sI.os
  ag : AllBare t.gens
def Air (X : Cx) (pins : List (Addr × Obj)) (σ : L2.St) (H : Hp) (a C : Addr) (d : Option Addr) (t : Shared) : Prop := ∃ B sI, AirC X pins σ H a C d t B sI
section
variable {X : Cx} {pins : List (Addr × Obj)} {σ : L2.St} {H : Hp} {a C : Addr} {d : Option Addr} {t : Shared}
theorem Air.inv (x : Air X pins σ H a C d t) : Inv X pins σ H t := by
  obtain ⟨B, sI, y⟩ := x
  exact y.inv.landed y.nb y.fl.1 y.up y.os y.ag
theorem Air.obj (x : Air X pins σ H a C d t) : ∃ oe vs, t.heap.get? a = some oe ∧ L2N.Zn (.ref C) d oe ∧ oe.data = .fields vs := by
  obtain ⟨B, sI, y⟩ := x
  exact y.fl.there
/-- the flight is set to none -/
theorem Air.calm {M : Model} {A : Around} {Q : Unit → Shared → Prop} {E : Value → Shared → Prop} (x : Air X pins σ H a C d t) (h : ∀ t', Air X pins σ H a C d t' → Q () t') : wpAny M A (setFlight (.ref a) none) Q E t := by
  obtain ⟨B, sI, y⟩ := x
  refine HandSPX.lands_againZ y.fl fun h' fl' up' => h _ ⟨B, sI, ?_⟩
  exact { inv := y.inv, nb := y.nb, up := y.up.trans up', fl := fl', na := y.na, os := y.os, ag := y.ag }
/-- no frame's object -/
theorem Air.nofr (x : Air X pins σ H a C d t) : a ∉ frs X.stack := by
  obtain ⟨B, sI, y⟩ := x
  obtain ⟨oe, vs, e, _, dd⟩ := y.fl.there
  intro m
  obtain ⟨_, o', e', nf⟩ := y.fl.2.2.1.mem m
  rw [e] at e'
  cases e'
  exact nf _ dd
theorem Air.new (x : Air X pins σ H a C d t) (hs : X.stack = X.env :: X.outer) (hf : X.env.frame = some X.env.locals) :
    a ≠ X.env.locals ∧ a ∉ X.fs ∧ (∀ y c, X.env.cells.lookup y = some c → a ≠ c) ∧ (∀ p ∈ X.pn ++ pins, p.1 ≠ a) ∧ (X.ex = [] → X.s_0.heap.get? a = none) := by
  have nf := x.nofr
  have J := x.inv
  obtain ⟨oe, vs, e, _, dd⟩ := x.obj
  obtain ⟨B, sI, y⟩ := x
  have out : ∀ b o, sI.heap.get? b = some o → b ≠ a := fun b o q z => by
    subst z
    have := y.nb b o q nf
    rw [y.fl.2.1] at this
    cases this
  rw [hs] at nf
  refine ⟨fun z => nf ?_, fun z => nf ?_, fun n c q z => ?_, fun p hp => ?_, fun hex => ?_⟩
  · unfold frs
    rw [List.filterMap_cons, hf]
    exact z ▸ List.mem_cons_self
  · unfold frs
    rw [List.filterMap_cons, hf]
    exact List.mem_cons_of_mem _ z
  · obtain ⟨w, k⟩ := y.inv.cell n c q
    obtain ⟨o, k, _⟩ := k
    exact out c o k z.symm
  · exact out _ _ (y.inv.pin p hp).1
  · cases q : X.s_0.heap.get? a with
    | none => rfl
    | some o =>
      obtain ⟨o', k⟩ := y.inv.base.there a o q (by rw [hex]; exact List.not_mem_nil)
      exact absurd rfl (out a o' k)
/-- from now on it is tracked -/
theorem Air.track (x : Air X pins σ H a C d t) (hs : X.stack = X.env :: X.outer) (hf : X.env.frame = some X.env.locals) (hex : X.ex = []) : Inv X pins σ (upd H a (exq a C d)) t := by
  have J := x.inv
  obtain ⟨oe, vs, e, hz, dd⟩ := x.obj
  obtain ⟨n1, n2, n3, n4, n5⟩ := x.new hs hf
  have na : H a = none := by
    obtain ⟨B, sI, y⟩ := x
    exact y.na
  have nn : ∀ {b : Addr} {u : HO}, H b = some u → b ≠ a := fun q z => by rw [z, na] at q; cases q
  have old : ∀ {b : Addr} {o : Obj}, X.s_0.heap.get? b = some o → b ≠ a := fun q z => by rw [z, n5 hex] at q; cases q
  refine ⟨J.ok, J.os, J.bare, ⟨J.base.keep, J.base.slot, fun b o q n h => ?_, J.base.there, fun b xs q => ?_, fun b o xs q => ?_, fun b ps q => ?_⟩, J.loc, J.cell, ?_, fun y c q => ?_, fun p hp => ?_, fun b ob q => ?_, J.len⟩
  · rw [upd_ne (old q)]; exact J.base.free b o q n h
  · have k := J.base.tups b xs q
    rw [upd_ne (nn k)]; exact k
  · have k := J.base.frzs b o xs q
    rw [upd_ne (nn k)]; exact k
  · obtain ⟨more, k⟩ := J.base.tbls b ps q
    exact ⟨more, by rw [upd_ne (nn k)]; exact k⟩
  · rw [upd_ne (Ne.symm n1)]; exact J.free
  · rw [upd_ne (Ne.symm (n3 y c q))]; exact J.freeC y c q
  · obtain ⟨k1, k2, k3⟩ := J.pin p hp
    exact ⟨k1, by rw [upd_ne (n4 p hp)]; exact k2, k3⟩
  · by_cases hb : b = a
    · subst hb
      rw [upd_same] at q
      cases q
      exact ⟨⟨oe, vs, e, hz, dd⟩, ⟨oe, e⟩, fun h1 h2 ⟨o1, v1, z1, z2⟩ k => ⟨o1, v1, k _ z1, z2⟩⟩
    · rw [upd_ne hb] at q
      exact (J.hok b ob q).stay (fun _ _ _ z => z) (fun c z => by rw [upd_ne (nn z)]; exact z) fun c xs z => by rw [upd_ne (nn z)]; exact z
end
/-- a clause: which classes it takes, its name's slot, its suite -/
structure Hd where
  cat : Str → Option Bool
  slot : Option Nat
  ts : Addr → DTS
def exnD (a : Addr) (n : Str) : Option (Str × D) → D
  | none => .exn a n "" .hole
  | some (f, y) => .exn a n f y
def dHd (D : DE) (E : EK) : List Hd → EK
  | [] => E
  | h :: r => fun n y e => ∃ b, h.cat n = some b ∧ (b = true → match h.slot with
      | none => ∀ a, h.ts a D e EF
      | some i => i < e.length ∧ ∀ a, h.ts a { nx := fun e' => D.nx (e'.set i .hole), rt := fun x e' => D.rt x (e'.set i .hole), bk := fun e' => D.bk (e'.set i .hole), ct := fun e' => D.ct (e'.set i .hole) } (e.set i (exnD a n y)) EF) ∧
    (b = false → dHd D E r n y e)
def dTry (l : List Hd) (tb : DTS) : DTS := fun D env E => tb D env (dHd D E l)
/-- which classes of the program a clause takes -/
def CatOk (K : PySem.W.Frag) (cat : Str → Option Bool) (c : Value) : Prop := ∀ C n b, CN K n C → cat n = some b → PySem.W.exmOne K (.ref C) c = some b
inductive HdOk (X : Cx) (tv : List Nat) : List ExceptHandler → List Hd → Prop
  | nil : HdOk X tv [] []
  | plain {x : Str} {c : Value} {cat : Str → Option Bool} {ts : Addr → DTS} {tvs : List Nat} {b₀ : Stmt} {suite : List Stmt} {np pos' : Pos} {hds : List ExceptHandler} {l : List Hd} : Names X x c → CatOk X.K cat c →
      (∀ (a : Addr) (pn : List (Addr × Obj)), DSs (X.suite a pn) (b₀ :: suite) tvs (ts a)) → (∀ j, j ∈ tvs → j ∈ tv) → HdOk X tv hds l → HdOk X tv (.ExceptHandler (some (.Name x np)) none (b₀ :: suite) pos' :: hds) (⟨cat, none, ts⟩ :: l)
  | as {x n : Str} {c : Value} {i : Nat} {cat : Str → Option Bool} {ts : Addr → DTS} {tvs : List Nat} {b₀ : Stmt} {suite : List Stmt} {np pos' : Pos} {hds : List ExceptHandler} {l : List Hd} : X.N.Nodup → X.N[i]? = some n → X.env.kindOf n = some .local → Names X x c → CatOk X.K cat c →
      (∀ (a : Addr) (pn : List (Addr × Obj)), DSs (X.suite a pn) (b₀ :: suite) tvs (ts a)) → (∀ j, j ∈ tvs → j ∈ tv) → i ∈ tv → HdOk X tv hds l → HdOk X tv (.ExceptHandler (some (.Name x np)) (some n) (b₀ :: suite) pos' :: hds) (⟨cat, some i, ts⟩ :: l)
section
variable {X : Cx} {pins : List (Addr × Obj)} {σ : L2.St} {H : Hp}
theorem Inv.inSuite {a : Addr} (J : Inv X pins σ H s) : Inv (X.suite a (X.pn ++ pins)) [] σ H s :=
  { ok := J.ok.suite _ _, os := J.os, bare := J.bare, base := J.base, loc := J.loc, cell := J.cell, free := J.free, freeC := J.freeC, pin := fun p hp => J.pin p (by rw [List.append_nil] at hp; exact hp), hok := J.hok, len := J.len }
theorem Inv.outSuite {a : Addr} {s : Shared} (J : Inv (X.suite a (X.pn ++ pins)) [] σ H s) (ok : X.Ok) : Inv X pins σ H s :=
  { ok := ok, os := J.os, bare := J.bare, base := J.base, loc := J.loc, cell := J.cell, free := J.free, freeC := J.freeC, pin := fun p hp => J.pin p (by rw [List.append_nil]; exact hp), hok := J.hok, len := J.len }
/-- what is thrown on -/
theorem Air.on {W : WX} {Q : Flow → Shared → Prop} {a C : Addr} {d : Option Addr} {t : Shared} {why : String} (x : Air X pins σ H a C d t) (hs : X.stack = X.env :: X.outer) (hf : X.env.frame = some X.env.locals) (tk : Takes X W) (w : W (.ref C) d σ H) :
    wpAny (model X.prog X.w) X.A (PySem.passOn why (.ref a) X.env) Q X.xe t := by
  obtain ⟨B, sI, y⟩ := x
  obtain ⟨oe, vs, T, oT, ts, k1, k2, k3, k4, k5⟩ := y.fl.2.2.2
  have last : wpAny (model X.prog X.w) X.A (setFlight (.ref a) X.env.frame) (fun _ u => wpAny (model X.prog X.w) X.A (throw (.ref a) : Sem Flow) Q X.xe u) X.xe t := by
    rw [hf]
    refine HandSPX.setFlight_upZ y.fl fun h' held up' => wpAny_throw (tk.n _ _ ?_)
    exact ⟨a, B, sI, pins, σ, H, .ref C, d, rfl, y.inv, y.nb, y.up.trans up', .inr (.inr held), y.na, y.os, y.ag, w⟩
  unfold PySem.passOn
  refine wpAny_bind (wpAny_field k1 k3 k4 ?_)
  have ne : ¬((Value.ref T == Value.none) = true) := by simp
  rw [if_neg ne]
  first
    | exact wpAny_bind (wpAny_pure (wpAny_bind last))
    | exact wpAny_bind last
end
section
variable {X : Cx} {pins : List (Addr × Obj)} {σ : L2.St} {H : Hp}
theorem Air.isOf {a C : Addr} {d : Option Addr} {t : Shared} {c : Value} {b : Bool} (x : Air X pins σ H a C d t) (h : PySem.W.exmOne X.K (.ref C) c = some b) : PySem.W.Looks (model X.prog X.w) t.heap (excMatches (.ref a) c) b := by
  obtain ⟨oe, vs, e, hz, _⟩ := x.obj
  exact PySem.W.exm_one x.inv.kIn (fun A Q E s k q => wpAny_typeOf_ref (k _ _ e) (by rw [hz.1]; exact q)) h
/-- the name in a clause -/
theorem Air.name {a C : Addr} {d : Option Addr} {t : Shared} {c : Value} {y : Str} {np : Pos} {Q E : Value → Shared → Prop} (x : Air X pins σ H a C d t) (hn : Names X y c) (q : Q c t) :
    wpAny (model X.prog X.w) (X.A.mark (some (.ref a))) (eval (.Name y np) X.env) Q E t := by
  have J := Inv.inSuite (a := a) x.inv
  obtain ⟨g, nd, m | ⟨m, bb, nn⟩⟩ := hn
  · exact ld_glob J g m q nd
  · exact ld_blt J g m bb q nn nd
end
section
variable {X : Cx} {tv : List Nat}
/-- how a suite's end lies in the try's -/
theorem sp_later {a : Addr} {pins pn : List (Addr × Obj)} {tvs : List Nat} {σ σ1 : L2.St} {S F S1 F1 G1 : Ft} {H H1 : Hp} {D : DE} (ag : Ag tv σ σ1) (sub : ∀ j, j ∈ tvs → j ∈ tv) (n : Nx S F H S1 F1 G1 H1)
    {Y : Cx} {f : Flow} {s : Shared} (h : SP Y pins (QD X.K tvs σ1 S1 F1 H1 D) f s) : SP Y pins (QD X.K tv σ S F H D) f s :=
  SP.mono h (fun _ _ _ _ q => QN.later ag sub n q) (fun _ _ _ q => QR.later ag sub n q) (fun _ _ _ _ q => QN.later ag sub n q) (fun _ _ _ _ q => QN.later ag sub n q)
theorem QN.gone {K : PySem.W.Frag} {σ σ2 : L2.St} {S F : Ft} {H H2 : Hp} {i : Nat} {Q : Env → Prop} (hi : i ∈ tv) (h : QN K tv σ S F H (fun e => Q (e.set i .hole)) σ2 H2) : QN K tv σ S F H Q (σ2.set i none) H2 := by
  obtain ⟨ag, S3, F3, e3, n3, es3, q⟩ := h
  refine ⟨fun j hj => ?_, S3, F3, _, n3, es3.weak fun j => ?_, q⟩
  · rw [List.getElem?_set_ne fun z => hj (by rw [← z]; exact hi)]; exact ag j hj
  · by_cases hj : i = j
    · subst hj
      refine .inl ?_
      by_cases hl : i < e3.length
      · exact dj_set_eq hl
      · rw [List.getElem?_eq_none (by simpa using hl)]; rfl
    · exact .inr ⟨dj_set_ne hj, by rw [List.getElem?_set_ne hj]⟩
theorem QR.gone {K : PySem.W.Frag} {σ : L2.St} {S F : Ft} {H H2 : Hp} {i : Nat} {v : V} {Q : D → Env → Prop} (hi : i ∈ tv) (h : QR K tv σ S F H (fun x e => Q x (e.set i .hole)) v H2) : QR K tv σ S F H Q v H2 := by
  obtain ⟨S3, F3, G3, σ3, d, e3, ag, n3, es3, r, q⟩ := h
  refine ⟨S3, F3, G3, σ3.set i none, d, _, fun j hj => ?_, n3, es3.weak fun j => ?_, r, q⟩
  · rw [List.getElem?_set_ne fun z => hj (by rw [← z]; exact hi)]; exact ag j hj
  · by_cases hj : i = j
    · subst hj
      refine .inl ?_
      by_cases hl : i < e3.length
      · exact dj_set_eq hl
      · rw [List.getElem?_eq_none (by simpa using hl)]; rfl
    · exact .inr ⟨dj_set_ne hj, by rw [List.getElem?_set_ne hj]⟩
theorem hd_run {pins : List (Addr × Obj)} {W : WX} {σ σ1 : L2.St} {S F S1 F1 G1 : Ft} {H H1 : Hp} {D : DE} {E : EK} {a C : Addr} {d : Option Addr} {n : Str} {y : Option (Str × Dv.D)} {e : Dv.Env}
    (hs : X.stack = X.env :: X.outer) (hf : X.env.frame = some X.env.locals) (hex : X.ex = []) (tk : Takes X W) (hx : HX X W (Ag tv σ) S F H E) (ag : Ag tv σ σ1) (nx : Nx S F H S1 F1 G1 H1) (es : ES X.K S1 H1 σ1 e F1) (xr : XR X.K S1 H1 d y G1) (cn : CN X.K n C) :
    ∀ {hds : List ExceptHandler} {l : List Hd}, HdOk X tv hds l → ∀ {t : Shared}, Air X pins σ1 H1 a C d t → dHd D E l n y e → wpAny (model X.prog X.w) X.A (handleBy (.ref a) X.env hds) (SP X pins (QD X.K tv σ S F H D)) X.xe t := by
  intro hds l hk
  induction hk with
  | nil =>
    intro t x q
    exact wpAny_handleBy_nil (x.on hs hf tk (hx σ1 S1 F1 G1 H1 C n d y e ag nx es xr cn q))
  | @plain x0 c cat ts tvs b₀ suite np pos' hds l hn hc hsu sub _ ih =>
    intro t x q
    obtain ⟨b, q1, q2, q3⟩ := q
    refine wpAny_handleBy_cons (codeAny_handlers_test (x.name hn ((x.isOf (hc C n b cn q1)).here ?_))) (by intro z; cases z)
    cases b with
    | false => exact ih x (q3 rfl)
    | true =>
      have q2 : ts a D e EF := q2 rfl a
      refine codeAny_handlers_suite (x.calm fun t' x' => ?_)
      have na : H1 a = none := by
        obtain ⟨_, _, z⟩ := x'
        exact z.na
      have J := Inv.inSuite (a := a) (x'.track hs hf hex)
      have n2 := nx.seq (Nx.newT nx.w na (o := exq a C d))
      have es2 : ES X.K S1 (upd H1 a (exq a C d)) σ1 e F1 := es.kp (kp_new na) Sub.refl
      have go := (hsu a (X.pn ++ pins)).run W0 takes0 σ1 S1 F1 _ e D EF (kh_of J) J.len n2.w.e es2 hx0 q2 [] t' J
      refine wpAny_mono go (fun f s6 hsp => ?_) fun _ _ z => False.elim z
      have hsp := sp_later (X := X) (tv := tv) (a := a) (pn := []) ag sub n2 hsp
      cases f with
      | next => obtain ⟨σ6, H6, J6, q6⟩ := hsp; exact ⟨σ6, H6, Inv.outSuite J6 x.inv.ok, q6⟩
      | brk => obtain ⟨σ6, H6, J6, q6⟩ := hsp; exact ⟨σ6, H6, Inv.outSuite J6 x.inv.ok, q6⟩
      | cont => obtain ⟨σ6, H6, J6, q6⟩ := hsp; exact ⟨σ6, H6, Inv.outSuite J6 x.inv.ok, q6⟩
      | ret u => obtain ⟨v6, σ6, H6, J6, r6, q6⟩ := hsp; exact ⟨v6, σ6, H6, Inv.outSuite J6 x.inv.ok, r6, q6⟩
  | @as x0 nm c i cat ts tvs b₀ suite np pos' hds l hN hi hln hn hc hsu sub hit _ ih =>
    intro t x q
    obtain ⟨b, q1, q2, q3⟩ := q
    refine wpAny_handleBy_cons (codeAny_handlers_test (x.name hn ((x.isOf (hc C n b cn q1)).here ?_))) (by intro z; cases z)
    cases b with
    | false => exact ih x (q3 rfl)
    | true =>
      obtain ⟨le, q2⟩ := q2 rfl
      refine codeAny_handlers_suite_as (x.calm fun t' x' => ?_)
      have na : H1 a = none := by
        obtain ⟨_, _, z⟩ := x'
        exact z.na
      have J := Inv.inSuite (a := a) (x'.track hs hf hex)
      have hσ : i < σ1.length := by rw [x.inv.len]; exact (List.getElem?_eq_some_iff.mp hi).1
      refine store_ok (X := X.suite a (X.pn ++ pins)) (v := .ref a) J hN hi (.inl hln) rfl (fun s5 J5 => ?_) (.inr hln)
      have n2 := nx.seq (Nx.newT nx.w na (o := exq a C d))
      have kp : ∀ {F0 : Ft}, Kp S1 F0 H1 (upd H1 a (exq a C d)) := kp_new na
      have r : R X.K S1 (upd H1 a (exq a C d)) (.ref a) (exnD a n y) G1 := by
        cases y with
        | none =>
          have xr : d = none := xr
          subst xr
          exact .exn0 upd_same cn
        | some p =>
          obtain ⟨f, z⟩ := p
          obtain ⟨hfn, dd, v, ed, hd, rz⟩ := xr
          subst ed
          exact .exn1 hfn upd_same cn (by rw [upd_ne (fun z => by rw [z, na] at hd; cases hd)]; exact hd) (R.kp Sub.refl _ kp rz)
      have es2 := (es.kp (kp (F0 := F1)) Sub.refl).set i r (fun z h1 h2 => nx.w.fg z h2 h1) hσ le
      have n3 : Nx S F H S1 (Or2 G1 F1) Em (upd H1 a (exq a C d)) := {
        keep := n2.keep
        ss := n2.ss
        sn := n2.sn
        fn := fun z h => h.elim (fun h => n2.gn z (.inl h)) (n2.fn z)
        gn := fun _ z => z.elim
        w := ⟨fun z h1 h2 => h2.elim (fun h => n2.w.sg z h1 (.inl h)) (n2.w.sf z h1), fun _ _ z => z.elim, fun _ _ z => z.elim, n2.w.sd, fun z h => h.elim (fun h => n2.w.gm z (.inl h)) (n2.w.fm z), fun _ z => z.elim⟩ }
      have ag2 : Ag tv σ (σ1.set i (some (.ref a))) := fun j hj => by
        rw [List.getElem?_set_ne fun z => hj (by rw [← z]; exact hit)]; exact ag j hj
      have go := (hsu a (X.pn ++ pins)).run W0 takes0 _ S1 _ _ _ _ EF (kh_of J5) J5.len n3.w es2 hx0 (q2 a) [] s5 J5
      refine wpAny_mono go (fun f s6 hsp => ?_) fun _ _ z => False.elim z
      have hsp := sp_later (X := X) (tv := tv) (a := a) (pn := []) ag2 sub n3 hsp
      have fin : ∀ {σ6 : L2.St} {H6 : Hp} {Q : Shared → Prop}, Inv (X.suite a (X.pn ++ pins)) [] σ6 H6 s6 → (∀ s7, Inv X pins (σ6.set i none) H6 s7 → Q s7) →
          wpAny (model X.prog X.w) X.A (do bindName X.env nm .none; unbindBehindTheSuite X.env nm pos') (fun _ s7 => Q s7) X.xe s6 := fun J6 k => gone_ok (Inv.outSuite J6 x.inv.ok) hN hi hln k
      cases f with
      | next => obtain ⟨σ6, H6, J6, q6⟩ := hsp; exact fin J6 fun s7 J7 => ⟨_, _, J7, QN.gone hit q6⟩
      | brk => obtain ⟨σ6, H6, J6, q6⟩ := hsp; exact fin J6 fun s7 J7 => ⟨_, _, J7, QN.gone hit q6⟩
      | cont => obtain ⟨σ6, H6, J6, q6⟩ := hsp; exact fin J6 fun s7 J7 => ⟨_, _, J7, QN.gone hit q6⟩
      | ret u => obtain ⟨v6, σ6, H6, J6, r6, q6⟩ := hsp; exact fin J6 fun s7 J7 => ⟨_, _, _, J7, r6, QR.gone hit q6⟩
theorem ds_try {body : List Stmt} {h₀ : ExceptHandler} {hds : List ExceptHandler} {pos : Pos} {tvb : List Nat} {tb : DTS} {l : List Hd} (hs : X.stack = X.env :: X.outer) (hf : X.env.frame = some X.env.locals) (hex : X.ex = [])
    (hb : ∀ (pn : List (Addr × Obj)) (xe : Value → Shared → Prop), PassesOwn (model X.prog X.w) X.A X.env xe → DSs (X.tr pn xe) body tvb tb) (sub : ∀ j, j ∈ tvb → j ∈ tv) (hh : HdOk X tv (h₀ :: hds) l) :
    DS X (.Try body (h₀ :: hds) [] [] pos) tv (dTry l tb) := by
  refine ⟨fun W tk σ S F H env D E kh hl w es hx q => fun pins s I => wpAny_Try_except ?_⟩
  have ok := I.ok
  have go := (hb (X.pn ++ pins) (fun u s1 => wpAny (model X.prog X.w) X.A (noteFrame u X.env) (fun _ s2 => wpAny (model X.prog X.w) X.A (setFlight u none) (fun _ s3 =>
    wpAny (model X.prog X.w) X.A (handleBy u X.env (h₀ :: hds)) (SP X pins (QD X.K tv σ S F H D)) X.xe s3) X.xe s2) X.xe s1) PassesOwn.looking).run
    (fun cls d σ1 H1 => ∃ C n y S1 F1 G1 e, cls = Value.ref C ∧ Ag tvb σ σ1 ∧ Nx S F H S1 F1 G1 H1 ∧ ES X.K S1 H1 σ1 e F1 ∧ XR X.K S1 H1 d y G1 ∧ CN X.K n C ∧ dHd D E l n y e)
    (takes_def hf fun u s1 xx => ?_) σ S F H env D (dHd D E l) kh hl w es (fun σ1 S1 F1 G1 H1 C n d y e ag nx es1 xr cn q1 => ⟨C, n, y, S1, F1, G1, e, rfl, ag, nx, es1, xr, cn, q1⟩) q [] s (I.toTry _)
  · refine wpAny_mono go (fun f s1 hsp => ?_) fun _ _ z => z
    have hsp := sp_later (X := X) (tv := tv) (a := 0) (pn := []) (fun _ _ => rfl) sub (Nx.refl w) hsp
    cases f with
    | next => obtain ⟨σ1, H1, J, q1⟩ := hsp; exact wpAny_execs_nil ⟨σ1, H1, J.ofTry ok, q1⟩
    | brk => obtain ⟨σ1, H1, J, q1⟩ := hsp; exact ⟨σ1, H1, J.ofTry ok, q1⟩
    | cont => obtain ⟨σ1, H1, J, q1⟩ := hsp; exact ⟨σ1, H1, J.ofTry ok, q1⟩
    | ret u => obtain ⟨v1, σ1, H1, J, r1, q1⟩ := hsp; exact ⟨v1, σ1, H1, J.ofTry ok, r1, q1⟩
  · obtain ⟨a, B, sI, pins', σ1, H1, cls, d, rfl, J', nb, up, sky, na, os, agb, C, n, y, S1, F1, G1, e, rfl, ag, nx, es1, xr, cn, q1⟩ := xx
    have J : Inv X pins σ1 H1 sI := J'.ofTry ok
    have sky : Sky B (X.env :: X.outer) a (L2N.Zn (.ref C) d) X.env.locals s1.heap := by rw [← hs]; exact sky
    refine L2N.Sky.land L2N.Zn.steady (by rw [ok.frames, hs]) hf sky fun h' fl' up' => ?_
    have air : Air X pins σ1 H1 a C d { s1 with heap := h' } := ⟨B, sI, { inv := J, nb := nb, up := up.trans up', fl := by rw [hs]; exact fl', na := na, os := os, ag := agb }⟩
    exact hd_run hs hf hex tk hx (fun j hj => ag j fun z => hj (sub j z)) nx es1 xr cn hh air q1
end
end Dv

set_option Elab.async false
set_option linter.all false
set_option maxRecDepth 100000
/-! Dv, part AD: a caught exception's field; what it is. -/
namespace Dv
open PySem PySem.Spec PyProof.Rows L2
section
variable {X : Cx} {pins : List (Addr × Obj)} {σ : L2.St} {H : Hp} {s : Shared} {a C dd : Addr}
theorem exq_at {d : Option Addr} (I : Inv X pins σ H s) (h : H a = some (exq a C d)) : ∃ (oe : Obj) (vs : Array Value), s.heap.get? a = some oe ∧ (oe.cls = .ref C ∧ oe.dict = d ∧ PXN.CtxN oe) ∧ oe.data = .fields vs := by
  have x : ObjOk X.prog X.w H s.heap a (.ext fun h => ∃ (oe : Obj) (vs : Array Value), h.get? a = some oe ∧ (oe.cls = .ref C ∧ oe.dict = d ∧ PXN.CtxN oe) ∧ oe.data = .fields vs) := I.hok a _ h
  exact x.1
theorem exq_inst0 (I : Inv X pins σ H s) (h : H a = some (exq a C none)) : ∃ oe, PySem.W.InstAt s.heap a oe C none := by
  obtain ⟨oe, vs, e, ⟨h1, h2, _⟩, h3⟩ := exq_at I h
  refine ⟨oe, e, h1, by unfold PySem.W.notCls; rw [h3], ?_⟩
  rw [h2]; trivial
/-- an exception as isinstance meets it, with a dict or without -/
theorem exq_inst {d : Option Addr} (I : Inv X pins σ H s) (h : H a = some (exq a C d)) (hd : d = none ∨ ∃ dd f u, d = some dd ∧ H dd = some (.xd [(f, u)])) : ∃ oe od, PySem.W.InstAt s.heap a oe C od := by
  rcases hd with rfl | ⟨dd, f, u, rfl, hd⟩
  · obtain ⟨oe, i⟩ := exq_inst0 I h
    exact ⟨oe, none, i⟩
  · obtain ⟨oe, vs, e1, ⟨h1, h2, _⟩, h3⟩ := exq_at I h
    have hx : ObjOk X.prog X.w H s.heap dd (.xd [(f, u)]) := I.hok dd _ hd
    obtain ⟨mA, ns, rr⟩ := hx
    obtain ⟨od, ho, lk⟩ := lookIn_ns ns
    exact ⟨oe, some od, e1, h1, by unfold PySem.W.notCls; rw [h3], by rw [h2]; exact ho⟩
end
/-- what isinstance asks of it -/
theorem kitx_of_exc {K : PySem.W.Frag} {C x : Addr} {ox : Obj} {od : Option Obj} (T : ExcC K C) : PySem.W.KitX K (.ref x) (.ref C) (fun h => PySem.W.InstAt h x ox C od) :=
  PySem.W.kitx_exc (by obtain ⟨cd, hc, _⟩ := PySem.W.any_some T.hd; rw [hc]; rfl) T.hg T.hk T.hs T.ha T.hn T.ht T.hm
/-- what a field of which classes may be read -/
def FldOk (K : PySem.W.Frag) (ok : Str → Bool) (f : Str) : Prop := ∀ C n, CN K n C → ok n = true → XfC K C ∧ PySem.W.findIn K (.ref C) f = some none
def fldQ (env : Env) (Q : Opd → Env → Prop) (i : Nat) (ea : Addr) (n g : Str) (y : D) : Prop := match y with
  | .p x => Q (.val (.p x)) env
  | .hole => False
  | .lent _ => False
  | y => Q (.val y) (env.set i (.exn ea n g .hole))
def dFld (ok : Str → Bool) (i : Nat) (f : Str) : DT := fun env Q _ => match dj env[i]? with
  | .exn ea n g y => ok n = true ∧ g = f ∧ fldQ env Q i ea n g y
  | _ => False
/-- the field's value as it is read -/
def tFq (K : PySem.W.Frag) (f : Str) (te : TE) : TE := fun σ H Q => te σ H fun x H1 => ∃ (a C dd : Addr) (u : V), x = .ref a ∧ H1 a = some (exq a C (some dd)) ∧ H1 dd = some (.xd [(f, u)]) ∧ XfC K C ∧ PySem.W.findIn K (.ref C) f = some none ∧ Q u H1
theorem pe_fq {X : Cx} {e : Expr} {te : TE} {f : Str} {pos : Pos} (he : PE X e te) (hb : attributeBase e f X.env (eval e X.env) = eval e X.env := by rfl) : PE X (.Attribute e f pos) (tFq X.K f te) := by
  refine ⟨fun pins s σ H Q I h => attr_of hb (thn (he.run pins s σ H _ I h) fun u s1 z => ?_)⟩
  obtain ⟨x, H1, J, rx, a, C, dd, v, ex, ha, hd, T, no, q⟩ := z
  subst ex
  obtain rfl : u = Value.ref a := rx
  obtain ⟨oe, vs, e1, ⟨h1, h2, _⟩, h3⟩ := exq_at J ha
  have hx : ObjOk X.prog X.w H1 s1.heap dd (.xd [(f, v)]) := J.hok dd _ hd
  obtain ⟨mA, ns, rr⟩ := hx
  obtain ⟨od, ho, lk⟩ := lookIn_ns ns
  have rf := rr f
  have el : ([(f, v)] : List (Str × V)).lookup f = some v := by simp [List.lookup]
  rw [el] at rf
  obtain ⟨w, hw, rw1⟩ := RelO.some_of rf
  have inst : PySem.W.InstAt s1.heap a oe C (some od) := ⟨e1, h1, by unfold PySem.W.notCls; rw [h3], by rw [h2]; exact ho⟩
  exact HandSPX.exc_get J.kIn inst T.ga T.gg T.exC (PySem.W.findObj_own T.hdC no rfl (by rw [lk, hw])) (handed_of rw1) ⟨v, H1, J.tok _, rw1, q⟩
section
variable {X : Cx} {pos p : Pos}
theorem do_fld {x f : Str} {ok : Str → Bool} (hok : FldOk X.K ok f) (i : Nat) (hN : X.N[i]? = some x := by rfl) (hv : Vis X.env.scope x := by first | exact Or.inl rfl | exact Or.inr (Or.inl rfl) | exact Or.inr (Or.inr rfl)) (hd : (x == ("__debug__" : Str)) = false := by decide)
    (hcd : (x == ("__classdict__" : Str)) = false := by decide) (hb : attributeBase (.Name x p) f X.env (eval (.Name x p) X.env) = eval (.Name x p) X.env := by rfl) : DO X (.Attribute (.Name x p) f pos) (dFld ok i f) := by
  refine ⟨fun W tk σ S F H env Q E kh w es hx q => ?_⟩
  refine toE (pe_fq (pe_var hN hv hd hcd) hb) ?_
  have q : (match dj env[i]? with
  | .exn ea n g y => ok n = true ∧ g = f ∧ fldQ env Q i ea n g y
  | _ => False) := q
  cases z : dj env[i]? with
  | exn ea n g y =>
    rw [z] at q
    obtain ⟨q1, q2, q3⟩ := q
    subst q2
    obtain ⟨v, F1, F2, e1, r, s1, s2, d12, put, _⟩ := es.slot i (by rw [z]; intro c; cases c)
    rw [z] at r
    refine ⟨v, oj_get e1, ?_⟩
    cases r with
    | exn0 _ _ => exact q3.elim
    | @exn1 a C dd _ _ u _ _ hfn ha cn hd1 ry =>
      obtain ⟨T, no⟩ := hok C n cn q1
      refine ⟨ea, C, dd, u, rfl, ha, hd1, T, no, ?_⟩
      have go : Q (.val y) (env.set i (.exn ea n g .hole)) → QO X.K σ S F H Q u H := fun q4 => by
        have es2 : ES X.K S H σ (env.set i (.exn ea n g .hole)) (Or2 Em F2) := put S H Em (.exn ea n g .hole) (fun _ _ e _ => e) Sub.refl (.exn1 hfn ha cn hd1 .hole) fun _ z _ => z.elim
        have es3 := es2.wide (F' := F2) fun _ h => h.elim (fun z => z.elim) _root_.id
        have n : Nx S F H S F2 F1 H := {
          keep := fun _ _ e _ => e
          ss := Sub.refl
          sn := fun _ h => .inl h
          fn := fun b h => .inl (s2 b h)
          gn := fun b h => .inl (s1 b h)
          w := ⟨fun b h1 h2 => w.sf b h1 (s2 b h2), fun b h1 h2 => w.sf b h1 (s1 b h2), fun b h1 h2 => d12 b h2 h1, w.sd, fun b h => w.fm b (s2 b h), fun b h => w.fm b (s1 b h)⟩ }
        exact ⟨S, F2, F1, .val y, _, n, es3, ry, q4⟩
      cases y with
      | p x =>
        cases ry with
        | p ry => exact ⟨S, F, Em, .val (.p x), env, Nx.refl w, es, R.p ry, q3⟩
      | hole => exact q3.elim
      | lent _ => exact q3.elim
      | tup _ => exact go q3
      | lst _ => exact go q3
      | dct _ => exact go q3
      | ins _ _ _ => exact go q3
      | exn _ _ _ _ => exact go q3
      | fdc _ => exact go q3
      | opl _ => exact go q3
      | opi _ _ _ => exact go q3
  | _ => rw [z] at q; exact q.elim
end
/-! ### isinstance -/
/-- which exceptions of the program are of one of these classes -/
def IsOk (K : PySem.W.Frag) (cat : Str → Option Bool) (us : List Value) : Prop := ∀ C n b, CN K n C → cat n = some b → ExcC K C ∧ PySem.W.kitAny K (.ref C) us = some b
def dIsiE (cat : Str → Option Bool) (t : DT) : DT := fun env Q E => t env (fun o e1 => match o.get e1 with
  | .exn _ n _ _ => ∃ b, cat n = some b ∧ Q (.val (.p (.bool b))) e1
  | _ => False) E
def DctOk (H : Hp) (d : Option Addr) : Prop := d = none ∨ ∃ dd f u, d = some dd ∧ H dd = some (.xd [(f, u)])
theorem R.exq {K : PySem.W.Frag} {S : Ft} {H : Hp} {v : V} {ea : Addr} {n f : Str} {y : D} {F : Ft} (r : R K S H v (.exn ea n f y) F) : ∃ (a C : Addr) (d : Option Addr), v = .ref a ∧ H a = some (Dv.exq a C d) ∧ DctOk H d ∧ CN K n C := by
  cases r with
  | exn0 h c => exact ⟨_, _, _, rfl, h, .inl rfl, c⟩
  | exn1 _ h c hd _ => exact ⟨_, _, _, rfl, h, .inr ⟨_, _, _, rfl, hd⟩, c⟩
def rIsq (K : PySem.W.Frag) : List V → Hp → VK → Prop := fun xs H Q => ∃ (a C : Addr) (d : Option Addr) (c : V) (u : Value) (b : Bool), xs = [.ref a, c] ∧ H a = some (exq a C d) ∧ DctOk H d ∧ ExcC K C ∧ ClsV c u ∧ PySem.W.kitOne K (.ref C) u = some b ∧ Q (.bl b) H
def rIsqT (K : PySem.W.Frag) : List V → Hp → VK → Prop := fun xs H Q => ∃ (a C tp : Addr) (d : Option Addr) (cs : List V) (us : List Value) (b : Bool), xs = [.ref a, .ref tp] ∧ H a = some (exq a C d) ∧ DctOk H d ∧ ExcC K C ∧ H tp = some (.tup cs) ∧ Paired ClsV cs us ∧ PySem.W.kitAny K (.ref C) us = some b ∧ Q (.bl b) H
section
variable {X : Cx}
theorem call_isq : CallR X (.builtin "isinstance") (rIsq X.K) := by
  intro pins s σ H xs us Q I r h
  obtain ⟨a, C, d, c, u, b, rfl, ha, hd, T, k, e, q⟩ := h
  obtain ⟨u1, u2, rfl, r1, r2⟩ := vals2 r
  have e2 := k.eq r2
  subst e2
  cases (show u1 = Value.ref a from r1)
  obtain ⟨oe, od, J⟩ := exq_inst I ha hd
  exact PySem.W.kia_one (kitx_of_exc T) I.kIn J e (fun z => nomatch z) fun tk => ⟨.bl b, H, I.tok tk, rfl, q⟩
theorem call_isqT : CallR X (.builtin "isinstance") (rIsqT X.K) := by
  intro pins s σ H xs us Q I r h
  obtain ⟨a, C, tp, d, cs, ws, b, rfl, ha, hd, T, hT, k, e, q⟩ := h
  obtain ⟨u1, u2, rfl, r1, r2⟩ := vals2 r
  cases (show u2 = Value.ref tp from r2)
  cases (show u1 = Value.ref a from r1)
  obtain ⟨oe, oq, J⟩ := exq_inst I ha hd
  have tup : ObjOk X.prog X.w H s.heap tp (.tup cs) := I.hok tp _ hT
  obtain ⟨_, its, rv, o, h1, h2, n, h3⟩ := tup
  have e3 := ClsV.all k rv
  subst e3
  obtain ⟨oc, od, dt, sl⟩ := o
  simp only at h2 h3
  subst h2 h3
  exact PySem.W.kia_tup (kitx_of_exc T) I.kIn J h1 e (fun z => nomatch z) fun tk => ⟨.bl b, H, I.tok tk, rfl, q⟩
/-- names of classes, one after the other -/
inductive ClsL (X : Cx) : List Expr → List V → List Value → Prop
  | nil : ClsL X [] [] []
  | own {x : Str} {C : Addr} {p : Pos} {es : List Expr} {cs : List V} {us : List Value} : Gl X x → X.mg x = some (.ref C) → (x == ("__debug__" : Str)) = false → starEach (.Name x p :: es) X.env = (false, eval (.Name x p) X.env) :: starEach es X.env → ClsL X es cs us → ClsL X (.Name x p :: es) (.ref C :: cs) (.ref C :: us)
theorem ClsL.pa {es : List Expr} {cs : List V} {us : List Value} (h : ClsL X es cs us) : ∃ t, PA X es t ∧ ∀ σ H (Q : List V → Hp → Prop), Q cs H → t σ H Q := by
  induction h with
  | nil => exact ⟨_, pa_nil, fun _ _ _ q => q⟩
  | own g m nd st _ ih =>
    obtain ⟨t, h1, h2⟩ := ih
    exact ⟨_, pa_cons (pe_glob (v := .ref _) g m rfl nd) h1 st, fun σ H Q q => h2 σ H _ q⟩
theorem ClsL.cls {es : List Expr} {cs : List V} {us : List Value} (h : ClsL X es cs us) : Paired ClsV cs us := by
  induction h with
  | nil => exact .nil
  | own _ _ _ _ _ ih => exact .cons (.own _) ih
theorem do_isiE {x : Str} {c : Value} {v : V} {a : Expr} {ta : DT} {cat : Str → Option Bool} {p p2 pos : Pos} (hg : Gl X "isinstance") (hm : X.mg "isinstance" = none) (hc : PE X (.Name x p2) (tC v)) (hv : ClsV v c) (hcat : IsOk X.K cat [c]) (ha : DO X a ta)
    (he : starEach [a, .Name x p2] X.env = (false, eval a X.env) :: starEach [.Name x p2] X.env := by rfl) (hpl : (backTo pos (starEach [.Name x p2] X.env)).any (·.1) = false := by rfl) (he2 : starEach [.Name x p2] X.env = (false, eval (.Name x p2) X.env) :: starEach [] X.env := by rfl) :
    DO X (.Call (.Name "isinstance" p) [a, .Name x p2] [] pos) (dIsiE cat ta) := by
  refine ⟨fun W tk σ S F H env Q E kh w hs hx q => toE (pe_callB call_isq hg hm (by decide +kernel) (pa_cons (we X a) (pa_cons hc pa_nil he2) he) (by decide) (by decide) he hpl) ?_⟩
  refine (ha.run W tk σ S F H env _ E kh w hs hx q).mono fun v0 H1 kh1 ⟨S1, F1, G1, o, e1, n1, es1, ov1, q1⟩ => ?_
  have q1 : (match o.get e1 with
  | .exn _ n _ _ => ∃ b, cat n = some b ∧ Q (.val (.p (.bool b))) e1
  | _ => False) := q1
  cases z : o.get e1 with
  | exn ea n f y =>
    rw [z] at q1
    obtain ⟨b, q1, q2⟩ := q1
    obtain ⟨F2, r⟩ := ov1.r kh1 es1 (by rw [z]; intro c; cases c)
    rw [z] at r
    obtain ⟨a0, C, d, ev, h0, hd, cn⟩ := r.exq
    subst ev
    obtain ⟨T, k⟩ := hcat C n b cn q1
    have k1 : PySem.W.kitOne X.K (.ref C) c = some b := by
      have : PySem.W.kitAny X.K (.ref C) [c] = (PySem.W.kitOne X.K (.ref C) c) := by
        unfold PySem.W.kitAny
        cases PySem.W.kitOne X.K (.ref C) c with
        | none => rfl
        | some b => cases b <;> rfl
      rw [← this]; exact k
    exact ⟨a0, C, d, v, c, b, rfl, h0, hd, T, hv, k1, S1, F1, Em, .val (.p (.bool _)), e1, n1.e, es1, R.p (.bl _), q2⟩
  | _ => rw [z] at q1; exact q1.elim
theorem do_isiET {cl : List Expr} {cs : List V} {us : List Value} {a : Expr} {ta : DT} {cat : Str → Option Bool} {p pos p2 : Pos} {x1 : Nat} (hg : Gl X "isinstance") (hm : X.mg "isinstance" = none) (hl : ClsL X cl cs us) (hcat : IsOk X.K cat us) (ha : DO X a ta) (hz : cs.length ≤ 1000)
    (he : starEach [a, .Tuple cl x1 p2] X.env = (false, eval a X.env) :: starEach [.Tuple cl x1 p2] X.env := by rfl) (hpl : (backTo pos (starEach [.Tuple cl x1 p2] X.env)).any (·.1) = false := by rfl) (he2 : starEach [.Tuple cl x1 p2] X.env = (false, eval (.Tuple cl x1 p2) X.env) :: starEach [] X.env := by rfl) :
    DO X (.Call (.Name "isinstance" p) [a, .Tuple cl x1 p2] [] pos) (dIsiE cat ta) := by
  obtain ⟨tc, pc, qc⟩ := hl.pa
  refine ⟨fun W tk σ S F H env Q E kh w hs hx q => toE (pe_callB call_isqT hg hm (by decide +kernel) (pa_cons (we X a) (pa_cons (pe_tup pc) pa_nil he2) he) (by decide) (by decide) he hpl) ?_⟩
  refine (ha.run W tk σ S F H env _ E kh w hs hx q).mono fun v0 H1 kh1 ⟨S1, F1, G1, o, e1, n1, es1, ov1, q1⟩ => ?_
  have q1 : (match o.get e1 with
  | .exn _ n _ _ => ∃ b, cat n = some b ∧ Q (.val (.p (.bool b))) e1
  | _ => False) := q1
  cases z : o.get e1 with
  | exn ea n f y =>
    rw [z] at q1
    obtain ⟨b, q1, q2⟩ := q1
    obtain ⟨F2, r⟩ := ov1.r kh1 es1 (by rw [z]; intro c; cases c)
    rw [z] at r
    obtain ⟨a0, C, d, ev, h0, hd, cn⟩ := r.exq
    subst ev
    obtain ⟨T, k⟩ := hcat C n b cn q1
    refine qc σ H1 _ ⟨line1000 hz, fun tp htp => ?_⟩
    refine ⟨a0, C, tp, d, cs, us, b, rfl, ?_, ?_, T, upd_same, hl.cls, k, S1, F1, Em, .val (.p (.bool _)), e1, ?_, es1.kp (kp_new htp) Sub.refl, R.p (.bl _), q2⟩
    · rw [upd_ne (ne_of_none h0 htp)]; exact h0
    · rcases hd with h | ⟨dd, g, u, h1, h2⟩
      · exact .inl h
      · exact .inr ⟨dd, g, u, h1, by rw [upd_ne (ne_of_none h2 htp)]; exact h2⟩
    · exact ((n1.seq (Nx.newT n1.w htp (o := .tup cs))).g fun _ z => z.elim)
  | _ => rw [z] at q1; exact q1.elim
end
end Dv

set_option Elab.async false
set_option linter.all false
set_option maxRecDepth 100000
/-! Dv, part AB: a walk over a dict that is not read again (its slot is empty from then on). -/
namespace Dv
open PySem PySem.Spec PyProof.Rows L2
def diKeys (i : Nat) : DTI := fun env Q _ => match dj env[i]? with
  | .dct kvs => Q (kvs.map fun kv => keyP kv.1) [] (env.set i .hole)
  | _ => False
theorem rp_key {K : PySem.W.Frag} {S : Ft} {H : Hp} (k : Key) : RP K S H (kV k) (keyP k) := by
  cases k with
  | inl n => exact .int n
  | inr s => exact .str s
theorem RK.at {K : PySem.W.Frag} {S : Ft} {H : Hp} : ∀ {vs : List (Key × V)} {ds : List (Key × PD)}, RK K S H vs ds → vs.length = ds.length ∧ ∀ (i : Nat) (k : Key) (v : V), vs[i]? = some (k, v) → ∃ d, ds[i]? = some (k, d)
  | _, _, .nil => ⟨rfl, fun i k v h => by simp at h⟩
  | _, _, .cons (k := k0) (d := d0) r t => by
    obtain ⟨h1, h2⟩ := t.at
    refine ⟨by rw [List.length_cons, List.length_cons, h1], fun i k v h => ?_⟩
    cases i with
    | zero =>
      have h : some (k0, _) = some (k, v) := h
      cases h
      exact ⟨d0, rfl⟩
    | succ i => exact h2 i k v h
theorem di_keys {X : Cx} {tg : Expr} (i : Nat) {x : Str} {pos : Pos} (hN : X.N[i]? = some x := by rfl) (hv : Vis X.env.scope x := by first | exact Or.inl rfl | exact Or.inr (Or.inl rfl) | exact Or.inr (Or.inr rfl)) (hd : (x == ("__debug__" : Str)) = false := by decide)
    (hcd : (x == ("__classdict__" : Str)) = false := by decide) : DI X tg (.Name x pos) (diKeys i) := by
  refine ⟨fun W tk σ S F H env Q E kh w es hx q => ?_⟩
  unfold diKeys at q
  split at q
  · rename_i kvs hs
    obtain ⟨v, F1, F2, ev, rv, s1, s2, d12, cl, _⟩ := es.slot i (by rw [hs]; exact fun z => nomatch z)
    rw [hs] at rv
    cases rv with
    | @dct a vs _ _ ha fa rk =>
      intro pins s I
      obtain ⟨od, I2⟩ := I.lock ha trivial
      refine (pi_keys (tg := tg) (pe_var (pos := pos) hN hv hd hcd)).run pins s σ _ _ I2 ⟨_, oj_get ev, a, od, rfl, .inl ⟨vs, upd_same, ?_⟩⟩
      have hFa : F a := s1 a fa
      have kp : Kp S F2 H (upd H a (.frz od (.dK vs))) := fun b o e h => by
        by_cases c : b = a
        · subst c
          rcases h with h | h | h
          · exact (d12 b fa h).elim
          · exact (w.sf b h hFa).elim
          · rw [ha] at e; cases e; exact (h trivial).elim
        · rw [upd_ne c]; exact e
      have ne2 : ∀ b, F2 b → b ≠ a := fun b h z => d12 a fa (z ▸ h)
      refine ⟨fun b => S b ∨ b = a, F2, Em, _, [], env.set i .hole, ⟨fun b o e h => ?_, fun b h => .inl h, fun b h => ?_, fun b h => .inl (s2 b h), fun b h => h.elim, ⟨fun b h1 h2 => ?_, fun b _ h => h.elim, fun b _ h => h.elim, fun b h => ?_, fun b h => ?_, fun b h => h.elim⟩⟩, ?_, ?_, .nil, List.nodup_nil, q⟩
      · rw [upd_ne (fun z => h (by rw [z]; exact hFa))]; exact e
      · rcases h with h | h
        · exact .inl h
        · subst h; exact .inr (.inl hFa)
      · rcases h1 with h1 | h1
        · exact w.sf b h1 (s2 b h2)
        · exact ne2 b h2 h1
      · rcases h with h | h
        · rw [upd_ne (fun z => w.sf b h (by rw [z]; exact hFa))]; exact w.sd b h
        · subst h; rw [upd_same]; exact fun z => nomatch z
      · rw [upd_ne (ne2 b h)]; exact w.fm b (s2 b h)
      · exact (cl _ _ Em .hole kp (fun b h => .inl h) .hole fun b h _ => h.elim).wide fun b h => h.elim (fun z => z.elim) fun z => z
      · intro H' k j
        obtain ⟨hl, hat⟩ := rk.at
        have h1 : H' a = some (.frz od (.dK vs)) := k a _ upd_same (.inr (.inl (.inr rfl)))
        refine ⟨fun y hy => ?_, fun hn => ⟨h1, ?_⟩⟩
        · have hj := (List.getElem?_eq_some_iff.mp hy).1
          rw [List.length_map] at hj
          refine ⟨⟨h1, by omega⟩, fun u H'' hu => ?_⟩
          obtain ⟨rfl, kk, vv, e1, rfl⟩ := hu
          obtain ⟨dd, e2⟩ := hat j kk vv e1
          rw [List.getElem?_map, e2] at hy
          cases hy
          exact ⟨Nw.refl, rp_key kk⟩
        · have := List.getElem?_eq_none_iff.mp hn
          rw [List.length_map] at this
          omega
  · exact q.elim
section
variable {env : Env} {E : EK} {i : Nat} {kvs : List (Key × PD)} {Q : List PD → Ls → Env → Prop}
theorem i_keys {e' : Env} (h1 : dj env[i]? = .dct kvs) (hn : env.set i .hole = e') (h : Q (kvs.map fun kv => keyP kv.1) [] e') : diKeys i env Q E := by
  subst hn
  unfold diKeys
  rw [h1]; exact h
instance : Stp (diKeys i env Q E) (exQ fun (kvs : List (Key × PD)) => exQ fun (e' : Env) => arQ (dj env[i]? = .dct kvs) (nfQ (env.set i .hole = e') (dnQ (Q (kvs.map fun kv => keyP kv.1) [] e')))) := ⟨fun h => exE h fun _ h => exE h fun _ h => i_keys h.1 h.2.1 h.2.2⟩
end
end Dv

set_option Elab.async false
set_option linter.all false
set_option maxRecDepth 100000
/-! Dv, part AE: what the written part says of the program's exception classes; readings of exceptions, step by step. -/
namespace Dv
open PySem PySem.Spec PyProof.Rows L2
/-- an own class whose __init__ (st) keeps one thing as f and calls that of its base b -/
structure KeepF (K : PySem.W.Frag) (mg : Str → Option Value) (st : Stmt) (q b x f p : Str) (C : Addr) : Prop where
  oex : OexC K C
  nof : PySem.W.findIn K (.ref C) f = some none
  named : CN K x C
  m : mg x = some (.ref C)
  ini : ∃ (fI : Addr) (fd : FuncData), PySem.W.findIn K (.ref C) "__init__" = some (some (.ref fI)) ∧ PySem.W.typeIn K (.ref fI) = some (.type "function") ∧ Fun K "__init__" q st fI fd ∧ Binds K fd ["self", p] []
  base : ∃ N : Addr, mg b = some (.ref N) ∧ PySem.W.specialIn K (.ref N) "__getattribute__" = some (some (.builtin "type.__getattribute__")) ∧ PySem.W.readsIn K N (.type "type") = true ∧
    PySem.W.findCls K (.ref N) (.type "type") "__init__" = some (.val (.builtin "ValueError.__init__"))
theorem keepF_mk {K : PySem.W.Frag} {h : Heap} {mg : Str → Option Value} (X : K.In h) (G : h.Ns mainGlobals mg) {st : Stmt} {qn b x f p : Str} {C fI N : Addr} {oc kV dc pm cd ct : Value} {od an : Option Addr} {sl : Array (Option Value)}
    {nm q : Str} {Nn : Addr} {bs bm : List Value} {sn sub ab col dd k0 k1 k2 k3 k5}
    (a : PySem.W.nsIn K mainGlobals x = some (some (.ref C))) (cl : K.lookup C = some (excClassObj nm q C Nn bs bm true sn sub ab col dd k0 k1 k2 k3 k5 "ValueError.__new__")) (hbm : PySem.HandSPX.refsVE bm = true)
    (sa : PySem.W.findIn K (.ref C) "__setattr__" = some (some (.builtin "object.__setattr__"))) (bx : PySem.W.subIn K (.ref C) (.type "BaseException") = some true) (ty : PySem.W.typeIn K (.ref C) = some (.type "type")) (ke : PySem.W.keepIn K (.ref C) = true)
    (no : PySem.W.findIn K (.ref C) f = some none) (iC : PySem.W.findIn K (.ref C) "__init__" = some (some (.ref fI))) (tI : PySem.W.typeIn K (.ref fI) = some (.type "function"))
    (l : K.lookup fI = some ⟨oc, od, .func (PySem.W.fnOf "__init__" qn (defArgs st) (defBody st) (defScope st) .none kV dc pm an cd ct), sl⟩) (c : PySem.W.codeIn K cd qn = true) (k : PySem.W.keepIn K (.ref fI) = true)
    (bb : PySem.W.nsIn K mainGlobals b = some (some (.ref N))) (sg : PySem.W.specialIn K (.ref N) "__getattribute__" = some (some (.builtin "type.__getattribute__"))) (rd : PySem.W.readsIn K N (.type "type") = true)
    (bi : PySem.W.findCls K (.ref N) (.type "type") "__init__" = some (.val (.builtin "ValueError.__init__")))
    (bd : ∀ (kV doc pm : Value) (an : Option Addr) (cdv ct : Value) (us : List Value), us.length = 2 → bindArgs (PySem.W.fnOf "__init__" qn (defArgs st) (defBody st) (defScope st) .none kV doc pm an cdv ct) ⟨us, []⟩ = pure (((["self", p] : List Str)).zip us)) : ∃ C, KeepF K mg st qn b x f p C :=
  let F := fun_mk (st := st) l c k
  ⟨C, ⟨⟨⟨nm, q, Nn, bs, bm, sn, sub, ab, col, dd, k0, k1, k2, k3, k5, cl, hbm⟩, sa, bx, ty, ke⟩, no, a, PySem.W.mg_of X G a, ⟨fI, _, iC, tI, F, F.binds bd⟩, ⟨N, PySem.W.mg_of X G bb, sg, rd, bi⟩⟩⟩
theorem bare_mk {K : PySem.W.Frag} {h : Heap} {mg : Str → Option Value} (X : K.In h) (G : h.Ns mainGlobals mg) {x : Str} {C : Addr} (a : PySem.W.nsIn K mainGlobals x = some (some (.ref C))) (e : PySem.W.excIn K C PySem.HandSPX.veTail "ValueError.__new__" = true)
    (ke : PySem.W.keepIn K (.ref C) = true) (bx : PySem.W.subIn K (.ref C) (.type "BaseException") = some true) (ty : PySem.W.typeIn K (.ref C) = some (.type "type")) : ∃ C, BareC K mg x C := ⟨C, ⟨e, ke, bx, ty, a, PySem.W.mg_of X G a⟩⟩
/-! ### tables of classes -/
def catL (l : List (Str × Bool)) : Str → Option Bool := fun n => l.lookup n
theorem CN.eq {K : PySem.W.Frag} {x : Str} {C D : Addr} (h : CN K x C) (g : CN K x D) : C = D := by
  unfold CN at h g
  rw [h] at g
  cases g
  rfl
theorem catL_cons {x n : Str} {b b' : Bool} {l : List (Str × Bool)} (h : catL ((x, b) :: l) n = some b') : (n = x ∧ b' = b) ∨ catL l n = some b' := by
  unfold catL at h ⊢
  rw [List.lookup_cons] at h
  split at h
  · rename_i e
    cases h
    exact .inl ⟨by simpa using e, rfl⟩
  · exact .inr h
section
variable {K : PySem.W.Frag}
theorem catOk_nil {c : Value} : CatOk K (catL []) c := fun C n b _ h => by cases h
theorem catOk_cons {x : Str} {C : Addr} {b : Bool} {l : List (Str × Bool)} {c : Value} (a : CN K x C) (e : PySem.W.exmOne K (.ref C) c = some b) (r : CatOk K (catL l) c) : CatOk K (catL ((x, b) :: l)) c := fun D n b' cn h => by
  rcases catL_cons h with ⟨h1, h2⟩ | h
  · subst h1 h2
    rw [cn.eq a]; exact e
  · exact r D n b' cn h
theorem isOk_nil {us : List Value} : IsOk K (catL []) us := fun C n b _ h => by cases h
theorem isOk_cons {x : Str} {C : Addr} {b : Bool} {l : List (Str × Bool)} {us : List Value} (a : CN K x C) (t : ExcC K C) (e : PySem.W.kitAny K (.ref C) us = some b) (r : IsOk K (catL l) us) : IsOk K (catL ((x, b) :: l)) us := fun D n b' cn h => by
  rcases catL_cons h with ⟨h1, h2⟩ | h
  · subst h1 h2
    rw [cn.eq a]; exact ⟨t, e⟩
  · exact r D n b' cn h
def okL (l : List Str) : Str → Bool := fun n => l.contains n
theorem fldOk_nil {f : Str} : FldOk K (okL []) f := fun C n _ h => by simp [okL] at h
theorem fldOk_cons {x f : Str} {C : Addr} {l : List Str} (a : CN K x C) (t : XfC K C) (no : PySem.W.findIn K (.ref C) f = some none) (r : FldOk K (okL l) f) : FldOk K (okL (x :: l)) f := fun D n cn h => by
  by_cases z : n = x
  · subst z
    rw [cn.eq a]; exact ⟨t, no⟩
  · exact r D n cn (by simpa [okL, z] using h)
theorem kitAny_hit {t c : Value} {cs : List Value} (h : PySem.W.kitOne K t c = some true) : PySem.W.kitAny K t (c :: cs) = some true := by
  unfold PySem.W.kitAny
  rw [h]
theorem kitAny_miss {t c : Value} {cs : List Value} {b : Bool} (h : PySem.W.kitOne K t c = some false) (r : PySem.W.kitAny K t cs = some b) : PySem.W.kitAny K t (c :: cs) = some b := by
  unfold PySem.W.kitAny
  rw [h]
  exact r
theorem kit_self {C : Addr} : PySem.W.kitOne K (.ref C) (.ref C) = some true := by
  unfold PySem.W.kitOne
  rw [if_pos (by simp)]
theorem kit_ref {C D : Addr} {b : Bool} (ne : (Value.ref C == Value.ref D) = false) (hd : PySem.W.hasDictIn K D = true) (ty : PySem.W.typeIn K (.ref D) = some (.type "type")) (s : PySem.W.subIn K (.ref C) (.ref D) = some b) : PySem.W.kitOne K (.ref C) (.ref D) = some b := by
  unfold PySem.W.kitOne
  rw [if_neg (by rw [ne]; decide)]
  obtain ⟨cd, hc, _⟩ := PySem.W.any_some hd
  have e2 : ((PySem.W.clsIn K D).isSome && PySem.W.typeIn K (.ref D) == some (.type "type")) = true := by rw [hc, ty]; rfl
  show (if ((PySem.W.clsIn K D).isSome && PySem.W.typeIn K (.ref D) == some (.type "type")) = true then PySem.W.subIn K (.ref C) (.ref D) else none) = some b
  rw [if_pos e2]
  exact s
theorem kit_VE {C : Addr} {b : Bool} (s : PySem.W.subIn K (.ref C) (.type "ValueError") = some b) : PySem.W.kitOne K (.ref C) (.type "ValueError") = some b := by
  unfold PySem.W.kitOne
  rw [if_neg (fun z => by cases eq_of_beq z)]
  show (if PySem.W.kitMeta "ValueError" = true then PySem.W.subIn K (.ref C) (.type "ValueError") else none) = some b
  rw [if_pos (by decide +kernel)]
  exact s
end
/-! ### clauses by what is known of names -/
section
variable {X : Cx} {tv : List Nat}
theorem hd_plain {x : Str} {cat : Str → Option Bool} {ts : Addr → DTS} {tvs : List Nat} {b₀ : Stmt} {suite : List Stmt} {np pos' : Pos} {hds : List ExceptHandler} {l : List Hd} (g : Gl X x) (nd : (x == ("__debug__" : Str)) = false) (h : ∃ c, X.mg x = some c ∧ CatOk X.K cat c)
    (hs : ∀ (a : Addr) (pn : List (Addr × Obj)), DSs (X.suite a pn) (b₀ :: suite) tvs (ts a)) (sub : ∀ j, j ∈ tvs → j ∈ tv) (r : HdOk X tv hds l) : HdOk X tv (.ExceptHandler (some (.Name x np)) none (b₀ :: suite) pos' :: hds) (⟨cat, none, ts⟩ :: l) := by
  obtain ⟨c, m, k⟩ := h
  exact .plain ⟨g, nd, .inl m⟩ k hs sub r
theorem hd_as {x n : Str} (i : Nat) {cat : Str → Option Bool} {ts : Addr → DTS} {tvs : List Nat} {b₀ : Stmt} {suite : List Stmt} {np pos' : Pos} {hds : List ExceptHandler} {l : List Hd} (g : Gl X x) (nd : (x == ("__debug__" : Str)) = false) (h : ∃ c, X.mg x = some c ∧ CatOk X.K cat c)
    (hN : X.N.Nodup) (hi : X.N[i]? = some n) (hl : X.env.kindOf n = some .local)
    (hs : ∀ (a : Addr) (pn : List (Addr × Obj)), DSs (X.suite a pn) (b₀ :: suite) tvs (ts a)) (sub : ∀ j, j ∈ tvs → j ∈ tv) (hit : i ∈ tv) (r : HdOk X tv hds l) : HdOk X tv (.ExceptHandler (some (.Name x np)) (some n) (b₀ :: suite) pos' :: hds) (⟨cat, some i, ts⟩ :: l) := by
  obtain ⟨c, m, k⟩ := h
  exact .as hN hi hl ⟨g, nd, .inl m⟩ k hs sub hit r
theorem do_isi1 {x : Str} {a : Expr} {ta : DT} {cat : Str → Option Bool} {p p2 pos : Pos} (hg : Gl X "isinstance") (hm : X.mg "isinstance" = none) (g : Gl X x) (nd : (x == ("__debug__" : Str)) = false) (h : ∃ C, X.mg x = some (.ref C) ∧ IsOk X.K cat [.ref C]) (ha : DO X a ta)
    (he : starEach [a, .Name x p2] X.env = (false, eval a X.env) :: starEach [.Name x p2] X.env := by rfl) (hpl : (backTo pos (starEach [.Name x p2] X.env)).any (·.1) = false := by rfl) (he2 : starEach [.Name x p2] X.env = (false, eval (.Name x p2) X.env) :: starEach [] X.env := by rfl) :
    DO X (.Call (.Name "isinstance" p) [a, .Name x p2] [] pos) (dIsiE cat ta) := by
  obtain ⟨C, m, k⟩ := h
  exact do_isiE hg hm (pe_glob (v := .ref C) g m rfl nd) (.own C) k ha he hpl he2
theorem do_isiV {a : Expr} {ta : DT} {cat : Str → Option Bool} {p p2 pos : Pos} (hg : Gl X "isinstance") (hm : X.mg "isinstance" = none) (g : Gl X "ValueError") (mv : X.mg "ValueError" = none) (h : IsOk X.K cat [.type "ValueError"]) (ha : DO X a ta)
    (he : starEach [a, .Name "ValueError" p2] X.env = (false, eval a X.env) :: starEach [.Name "ValueError" p2] X.env := by rfl) (hpl : (backTo pos (starEach [.Name "ValueError" p2] X.env)).any (·.1) = false := by rfl) (he2 : starEach [.Name "ValueError" p2] X.env = (false, eval (.Name "ValueError" p2) X.env) :: starEach [] X.env := by rfl) :
    DO X (.Call (.Name "isinstance" p) [a, .Name "ValueError" p2] [] pos) (dIsiE cat ta) :=
  do_isiE hg hm (pe_bltn (v := .ty "ValueError") g mv (by decide +kernel) rfl) (.ty _) h ha he hpl he2
end
/-! ### steps -/
def goneQ (i : Nat) (n : Env → Prop) : Env → Prop := fun e => n (e.set i .hole)
def goneR (i : Nat) (r : D → Env → Prop) : D → Env → Prop := fun d e => r d (e.set i .hole)
section
variable {env e : Env} {Q : Opd → Env → Prop} {E : EK} {t : DT} {n b c : Env → Prop} {r : D → Env → Prop} {s s2 : DTS} {sa : Addr → DTS} {l : List Hd} {d : D} {cat ct : Str → Option Bool} {ok : Str → Bool} {f nm : Str} {y : Option (Str × D)} {i : Nat}
instance : Stp (dTry l s ⟨n, r, b, c⟩ env E) (dnQ (s ⟨n, r, b, c⟩ env (dHd ⟨n, r, b, c⟩ E l))) := ⟨fun h => h⟩
instance : Stp (dHd ⟨n, r, b, c⟩ E [] nm y e) (dnQ (E nm y e)) := ⟨fun h => h⟩
instance hdP : Stp (dHd ⟨n, r, b, c⟩ E (⟨ct, none, sa⟩ :: l) nm y e) (orQ (eqQ (ct nm = some true) (dnQ (∀ a, sa a ⟨n, r, b, c⟩ e EF))) (eqQ (ct nm = some false) (dnQ (dHd ⟨n, r, b, c⟩ E l nm y e)))) := ⟨fun h => by
  rcases h with ⟨h1, h2⟩ | ⟨h1, h2⟩
  · exact ⟨true, h1, fun _ => h2, fun z => by cases z⟩
  · exact ⟨false, h1, fun z => (by cases z), fun _ => h2⟩⟩
instance hdA : Stp (dHd ⟨n, r, b, c⟩ E (⟨ct, some i, sa⟩ :: l) nm y e) (orQ (exQ fun (e' : Addr → Env) => eqQ (ct nm = some true) (nfQ (∀ a, e.set i (exnD a nm y) = e' a) (blQ (i < e.length) (dnQ (∀ a, sa a ⟨goneQ i n, goneR i r, goneQ i b, goneQ i c⟩ (e' a) EF))))) (eqQ (ct nm = some false) (dnQ (dHd ⟨n, r, b, c⟩ E l nm y e)))) := ⟨fun h => by
  rcases h with ⟨e', h1, h2, h3, h4⟩ | ⟨h1, h2⟩
  · refine ⟨true, h1, fun _ => ⟨h3, fun a => ?_⟩, fun z => by cases z⟩
    rw [h2 a]
    exact h4 a
  · exact ⟨false, h1, fun z => (by cases z), fun _ => h2⟩⟩
instance : Stp (goneQ i n e) (exQ fun (e' : Env) => nfQ (e.set i .hole = e') (dnQ (n e'))) := ⟨fun h => exE h fun e' h => by obtain ⟨h1, h2⟩ := h; subst h1; exact h2⟩
instance : Stp (goneR i r d e) (exQ fun (e' : Env) => nfQ (e.set i .hole = e') (dnQ (r d e'))) := ⟨fun h => exE h fun e' h => by obtain ⟨h1, h2⟩ := h; subst h1; exact h2⟩
instance : Stp (dRaise nm f t ⟨n, r, b, c⟩ env E) (dnQ (t env (kVal fun d e1 => E nm (some (f, d)) e1) E)) := ⟨fun h => h⟩
instance : Stp (dRaise0 nm ⟨n, r, b, c⟩ env E) (dnQ (E nm none env)) := ⟨fun h => h⟩
instance fldP : Stp (dFld ok i f env Q E) (orQ (exQ fun (ea : Addr) => exQ fun (nm : Str) => exQ fun (x : PD) => eqQ (dj env[i]? = .exn ea nm f (.p x)) (eqQ (ok nm = true) (dnQ (Q (.val (.p x)) env))))
    (exQ fun (ea : Addr) => exQ fun (nm : Str) => exQ fun (ds : List D) => exQ fun (e' : Env) => eqQ (dj env[i]? = .exn ea nm f (.lst ds)) (eqQ (ok nm = true) (nfQ (env.set i (.exn ea nm f .hole) = e') (dnQ (Q (.val (.lst ds)) e')))))) := ⟨fun h => by
  unfold dFld
  rcases h with ⟨ea, nm, x, h1, h2, h3⟩ | ⟨ea, nm, ds, e', h1, h2, h3, h4⟩
  · rw [h1]; exact ⟨h2, rfl, h3⟩
  · rw [h1]; subst h3; exact ⟨h2, rfl, h4⟩⟩
def kIsE (cat : Str → Option Bool) (Q : Opd → Env → Prop) : Opd → Env → Prop := fun o e1 => match o.get e1 with
  | .exn _ n _ _ => ∃ b, cat n = some b ∧ Q (.val (.p (.bool b))) e1
  | _ => False
instance : Stp (dIsiE cat t env Q E) (dnQ (t env (kIsE cat Q) E)) := ⟨fun h => h⟩
instance {o : Opd} : Stp (kIsE cat Q o e) (exQ fun (ea : Addr) => exQ fun (nm : Str) => exQ fun (f : Str) => exQ fun (y : D) => exQ fun (b : Bool) => eqQ (o.get e = .exn ea nm f y) (eqQ (cat nm = some b) (dnQ (Q (.val (.p (.bool b))) e)))) := ⟨fun h => by
  obtain ⟨ea, nm, f, y, b, h1, h2, h3⟩ := h
  unfold kIsE
  rw [h1]; exact ⟨b, h2, h3⟩⟩
end
end Dv

set_option Elab.async false
set_option linter.all false
set_option maxRecDepth 100000
/-! Dv, part AF: objects of the program's own classes whose fields are plain: reading, storing, making, methods. -/
namespace Dv
open PySem PySem.Spec PyProof.Rows L2
/-! ### fields -/
def attrV (f : Str) : List Str → List D → Option D
  | g :: ns, x :: vs => if g = f then some x else attrV f ns vs
  | _, _ => none
def putN (f : Str) : List Str → List Str
  | [] => [f]
  | g :: ns => if g = f then g :: ns else g :: putN f ns
def putV (f : Str) (d : D) : List Str → List D → List D
  | [], _ => [d]
  | g :: ns, x :: vs => if g = f then d :: vs else x :: putV f d ns vs
  | _ :: _, [] => []
theorem putF_fst (f : Str) (v : V) : ∀ fs : List (Str × V), (putF f v fs).map (·.1) = putN f (fs.map (·.1))
  | [] => rfl
  | (g, x) :: r => by
    show ((if g = f then (g, v) :: r else (g, x) :: putF f v r) : List (Str × V)).map (·.1) = _
    show _ = if g = f then g :: r.map (·.1) else g :: putN f (r.map (·.1))
    by_cases c : g = f
    · rw [if_pos c, if_pos c]; rfl
    · rw [if_neg c, if_neg c, List.map_cons, putF_fst f v r]
section
variable {K : PySem.W.Frag} {S F : Ft} {H : Hp}
theorem Rs.putV {f : Str} {v : V} {x : PD} (r : RP K S H v x) : ∀ {fs : List (Str × V)} {ds : List D} {F : Ft}, Rs K S H (fs.map (·.2)) ds F → Rs K S H ((putF f v fs).map (·.2)) (Dv.putV f (.p x) (fs.map (·.1)) ds) F
  | [], ds, F, h => by
    cases h
    exact .cons (F1 := Em) (F2 := Em) (.p r) .nil (fun _ z => z.elim) (fun _ z => z.elim) fun _ z => z.elim
  | (g, y) :: rest, d :: ds, F, h => by
    cases h with
    | cons a b c e q =>
      show Rs K S H (((if g = f then (g, v) :: rest else (g, y) :: putF f v rest) : List (Str × V)).map (·.2)) (if g = f then .p x :: ds else d :: Dv.putV f (.p x) (rest.map (·.1)) ds) F
      by_cases z : g = f
      · rw [if_pos z, if_pos z]
        exact .cons (F1 := Em) (.p r) b (fun _ z => z.elim) e fun _ z => z.elim
      · rw [if_neg z, if_neg z]
        exact .cons a (Rs.putV r b) c e q
theorem Rs.attr {f : Str} {x : PD} : ∀ {fs : List (Str × V)} {ds : List D} {F : Ft}, Rs K S H (fs.map (·.2)) ds F → attrV f (fs.map (·.1)) ds = some (.p x) → ∃ v, fs.lookup f = some v ∧ RP K S H v x
  | [], ds, F, h, e => by cases h; cases e
  | (g, y) :: rest, d :: ds, F, h, e => by
    cases h with
    | cons a b _ _ _ =>
      have e : (if g = f then some d else attrV f (rest.map (·.1)) ds) = some (.p x) := e
      by_cases z : g = f
      · rw [if_pos z] at e
        cases e
        cases a with
        | p a => exact ⟨y, by rw [← z]; simp [List.lookup], a⟩
      · rw [if_neg z] at e
        obtain ⟨v, h1, h2⟩ := Rs.attr b e
        have ne : (f == g) = false := by simpa using fun q => z q.symm
        exact ⟨v, by rw [List.lookup_cons, ne]; exact h1, h2⟩
end
/-- the classes whose field f may be read and stored -/
def AttrOk (K : PySem.W.Frag) (ok : Str → Bool) (f : Str) : Prop := ∀ C c, CN K c C → ok c = true → Cls K C ∧ NoAttr K C f
def attrQ (ok : Str → Bool) (f : Str) (e : Env) (Q : Opd → Env → Prop) (d : D) : Prop := match d with
  | .ins c ns vs => ok c = true ∧ ∃ x, attrV f ns vs = some (.p x) ∧ Q (.val (.p x)) e
  | _ => False
def dAttr (ok : Str → Bool) (t : DT) (f : Str) : DT := fun env Q E => t env (fun o e1 => attrQ ok f e1 Q (o.get e1)) E
section
variable {X : Cx} {e value : Expr} {te tv : DT} {f x : Str} {ok : Str → Bool} {pos pos' p : Pos}
theorem do_attr (hok : AttrOk X.K ok f) (he : DO X e te) (hb : attributeBase e f X.env (eval e X.env) = eval e X.env := by rfl) : DO X (.Attribute e f pos) (dAttr ok te f) := by
  refine ⟨fun W tk σ S F H env Q E kh w es hx q => toE (pe_fld (we X e) hb) ?_⟩
  refine (he.run W tk σ S F H env _ E kh w es hx q).mono fun v H1 kh1 ⟨S1, F1, G1, o, e1, n1, es1, ov, q1⟩ => ?_
  have q1 : attrQ ok f e1 Q (o.get e1) := q1
  cases z : o.get e1 with
  | ins c ns vs =>
    rw [z] at q1
    obtain ⟨h1, y, h2, h3⟩ := q1
    obtain ⟨F2, r⟩ := ov.r kh1 es1 (by rw [z]; intro c; cases c)
    rw [z] at r
    cases r with
    | @ins a C dx _ fs _ _ _ cn ha _ _ rs =>
      obtain ⟨cl, na⟩ := hok C c cn h1
      obtain ⟨u, l, rp⟩ := rs.attr h2
      exact ⟨a, C, dx, fs, u, rfl, ha, cl, na, l, S1, F1, Em, .val (.p y), e1, n1.e, es1, R.p rp, h3⟩
  | _ => rw [z] at q1; exact q1.elim
/-- self.f = e, a plain value -/
def dSetA (ok : Str → Bool) (i : Nat) (f : Str) (tv : DT) : DTS := fun D env E => tv env (fun o e1 => match o with
  | .val (.p x) => match dj e1[i]? with
    | .ins c ns vs => ok c = true ∧ vs.length < 900 ∧ D.nx (e1.set i (.ins c (putN f ns) (putV f (.p x) ns vs)))
    | _ => False
  | _ => False) E
theorem ds_setA (hok : AttrOk X.K ok f) (i : Nat) (hv : DO X value tv) (hs : swapsWith value (some (.Attribute (.Name x p) f pos')) pos.line X.env = pure false) (hN : X.N[i]? = some x := by rfl)
    (hvi : Vis X.env.scope x := by first | exact Or.inl rfl | exact Or.inr (Or.inl rfl) | exact Or.inr (Or.inr rfl)) (hd : (x == ("__debug__" : Str)) = false := by decide) (hcd : (x == ("__classdict__" : Str)) = false := by decide) :
    DS X (.Assign [.Attribute (.Name x p) f pos'] value pos) [] (dSetA ok i f tv) := by
  refine ⟨fun W tk σ S F H env D E kh hl w es hx q => toS (ps_fld (pe_var hN hvi hd hcd) (we X value) hs) ?_⟩
  refine (hv.run W tk σ S F H env _ E kh w es hx.eq q).mono fun v H1 kh1 ⟨S1, F1, G1, o, e1, n1, es1, ov, q1⟩ => ?_
  cases o with
  | ref _ _ => exact q1.elim
  | val d =>
    cases d with
    | p y =>
      have ov : R X.K S1 H1 v (.p y) G1 := ov
      have rp : RP X.K S1 H1 v y := by cases ov with | p r => exact r
      have q1 : (match dj e1[i]? with
        | .ins c ns vs => ok c = true ∧ vs.length < 900 ∧ D.nx (e1.set i (.ins c (putN f ns) (putV f (.p y) ns vs)))
        | _ => False) := q1
      cases z : dj e1[i]? with
      | ins c ns vs =>
        rw [z] at q1
        obtain ⟨h1, h2, h3⟩ := q1
        obtain ⟨u, Fa, Fb, eu, r, sa, sb, dab, put, _⟩ := es1.slot i (by rw [z]; intro c; cases c)
        rw [z] at r
        refine ⟨u, oj_get eu, ?_⟩
        cases r with
        | @ins a C dx _ fs _ _ F' cn ha hF hF' rs =>
          obtain ⟨cl, na⟩ := hok C c cn h1
          have ln := Rs.length _ rs
          refine ⟨a, C, dx, fs, rfl, ha, cl, na, by rw [List.length_map] at ln; omega, ?_⟩
          have ms : MuO (H1 a) := by rw [ha]; trivial
          have nS : ¬ S1 a := fun c => n1.w.sf a c (sa a hF)
          have n2 := n1.mutF (o := .ins C dx (putF f v fs)) (sa a hF) trivial
          have kpF : Kp S1 F' H1 (upd H1 a (.ins C dx (putF f v fs))) := kp_upd (fun c => (hF' a c).2 rfl) nS ms
          have rs' := Rs.kp (H' := upd H1 a (.ins C dx (putF f v fs))) Sub.refl _ kpF (rs.putV (f := f) rp)
          have r' : R X.K S1 (upd H1 a (.ins C dx (putF f v fs))) (.ref a) (.ins c (putN f (fs.map (·.1))) (putV f (.p y) (fs.map (·.1)) vs)) Fa := by
            rw [← putF_fst f v fs]
            exact .ins cn upd_same hF hF' rs'
          have es2 := put S1 (upd H1 a (.ins C dx (putF f v fs))) Fa _ (kp_upd (fun c => dab a hF c) nS ms) Sub.refl r' dab
          exact ⟨fun _ _ => rfl, S1, F1, _, ⟨n2.keep, n2.ss, n2.sn, n2.fn, fun _ c => c.elim, n2.w.e⟩, es2.wide fun b c => c.elim (sa b) (sb b), h3⟩
      | _ => rw [z] at q1; exact q1.elim
    | _ => exact q1.elim
end
end Dv

set_option Elab.async false
set_option linter.all false
set_option maxRecDepth 100000
/-! Dv, part AG: methods and the making of objects. -/
namespace Dv
open PySem PySem.Spec PyProof.Rows L2
/-- a method as the written part has it -/
structure MetAt (K : PySem.W.Frag) (cls m : Str) (st : Stmt) (ps : List Str) (C f : Addr) (fd : FuncData) : Prop where
  named : CN K cls C
  cl : Cls K C
  me : Meth K C m f
  bd : Binds K fd ps []
/-- a method that keeps its promise -/
structure KnM (P : Program) (w : World) (K : PySem.W.Frag) (mg : Str → Option Value) (base : Heap) (k : Nat) (cls m : Str) (st : Stmt) (ps : List Str) (fD : FD) : Prop where
  ex : ∃ C f fd, MetAt K cls m st ps C f fd ∧ FnOk P w K mg base (L2N.CX P w) k f fd ps (SpD K ps.length fD)
  hn : ∀ ds Q E, fD ds Q E → ds.length = ps.length
/-- an object of the class, without a field of this name -/
def isIns (cls m : Str) : D → Prop
  | .ins c ns _ => c = cls ∧ ns.contains m = false
  | .opi c ns _ => c = cls ∧ ns.contains m = false
  | _ => False
theorem isIns.at {cls m : Str} {K : PySem.W.Frag} {S F : Ft} {H : Hp} {v : V} {d : D} (h : isIns cls m d) (r : R K S H v d F) : ∃ a C dx fs, v = .ref a ∧ CN K cls C ∧ H a = some (.ins C dx fs) ∧ (fs.map (·.1)).contains m = false := by
  cases r with
  | @ins a C dx _ fs _ _ _ cn ha _ _ _ => obtain ⟨rfl, hn⟩ := h; exact ⟨a, C, dx, fs, rfl, cn, ha, hn⟩
  | @opi a C dx _ fs _ _ cn _ ha _ => obtain ⟨rfl, hn⟩ := h; exact ⟨a, C, dx, fs, rfl, cn, ha, hn⟩
  | _ => exact h.elim
def dCallM (cls m : Str) (f : FD) (to : DT) (tr : DTA) : DT := fun env Q E => to env (fun o e0 => isIns cls m (o.get e0) ∧ tr e0 (fun os e1 => ((slots (o :: os)).Nodup ∧ okR (o :: os) e1) ∧
  f ((o :: os).map (Opd.get e1)) (fun r ds' => Q (.val r) (putAll (o :: os) ds' e1)) (fun C x ds' => E C x (putAll (o :: os) ds' e1))) E) E
theorem lookup_no {f : Str} : ∀ {fs : List (Str × V)}, (fs.map (·.1)).contains f = false → fs.lookup f = none
  | [], _ => rfl
  | (g, x) :: r, h => by
    rw [List.map_cons, List.contains_cons, Bool.or_eq_false_iff] at h
    rw [List.lookup_cons, h.1]
    exact lookup_no h.2
section
variable {X : Cx} {k j : Nat} {cls m : Str} {st : Stmt} {ps : List Str} {fD : FD} {o e : Expr} {es : List Expr} {to : DT} {tr : DTA} {apos pos : Pos}
theorem do_meth {pl : Sem Bool} (G : KnM X.prog X.w X.K X.mg X.base j cls m st ps fD) (hr : Room k X.A) (hj : j ≤ k) (ho : DO X o to) (ha : DA X (e :: es) tr)
    (hst : starEach (e :: es) X.env = (false, eval e X.env) :: starEach es X.env := by rfl) (hpl : (backTo pos (starEach es X.env)).any (·.1) = false := by rfl)
    (ht : eval (.Call (.Attribute o m apos) (e :: es) [] pos) X.env = (eval o X.env >>= fun ov => standAt apos.atName >>= fun _ => holding [ov] (getMethod ov m pl) >>= fun fm => callWith pos fm.1 fm.2 (backTo pos (starEach (e :: es) X.env)) (backToKw pos (keywordEach [] X.env))) := by rfl) :
    DO X (.Call (.Attribute o m apos) (e :: es) [] pos) (dCallM cls m fD to tr) := by
  obtain ⟨C, f, fd, M, F⟩ := G.ex
  refine ⟨fun W tk σ S Fr H env Q E kh w hs hx q pins s I => ?_⟩
  refine PySem.W.methodCall_KW (pl := pl) (thn (ho.run W tk σ S Fr H env _ E kh w hs hx q pins s I) fun u s1 z => ?_) ht
  obtain ⟨x, H1, I1, rx, S1, F1, G1, o1, e1, n1, es1, ov, q1, q2⟩ := z
  have kh1 := kh_of I1
  have ne : o1.get e1 ≠ .hole := fun z => by rw [z] at q1; exact q1
  obtain ⟨Fz, r⟩ := ov.r kh1 es1 ne
  obtain ⟨a, C', dx, fs, ev, cn, hH, hn⟩ := q1.at r
  subst ev
  · · have eC := cn.eq M.named
      subst eC
      obtain rfl : u = Value.ref a := rx
      refine getmeth_ok I1 hH M.cl M.me (lookup_no hn) ?_
      refine PySem.W.callWith_K (h₀ := X.base) I.ok.mod.kin M.me.kp ?_ hst hpl
      refine thn (ha.run W tk σ S1 F1 H1 e1 _ E kh1 n1.w.e es1 (hx.on n1) q2 pos pins s1 I1) fun us s2 z2 => ?_
      obtain ⟨ws, H2, I2, rw2, S2, F2, G2, os, e2, n2, es2, ovs, ⟨nd, okk⟩, q3⟩ := z2
      refine ⟨I2.kIn, ?_⟩
      have kh2 := kh_of I2
      have n12 := n1.seq n2
      have ovv : OVs X.K S2 H2 σ (.ref a :: ws) (o1 :: os) (Or2 G1 G2) := .cons (ov.kp (n2.kpG n1.w) n2.ss) ovs subO1 subO2 fun b h1 h2 => by
        rcases n2.gn b h2 with h | h
        · exact n1.w.fg b h h1
        · exact (n1.w.gm b h1).ne h
      obtain ⟨Fa, Fr2, rs2, sa, sr, dar, cl⟩ := take_args kh2 es2 ovv n12.w.fg nd okk
      have wa : WF S2 Fa Em H2 := ⟨fun b h1 h2 => (sa b h2).elim (n12.w.sf b h1) (n12.w.sg b h1), fun _ _ z => z.elim, fun _ _ z => z.elim, n12.w.sd, fun b h => (sa b h).elim (n12.w.fm b) (n12.w.gm b), fun _ z => z.elim⟩
      refine run_fnS (E := WE W) F (hr.mono hj) M.bd (L2N.passAt tk.n σ) I2 (.cons (show RelV (.ref a) (.ref a) from rfl) rw2) ⟨S2, Fa, _, _, _, G.hn _ _ _ q3, wa, rs2, q3, fun v H' S' F3 G3 r ds' n3 rs' rv qd => ?_, fun Cx nc d y ds' S' F3 G3 H' n3 rs' xr cn2 qd => ?_⟩
      · obtain ⟨n4, kp, dj⟩ := call_step n12 sa sr dar n3
        exact ⟨S', _, G3, .val r, _, n4, cl S' H' ds' F3 kp n3.ss rs' dj, rv, qd⟩
      · obtain ⟨n4, kp, dj⟩ := call_step n12 sa sr dar n3
        exact hx σ S' _ G3 H' Cx nc d y _ rfl n4 (cl S' H' ds' F3 kp n3.ss rs' dj) xr cn2 qd
theorem do_meth0 {pl : Sem Bool} (G : KnM X.prog X.w X.K X.mg X.base j cls m st ps fD) (hr : Room k X.A) (hj : j ≤ k) (ho : DO X o to)
    (ht : eval (.Call (.Attribute o m apos) [] [] pos) X.env = (eval o X.env >>= fun ov => standAt apos.atName >>= fun _ => holding [ov] (getMethod ov m pl) >>= fun fm => callWith pos fm.1 fm.2 (backTo pos (starEach [] X.env)) (backToKw pos (keywordEach [] X.env))) := by rfl) :
    DO X (.Call (.Attribute o m apos) [] [] pos) (dCallM cls m fD to dNil) := by
  obtain ⟨C, f, fd, M, F⟩ := G.ex
  refine ⟨fun W tk σ S Fr H env Q E kh w hs hx q pins s I => ?_⟩
  refine PySem.W.methodCall_KW (pl := pl) (thn (ho.run W tk σ S Fr H env _ E kh w hs hx q pins s I) fun u s1 z => ?_) ht
  obtain ⟨x, H1, I1, rx, S1, F1, G1, o1, e1, n1, es1, ov, q1, q2⟩ := z
  have kh1 := kh_of I1
  have ne : o1.get e1 ≠ .hole := fun z => by rw [z] at q1; exact q1
  obtain ⟨Fz, r⟩ := ov.r kh1 es1 ne
  obtain ⟨a, C', dx, fs, ev, cn, hH, hn⟩ := q1.at r
  subst ev
  · · have eC := cn.eq M.named
      subst eC
      obtain rfl : u = Value.ref a := rx
      refine getmeth_ok I1 hH M.cl M.me (lookup_no hn) ?_
      obtain ⟨⟨nd, okk⟩, q3⟩ := q2
      have ovv : OVs X.K S1 H1 σ [.ref a] [o1] (Or2 G1 Em) := .cons ov .nil subO1 subO2 fun _ _ z => z
      obtain ⟨Fa, Fr2, rs2, sa, sr, dar, cl⟩ := take_args kh1 es1 ovv (fun b h1 h2 => h2.elim (n1.w.fg b h1) fun z => z) nd okk
      have sa' : Sub Fa (Or2 F1 G1) := fun b h => (sa b h).elim .inl fun h => h.elim .inr fun z => z.elim
      have wa : WF S1 Fa Em H1 := ⟨fun b h1 h2 => (sa' b h2).elim (n1.w.sf b h1) (n1.w.sg b h1), fun _ _ z => z.elim, fun _ _ z => z.elim, n1.w.sd, fun b h => (sa' b h).elim (n1.w.fm b) (n1.w.gm b), fun _ z => z.elim⟩
      refine PySem.W.callWith_K0 I1.kIn M.me.kp ?_
      refine run_fnS (E := WE W) F (hr.mono hj) M.bd (L2N.passAt tk.n σ) I1 (.cons (show RelV (.ref a) (.ref a) from rfl) .nil) ⟨S1, Fa, _, _, _, G.hn _ _ _ q3, wa, rs2, q3, fun v H' S' F3 G3 r ds' n3 rs' rv qd => ?_, fun Cx nc d y ds' S' F3 G3 H' n3 rs' xr cn2 qd => ?_⟩
      · obtain ⟨n4, kp, dj⟩ := call_step n1 sa' sr dar n3
        exact ⟨S', _, G3, .val r, _, n4, cl S' H' ds' F3 kp n3.ss rs' dj, rv, qd⟩
      · obtain ⟨n4, kp, dj⟩ := call_step n1 sa' sr dar n3
        exact hx σ S' _ G3 H' Cx nc d y _ rfl n4 (cl S' H' ds' F3 kp n3.ss rs' dj) xr cn2 qd
end
/-! ### making -/
/-- an __init__ that keeps its promise -/
structure KnI (P : Program) (w : World) (K : PySem.W.Frag) (mg : Str → Option Value) (base : Heap) (k : Nat) (cls : Str) (st : Stmt) (ps : List Str) (fD : FD) : Prop where
  ex : ∃ C f fd, CN K cls C ∧ mg cls = some (.ref C) ∧ Mk K C f ∧ Binds K fd ps [] ∧ FnOk P w K mg base (L2N.CX P w) k f fd ps (SpD K ps.length fD)
  hn : ∀ ds Q E, fD ds Q E → ds.length = ps.length
def newQ (cls : Str) (f : FD) (os : List Opd) (e : Env) (Q : Opd → Env → Prop) : Prop := ∃ xs : List PD, os = xs.map (fun x => Opd.val (.p x)) ∧
  f (.ins cls [] [] :: xs.map D.p) (fun r ds' => r = .p .none ∧ ∃ d rest, ds' = d :: rest ∧ Q (.val d) e) (fun _ _ _ => False)
def dNew (cls : Str) (f : FD) (tr : DTA) : DT := fun env Q E => tr env (fun os e1 => newQ cls f os e1 Q) E
theorem plain_args {K : PySem.W.Frag} {S : Ft} {H : Hp} {σ : L2.St} : ∀ {xs : List PD} {vs : List V} {G : Ft}, OVs K S H σ vs (xs.map fun x => Opd.val (.p x)) G → RPs K S H vs xs
  | [], _, _, h => by cases h; exact .nil
  | x :: xs, _, _, h => by
    cases h with
    | cons a b _ _ _ =>
      have a : R K S H _ (.p x) _ := a
      cases a with
      | p a => exact .cons a (plain_args b)
theorem RPs.rs {K : PySem.W.Frag} {S : Ft} {H : Hp} : ∀ {xs : List PD} {vs : List V}, RPs K S H vs xs → Rs K S H vs (xs.map D.p) Em
  | [], _, h => by cases h; exact .nil
  | x :: xs, _, h => by
    cases h with
    | cons a b => exact .cons (F1 := Em) (F2 := Em) (.p a) (RPs.rs b) (fun _ z => z) (fun _ z => z) fun _ z => z.elim
theorem do_new {X : Cx} {k j : Nat} {cls : Str} {st : Stmt} {ps : List Str} {fD : FD} {e : Expr} {es : List Expr} {tr : DTA} {p pos : Pos} (G : KnI X.prog X.w X.K X.mg X.base j cls st ps fD) (hr : Room k X.A) (hj : j + 1 ≤ k) (hg : Gl X cls) (ha : DA X (e :: es) tr)
    (hdb : (cls == ("__debug__" : Str)) = false := by decide) (he : starEach (e :: es) X.env = (false, eval e X.env) :: starEach es X.env := by rfl) (hpl : (backTo pos (starEach es X.env)).any (·.1) = false := by rfl) :
    DO X (.Call (.Name cls p) (e :: es) [] pos) (dNew cls fD tr) := by
  obtain ⟨C, f, fd, cn, hm, M, bd, F⟩ := G.ex
  refine ⟨fun W tk σ S Fr H env Q E kh w hs hx q => toE (pe_make (E := E0) M F (hr.mono hj) hg hm bd .nil passN (wa X (e :: es)) hdb he hpl) ?_⟩
  refine (ha.run W tk σ S Fr H env _ E kh w hs hx q).mono fun vs H1 kh1 ⟨S1, F1, G1, os, e1, n1, es1, ovs, xs, eo, q1⟩ => ?_
  subst eo
  have rp := plain_args ovs
  intro x dx hx0 hd0 hne
  have nS : ∀ b, S1 b → b ≠ x ∧ b ≠ dx := fun b h => ⟨fun z => n1.w.sd b h (by rw [z]; exact hx0), fun z => n1.w.sd b h (by rw [z]; exact hd0)⟩
  have nn : ∀ {b : Addr} {u : HO}, H1 b = some u → upd (upd H1 dx (.own x)) x (.ins C dx []) b = some u := fun {b u} h => by
    rw [upd_ne (fun z => by rw [z, hx0] at h; cases h), upd_ne (fun z => by rw [z, hd0] at h; cases h)]; exact h
  have back : ∀ {b : Addr}, upd (upd H1 dx (.own x)) x (.ins C dx []) b = none → H1 b = none := fun {b} h => by
    cases z : H1 b with
    | none => rfl
    | some u => rw [nn z] at h; cases h
  have kp : ∀ {F0 : Ft}, Kp S1 F0 H1 (upd (upd H1 dx (.own x)) x (.ins C dx [])) := fun b u h _ => nn h
  rw [List.append_nil]
  refine ⟨S1, fun b => b = x, _, _, _, G.hn _ _ _ q1, ⟨fun b h z => (nS b h).1 z, fun _ _ z => z.elim, fun _ _ z => z.elim, fun b h => ?_, fun b z => ?_, fun _ z => z.elim⟩, ?_, q1, fun v H' S' F' Gx r ds' n2 rs' rv qd => ?_, fun _ _ _ _ _ _ _ _ _ _ _ _ _ z => z.elim⟩
  · cases z : H1 b with
    | none => exact absurd z (n1.w.sd b h)
    | some u => rw [nn z]; intro c; cases c
  · subst z; rw [upd_same]; trivial
  · refine .cons (F1 := fun b => b = x) (F2 := Em) ?_ (RPs.rs (RPs.kp (F := Em) kp Sub.refl _ rp)) Sub.refl (fun _ z => z.elim) fun _ _ z => z.elim
    exact .ins (fs := []) (F' := Em) cn upd_same rfl (fun _ z => z.elim) .nil
  · obtain ⟨er, d, rest, ed, q2⟩ := qd
    subst er ed
    cases rs' with
    | @cons _ _ _ _ _ Fd Fe rd _ sd _ _ =>
      have ev : v = .non := by
        cases rv with
        | p rv => cases rv; rfl
      have keep : ∀ a o, H1 a = some o → H' a = some o := fun a o h => n2.keep a o (nn h) fun z => by rw [z, hx0] at h; cases h
      have fnew : ∀ a, F' a → H1 a = none := fun a h => by
        rcases n2.fn a h with z | z
        · rw [z]; exact hx0
        · exact back z
      have snew : ∀ a, S' a → S1 a ∨ H1 a = none := fun a h => by
        rcases n2.sn a h with z | z | z
        · exact .inl z
        · rw [z]; exact .inr hx0
        · exact .inr (back z)
      have nm : Nx S1 F1 H1 S' F1 Fd H' := {
        keep := fun a o h _ => keep a o h
        ss := n2.ss
        sn := fun a h => (snew a h).elim .inl fun z => .inr (.inr z)
        fn := fun a h => .inl h
        gn := fun a h => .inr (fnew a (sd a h))
        w := ⟨fun a h1 h2 => (snew a h1).elim (fun z => n1.w.sf a z h2) fun z => (n1.w.fm a h2).ne z, fun a h1 h2 => n2.w.sf a h1 (sd a h2), fun a h1 h2 => (n1.w.fm a h1).ne (fnew a (sd a h2)), n2.w.sd, fun a h => by
          obtain ⟨u, e⟩ := (n1.w.fm a h).some
          rw [keep a u e, ← e]; exact n1.w.fm a h, fun a h => n2.w.fm a (sd a h)⟩ }
      exact ⟨ev, S', F1, Fd, .val d, e1, n1.seq0 nm, es1.kp (fun a o h _ => keep a o h) n2.ss, rd, q2⟩
end Dv

set_option Elab.async false
set_option linter.all false
set_option maxRecDepth 100000
/-! Dv, part AH: methods by their bodies; readings of objects, step by step. -/
namespace Dv
open PySem PySem.Spec PyProof.Rows L2
section
variable {P : Program} {w : World} {K : PySem.W.Frag} {mg : Str → Option Value} {base : Heap}
theorem kn_m {k : Nat} {cls m q : Str} {st : Stmt} {ps N : List Str} {fD : FD} {tv : List Nat} {t : DTS} (T : ∃ C f fd, MetAt K cls m st ps C f fd ∧ Fun K m q st f fd) (Sc : FnScope N ps (defScope st)) (hn : ∀ ds Q E, fD ds Q E → ds.length = ps.length) (hN : ps.length ≤ N.length)
    (ht : ∀ (f : Addr) (cdv : Value) (A : Around) (outer : List PySem.Env) (s : Shared) (H : Hp) (E : XK), Room k (A.deeper (envOfC q (defScope st) s.heap.objs.size f cdv)) → DSs (cxOf (L2N.CX P w) P w K mg base N q (defScope st) f cdv A outer s H E) (defBody st) tv t)
    (hb : Body t tv N.length fD) : KnM P w K mg base (k + 1) cls m st ps fD := by
  obtain ⟨C, f, fd, M, F⟩ := T
  exact ⟨⟨C, f, fd, M, fn_d F Sc hn hN fun cdv A outer s H E hr => ⟨tv, t, ht f cdv A outer s H E hr, hb⟩⟩, hn⟩
theorem kn_i {k : Nat} {cls q : Str} {st : Stmt} {ps N : List Str} {fD : FD} {tv : List Nat} {t : DTS} (T : ∃ C f fd, (CN K cls C ∧ mg cls = some (.ref C) ∧ Mk K C f ∧ Binds K fd ps []) ∧ Fun K "__init__" q st f fd) (Sc : FnScope N ps (defScope st)) (hn : ∀ ds Q E, fD ds Q E → ds.length = ps.length) (hN : ps.length ≤ N.length)
    (ht : ∀ (f : Addr) (cdv : Value) (A : Around) (outer : List PySem.Env) (s : Shared) (H : Hp) (E : XK), Room k (A.deeper (envOfC q (defScope st) s.heap.objs.size f cdv)) → DSs (cxOf (L2N.CX P w) P w K mg base N q (defScope st) f cdv A outer s H E) (defBody st) tv t)
    (hb : Body t tv N.length fD) : KnI P w K mg base (k + 1) cls st ps fD := by
  obtain ⟨C, f, fd, ⟨cn, m, mk, bd⟩, F⟩ := T
  exact ⟨⟨C, f, fd, cn, m, mk, bd, fn_d F Sc hn hN fun cdv A outer s H E hr => ⟨tv, t, ht f cdv A outer s H E hr, hb⟩⟩, hn⟩
theorem met_mk {cls m q : Str} {st : Stmt} {ps : List Str} {C f : Addr} {od an : Option Addr} {sl : Array (Option Value)} {oc kV dc pm cd ct : Value} (cl : Cls K C) (cn : PySem.W.nsIn K mainGlobals cls = some (some (.ref C)))
    (a : PySem.W.findIn K (.ref C) m = some (some (.ref f))) (i : PySem.W.isFn K (.ref f) = true) (l : K.lookup f = some ⟨oc, od, .func (PySem.W.fnOf m q (defArgs st) (defBody st) (defScope st) .none kV dc pm an cd ct), sl⟩) (c : PySem.W.codeIn K cd q = true) (k : PySem.W.keepIn K (.ref f) = true)
    (b : ∀ (kV doc pm : Value) (an : Option Addr) (cdv ct : Value) (us : List Value), us.length = ps.length → bindArgs (PySem.W.fnOf m q (defArgs st) (defBody st) (defScope st) .none kV doc pm an cdv ct) ⟨us, []⟩ = pure (ps.zip us)) : ∃ C f fd, MetAt K cls m st ps C f fd ∧ Fun K m q st f fd :=
  let F := fun_mk (st := st) l c k
  ⟨C, f, _, ⟨cn, cl, ⟨a, i, k⟩, F.binds b⟩, F⟩
theorem ini_mk {h : Heap} (X : K.In h) (G : h.Ns mainGlobals mg) {cls q : Str} {st : Stmt} {ps : List Str} {C f : Addr} {od an : Option Addr} {sl : Array (Option Value)} {oc kV dc pm cd ct : Value} (cn : PySem.W.nsIn K mainGlobals cls = some (some (.ref C)))
    (mk : PySem.W.makesIn K C = true) (kc : PySem.W.keepIn K (.ref C) = true) (a : PySem.W.findIn K (.ref C) "__init__" = some (some (.ref f))) (i : PySem.W.isFn K (.ref f) = true)
    (l : K.lookup f = some ⟨oc, od, .func (PySem.W.fnOf "__init__" q (defArgs st) (defBody st) (defScope st) .none kV dc pm an cd ct), sl⟩) (c : PySem.W.codeIn K cd q = true) (k : PySem.W.keepIn K (.ref f) = true)
    (b : ∀ (kV doc pm : Value) (an : Option Addr) (cdv ct : Value) (us : List Value), us.length = ps.length → bindArgs (PySem.W.fnOf "__init__" q (defArgs st) (defBody st) (defScope st) .none kV doc pm an cdv ct) ⟨us, []⟩ = pure (ps.zip us)) :
    ∃ C f fd, (CN K cls C ∧ mg cls = some (.ref C) ∧ Mk K C f ∧ Binds K fd ps []) ∧ Fun K "__init__" q st f fd :=
  let F := fun_mk (st := st) l c k
  ⟨C, f, _, ⟨cn, PySem.W.mg_of X G cn, { makes := mk, init := a, fn := i, kp := kc }, F.binds b⟩, F⟩
end
/-- a def by another name of it -/
theorem do_ka {X : Cx} {k j : Nat} {al nm : Str} {st : Stmt} {ps : List Str} {fD : FD} {p pos : Pos} {e : Expr} {es : List Expr} {tr : DTA} (G : Kn X.prog X.w X.K X.mg X.base j nm st ps fD) (h : X.mg al = X.mg nm) (hr : Room k X.A) (hj : j ≤ k) (hg : Gl X al) (ha : DA X (e :: es) tr)
    (hdb : (al == ("__debug__" : Str)) = false := by decide) (he : starEach (e :: es) X.env = (false, eval e X.env) :: starEach es X.env := by rfl) (hpl : (backTo pos (starEach es X.env)).any (·.1) = false := by rfl) :
    DO X (.Call (.Name al p) (e :: es) [] pos) (dCallF fD tr) := by
  obtain ⟨f, fd, D, F⟩ := G.ex
  exact do_call F G.hn (hr.mono hj) hg (h.trans D.pt) D.fn.kp D.bd ha hdb he hpl
theorem attrOk_one {K : PySem.W.Frag} {x f : Str} {C : Addr} {l : List Str} (a : CN K x C) (cl : Cls K C) (no : PySem.W.findIn K (.ref C) f = some none) (r : AttrOk K (okL l) f) : AttrOk K (okL (x :: l)) f := fun D n cn h => by
  by_cases z : n = x
  · subst z
    rw [cn.eq a]; exact ⟨cl, no⟩
  · exact r D n cn (by simpa [okL, z] using h)
theorem attrOk_nil {K : PySem.W.Frag} {f : Str} : AttrOk K (okL []) f := fun C n _ h => by simp [okL] at h
/-! ### steps -/
def isInsB (cls m : Str) : D → Bool
  | .ins c ns _ => c == cls && !ns.contains m
  | .opi c ns _ => c == cls && !ns.contains m
  | _ => false
theorem isInsB_ok {cls m : Str} {d : D} (h : isInsB cls m d = true) : isIns cls m d := by
  cases d with
  | ins c ns vs =>
    have h : (c == cls && !ns.contains m) = true := h
    rw [Bool.and_eq_true] at h
    exact ⟨by simpa using h.1, by simpa using h.2⟩
  | opi c ns vs =>
    have h : (c == cls && !ns.contains m) = true := h
    rw [Bool.and_eq_true] at h
    exact ⟨by simpa using h.1, by simpa using h.2⟩
  | _ => cases h
section
variable {env e : Env} {Q : Opd → Env → Prop} {E : EK} {t to : DT} {tr : DTA} {n b c : Env → Prop} {r : D → Env → Prop} {d : D} {ok : Str → Bool} {f cls m : Str} {i : Nat} {fD : FD} {o : Opd} {x : PD}
instance : Stp (dAttr ok t f env Q E) (dnQ (t env (fun o e1 => attrQ ok f e1 Q (o.get e1)) E)) := ⟨fun h => h⟩
instance : Stp (attrQ ok f e Q d) (exQ fun (c : Str) => exQ fun (ns : List Str) => exQ fun (vs : List D) => exQ fun (x : PD) => eqQ (d = .ins c ns vs) (eqQ (ok c = true) (eqQ (attrV f ns vs = some (.p x)) (dnQ (Q (.val (.p x)) e))))) := ⟨fun h => by
  obtain ⟨c, ns, vs, x, h1, h2, h3, h4⟩ := h
  subst h1
  exact ⟨h2, x, h3, h4⟩⟩
instance {s2 : DTS} : Stp (dSeq (dSetA ok i f t) s2 ⟨n, r, b, c⟩ env E) (dnQ ((dSetA ok i f t) ⟨fun e1 => s2 ⟨n, r, b, c⟩ e1 E, r, b, c⟩ env E)) := ⟨fun h => h⟩
def kSetA (ok : Str → Bool) (i : Nat) (f : Str) (n : Env → Prop) : Opd → Env → Prop := fun o e1 => match o with
  | .val (.p x) => match dj e1[i]? with
    | .ins c ns vs => ok c = true ∧ vs.length < 900 ∧ n (e1.set i (.ins c (putN f ns) (putV f (.p x) ns vs)))
    | _ => False
  | _ => False
instance : Stp (dSetA ok i f t ⟨n, r, b, c⟩ env E) (dnQ (t env (kSetA ok i f n) E)) := ⟨fun h => h⟩
instance : Stp (kSetA ok i f n (.val d) e) (exQ fun (x : PD) => exQ fun (c : Str) => exQ fun (ns : List Str) => exQ fun (vs : List D) => exQ fun (e' : Env) => eqQ (d = .p x) (eqQ (dj e[i]? = .ins c ns vs) (eqQ (ok c = true) (blQ (vs.length < 900) (nfQ (e.set i (.ins c (putN f ns) (putV f (.p x) ns vs)) = e') (dnQ (n e'))))))) := ⟨fun h => by
  obtain ⟨x, c, ns, vs, e', h1, h2, h3, h4, h5, h6⟩ := h
  subst h1 h5
  show (match dj e[i]? with
    | .ins c ns vs => ok c = true ∧ vs.length < 900 ∧ n (e.set i (.ins c (putN f ns) (putV f (.p x) ns vs)))
    | _ => False)
  rw [h2]
  exact ⟨h3, h4, h6⟩⟩
def cm0 (cls m : Str) (o : Opd) (e0 : Env) (tr : DTA) (f : FD) (Q : Opd → Env → Prop) (E : EK) : Prop := isIns cls m (o.get e0) ∧ tr e0 (fun os e1 => cf0 (o :: os) e1 f Q E) E
instance : Stp (dCallM cls m fD to tr env Q E) (dnQ (to env (fun o e0 => cm0 cls m o e0 tr fD Q E) E)) := ⟨fun h => h⟩
instance : Stp (cm0 cls m o e tr fD Q E) (eqQ (isInsB cls m (o.get e) = true) (dnQ (tr e (fun os e1 => cf0 (o :: os) e1 fD Q E) E))) := ⟨fun h => ⟨isInsB_ok h.1, h.2⟩⟩
instance : Stp (dNew cls fD tr env Q E) (dnQ (tr env (fun os e1 => newQ cls fD os e1 Q) E)) := ⟨fun h => h⟩
theorem new_mk {os : List Opd} (xs : List PD) (ho : os = xs.map fun x => Opd.val (.p x)) (h : fD (.ins cls [] [] :: xs.map D.p) (fun r ds' => r = .p .none ∧ ∃ d rest, ds' = d :: rest ∧ Q (.val d) e) (fun _ _ _ => False)) : newQ cls fD os e Q := ⟨xs, ho, h⟩
end
end Dv

set_option Elab.async false
set_option linter.all false
set_option maxRecDepth 100000
/-! Dv, part AY: list comprehensions whose element lets an exception out, or that run while one is handled. -/
namespace Dv
open PySem PySem.Spec PyProof.Rows L2

/-! ### the air of a comprehension's block -/
section
variable {M : Model} {A : Around} {E : Value → Shared → Prop} {s : Shared} {B : Heap} {de ce : PySem.Env} {l : List PySem.Env} {a C L : Addr} {Z : Obj → Prop}
/-- noted where another frame held it -/
theorem note_over {Q : Unit → Shared → Prop} (hZ : PXN.Steady1 Z) (fr : A.frames = some (de :: l)) (hf : de.frame = some L) (ne : C ≠ L) (h : HandSPX.HeldZ B (de :: l) a Z C s.heap)
    (k : ∀ h', HandSPX.HeldZ B (de :: l) a Z L h' → s.heap.UpToSlots h' → Q () { s with heap := h' }) : wpAny M A (noteFrame (.ref a) de) Q E s := by
  obtain ⟨ground, noa, frames, oe, vs, T, oT, ts, a1, a2, a3, a4, noT, Ta, t1, t2, t3⟩ := h
  have back : ∀ b, b ≠ T → (s.heap.update T (Obj.mapFields (·.setIfInBounds 3 Value.none))).get? b = s.heap.get? b := fun b z => Heap.get?_update_other _ _ (Ne.symm z)
  have notT : ∀ b o, s.heap.get? b = some o → (∀ ws, o.data ≠ .fields ws) → b ≠ T := by
    intro b o e nf z
    subst z
    rw [t1] at e
    cases e
    exact nf ts t2
  have frames2 : (s.heap.update T (Obj.mapFields (·.setIfInBounds 3 Value.none))).FunFrames B (de :: l) := frames.of_keeps fun b o e nf => ⟨o, by rw [back b (notT b o e nf)]; exact e, rfl⟩
  have ground2 : B.StaysIn (s.heap.update T (Obj.mapFields (·.setIfInBounds 3 Value.none))) := fun b o e => by
    rw [back b (fun z => by rw [z, noT] at e; cases e)]
    exact ground b o e
  simp only [noteFrame, hf]
  refine wpAny_bind (wpAny_field a1 a3 a4 ?_)
  have c1 : (Value.ref T != Value.none) = true := by simp
  have c2 : ¬((rawInt C == rawInt L) = true) := by
    simp only [rawInt, beq_iff_eq, Value.int.injEq, and_true]
    exact fun z => ne (Int.ofNat.inj z)
  rw [if_pos c1]
  refine wpAny_bind (wpAny_field t1 t2 t3 ?_)
  rw [if_neg c2]
  refine wpAny_bind (wpAny_setField t1 t2 (Array.getElem?_eq_some_iff.mp t3).1 ?_)
  refine PXN.wpAny_entryZ hZ fr frames2 hf ((back a (Ne.symm Ta)).trans a1) ground2 noa a3 (Array.getElem?_eq_some_iff.mp a4).1 a2 fun h' noted => ?_
  obtain ⟨n1, n2, n3, n4⟩ := noted
  exact k h' ⟨n1, noa, n2, n3⟩ fun b o e nf => n4 b o (by rw [back b (notT b o e nf)]; exact e) nf
/-- noted, whoever has it -/
theorem note_any {Q : Unit → Shared → Prop} (hZ : PXN.Steady1 Z) (fr : A.frames = some (de :: l)) (hf : de.frame = some L) (hc : ce.frame = some L) (h : Sky B (de :: l) a Z C s.heap ∨ HandSPX.HeldZ B (de :: l) a Z L s.heap)
    (k : ∀ h', HandSPX.HeldZ B (de :: l) a Z L h' → s.heap.UpToSlots h' → Q () { s with heap := h' }) : wpAny M A (noteFrame (.ref a) ce) Q E s := by
  have env : noteFrame (.ref a) ce = noteFrame (.ref a) de := noteFrame_env _ (by rw [hc, hf])
  rw [env]
  have again : HandSPX.HeldZ B (de :: l) a Z L s.heap → wpAny M A (noteFrame (.ref a) de) Q E s := fun hh => HandSPX.againZ hf hh.2.2.2 (k s.heap hh (Heap.UpToSlots.refl _))
  rcases h with (⟨g, no, ff, oe, vs, e1, e2, e3, e4⟩ | fly) | held
  · exact PXN.look_newZ hZ fr ff hf e1 g no e3 e4 e2 k
  · rcases fly with fly | held
    · exact PXN.looks_onZ hZ fr hf fly k
    · by_cases ne : C = L
      · subst ne; exact again held
      · exact note_over hZ fr hf ne held k
  · exact again held
end
/-- a ground without one object -/
theorem frames_hide {h B : Heap} {x : Addr} : ∀ {l : List PySem.Env}, h.FunFrames B l → h.FunFrames (PySem.W.hideAll B [x]) l
  | [], _ => trivial
  | _ :: _, ⟨k, ⟨L, o, f1, f2, f3, f4⟩, r⟩ => by
    refine ⟨k, ⟨L, o, f1, ?_, f3, f4⟩, frames_hide r⟩
    cases q : (PySem.W.hideAll B [x]).get? L with
    | none => rfl
    | some u => rw [PySem.W.of_hideAll _ q] at f2; cases f2
theorem hide_none {B : Heap} {x b : Addr} (h : B.get? b = none) : (PySem.W.hideAll B [x]).get? b = none := by
  cases q : (PySem.W.hideAll B [x]).get? b with
  | none => rfl
  | some u => rw [PySem.W.of_hideAll _ q] at h; cases h
/-- the block's names let go -/
theorem held_go {B h1 h2 : Heap} {l : List PySem.Env} {a C L : Addr} {Z : Obj → Prop} {m m2 : Str → Option Value} (h : HandSPX.HeldZ B l a Z L h1) (n1 : h1.Ns C m) (n2 : h2.Ns C m2) (sb : Heap.SameBut C h1 h2) : HandSPX.HeldZ (PySem.W.hideAll B [C]) l a Z L h2 := by
  obtain ⟨ground, noa, frames, oe, vs, T, oT, ts, a1, a2, a3, a4, noT, Ta, t1, t2, t3⟩ := h
  have notC : ∀ {b : Addr} {o : Obj} {ws : Array Value}, h1.get? b = some o → o.data = .fields ws → b ≠ C := by
    intro b o ws e d z
    obtain ⟨o', _, _, e', d', _⟩ := n1
    subst z
    rw [e'] at e
    cases e
    rw [d'] at d
    cases d
  refine ⟨fun b o e => ?_, hide_none noa, frames_hide (Heap.FunFrames.sameBut sb n2 frames), oe, vs, T, oT, ts, ?_, a2, a3, a4, hide_none noT, Ta, ?_, t2, t3⟩
  · have ne : b ≠ C := fun z => by
      rw [z, PySem.W.hideAll_none [C] List.mem_cons_self] at e
      cases e
    rw [sb.2 b ne]
    exact ground b o (PySem.W.of_hideAll _ e)
  · rw [sb.2 a (notC a1 a3)]; exact a1
  · rw [sb.2 T (notC t1 t2)]; exact t1
/-- the context of a comprehension's block: what it lets out, what is pinned -/
abbrev Cx.bx (X : Cx) (scope : Scope) (s : Shared) (H : Hp) (C : Addr) (cl : List (Str × Addr)) (fp : List Addr) (pn : List (Addr × Obj)) (xe : Value → Shared → Prop) : Cx := { X.blk s H scope (compEnvC scope cl C X.env) fp with pn := pn, xe := xe }
/-- the frame that runs -/
def FrOk (X : Cx) (L : Addr) : Prop := X.env.frame = some L ∧ ∃ de l, X.stack = de :: l ∧ de.frame = some L
/-- how a comprehension lets an exception out -/
abbrev outXe (X : Cx) (ce : PySem.Env) : Value → Shared → Prop := notedBy (model X.prog X.w) X.A ce (CompFails (model X.prog X.w) X.A X.xe ce)
theorem takes_bx {X : Cx} {W : WX} {L C : Addr} {pins pn : List (Addr × Obj)} {σ : L2.St} {H : Hp} {s : Shared} {scope : Scope} {cl : List (Str × Addr)} {fp : List Addr} (tk : Takes X W) (hfr : FrOk X L) (I : Inv X pins σ H s) (hfp : ∀ b ∈ fp, FpOk X pins H b) (hC : s.heap.objs.size ≤ C) :
    Takes (Cx.bx X scope s H C cl fp pn (outXe X (compEnvC scope cl C X.env))) (fun c d _ H => W c d σ H) := by
  obtain ⟨hf, de, l, hst, hde⟩ := hfr
  have core : ∀ (t : Shared) (a : Addr) (B : Heap) (sI : Shared) (pins' : List (Addr × Obj)) (σ' : L2.St) (H' : Hp) (cls : Value) (d : Option Addr), Inv (Cx.bx X scope s H C cl fp pn (outXe X (compEnvC scope cl C X.env))) pins' σ' H' sI →
      (∀ b o, sI.heap.get? b = some o → b ∉ frs X.stack → B.get? b = some o) → sI.heap.UpToSlots t.heap → (Sky B X.stack a (L2N.Zn cls d) C t.heap ∨ HandSPX.HeldZ B X.stack a (L2N.Zn cls d) L t.heap) → H' a = none → t.os = sI.os → AllBare t.gens → W cls d σ H' → outXe X (compEnvC scope cl C X.env) (.ref a) t := by
    intro t a B sI pins' σ' H' cls d J nb up sky na os ag w
    rw [hst] at sky
    refine note_any (ce := compEnvC scope cl C X.env) L2N.Zn.steady (by rw [I.ok.frames, hst]) hde hf sky fun h1 held up1 => ?_
    obtain ⟨m, ns, _⟩ := J.loc
    have ns1 : h1.Ns C m := Heap.Ns.upToSlots ns (up.trans up1)
    refine ⟨m, ns1, fun h2 m2 ns2 sb => ?_⟩
    have held2 := held_go held ns1 ns2 sb
    obtain ⟨g2, no2, ff2, tr2⟩ := held2
    obtain ⟨oe, vs, T, oT, ts, e1, e2, e3, e4, e5⟩ := id tr2
    show wpAny _ _ (PySem.passOn _ (.ref a) _) _ _ _
    unfold PySem.passOn
    refine wpAny_bind (wpAny_field e1 e3 e4 ?_)
    have ne : ¬((Value.ref T == Value.none) = true) := by simp
    rw [if_neg ne]
    have last : wpAny (model X.prog X.w) X.A (setFlight (.ref a) (compEnvC scope cl C X.env).frame) (fun _ u => wpAny (model X.prog X.w) X.A (throw (.ref a) : Sem Value) (fun _ _ => False) X.xe u) X.xe { t with heap := h2 } := by
      have fc : (compEnvC scope cl C X.env).frame = some L := hf
      rw [fc]
      refine HandSPX.setFlight_anyZ g2 ff2 tr2 fun h3 g3 ff3 tr3 up3 => wpAny_throw ?_
      refine tk.f _ _ a (PySem.W.hideAll B [C]) { sI with heap := PySem.W.hideAll sI.heap [C] } pins σ H' cls d L rfl hf ?_ (fun b o e nf => ?_) (fun b o e nf => ?_) ⟨g3, no2, by rw [hst]; exact ff3, tr3⟩ na os ag w
      · have J2 : Inv X pins σ H' sI := I.call' (ch := fp) J.os J.base J.hok J.bare fun b hb => ⟨(hfp b hb).2.2.2.1, (hfp b hb).2.1, (hfp b hb).2.2.2.2.1, (hfp b hb).2.2.2.2.2⟩
        have nC : H' C = none := J.free
        have fp2 := I.fpOk (H' := H') hC nC
        obtain ⟨f0, f1, f2, f3, f4, f5⟩ := fp2
        exact J2.turned (t' := sI.toks) (fun b o ne e => PySem.W.hideAll_get [C] e (by simpa using ne)) f0 f1 f3 f4 f5
      · have nb1 := nb b o (PySem.W.of_hideAll _ e) nf
        refine PySem.W.hideAll_get [C] nb1 fun z => ?_
        have z : b = C := by simpa using z
        rw [z, PySem.W.hideAll_none [C] List.mem_cons_self] at e
        cases e
      · have ne : b ≠ C := fun z => by
          rw [z, PySem.W.hideAll_none [C] List.mem_cons_self] at e
          cases e
        obtain ⟨sl, q⟩ := (up.trans up1) b o (PySem.W.of_hideAll _ e) nf
        have q2 : h2.get? b = some { o with slots := sl } := by rw [sb.2 b ne]; exact q
        obtain ⟨sl3, q3⟩ := up3 b _ q2 nf
        exact ⟨sl3, q3⟩
    first
      | exact wpAny_bind (wpAny_pure (wpAny_bind last))
      | exact wpAny_bind last
  refine ⟨fun u t h => ?_, fun u t a B sI pins' σ' H' cls d L' eu fr J nb up held na os ag w => ?_⟩
  · obtain ⟨a, B, sI, pins', σ', H', cls, d, eu, J, nb, up, sky, na, os, ag, w⟩ := h
    subst eu
    exact core t a B sI pins' σ' H' cls d J nb up (.inl sky) na os ag w
  · subst eu
    have fr : X.env.frame = some L' := fr
    rw [hf] at fr
    cases fr
    exact core t a B sI pins' σ' H' cls d J nb up (.inr held) na os ag w

/-! ### walks in a context of a kind -/
/-- an iterator's steps in every context that is good -/
structure WalkG (good : Cx → Prop) (P : Program) (w : World) (K : PySem.W.Frag) (tg : Expr) (J : It) (fp : List Addr) (it : Addr) (tn : Nat → Heap → Prop) : Prop where
  objs : ∀ i h, tn i h → ∀ b ∈ fp, ∃ o, h.get? b = some o ∧ ∀ v, o.data ≠ .cell v
  kept : ∀ i h h', tn i h → (∀ b ∈ fp, ∀ o, h.get? b = some o → h'.get? b = some o) → tn i h'
  more : ∀ (Y : Cx), Y.prog = P → Y.w = w → Y.K = K → good Y → ∀ (i : Nat) (s : Shared) (σ : L2.St) (H : Hp), Inv Y [] σ H s → (∀ b ∈ fp, FpOk Y [] H b) → tn i s.heap → J.go i H →
    wpAny (model P w) Y.A (pyNext (.ref it)) (fun r t => ∃ u, r = some u ∧ wpAny (model P w) Y.A (letOwnedTupleGo tg (.ref it) u) (fun _ t' => ∃ x H', Inv Y [] σ H' t' ∧ RelV x u ∧ J.yld i H x H' ∧ tn (i + 1) t'.heap ∧ ∀ b ∈ fp, H' b = none) Y.xe t) Y.xe s
  ends : ∀ (Y : Cx), Y.prog = P → Y.w = w → Y.K = K → good Y → ∀ (i : Nat) (s : Shared) (σ : L2.St) (H : Hp), Inv Y [] σ H s → (∀ b ∈ fp, FpOk Y [] H b) → tn i s.heap → J.stop i H →
    wpAny (model P w) Y.A (pyNext (.ref it)) (fun r t => r = none ∧ Inv Y [] σ H t) Y.xe s
  same : ∀ (A : Around) (i : Nat) (s : Shared) (Q E : Value → Shared → Prop), tn i s.heap → Q (.ref it) s → wpAny (model P w) A (pyIter (.ref it)) Q E s
abbrev Calm : Cx → Prop := fun Y => Y.calm = true
theorem walk_calm {P : Program} {w : World} {K : PySem.W.Frag} {tg : Expr} {J : It} {fp : List Addr} {it : Addr} {tn : Nat → Heap → Prop} (T : Turn P w K tg J fp it tn) : WalkG Calm P w K tg J fp it tn :=
  ⟨T.obj, T.keep, fun Y h1 h2 h3 g i s σ H I f st go => T.item Y h1 h2 h3 g i [] s σ H Y.xe I f st go, fun Y h1 h2 h3 g i s σ H I f st go => T.done Y h1 h2 h3 g i [] s σ H Y.xe I f st go, T.self⟩
/-- the iterator has come -/
def ItG (good : Cx → Prop) (X : Cx) (pins : List (Addr × Obj)) (σ : L2.St) (tg : Expr) (R : It → Hp → Prop) (itv : Value) (s : Shared) : Prop :=
  ∃ (it : Addr) (fp : List Addr) (tn : Nat → Heap → Prop) (J : It) (H : Hp), itv = .ref it ∧ Inv X pins σ H s ∧ WalkG good X.prog X.w X.K tg J fp it tn ∧ tn 0 s.heap ∧ (∀ b ∈ fp, FpOk X pins H b) ∧ R J H
def wIG (good : Cx → Prop) (X : Cx) (tg iter : Expr) : TI := fun σ H R => ∀ (pins : List (Addr × Obj)) (s : Shared), Inv X pins σ H s →
  wpAny (model X.prog X.w) X.A (eval iter X.env) (fun v t => wpAny (model X.prog X.w) X.A (pyIter v) (ItG good X pins σ tg R) X.xe t) X.xe s
theorem wIG.of {X : Cx} {tg iter : Expr} {σ : L2.St} {H : Hp} {R : It → Hp → Prop} (h : wI X tg iter σ H R) : wIG Calm X tg iter σ H R := fun pins s I =>
  thn (h pins s I) fun v t h1 => thn h1 fun u t' ⟨it, fp, tn, J, H', e, I', T, st, f, q⟩ => ⟨it, fp, tn, J, H', e, I', walk_calm T, st, f, q⟩
theorem wIG.mono {good : Cx → Prop} {X : Cx} {tg iter : Expr} {σ : L2.St} {H : Hp} {R R' : It → Hp → Prop} (h : wIG good X tg iter σ H R) (m : ∀ J H', KH X.K H' → R J H' → R' J H') : wIG good X tg iter σ H R' := fun pins s I =>
  thn (h pins s I) fun v t h1 => thn h1 fun u t' ⟨it, fp, tn, J, H', e, I', T, st, f, q⟩ => ⟨it, fp, tn, J, H', e, I', T, st, f, m J H' (kh_of I') q⟩
structure DIG (good : Cx → Prop) (X : Cx) (tg iter : Expr) (t : DTI) : Prop where
  run : ∀ (W : WX) (_ : Takes X W) (σ : L2.St) (S F : Ft) (H : Hp) (env : Env) (Q : List PD → Ls → Env → Prop) (E : EK), KH X.K H → WF S F Em H → ES X.K S H σ env F → HX X W (Eq σ) S F H E → t env Q E → wIG good X tg iter σ H (QI X.K σ S F H Q)
theorem dig_calm {X : Cx} {tg iter : Expr} {t : DTI} (h : DI X tg iter t) : DIG Calm X tg iter t := ⟨fun W tk σ S F H env Q E kh w es hx q => wIG.of (h.run W tk σ S F H env Q E kh w es hx q)⟩

/-! ### the block -/
def gBx (X : Cx) (scope : Scope) (tg : Expr) : TG := fun v σ H Q => ∀ s0 H0 C cl fp pn xe, wG (Cx.bx X scope s0 H0 C cl fp pn xe) tg v σ H Q
def tBx (X : Cx) (scope : Scope) (ifs : List Expr) : TT := fun σ H Q => ∀ s0 H0 C cl fp pn xe, wTs (Cx.bx X scope s0 H0 C cl fp pn xe) ifs σ H Q
def eBx (X : Cx) (scope : Scope) (elt : Expr) (W : WX) (τ : L2.St) : TE := fun σ H Q => ∀ s0 H0 C cl fp pn xe, Takes (Cx.bx X scope s0 H0 C cl fp pn xe) (fun c d _ H => W c d τ H) → wE (Cx.bx X scope s0 H0 C cl fp pn xe) elt σ H Q
/-- a new list's object -/
abbrev newL : Obj := { cls := .type "list", data := .seq ([] : List Value).toArray }
abbrev cellsOf (X : Cx) (scope : Scope) (s : Shared) : List (Str × Addr) := cellsFrom (s.heap.objs.size + 1) scope.names (cloFrom X.env.cells scope.names [])
section
variable {X : Cx} {W : WX} {L : Addr} {good : Cx → Prop} {elt tg iter : Expr} {ifs : List Expr} {scope : Scope} {own : List (Str × Nat)} {pos : Pos} {pins : List (Addr × Obj)} {σ : L2.St}
/-- the block's invariant where it starts -/
theorem bx_start {H : Hp} {s : Shared} {fp : List Addr} {xe : Value → Shared → Prop} (I : Inv X pins σ H s) (ok : BlkOk X.N X.env.scope scope own) (hN : X.N.Nodup) (hfp : ∀ b ∈ fp, FpOk X pins H b ∧ b < s.heap.objs.size) :
    Inv (Cx.bx X scope s H s.heap.objs.size (cellsOf X scope s) fp X.pn xe) [] (wipe σ (own.map (·.2))) H { s with heap := pushCells (s.heap.push { cls := .type "dict", data := .dict #[] }) scope.names } := by
  have B := block_start I ok hN hfp
  refine { ok := ?_, os := B.os, bare := B.bare, base := B.base, loc := B.loc, cell := B.cell, free := B.free, freeC := B.freeC, pin := fun p hp => ?_, hok := B.hok, len := B.len }
  · have b := B.ok
    exact { mod := b.mod, kind := b.kind, glob := b.glob, blt := b.blt, above := b.above, inj := b.inj, has := b.has, cab := b.cab, hd := b.hd, frames := b.frames, stk := b.stk, exf := b.exf, bs := b.bs, bsz := b.bsz, noex := b.noex, exfs := b.exfs, funs := b.funs, frf := b.frf }
  · rw [List.append_nil] at hp
    obtain ⟨k1, k2, k3, k4, k5⟩ := I.pin p (List.mem_append_left _ hp)
    have lt := Heap.lt_size k1
    refine ⟨pushCells_keeps _ _ _ _ (Heap.get?_push_of_some _ k1), k2, Nat.ne_of_lt lt, fun z => ?_, k5⟩
    exact (List.mem_cons.mp (I.stkSub p.1 z)).elim k3 k4
/-- the loop, from the block's start on -/
theorem bx_loop {Rok : Shared → Prop} {R : Result → Shared → Prop} {J : It} {fp : List Addr} {it D : Addr} {tn : Nat → Heap → Prop} {V : Nat → Nat → Hp → Prop} {m0 : Nat} {s : Shared} {H : Hp} (tk : Takes X W) (hfr : FrOk X L)
    (gd : ∀ s H C cl fp xe, good (Cx.bx X scope s H C cl fp X.pn xe)) (hN : X.N.Nodup) (ok : BlkOk X.N X.env.scope scope own) (I : Inv X pins σ H s) (T : WalkG good X.prog X.w X.K tg J fp it tn) (hfp : ∀ b ∈ fp, FpOk X pins H b ∧ b < s.heap.objs.size) (st : tn 0 s.heap) (v0 : V 0 m0 H)
    (turn : ∀ i m H, V i m H → (J.stop i H ∧ ∀ s' n, Inv X pins σ H s' → s'.heap.Ns s.heap.objs.size n → FpOk X pins H s.heap.objs.size → Rok s') ∨ (J.go i H ∧ ∃ Nx : Hp → Prop, (∀ H', Nx H' → ∃ m', m' < m ∧ V (i + 1) m' H') ∧ ∀ x H', J.yld i H x H' →
      gBx X scope tg x (wipe σ (own.map (·.2))) H' fun σ2 H2 => wipe σ2 (own.map (·.2)) = wipe σ (own.map (·.2)) ∧ tBx X scope ifs σ2 H2 fun b H3 =>
        if b = true then eBx X scope elt W σ σ2 H3 fun y H4 => ∃ acc, H4 D = some (.lst acc) ∧ acc.length < sizeLine ∧ Nx (upd H4 D (.lst (acc ++ [y]))) else Nx H3))
    (r1 : ∀ f s', Rok s' → R (.ok f) s') (r2 : ∀ x s', CompFails (model X.prog X.w) X.A X.xe (compEnvC scope (cellsOf X scope s) s.heap.objs.size X.env) x s' → R (.error x) s') :
    codeAny (model X.prog X.w) X.A (.compStart (.ListComp elt [⟨tg, iter, ifs, 0⟩] scope pos) 0 (.ref it) (.ref D) (compEnvC scope (cellsOf X scope s) s.heap.objs.size X.env)) R { s with heap := pushCells (s.heap.push { cls := .type "dict", data := .dict #[] }) scope.names } := by
  generalize hce : compEnvC scope (cellsOf X scope s) s.heap.objs.size X.env = ce at r2 ⊢
  have J0 := bx_start (xe := outXe X ce) I ok hN hfp
  have tkB := takes_bx (pn := X.pn) (scope := scope) (cl := cellsOf X scope s) (fp := fp) tk hfr I (fun b hb => (hfp b hb).1) (Nat.le_refl _)
  rw [hce] at tkB
  have gB := gd s H s.heap.objs.size (cellsOf X scope s) fp (outXe X ce)
  have hceY : (Cx.bx X scope s H s.heap.objs.size (cellsOf X scope s) fp X.pn (outXe X ce)).env = ce := hce
  generalize hY : Cx.bx X scope s H s.heap.objs.size (cellsOf X scope s) fp X.pn (outXe X ce) = Y at J0 tkB gB hceY
  have st0 : tn 0 (pushCells (s.heap.push { cls := .type "dict", data := .dict #[] }) scope.names) := T.kept _ _ _ st fun b _ o e => pushCells_keeps _ _ _ _ (Heap.get?_push_of_some _ e)
  have fpY : ∀ {σ' : L2.St} {H' : Hp} {s' : Shared}, Inv Y [] σ' H' s' → (∀ b ∈ fp, H' b = none) → ∀ b ∈ fp, FpOk Y [] H' b := by
    subst hY
    intro σ' H' s' K free b hb
    obtain ⟨x1, x2⟩ := K.ok.exf b hb
    refine ⟨free b hb, x1, K.ok.exfs b hb, .inl hb, x2, fun p hp => ?_⟩
    rw [List.append_nil] at hp
    exact (hfp b hb).1.2.2.2.2.2 p (List.mem_append_left _ hp)
  have steps : codeAny (model X.prog X.w) X.A (.compLoop (.ListComp elt [⟨tg, iter, ifs, 0⟩] scope pos) 0 (.ref it) (.ref D) ce) (fun r s' => match r with
      | .ok _ => Rok s'
      | .error x => CompFails (model X.prog X.w) X.A X.xe ce x s') { s with heap := pushCells (s.heap.push { cls := .type "dict", data := .dict #[] }) scope.names } := by
    refine compLoop_any (fun n s' => ∃ i H', Inv Y [] (wipe σ (own.map (·.2))) H' s' ∧ tn i s'.heap ∧ (∀ b ∈ fp, H' b = none) ∧ V i n H') (fun n s1 hI => ?_) m0 ⟨0, H, J0, st0, fun b hb => (hfp b hb).1.1, v0⟩
    obtain ⟨i, H1, I1, st1, fr1, v1⟩ := hI
    have eA : Y.A = X.A := by subst hY; rfl
    have eP : Y.prog = X.prog := by subst hY; rfl
    have eW : Y.w = X.w := by subst hY; rfl
    have eK : Y.K = X.K := by subst hY; rfl
    have eX : Y.xe = outXe X ce := by subst hY; rfl
    rcases turn i n H1 v1 with ⟨stop, fin⟩ | ⟨go, Nx, hNx, step⟩
    · have td := T.ends Y eP eW eK gB i s1 _ H1 I1 (fpY I1 fr1) st1 stop
      rw [eA, eX] at td
      refine thn td fun r s2 hr => ?_
      obtain ⟨er, I2⟩ := hr
      subst er
      subst hY
      have I3 : Inv X pins σ H1 s2 := I.call' (ch := fp) I2.os I2.base I2.hok I2.bare fun b hb => ⟨(hfp b hb).1.2.2.2.1, (hfp b hb).1.2.1, (hfp b hb).1.2.2.2.2.1, (hfp b hb).1.2.2.2.2.2⟩
      obtain ⟨nm, ns, _⟩ := I2.loc
      exact fin s2 nm I3 ns (I.fpOk (Nat.le_refl _) I2.free)
    · have ti := T.more Y eP eW eK gB i s1 _ H1 I1 (fpY I1 fr1) st1 go
      rw [eA, eX] at ti
      refine thn ti fun r s2 hr => ?_
      obtain ⟨u, er, h2⟩ := hr
      subst er
      refine thn h2 fun _ s3 h3 => ?_
      obtain ⟨x, H3, I3, rx, y3, st3, fr3⟩ := h3
      have I4 := I3.pinned (fpY I3 fr3) (T.objs _ _ st3)
      have back : ∀ {σ' : L2.St} {s' : Shared} {H' : Hp}, wipe σ' (own.map (·.2)) = wipe σ (own.map (·.2)) → Inv Y ([] ++ pinsAt fp s3.heap) σ' H' s' → Nx H' → ∃ m, m < n ∧ ∃ i H', Inv Y [] (wipe σ (own.map (·.2))) H' s' ∧ tn i s'.heap ∧ (∀ b ∈ fp, H' b = none) ∧ V i m H' := by
        intro σ' s' H' eσ K nx
        obtain ⟨m, lt, v⟩ := hNx H' nx
        have pin : ∀ b ∈ fp, ∀ o, s3.heap.get? b = some o → s'.heap.get? b = some o ∧ H' b = none := by
          intro b hb o e
          obtain ⟨k1, k2, _⟩ := K.pin (b, o) (List.mem_append_right _ (List.mem_append_right _ (mem_pinsAt hb e)))
          exact ⟨k1, k2⟩
        refine ⟨m, lt, i + 1, H', (K.unpinned (pins := [])).weak (by rw [← eσ, wipe_length]) (fun j v e => ?_), T.kept _ _ _ st3 fun b hb o e => (pin b hb o e).1, fun b hb => ?_, v⟩
        · rw [← eσ] at e
          exact (wipe_some e).1
        · obtain ⟨o, e, _⟩ := T.objs _ _ st3 b hb
          exact (pin b hb o e).2
      subst hY
      subst hce
      refine thn (step x H3 y3 s H s.heap.objs.size (cellsOf X scope s) fp X.pn (outXe X (compEnvC scope (cellsOf X scope s) s.heap.objs.size X.env)) _ s3 u I4 rx) fun _ s5 h5 => ?_
      obtain ⟨σ5, H5, I5, w5, q5⟩ := h5
      refine thn (q5 s H s.heap.objs.size (cellsOf X scope s) fp X.pn (outXe X (compEnvC scope (cellsOf X scope s) s.heap.objs.size X.env)) _ s5 I5) fun b s6 h6 => ?_
      obtain ⟨H6, I6, q6⟩ := h6
      cases b with
      | false => exact back w5 I6 (iff_ff q6)
      | true =>
        refine thn (iff_tt q6 s H s.heap.objs.size (cellsOf X scope s) fp X.pn (outXe X (compEnvC scope (cellsOf X scope s) s.heap.objs.size X.env)) tkB _ s6 I6) fun z s7 h7 => ?_
        obtain ⟨yv, H7, I7, r7, acc, eD, sz, nx⟩ := h7
        exact app_ok (X := Cx.bx X scope s H s.heap.objs.size (cellsOf X scope s) fp X.pn (outXe X (compEnvC scope (cellsOf X scope s) s.heap.objs.size X.env))) I7 eD sz r7 fun s8 I8 => back w5 I8 nx
  refine codeAny_compStart_list ?_ ?_
  · exact codeAny_mono steps fun r s' h => by
      cases r with
      | ok f => exact r1 f s' h
      | error x => exact r2 x s' h
  · exact T.same X.A 0 _ _ _ st0 (codeAny_mono steps fun r s' h => by
      cases r with
      | ok f => exact r1 f s' h
      | error x => exact r2 x s' h)
/-- the whole expression, its list used in one way or another -/
theorem bx_comp {s : Shared} {H : Hp} {Q : VK} {use : Option (Value → Sem Unit)} {Qf : Value → Shared → Prop} {pos' : Pos} (tk : Takes X W) (hfr : FrOk X L) (gd : ∀ s H C cl fp xe, good (Cx.bx X scope s H C cl fp X.pn xe)) (hN : X.N.Nodup) (ok : BlkOk X.N X.env.scope scope own)
    (hs : ∀ x, foldedSetIterable iter X.env x = pure x) (I : Inv X pins σ H s) (h : tLc (wIG good X tg iter) (gBx X scope tg) (tBx X scope ifs) (eBx X scope elt W σ) (own.map (·.2)) σ H Q)
    (hend : ∀ D ce s' m H', Inv X pins σ H' s' → Q (.ref D) H' → s'.heap.Ns ce.locals m → FpOk X pins H' ce.locals → compEnds (model X.prog X.w) X.A X.xe use Qf (.ref D) ce (.ok .next) s') :
    wpAny (model X.prog X.w) X.A (comprehension (.ListComp elt [⟨tg, iter, ifs, 0⟩] scope pos) scope X.env pos' (newList []) false (eval iter X.env) use) Qf X.xe s := by
  have cells := closure_ok (scope := scope) (env := X.env) fun y hy e => (ok.free y hy e).elim (fun k => I.ok.has _ (.inl k)) fun k => I.ok.has _ (.inr k)
  refine comprehension_at (use := use) rfl hs cells ok.kind (fun y hy e => (ok.uniq y hy).trans (congrArg some e)) ?_
  refine thn (h pins s I) fun xv s1 h1 => thn h1 fun itv s2 h2 => ?_
  obtain ⟨it, fp, tn, J, H2, eit, I2, T, st2, f2, q⟩ := h2
  subst eit
  obtain ⟨V, ⟨m0, v0⟩, turn⟩ := q _ (I2.hok.fresh (Nat.le_refl _))
  have lt : ∀ b ∈ fp, b < s2.heap.objs.size := fun b hb => by
    obtain ⟨o, e, _⟩ := T.objs _ _ st2 b hb
    exact Heap.lt_size e
  have I3 := I2.laid (t' := s2.toks) (a := s2.heap.objs.size) (o := .lst []) (h' := s2.heap.push newL) (fun b o e => Heap.get?_push_of_some _ e) (Nat.le_refl _) ⟨Nat.zero_le _, [], 0, .nil, Heap.get?_push_size _ rfl⟩
  refine wpAny_newObj_type (newEnv_comp ?_) (Nat.zero_le _)
  refine bx_loop (Rok := fun s' => compEnds (model X.prog X.w) X.A X.xe use Qf (.ref s2.heap.objs.size) (compEnvC scope (cellsOf X scope { s2 with heap := s2.heap.push newL }) (s2.heap.push newL).objs.size X.env) (.ok .next) s') tk hfr gd hN ok I3 T (fun b hb => ⟨⟨?_, (f2 b hb).2⟩, ?_⟩) ?_ v0 (fun i m H5 v5 => ?_) (fun f s' k => ?_) (fun x s' k => ?_)
  · rw [upd_ne (Nat.ne_of_lt (lt b hb))]; exact (f2 b hb).1
  · show b < (s2.heap.push _).objs.size
    rw [Heap.size_push]; exact Nat.lt_succ_of_lt (lt b hb)
  · exact T.kept _ _ _ st2 fun b _ o e => Heap.get?_push_of_some _ e
  · refine (turn i m H5 v5).imp (fun k => ⟨k.1, fun s' n J5 ns fo => ?_⟩) _root_.id
    exact hend _ _ s' n H5 J5 k.2 ns fo
  · cases use <;> exact k
  · cases use <;> exact k
end

/-! ### the rules -/
def dLcX (ti : DTI) (g : DTG) (tt : DTB) (te : DT) (vs : List Nat) : DT := fun env Q E => ti env (fun xs ls e1 => xs.length ≤ 1000000 ∧ ∃ W : Nat → List D → Env → Prop, W 0 [] (wip vs e1) ∧
  (∀ i x acc env, xs[i]? = some x → W i acc env → g (.p x) env fun e2 => tt e2 (fun b e3 => if b = true then te e3 (fun o e4 => match o with
    | .val d => W (i + 1) (acc ++ [d]) (wip vs e4)
    | .ref _ _ => False) (fun n y e4 => E n y (wip vs e4)) else W (i + 1) acc (wip vs e3)) EF) ∧
  ∀ acc env, W xs.length acc env → RS ls (fun e => Q (.val (.lst acc)) (rsP vs e1 e)) env) E
section
variable {good : Cx → Prop} {X : Cx} {elt tg iter : Expr} {ifs : List Expr} {scope : Scope} {own : List (Str × Nat)} {ti : DTI} {g : DTG} {tt : DTB} {te : DT} {tv : List Nat}
theorem lcx_go (hi : DIG good X tg iter ti)
    (hg : ∀ (s : Shared) (H : Hp) (C : Addr) (cl : List (Str × Addr)) (fp : List Addr) (pn : List (Addr × Obj)) (xe : Value → Shared → Prop), DG (Cx.bx X scope s H C cl fp pn xe) tg tv g) (ht : ∀ (s : Shared) (H : Hp) (C : Addr) (cl : List (Str × Addr)) (fp : List Addr) (pn : List (Addr × Obj)) (xe : Value → Shared → Prop), DTs (Cx.bx X scope s H C cl fp pn xe) ifs tt)
    (he : ∀ (s : Shared) (H : Hp) (C : Addr) (cl : List (Str × Addr)) (fp : List Addr) (pn : List (Addr × Obj)) (xe : Value → Shared → Prop), DO (Cx.bx X scope s H C cl fp pn xe) elt te) (hv : ∀ j ∈ tv, j ∈ own.map (·.2))
    {W : WX} (tk : Takes X W) {σ : L2.St} {S F : Ft} {H : Hp} {env : Env} {Q : Opd → Env → Prop} {E : EK} (kh : KH X.K H) (w : WF S F Em H) (es : ES X.K S H σ env F) (hx : HX X W (Eq σ) S F H E) (q : dLcX ti g tt te (own.map (·.2)) env Q E) :
    tLc (wIG good X tg iter) (gBx X scope tg) (tBx X scope ifs) (eBx X scope elt W σ) (own.map (·.2)) σ H (QO X.K σ S F H Q) := by
  generalize own.map (·.2) = vs at hv q ⊢
  refine (hi.run W tk σ S F H env _ E kh w es hx q).mono fun J H1 kh1 ⟨S1, F1, G1, xs, ls, e1, n1, es1, ok, ln, nd, hlen, I, i0, turn, dn⟩ => ?_
  intro A hA
  have n0 : Nx S1 F1 H1 S1 F1 (fun a => a = A) (upd H1 A (.lst [])) := Nx.new n1.w hA trivial
  refine ⟨fun i m H' => m = xs.length - i ∧ i ≤ xs.length ∧ ∃ S' F' GD acc env', Nx S1 F1 H1 S' F' GD H' ∧ R X.K S' H' (.ref A) (.lst acc) GD ∧ ES X.K S' H' (wipe σ vs) env' F' ∧ acc.length ≤ i ∧ I i acc env',
    ⟨xs.length, by simp, Nat.zero_le _, S1, F1, _, [], wip vs e1, n0, .lst (F' := Em) upd_same rfl (fun _ z => z.elim) .nil, (es1.kp (kp_new hA) Sub.refl).wip vs fun j hj => wipe_out hj, Nat.le_refl _, i0⟩, ?_⟩
  rintro i m H2 ⟨em, hi', S2, F2, GD, acc, e2, n2, rA, es2, hacc, i2⟩
  have kpG := n2.kpG n1.w
  obtain ⟨ok1, ok2⟩ := ok H2 kpG i
  cases hxi : xs[i]? with
  | none =>
    have : i = xs.length := by
      have := List.getElem?_eq_none_iff.mp hxi
      omega
    subst this
    have q := dn acc e2 i2
    obtain ⟨n3, es3⟩ := give_backR n1 ln nd n2 es2.unwipe q.1
    have es4 := es3.rsP (e0 := e1) (vs := vs) fun j x hj ex => by
      obtain ⟨Fs, a, _, _⟩ := id es1
      rcases a j with z | ⟨u, eu, r⟩
      · rw [z] at ex; cases ex
      · rw [ex] at r
        cases r with
        | p r => exact ⟨u, eu, RP.kp (n2.kpS n1.w) n2.ss _ r⟩
    exact .inl ⟨ok2 hxi, S2, _, GD, .val (.lst acc), _, n3, es4, rA, q.2⟩
  | some x =>
    obtain ⟨go, yl⟩ := ok1 x hxi
    have hlt : i < xs.length := (List.getElem?_eq_some_iff.mp hxi).1
    refine .inr ⟨go, fun H' => ∃ S' F' GD acc env', Nx S1 F1 H1 S' F' GD H' ∧ R X.K S' H' (.ref A) (.lst acc) GD ∧ ES X.K S' H' (wipe σ vs) env' F' ∧ acc.length ≤ i + 1 ∧ I (i + 1) acc env', fun H' h => ⟨xs.length - (i + 1), by omega, rfl, hlt, h⟩, fun v H3 hy => ?_⟩
    obtain ⟨nw, rp⟩ := yl v H3 hy
    have n3 : Nx S2 F2 H2 S2 F2 Em H3 := nw.nx n2.w
    have n23 : Nx S1 F1 H1 S2 F2 GD H3 := (n2.seq n3).g fun a h => .inl h
    have rA3 := R.kp (F := GD) n3.ss _ (n3.kpG n2.w) rA
    have es3 : ES X.K S2 H3 (wipe σ vs) e2 F2 := es2.kp nw.kp Sub.refl
    have rp' : R X.K S2 H3 v (.p x) Em := .p (RP.kp (F := Em) kp_id n2.ss _ rp)
    intro s0 H0 C cl fp pn xe pins s u Iv r
    refine thn ((hg s0 H0 C cl fp pn xe).run (wipe σ vs) S2 F2 Em H3 v (.p x) e2 _ Iv.len (kh_of Iv) es3 rp' (fun _ _ z => z.elim) (turn i x acc e2 hxi i2) pins s u Iv r) fun _ s' ⟨σ4, H4, I4, ⟨eq, l4, a4⟩, e4, F4, es4, sb4, q4⟩ => ⟨σ4, H4, I4, ?_⟩
    subst eq
    have a4' : ∀ j, j ∉ vs → σ4[j]? = σ[j]? := fun j hj => (a4 j fun z => hj (hv j z)).trans (wipe_out hj)
    have l4' : σ4.length = σ.length := l4.trans (wipe_length σ vs)
    have wq := wipe_eq l4' a4'
    refine ⟨wq, ?_⟩
    have n4 : Nx S1 F1 H1 S2 F4 GD H4 := ⟨n23.keep, n23.ss, n23.sn, fun a h => (sb4 a h).elim (n23.fn a) (fun z => z.elim), n23.gn, ⟨fun a h h' => (sb4 a h').elim (n23.w.sf a h) (fun z => z.elim), n23.w.sg, fun a h h' => (sb4 a h).elim (fun z => n23.w.fg a z h') (fun z => z.elim), n23.w.sd, fun a h => (sb4 a h).elim (n23.w.fm a) (fun z => z.elim), n23.w.gm⟩⟩
    have kh4 : KH X.K H4 := kh_of (X := Cx.bx X scope s0 H0 C cl fp pn xe) I4
    intro s0 H0 C cl fp pn xe
    refine ((ht s0 H0 C cl fp pn xe).run W0 takes0 σ4 S2 F4 H4 e4 _ EF kh4 n4.w.e es4 hx0 q4).mono fun b H5 kh5 ⟨S5, F5, e5, n5, es5, q5⟩ => ?_
    have n15 : Nx S1 F1 H1 S5 F5 GD H5 := (n4.seq n5).g fun a h => .inl h
    have rA5 := R.kp (F := GD) n5.ss _ (n5.kpG n4.w) rA3
    have back : ∀ {S' F' : Ft} {H' : Hp} {e : Env}, ES X.K S' H' σ4 e F' → ES X.K S' H' (wipe σ vs) (wip vs e) F' := fun h => h.wip vs fun j hj => by rw [a4' j hj, wipe_out hj]
    cases b with
    | false =>
      rw [if_neg Bool.false_ne_true]
      exact ⟨S5, F5, GD, acc, _, n15, rA5, back es5, Nat.le_succ_of_le hacc, iff_ff q5⟩
    | true =>
      rw [if_pos rfl]
      intro s0 H0 C cl fp pn xe tkB
      -- an exception out of the element
      have hx5 : HX (Cx.bx X scope s0 H0 C cl fp pn xe) (fun c d _ H => W c d σ H) (Eq σ4) S5 F5 H5 (fun n y e => E n y (wip vs e)) := by
        intro τ S' F' G H' Cc nc d y e eτ n6 es6 xr cn q6
        subst eτ
        have es7 : ES X.K S' H' σ (wip vs e) F' := es6.wip vs fun j hj => (a4' j hj).symm
        exact hx σ S' F' G H' Cc nc d y _ rfl ((n1.seq (n15.seq n6)).g fun a h => .inr (.inr h)) es7 xr cn q6
      refine ((he s0 H0 C cl fp pn xe).run _ tkB σ4 S5 F5 H5 e5 _ _ kh5 n5.w.e es5 hx5 (iff_tt q5)).mono fun y H6 kh6 ⟨S6, F6, G6, o, e6, n6, es6, ov, q6⟩ => ?_
      cases o with
      | ref _ _ => exact q6.elim
      | val d =>
        have n16 := n15.seq n6
        have rA6 := R.kp (F := GD) n6.ss _ (n6.kpG n15.w) rA5
        have d6 : Dj GD G6 := fun a h1 h2 => by
          rcases n6.gn a h2 with h | h
          · exact n15.w.fg a h h1
          · exact (n15.w.gm a h1).ne h
        have ov : R X.K S6 H6 y d G6 := ov
        cases rA6 with
        | @lst _ us _ _ GA h1 h2 h3 h4 =>
          have n17 := n16.mutG (p := A) (o := .lst (us ++ [y])) (.inl h2) trivial
          have neq : ∀ a : Addr, GA a ∨ S6 a ∨ G6 a → a ≠ A := fun a h => by
            rcases h with h | h | h
            · exact (h3 a h).2
            · exact fun z => n16.w.sg a h (.inl (by rw [z]; exact h2))
            · exact fun z => d6 a (by rw [z]; exact h2) h
          have nmu : ∀ a u, H6 a = some u → ¬ MuO (some u) → a ≠ A := fun a u e m z => by
            subst z; rw [h1] at e; cases e; exact m trivial
          have kpn : ∀ (Z : Ft), (∀ a, Z a → a ≠ A) → Kp S6 Z H6 (upd H6 A (.lst (us ++ [y]))) := fun Z hz a u e c => by
            rw [upd_ne (by
              rcases c with c | c | c
              · exact hz a c
              · exact neq a (.inr (.inl c))
              · exact nmu a u e c)]
            exact e
          have hl := Rs.length _ h4
          refine ⟨us, h1, ?_, S6, F6, Or2 GD G6, acc ++ [d], wip vs e6, n17, .lst (F' := Or2 GA G6) upd_same (.inl h2) ?_ ((Rs.kp Sub.refl _ (kpn GA fun a z => neq a (.inl z)) h4).snoc (R.kp Sub.refl _ (kpn G6 fun a z => neq a (.inr (.inr z))) ov) fun a z1 z2 => d6 a (h3 a z1).1 z2), back (es6.kp (kpn F6 fun a z e => n16.w.fg a z (.inl (by rw [e]; exact h2))) Sub.refl), by simp; omega, q6⟩
          · rw [hl]
            have : (1000000 : Nat) < sizeLine := by rw [sizeLine_eq]; decide
            omega
          · intro a z
            rcases z with z | z
            · exact ⟨.inl (h3 a z).1, (h3 a z).2⟩
            · exact ⟨.inr z, neq a (.inr (.inr z))⟩
variable {L : Addr} {pos : Pos}
theorem do_lcx (hfr : ∃ L, FrOk X L) (gd : ∀ s H C cl fp xe, good (Cx.bx X scope s H C cl fp X.pn xe)) (hN : X.N.Nodup) (hi : DIG good X tg iter ti) (ok : BlkOk X.N X.env.scope scope own)
    (hg : ∀ (s : Shared) (H : Hp) (C : Addr) (cl : List (Str × Addr)) (fp : List Addr) (pn : List (Addr × Obj)) (xe : Value → Shared → Prop), DG (Cx.bx X scope s H C cl fp pn xe) tg tv g) (ht : ∀ (s : Shared) (H : Hp) (C : Addr) (cl : List (Str × Addr)) (fp : List Addr) (pn : List (Addr × Obj)) (xe : Value → Shared → Prop), DTs (Cx.bx X scope s H C cl fp pn xe) ifs tt)
    (he : ∀ (s : Shared) (H : Hp) (C : Addr) (cl : List (Str × Addr)) (fp : List Addr) (pn : List (Addr × Obj)) (xe : Value → Shared → Prop), DO (Cx.bx X scope s H C cl fp pn xe) elt te) (hv : ∀ j ∈ tv, j ∈ own.map (·.2)) (hs : ∀ x, foldedSetIterable iter X.env x = pure x := by intro _; rfl) {vs : List Nat} (hvs : own.map (·.2) = vs := by rfl) :
    DO X (.ListComp elt [⟨tg, iter, ifs, 0⟩] scope pos) (dLcX ti g tt te vs) := by
  subst hvs
  obtain ⟨L, hfr⟩ := hfr
  refine ⟨fun W tk σ S F H env Q E kh w es hx q => fun pins s I => ?_⟩
  rw [eval_ListComp]
  refine bx_comp tk hfr gd hN ok hs I (lcx_go hi hg ht he hv tk kh w es hx q) fun D ce s' m H' I' q1 ns f => ⟨m, ns, fun h'' sb => ?_⟩
  obtain ⟨f0, f1, f2, f3, f4, f5⟩ := f
  exact ⟨.ref D, H', I'.turned (t' := s'.toks) (fun b o hb e => (sb.2 b hb).trans e) f0 f1 f3 f4 f5, rfl, q1⟩
/-- name = [..] on one line -/
theorem ds_setLcx {i : Nat} {y : Str} {py spos : Pos} (hfr : ∃ L, FrOk X L) (gd : ∀ s H C cl fp xe, good (Cx.bx X scope s H C cl fp X.pn xe)) (hN : X.N.Nodup) (hy : X.N[i]? = some y) (hyl : X.env.scope.names.lookup y = some .local) (hsw : swapsWith (.ListComp elt [⟨tg, iter, ifs, 0⟩] scope pos) (some (.Name y py)) spos.line X.env = pure true)
    (hi : DIG good X tg iter ti) (ok : BlkOk X.N X.env.scope scope own)
    (hg : ∀ (s : Shared) (H : Hp) (C : Addr) (cl : List (Str × Addr)) (fp : List Addr) (pn : List (Addr × Obj)) (xe : Value → Shared → Prop), DG (Cx.bx X scope s H C cl fp pn xe) tg tv g) (ht : ∀ (s : Shared) (H : Hp) (C : Addr) (cl : List (Str × Addr)) (fp : List Addr) (pn : List (Addr × Obj)) (xe : Value → Shared → Prop), DTs (Cx.bx X scope s H C cl fp pn xe) ifs tt)
    (he : ∀ (s : Shared) (H : Hp) (C : Addr) (cl : List (Str × Addr)) (fp : List Addr) (pn : List (Addr × Obj)) (xe : Value → Shared → Prop), DO (Cx.bx X scope s H C cl fp pn xe) elt te) (hv : ∀ j ∈ tv, j ∈ own.map (·.2)) (hs : ∀ x, foldedSetIterable iter X.env x = pure x := by intro _; rfl) {vs : List Nat} (hvs : own.map (·.2) = vs := by rfl) :
    DS X (.Assign [.Name y py] (.ListComp elt [⟨tg, iter, ifs, 0⟩] scope pos) spos) [i] (dAsg (dLcX ti g tt te vs) (gNm i)) := by
  subst hvs
  obtain ⟨L, hfr⟩ := hfr
  refine ⟨fun W tk σ S F H env D E kh hl w es hx q => fun pins s I => ?_⟩
  have fin : ∀ {v : V} {H1 : Hp}, QO X.K σ S F H (fun o e => match o with
      | .val d => gNm i d e D.nx
      | .ref _ _ => False) v H1 → QN X.K [i] σ S F H D.nx (σ.set i (some v)) H1 := by
    intro v H1 h
    obtain ⟨S1, F1, G1, o, e1, n1, es1, ov, q1⟩ := h
    cases o with
    | ref _ _ => exact q1.elim
    | val d =>
      have q1 : D.nx (e1.set i d) := q1
      have hσ : i < σ.length := by rw [hl]; exact (List.getElem?_eq_some_iff.mp hy).1
      refine ⟨Ag.set, ?_⟩
      by_cases he : i < e1.length
      · exact ⟨S1, Or2 G1 F1, e1.set i d, n1.give fun a h => h.elim .inr .inl, es1.set i ov n1.w.fg.symm hσ he, q1⟩
      · rw [List.set_eq_of_length_le (by omega)] at q1
        refine ⟨S1, F1, e1, n1.e, es1.weak fun j => ?_, q1⟩
        by_cases hj : j = i
        · subst hj; rw [List.getElem?_eq_none (by omega)]; exact .inl rfl
        · rw [List.getElem?_set_ne (Ne.symm hj)]; exact .inr ⟨rfl, rfl⟩
  rw [exec_Assign_Name_used _ _ _ _ hsw]
  refine wpAny_bind (wpAny_standAt (wpAny_bind ?_))
  have go := bx_comp (use := some (assign (.Name y py) X.env)) (Qf := fun _ s' => SP X pins (QD X.K [i] σ S F H D) .next s') (pos := pos) (pos' := firstIterPos [⟨tg, iter, ifs, 0⟩] pos) tk hfr gd hN ok hs I (lcx_go hi hg ht he hv tk kh w es hx.eq q) fun D1 ce s' m H' I' q1 ns f => by
    show wpAny _ _ (assign (.Name y py) X.env (.ref D1)) _ _ _
    refine wpAny_assign_Name (store_ok2 (v := V.ref D1) I' hN hy (.inl hyl) rfl (fun s2 I2 at2 => ?_) (.inr hyl))
    obtain ⟨c, sb, hc⟩ := at2
    obtain ⟨f0, f1, f2, f3, f4, f5⟩ := f
    have ne : ce.locals ≠ c := by
      rcases hc with z | z
      · rw [z]; exact f1
      · exact fun e => f4 y c z e.symm
    exact ⟨m, ns.sameBut sb ne, fun h3 sb3 => ⟨_, H', I2.turned (t' := s2.toks) (fun b o hb e => (sb3.2 b hb).trans e) f0 f1 f3 f4 f5, fin q1⟩⟩
  show wpAny _ X.A (do let _ ← comprehension (.ListComp elt [⟨tg, iter, ifs, 0⟩] scope pos) scope X.env (firstIterPos [⟨tg, iter, ifs, 0⟩] pos) (newList []) false (eval iter X.env) (some (assign (.Name y py) X.env))) _ _ s
  exact wpAny_bind (thn go fun _ s' hq => wpAny_pure (wpAny_pure hq))
end
end Dv

set_option Elab.async false
set_option linter.all false
set_option maxRecDepth 100000
/-! Dv, part AZ: calls of own defs while an exception is handled. -/
namespace Dv
open PySem PySem.Spec PyProof.Rows L2

/-! ### a list's walk ends while an exception is handled -/
section
variable {P : Program} {w : World} {A : Around} {E : Value → Shared → Prop} {s : Shared}
/-- a StopIteration that is raised there -/
theorem stop_hot {α : Type} {x1 : Addr} {Q : α → Shared → Prop} (hot : HotX.HotAt A x1 s.heap) (k : ∀ a h', (∀ b o, s.heap.get? b = some o → h'.get? b = some o) → Shared.TypeIs { s with heap := h' } (.ref a) "StopIteration" → E (.ref a) { s with heap := h' }) :
    wpAny (model P w) A (newExc (.type "StopIteration") [] >>= fun e => (raiseNew e : Sem α)) Q E s := by
  obtain ⟨hh, o1, vs1, e1, d1, c1⟩ := hot
  refine wpAny_bind ?_
  unfold newExc newTuple
  refine wpAny_bind (wpAny_newObj_type ?_ (by size_fits))
  refine wpAny_bind (m := firstArgMember _ _) (wpAny_of_eq (a := Value.none) (by first | (simp only [firstArgMember]; rfl) | rfl) (wpAny_newObj_type ?_ (by size_fits)))
  have up1 : ∀ {b : Addr} {o o' o'' : Obj}, s.heap.get? b = some o → ((s.heap.push o').push o'').get? b = some o := fun e => Heap.get?_push_of_some _ (Heap.get?_push_of_some _ e)
  refine HotX.raiseNew_hot (x1 := x1) ⟨hh, o1, vs1, up1 e1, d1, c1⟩ (Nat.ne_of_lt ?_) (Heap.get?_push_size _ rfl) rfl (by first | (simp; done) | (simp; omega) | (simp only [Array.size_append]; simp; omega)) (k _ _ (fun b o e => ?_) ⟨_, Heap.get?_update_self _ (Heap.get?_push_size _ rfl) rfl, rfl⟩)
  · exact Heap.lt_size (Heap.get?_push_of_some _ e1)
  · have lt := Heap.lt_size (Heap.get?_push_of_some (h := s.heap) { cls := .type "tuple", data := .seq ([] : List Value).toArray } e)
    rw [Heap.get?_update_other _ _ (Nat.ne_of_gt lt)]
    exact up1 e
theorem list_end_hot {it l x1 : Addr} {i : Nat} {items : Array Value} {Q : Option Value → Shared → Prop} (hot : HotX.HotAt A x1 s.heap) (hit : s.heap.IsListIter it l i) (hl : s.heap.IsList l items) (hx : items[i]? = none) (hx1 : x1 ≠ it)
    (k : ∀ h', (∀ b o, b ≠ it → s.heap.get? b = some o → h'.get? b = some o) → Q none { s with heap := h' }) : wpAny (model P w) A (pyNext (.ref it)) Q E s := by
  have ty := hit.typeIs
  obtain ⟨hh, o1, vs1, e1, d1, c1⟩ := hot
  obtain ⟨o, ho, hc, hd⟩ := hit
  obtain ⟨ol, hol, _, nl, hdl⟩ := hl
  unfold pyNext
  have slot : wpAny (model P w) A (callSpecial? (.ref it) (Str.ofString "__next__")) (fun _ _ => False) (fun e t => ∃ h' a, e = .ref a ∧ t = { s with heap := h' } ∧ (∀ b o, b ≠ it → s.heap.get? b = some o → h'.get? b = some o) ∧ Shared.TypeIs t (.ref a) "StopIteration") s := by
    refine wpAny_callSpecial?_slot ty slot_listiter_next (wpAny_call_entry slot_listiter_next ty entry_listiter_next ?_ (args_listiter_next _))
    refine (show wpAny _ _ (field (.ref it) 0 >>= _) _ _ s from wpAny_bind (wpAny_field ho hd (x := .ref l) rfl ?_))
    have c : ¬((Value.ref l == Value.none) = true) := Bool.false_ne_true
    refine (show wpAny _ _ (if (Value.ref l == Value.none) = true then _ else _) _ _ s from ?_)
    rw [if_neg c]
    refine (show wpAny _ _ (field (.ref it) 1 >>= _) _ _ s from wpAny_bind (wpAny_field ho hd (x := .int i 0) rfl ?_))
    refine (show wpAny _ _ (seqItems? (.ref l) >>= _) _ _ s from wpAny_bind (wpAny_seqItems hol hdl ?_))
    simp only [Int.toNat_natCast, hx]
    refine wpAny_bind (wpAny_rule (wpAny_bind (wpAny_setField ho hd (by simp) ?_)))
    refine stop_hot (x1 := x1) ⟨hh, o1, vs1, (Heap.get?_update_other _ _ (Ne.symm hx1)).trans e1, d1, c1⟩ fun a h' kept isStop => ⟨h', a, rfl, rfl, fun b o' ne e => kept b o' ?_, isStop⟩
    rw [Heap.get?_update_other _ _ (Ne.symm ne)]
    exact e
  refine wpAny_bind (wpAny_attempt (wpAny_mono slot (fun r t q => ?_) fun e t q => ?_))
  · exact q.elim
  · obtain ⟨h', a, rfl, rfl, kept, isStop⟩ := q
    exact wpAny_bind (wpAny_isInstance (T := "StopIteration") (b := true) isStop isSubtype_stop (wpAny_pure (k h' kept)))
end
theorem walk_hot {P : Program} {w : World} {K : PySem.W.Frag} {tg : Expr} (a it : Addr) : WalkG L2H.HotC P w K tg (Itl K a) [it] it (fun i h => h.IsListIter it a i) where
  objs := fun i h st b hb => by
    obtain ⟨o, e, c, d⟩ := st
    rw [List.mem_singleton.mp hb]
    exact ⟨o, e, fun v z => by rw [d] at z; cases z⟩
  kept := fun i h h' st k => st.at fun o e => k it (List.mem_singleton.mpr rfl) o e
  more := by
    intro Y hP hw hK _ i s σ H I hf st go
    obtain ⟨xs, x, hq, hx⟩ := go
    subst hK
    obtain ⟨its, rv, p, hz⟩ := I.list hq
    obtain ⟨u, hu, ru⟩ := rv.get hx
    obtain ⟨n0, n1, n2, n3, n4, n5⟩ := hf it (List.mem_singleton.mpr rfl)
    refine wpAny_pyNext_list_item st p.isList (by rw [List.getElem?_toArray]; exact hu) fun h' st' sb => ⟨u, rfl, ?_⟩
    have J : Inv Y [] σ H { s with heap := h' } := I.turned (t' := s.toks) (fun b o ne e => (sb.2 b ne).trans e) n0 n1 n3 n4 n5
    have st2 := st'
    obtain ⟨o, e, c, d⟩ := st2
    refine go_of (s := { s with heap := h' }) e c d (by decide) ?_
    exact ⟨x, H, J, ru, ⟨rfl, fun ys hy => by rw [I.list_inj hy hq]; exact hx⟩, st', fun b hb => (hf b hb).1⟩
  ends := by
    intro Y hP hw hK hot i s σ H I hf st stop
    obtain ⟨xs, hq, hx⟩ := stop
    subst hK hP hw
    obtain ⟨its, rv, p, hz⟩ := I.list hq
    have hl := rv.length
    obtain ⟨n0, n1, n2, n3, n4, n5⟩ := hf it (List.mem_singleton.mpr rfl)
    have hin := hot
    obtain ⟨q, ⟨hh, vs, d1, c1⟩, hp⟩ := hin
    have at1 : HotX.HotAt Y.A q.1 s.heap := ⟨hh, q.2, vs, (I.pin q (List.mem_append_left _ hp)).1, d1, c1⟩
    refine list_end_hot at1 st p.isList (by rw [List.getElem?_toArray]; exact List.getElem?_eq_none (by omega)) (n5 q (List.mem_append_left _ hp)) fun h' kept => ⟨rfl, ?_⟩
    exact I.turned (t' := s.toks) kept n0 n1 n3 n4 n5
  same := fun _ _ _ _ _ st h => wpAny_pyIter_listiter st h
/-- a list that is plain -/
def diLst (t : DT) : DTI := fun env Q E => t env (fun o e1 => match o.get e1 with
  | .p (.list xs) => Q xs [] e1
  | _ => False) E
section
variable {X : Cx} {tg e : Expr} {t : DT}
theorem lst_come {σ : L2.St} {S F : Ft} {H : Hp} {env : Env} {Q : List PD → Ls → Env → Prop} {E : EK} {W : WX} (h : DO X e t) (tk : Takes X W) (kh : KH X.K H) (w : WF S F Em H) (es : ES X.K S H σ env F) (hx : HX X W (Eq σ) S F H E) (q : diLst t env Q E) :
    wE X e σ H fun v H1 => ∃ a, v = .ref a ∧ (∃ xs, SqL X.K H1 a xs) ∧ QI X.K σ S F H Q (Itl X.K a) H1 := by
  refine (h.run W tk σ S F H env _ E kh w es hx q).mono fun v H1 kh1 ⟨S1, F1, G1, o, e1, n1, es1, ov, q1⟩ => ?_
  have q1 : (match o.get e1 with
  | .p (.list xs) => Q xs [] e1
  | _ => False) := q1
  cases z : o.get e1 with
  | p x =>
    rw [z] at q1
    cases x with
    | list xs =>
      obtain ⟨F2, r⟩ := ov.r kh1 es1 (by rw [z]; intro c; cases c)
      rw [z] at r
      cases r with
      | p r =>
        cases r with
        | @lst a us _ h1 h2 => exact ⟨a, rfl, ⟨us, h1.sq⟩, S1, F1, Em, xs, [], e1, n1.e, es1, itl_ok (fun H2 k => (h1.kp k Sub.refl).sq) h2, .nil, List.nodup_nil, q1⟩
    | _ => exact q1.elim
  | _ => rw [z] at q1; exact q1.elim
theorem di_lst (h : DO X e t) : DI X tg e (diLst t) :=
  ⟨fun W tk σ S F H env Q E kh w es hx q => toI (pi_list (we X e)) (lst_come h tk kh w es hx q)⟩
theorem dig_hot (h : DO X e t) : DIG L2H.HotC X tg e (diLst t) := by
  refine ⟨fun W tk σ S F H env Q E kh w es hx q => fun pins s I => ?_⟩
  refine thn (lst_come h tk kh w es hx q pins s I) fun v s1 h1 => ?_
  obtain ⟨x, H1, I1, rx, a, ex, ⟨xs, hq⟩, q1⟩ := h1
  subst ex
  cases (show v = Value.ref a from rx)
  obtain ⟨its, rv, p, hz⟩ := I1.list hq
  refine wpAny_pyIter_list p.isList ⟨s1.heap.objs.size, [s1.heap.objs.size], _, _, H1, rfl, I1.kept (t' := s1.toks) (fun b o e => Heap.get?_push_of_some _ e), walk_hot a _, ⟨_, Heap.get?_push_size _ rfl, rfl, rfl⟩, fun b hb => ?_, q1⟩
  rw [List.mem_singleton.mp hb]
  exact I1.fpOk (Nat.le_refl _) (I1.hok.fresh (Nat.le_refl _))
end

/-! ### a def's promise there -/
structure KnH (P : Program) (w : World) (K : PySem.W.Frag) (mg : Str → Option Value) (base : Heap) (k : Nat) (nm : Str) (st : Stmt) (ps : List Str) (fD : FD) : Prop where
  ex : ∃ f fd, DefAt K mg nm st ps f fd ∧ L2H.FnH P w K mg base (L2N.CX P w) k f fd ps (SpD K ps.length fD)
  hn : ∀ ds Q E, fD ds Q E → ds.length = ps.length
section
variable {P : Program} {w : World} {K : PySem.W.Frag} {mg : Str → Option Value} {base : Heap}
theorem knh_of {k : Nat} {nm : Str} {st : Stmt} {ps N : List Str} {fD : FD} {tv : List Nat} {t : DTS} (T : ∃ f fd, DefAt K mg nm st ps f fd) (Sc : FnScope N ps (defScope st)) (hn : ∀ ds Q E, fD ds Q E → ds.length = ps.length) (hN : ps.length ≤ N.length)
    (ht : ∀ (f : Addr) (cdv : Value) (A : Around) (outer : List PySem.Env) (s : Shared) (H : Hp) (E : XK) (p : Addr × Obj), L2H.Hot1 A p → L2H.RoomH k (A.deeper (envOfC nm (defScope st) s.heap.objs.size f cdv)) → DSs (L2H.cxH (L2N.CX P w) P w K mg base N nm (defScope st) f cdv A outer s H E p) (defBody st) tv t)
    (hb : Body t tv N.length fD) : KnH P w K mg base (k + 1) nm st ps fD := by
  obtain ⟨f, fd, D⟩ := T
  refine ⟨⟨f, fd, D, ?_⟩, hn⟩
  obtain ⟨_, _, _, _, _, _, cdv, _, _, e, look, code⟩ := D.fn.ex
  subst e
  refine L2H.fn_ofH look code Sc (fun vs H Q E ⟨S, Fa, ds, QD, ED, hl, wf, rs, _⟩ => by rw [rs.length]; exact hl) fun A outer s H vs Q E p hot hr hsp => ?_
  obtain ⟨S, Fa, ds, QD, ED, hl, wf, rs, hf, hret, hexc⟩ := hsp
  have hq := hb ds QD ED hf
  have body := ht f cdv A outer s H E p hot hr
  refine ⟨wSs _ (defBody st), wss _ _, wSs.pre fun kh hσ => ?_⟩
  have hvl : vs.length = ds.length := rs.length
  have fin : ∀ {S' F' G : Ft} {H' : Hp} {σ' : L2.St} {env' : Env}, Nx S Fa H S' F' G H' → ES K S' H' σ' env' F' → (∀ j, j ∉ tv → σ'[j]? = (L2.start N vs)[j]?) → ∃ F2, Nx S Fa H S' F2 G H' ∧ Rs K S' H' vs (outs tv 0 ds env') F2 := by
    intro S' F' G H' σ' env' n es ag
    obtain ⟨Fs, a, b, c⟩ := es
    refine ⟨_, ⟨n.keep, n.ss, n.sn, fun x ⟨j, _, h⟩ => n.fn x (c j x h), n.gn, ⟨fun x h ⟨j, _, h'⟩ => n.w.sf x h (c j x h'), n.w.sg, fun x ⟨j, _, h⟩ h' => n.w.fg x (c j x h) h', n.w.sd, fun x ⟨j, _, h⟩ => n.w.fm x (c j x h), n.w.gm⟩⟩, outs_rs a b vs ds 0 hvl (fun j v e nt => ?_) (fun j v y e e2 => ?_)⟩
    · rw [Nat.zero_add] at nt ⊢
      rw [ag j nt]
      unfold L2.start
      have hj : j < vs.length := (List.getElem?_eq_some_iff.mp e).1
      rw [List.getElem?_append_left (by simpa using hj), List.getElem?_map, e]
      rfl
    · obtain ⟨v', F1, e3, r, _⟩ := rs.get j e2
      rw [e] at e3; cases e3
      cases r with | p r => exact RP.kp (n.kpS wf) n.ss _ r
  have hx : HX (L2H.cxH (L2N.CX P w) P w K mg base N nm (defScope st) f cdv A outer s H E p) (fun cls d _ H => E cls d H) (Ag tv (L2.start N vs)) S Fa H (fun C y env => ED C y (outs tv 0 ds env)) := fun σ' S' F' G H' C nc d y env' ag n es xr cn q => by
    obtain ⟨F2, n2, r2⟩ := fin n es ag
    exact hexc C nc d y _ S' F2 G H' n2 r2 xr cn q
  refine (body.run (fun cls d _ H => E cls d H) (takes_def rfl (L2N.takes_of rfl rfl rfl rfl)) (L2.start N vs) S Fa H (startD N.length ds) _ _ kh hσ wf (rs.es N (by rw [hl]; exact hN)) hx hq).mono (fun σ' H' _ _ ⟨ag, S', F', env', n, es, q⟩ => ?_) (fun v H' _ ⟨S', F', G, σ', d, env', ag, n, es, r, q⟩ => ?_) (fun _ _ _ _ ⟨_, _, _, _, _, _, q⟩ => q) (fun _ _ _ _ ⟨_, _, _, _, _, _, q⟩ => q)
  · obtain ⟨F2, n2, r2⟩ := fin n es ag
    exact hret .non H' S' F2 Em _ _ n2 r2 (.p .non) q
  · obtain ⟨F2, n2, r2⟩ := fin n es ag
    exact hret v H' S' F2 G _ _ n2 r2 r q
end

/-! ### the call -/
/-- plain things without one tracked address -/
theorem rps_del {K : PySem.W.Frag} {S : Ft} {H : Hp} {a : Addr} {φ : Heap → Prop} (ha : H a = some (.ext φ)) : (∀ {v : V} {d : PD}, RP K S H v d → RP K (fun x => S x ∧ x ≠ a) (del H a) v d) ∧ (∀ {vs : List V} {ds : List PD}, RPs K S H vs ds → RPs K (fun x => S x ∧ x ≠ a) (del H a) vs ds) := by
  have ne : ∀ {b : Addr} {o : HO}, H b = some o → (∀ ψ, o ≠ .ext ψ) → del H a b = some o := fun {b o} e n => by
    rw [del_ne (fun z => by rw [z, ha] at e; cases e; exact n φ rfl)]; exact e
  have sqt : ∀ {b : Addr} {xs : List V}, SqT K H b xs → SqT K (del H a) b xs := fun {b xs} h => by
    rcases h with (h | ⟨o, h⟩) | h
    · exact .inl (.inl (ne h fun _ z => nomatch z))
    · exact .inl (.inr ⟨o, ne h fun _ z => nomatch z⟩)
    · exact .inr h
  have stl : ∀ {b : Addr} {xs : List V}, StL K S H b xs → StL K (fun x => S x ∧ x ≠ a) (del H a) b xs := fun {b xs} h => by
    rcases h with ⟨m, h⟩ | ⟨o, h⟩ | h
    · exact .inl ⟨⟨m, fun z => by rw [z, ha] at h; cases h⟩, ne h fun _ z => nomatch z⟩
    · exact .inr (.inl ⟨o, ne h fun _ z => nomatch z⟩)
    · exact .inr (.inr h)
  refine ⟨fun {v d} h => ?_, fun {vs ds} h => ?_⟩
  · exact RP.rec (motive_1 := fun v d _ => RP K (fun x => S x ∧ x ≠ a) (del H a) v d) (motive_2 := fun vs ds _ => RPs K (fun x => S x ∧ x ≠ a) (del H a) vs ds) .non .bl .int .str (fun q _ ih => .tup (sqt q) ih) (fun q _ ih => .lst (stl q) ih) .nil (fun _ _ h1 h2 => .cons h1 h2) h
  · exact RPs.rec (motive_1 := fun v d _ => RP K (fun x => S x ∧ x ≠ a) (del H a) v d) (motive_2 := fun vs ds _ => RPs K (fun x => S x ∧ x ≠ a) (del H a) vs ds) .non .bl .int .str (fun q _ ih => .tup (sqt q) ih) (fun q _ ih => .lst (stl q) ih) .nil (fun _ _ h1 h2 => .cons h1 h2) h
/-- a call where the exception of slot i, at a, is handled: plain arguments -/
def dCallH (a : Addr) (i : Nat) (f : FD) (tr : DTA) : DT := fun env Q E => tr env (fun os e1 => ∃ (n g : Str) (y : D) (xs : List PD), dj e1[i]? = .exn a n g y ∧ os = xs.map (fun x => Opd.val (.p x)) ∧ f (xs.map D.p) (fun r _ => Q (.val r) e1) (fun _ _ _ => False)) E
theorem exq_un {H H' : Hp} {h h' : Heap} {fs : List Addr} {a C : Addr} {d : Option Addr} (ha : H a = some (exq a C d)) (u : Un fs [] (del H a) H' h h') : Un fs [] H (upd H' a (exq a C d)) h h' := by
  have ne : ∀ {b : Addr}, H b = none → b ≠ a := fun e z => by rw [z, ha] at e; cases e
  have nd : ∀ {b : Addr}, H b = none → del H a b = none := fun {b} e => by rw [del_ne (ne e)]; exact e
  have up : ∀ {b : Addr} {o : HO}, H b = some o → (∀ ψ, o ≠ .ext ψ) → b ≠ a := fun e n z => by
    rw [z, ha] at e; cases e; exact n _ rfl
  refine ⟨fun b o e n hb hx => u.keep b o e (nd n) hb hx, fun b o e n hb hx => u.slot b o e (nd n) hb hx, fun b o e n hx => ?_, fun b o e hx => u.there b o e hx, fun b xs e => ?_, fun b o v e => ?_, fun b ps e => ?_⟩
  · rw [upd_ne (ne n)]; exact u.free b o e (nd n) hx
  · have z := up e fun _ z => nomatch z
    rw [upd_ne z]; exact u.tups b xs (by rw [del_ne z]; exact e)
  · have z := up e fun _ z => nomatch z
    rw [upd_ne z]; exact u.frzs b o v (by rw [del_ne z]; exact e)
  · have z := up e fun _ z => nomatch z
    obtain ⟨more, k⟩ := u.tbls b ps (by rw [del_ne z]; exact e)
    exact ⟨more, by rw [upd_ne z]; exact k⟩
theorem hok_del {P : Program} {w : World} {H : Hp} {h : Heap} {a : Addr} {φ : Heap → Prop} (k : HOk P w H h) (ha : H a = some (.ext φ)) : HOk P w (del H a) h := fun b o e => by
  have ne : b ≠ a := fun z => by rw [z, del_same] at e; cases e
  rw [del_ne ne] at e
  refine (k b o e).stay (fun _ _ _ z => z) (fun c z => ?_) fun c xs z => ?_
  · rw [del_ne (fun y => by rw [y, ha] at z; cases z)]; exact z
  · rw [del_ne (fun y => by rw [y, ha] at z; cases z)]; exact z
theorem do_knH {X : Cx} {k j : Nat} {a : Addr} (i : Nat) {nm : Str} {st : Stmt} {ps : List Str} {fD : FD} {p pos : Pos} {e : Expr} {es : List Expr} {tr : DTA} (G : KnH X.prog X.w X.K X.mg X.base j nm st ps fD) (hh : X.A.handled = some (.ref a)) (hr : L2H.RoomH k X.A) (hj : j ≤ k) (hg : Gl X nm) (ha : DA X (e :: es) tr)
    (hdb : (nm == ("__debug__" : Str)) = false := by decide) (he : starEach (e :: es) X.env = (false, eval e X.env) :: starEach es X.env := by rfl) (hpl : (backTo pos (starEach es X.env)).any (·.1) = false := by rfl) :
    DO X (.Call (.Name nm p) (e :: es) [] pos) (dCallH a i fD tr) := by
  obtain ⟨f, fd, Df, F⟩ := G.ex
  refine ⟨fun W tk σ S F' H env Q E kh w hs hx q => fun pins s I => ?_⟩
  refine wpAny_Call_Name_kw (ld_glob I hg Df.pt ?_ hdb)
  refine PySem.W.callWith_K (h₀ := X.base) I.ok.mod.kin Df.fn.kp (thn ((ha.run W tk σ S F' H env _ E kh w hs hx q) pos pins s I) fun us s1 h1 => ?_) he hpl
  obtain ⟨vs, H1, I1, rv, S1, F1, G1, os, e1, n1, es1, ovs, n, g, y, xs, hd, eo, q1⟩ := h1
  refine ⟨I1.kIn, ?_⟩
  subst eo
  have kh1 := kh_of I1
  have rp := plain_args ovs
  -- the exception of the slot
  obtain ⟨v0, _, _, _, r0, _⟩ := es1.slot i (by rw [hd]; intro z; cases z)
  rw [hd] at r0
  obtain ⟨a', C, d, ev, h0, _, cn⟩ := r0.exq
  have ea : a' = a := by
    cases r0 with
    | exn0 _ _ => cases ev; rfl
    | exn1 _ _ _ _ _ => cases ev; rfl
  subst ea
  obtain ⟨oe, ws, e0, ⟨oc, od, octx⟩, dat⟩ := exq_at I1 h0
  have nofr : a' ∉ frs X.stack := fun m => by rw [I1.stkFree a' m] at h0; cases h0
  have hl := F.len vs (del H1 a') (fun _ _ => True) (fun _ _ _ => False) ⟨fun x => S1 x ∧ x ≠ a', Em, xs.map Dv.D.p, fun r _ => Q (.val r) e1, fun _ _ _ => False, G.hn _ _ _ q1, ⟨fun _ _ z => z, fun _ _ z => z, fun _ z => z.elim, fun b hb => by rw [del_ne hb.2]; exact n1.w.sd b hb.1, fun _ z => z.elim, fun _ z => z.elim⟩,
    RPs.rs ((rps_del h0).2 rp), q1, fun _ _ _ _ _ _ _ _ _ _ _ => trivial, fun _ _ _ _ _ _ _ _ _ _ _ _ _ z => z⟩
  have lu : (us ++ []).length = ps.length := by rw [List.append_nil, ← hl]; exact (Vals.length rv).symm
  have bind := Df.bd s1 us I1.kIn lu
  rw [List.append_nil] at bind
  have env0 := I1.env0
  have env1 : Env0 X.prog X.w X.K X.mg X.base X.A X.stack s1 (del H1 a') := by
    refine ⟨env0.frames, env0.mod, fun b o z => ⟨(env0.bs b o z).1, ?_⟩, env0.bsz, env0.funs, fun b hb => ?_, hok_del env0.hok h0, env0.bare⟩
    · by_cases hb : b = a'
      · rw [hb, del_same]
      · rw [del_ne hb]; exact (env0.bs b o z).2
    · by_cases hba : b = a'
      · rw [hba, del_same]
      · rw [del_ne hba]; exact env0.frf b hb
  have go := F.run X.A X.stack s1 (del H1 a') ⟨us, []⟩ us vs (fun v H2 => ∃ (S2 F2 Gv : Ft) (r : Dv.D), Nx (fun x => S1 x ∧ x ≠ a') Em (del H1 a') S2 F2 Gv H2 ∧ R X.K S2 H2 v r Gv ∧ Q (.val r) e1) (fun _ _ _ => False) (a', oe) (L2H.RoomH.mono hr hj) ⟨hh, ws, dat, octx ws dat⟩
    ⟨e0, del_same, nofr, fun v z => by rw [dat] at z; cases z⟩ env1 bind rv ⟨fun x => S1 x ∧ x ≠ a', Em, xs.map Dv.D.p, fun r _ => Q (.val r) e1, fun _ _ _ => False, G.hn _ _ _ q1, ⟨fun _ _ z => z, fun _ _ z => z, fun _ z => z.elim, fun b hb => by rw [del_ne hb.2]; exact n1.w.sd b hb.1, fun _ z => z.elim, fun _ z => z.elim⟩,
      RPs.rs ((rps_del h0).2 rp), q1, fun v H' S' F2 G2 r ds' n2 rs' rv qd => ⟨S', F2, G2, r, n2, rv, qd⟩, fun _ _ _ _ _ _ _ _ _ _ _ _ _ z => z⟩
  refine wpAny_call (codeAny_mono go fun r s' back => ?_)
  cases r with
  | error x =>
    obtain ⟨b, B, H', cls, dd, z⟩ := back
    exact z.2.2.2.2.2.2.2.elim
  | ok fl =>
    cases fl with
    | ret u =>
      obtain ⟨v, H2, os2, bare2, un2, hok2, ru, S2, F2, Gv, rr, n2, rR, qq⟩ := back
      have no2 : H2 a' = none := un2.free a' oe e0 del_same (by simp)
      have un := exq_un h0 un2
      have same : s'.heap.get? a' = some oe := un2.keep a' oe e0 del_same nofr (by simp)
      have hok3 : HOk X.prog X.w (upd H2 a' (exq a' C d)) s'.heap := by
        intro b ob z
        by_cases hb : b = a'
        · subst hb
          rw [upd_same] at z
          cases z
          exact ⟨⟨oe, ws, same, ⟨oc, od, octx⟩, dat⟩, ⟨oe, same⟩, fun h1 h2 ⟨o1, v1, z1, z2⟩ k => ⟨o1, v1, k _ z1, z2⟩⟩
        · rw [upd_ne hb] at z
          have nn : ∀ {c : Addr} {u : HO}, H2 c = some u → c ≠ a' := fun e z => by rw [z, no2] at e; cases e
          exact (hok2 b ob z).stay (fun _ _ _ z => z) (fun c z => by rw [upd_ne (nn z)]; exact z) fun c xs z => by rw [upd_ne (nn z)]; exact z
      have J : Inv X pins σ (upd H2 a' (exq a' C d)) s' := I1.call' (ch := []) os2 un hok3 bare2 fun b z => absurd z (by simp)
      have nn : ∀ {b : Addr} {o : HO}, H2 b = some o → upd H2 a' (exq a' C d) b = some o := fun {b o} z => by
        rw [upd_ne (fun c => by rw [c, no2] at z; cases z)]; exact z
      have old : ∀ {b : Addr} {o : HO}, H1 b = some o → upd H2 a' (exq a' C d) b = some o := fun {b o} z => by
        by_cases hb : b = a'
        · rw [hb, upd_same, ← h0, ← hb]; exact z
        · exact nn (n2.keep b o (by rw [del_ne hb]; exact z) fun z => z)
      have fresh : ∀ {b : Addr}, del H1 a' b = none → b = a' ∨ H1 b = none := fun {b} z => by
        by_cases hb : b = a'
        · exact .inl hb
        · rw [del_ne hb] at z; exact .inr z
      have notin : ∀ {b : Addr}, H2 b ≠ none → b ≠ a' := fun h z => h (by rw [z]; exact no2)
      have s2 : ∀ b, S2 b → S1 b ∨ H1 b = none := fun b hb => by
        rcases n2.sn b hb with z | z | z
        · exact .inl z.1
        · exact z.elim
        · exact (fresh z).elim (fun c => absurd c (notin (n2.w.sd b hb))) .inr
      have gv : ∀ b, Gv b → H1 b = none := fun b hb => by
        rcases n2.gn b hb with z | z
        · exact z.elim
        · exact (fresh z).elim (fun c => absurd c (notin (n2.w.gm b hb).ne)) _root_.id
      have nx : Nx S1 F1 H1 (fun b => S1 b ∨ S2 b) F1 Gv (upd H2 a' (exq a' C d)) := {
        keep := fun b o z _ => old z
        ss := fun b hb => .inl hb
        sn := fun b hb => hb.elim .inl fun z => (s2 b z).elim .inl fun c => .inr (.inr c)
        fn := fun b hb => .inl hb
        gn := fun b hb => .inr (gv b hb)
        w := ⟨fun b h1 h2 => h1.elim (fun z => n1.w.sf b z h2) fun z => (s2 b z).elim (fun c => n1.w.sf b c h2) fun c => (n1.w.fm b h2).ne c,
          fun b h1 h2 => h1.elim (fun z => n1.w.sd b z (gv b h2)) fun z => n2.w.sg b z h2,
          fun b h1 h2 => (n1.w.fm b h1).ne (gv b h2),
          fun b h1 => h1.elim (fun z => by
            obtain ⟨u, e⟩ := Option.ne_none_iff_exists'.mp (n1.w.sd b z)
            rw [old e]; exact (fun c => nomatch c)) fun z => by
            obtain ⟨u, e⟩ := Option.ne_none_iff_exists'.mp (n2.w.sd b z)
            rw [nn e]; exact (fun c => nomatch c),
          fun b h1 => by
            obtain ⟨u, e⟩ := (n1.w.fm b h1).some
            rw [old e, ← e]; exact n1.w.fm b h1,
          fun b h1 => by
            obtain ⟨u, e⟩ := (n2.w.gm b h1).some
            rw [nn e, ← e]; exact n2.w.gm b h1⟩ }
      refine ⟨v, _, J, ru, (fun b => S1 b ∨ S2 b), F1, Gv, .val rr, e1, n1.seq0 nx, es1.kp (fun b o z _ => old z) (fun b hb => .inl hb), ?_, qq⟩
      exact R.kp (fun b hb => .inr hb) _ (fun b o z _ => nn z) rR
    | next => exact back.elim
    | brk => exact back.elim
    | cont => exact back.elim
end Dv

set_option Elab.async false
set_option linter.all false
set_option maxRecDepth 100000
/-! Dv, part BA: steps of comprehensions that raise, of calls while an exception is handled. -/
namespace Dv
open PySem PySem.Spec PyProof.Rows L2
section
variable {env e e1 : Env} {Q : Opd → Env → Prop} {E : EK} {t : DT} {g : DTG} {ti : DTI} {tt : DTB} {vs : List Nat} {tr : DTA} {f : FD} {a : Addr} {i : Nat} {os : List Opd} {QI : List PD → Ls → Env → Prop} {o : Opd} {ls : Ls} {xs : List PD}
def lcXQ (xs : List PD) (ls : Ls) (e1 : Env) (g : DTG) (tt : DTB) (te : DT) (vs : List Nat) (Q : Opd → Env → Prop) (E : EK) : Prop := xs.length ≤ 1000000 ∧ ∃ W : Nat → List D → Env → Prop, W 0 [] (wip vs e1) ∧
  (∀ i x acc env, xs[i]? = some x → W i acc env → g (.p x) env fun e2 => tt e2 (fun b e3 => if b = true then te e3 (kVal fun d e4 => W (i + 1) (acc ++ [d]) (wip vs e4)) (fun n y e4 => E n y (wip vs e4)) else W (i + 1) acc (wip vs e3)) EF) ∧
  ∀ acc env, W xs.length acc env → RS ls (fun e => Q (.val (.lst acc)) (rsP vs e1 e)) env
instance : Stp (dLcX ti g tt t vs env Q E) (dnQ (ti env (fun xs ls e1 => lcXQ xs ls e1 g tt t vs Q E) E)) := ⟨fun h => h⟩
/-- every item in its turn, or an exception at one that is not good -/
theorem lcx_good {α : Type} (enc : α → PD) (ys : List α) (good : α → Prop) (f : α → PD) (e0 : Env) (hx : xs = ys.map enc) (hl : ys.length ≤ 1000000) (he0 : wip vs e1 = e0)
    (h : ∀ (i : Nat) x (W : List D → Env → Prop) acc, ys[i]? = some x → (good x → W (acc ++ [D.p (f x)]) e0) → g (.p (enc x)) e0 fun e2 => tt e2 (fun b e3 => if b = true then t e3 (kVal fun d e4 => W (acc ++ [d]) (wip vs e4)) (fun n y e4 => E n y (wip vs e4)) else W acc (wip vs e3)) EF)
    (h1 : (∀ x ∈ ys, good x) → RS ls (fun e => Q (.val (.lst ((ys.map f).map D.p))) (rsP vs e1 e)) e0) : lcXQ xs ls e1 g tt t vs Q E := by
  subst hx he0
  refine ⟨by simpa using hl, fun i acc e => acc = ((ys.take i).map f).map D.p ∧ e = wip vs e1 ∧ ∀ x ∈ ys.take i, good x, ⟨by simp, rfl, by simp⟩, fun i x acc env hi ⟨ha, he, hg⟩ => ?_, fun acc env ⟨ha, he, hg⟩ => ?_⟩
  · subst he
    rw [List.getElem?_map] at hi
    cases z : ys[i]? with
    | none => rw [z] at hi; cases hi
    | some y =>
      rw [z] at hi; cases hi
      refine h i y (fun acc e => acc = ((ys.take (i + 1)).map f).map D.p ∧ e = wip vs e1 ∧ ∀ x ∈ ys.take (i + 1), good x) acc z fun gy => ?_
      obtain ⟨hlt, e5⟩ := List.getElem?_eq_some_iff.mp z
      rw [List.take_succ_eq_append_getElem hlt, e5]
      refine ⟨by rw [ha]; simp, rfl, fun x hx => ?_⟩
      rcases List.mem_append.mp hx with hx | hx
      · exact hg x hx
      · rw [List.mem_singleton.mp hx]; exact gy
  · subst ha he
    rw [List.length_map, List.take_length] at hg
    rw [List.length_map, List.take_length]
    exact h1 hg
/-- every item in its turn -/
theorem lcx_all {α : Type} (enc : α → PD) (ys : List α) (e0 : Env) (f : α → PD) (hx : xs = ys.map enc) (hl : ys.length ≤ 1000000) (he0 : wip vs e1 = e0)
    (h : ∀ (i : Nat) x (W : List D → Env → Prop) acc, ys[i]? = some x → W (acc ++ [D.p (f x)]) e0 → g (.p (enc x)) e0 fun e2 => tt e2 (fun b e3 => if b = true then t e3 (kVal fun d e4 => W (acc ++ [d]) (wip vs e4)) (fun n y e4 => E n y (wip vs e4)) else W acc (wip vs e3)) EF)
    (h1 : RS ls (fun e => Q (.val (.lst ((ys.map f).map D.p))) (rsP vs e1 e)) e0) : lcXQ xs ls e1 g tt t vs Q E :=
  lcx_good enc ys (fun _ => True) f e0 hx hl he0 (fun i x W acc hi hw => h i x W acc hi (hw trivial)) fun _ => h1
def kLstQ (QI : List PD → Ls → Env → Prop) : Opd → Env → Prop := fun o e1 => match o.get e1 with
  | .p (.list xs) => QI xs [] e1
  | _ => False
instance : Stp (diLst t env QI E) (dnQ (t env (kLstQ QI) E)) := ⟨fun h => h⟩
instance : Stp (kLstQ QI o e) (exQ fun (xs : List PD) => eqQ (o.get e = .p (.list xs)) (dnQ (QI xs [] e))) := ⟨fun h => by
  obtain ⟨xs, h1, h2⟩ := h
  unfold kLstQ
  rw [h1]; exact h2⟩
def chQ (a : Addr) (i : Nat) (f : FD) (os : List Opd) (e1 : Env) (Q : Opd → Env → Prop) : Prop := ∃ (n g : Str) (y : D) (xs : List PD), dj e1[i]? = .exn a n g y ∧ os = xs.map (fun x => Opd.val (.p x)) ∧ f (xs.map D.p) (fun r _ => Q (.val r) e1) (fun _ _ _ => False)
instance : Stp (dCallH a i f tr env Q E) (dnQ (tr env (fun os e1 => chQ a i f os e1 Q) E)) := ⟨fun h => h⟩
theorem ch_mk {n g : Str} {y : D} (xs : List PD) (hd : dj e1[i]? = .exn a n g y) (ho : os = xs.map (fun x => Opd.val (.p x))) (h : f (xs.map D.p) (fun r _ => Q (.val r) e1) (fun _ _ _ => False)) : chQ a i f os e1 Q := ⟨n, g, y, xs, hd, ho, h⟩
end
end Dv

set_option Elab.async false
set_option linter.all false
set_option maxRecDepth 100000
/-! Dv, part AO: texts: join, split, index, in (a sign in a text). -/
namespace Dv
open PySem PySem.Spec PyProof.Rows L2
def strsP : List PD → Option (List Str)
  | [] => some []
  | .str s :: xs => (strsP xs).map (s :: ·)
  | _ :: _ => none
theorem strsP_map (ys : List Str) : strsP (ys.map PyData.str) = some ys := by
  induction ys with
  | nil => rfl
  | cons y ys ih =>
    show (strsP (ys.map PyData.str)).map (y :: ·) = _
    rw [ih]; rfl
theorem RPs.strs {K : PySem.W.Frag} {S : Ft} {H : Hp} : ∀ {vs : List V} {xs : List PD} {ys : List Str}, RPs K S H vs xs → strsP xs = some ys → vs = ys.map V.str
  | _, [], ys, h, e => by
    have e : some [] = some ys := e
    cases e; cases h; rfl
  | _, x :: xs, ys, h, e => by
    cases h with
    | cons a b =>
      cases x with
      | str s =>
        have e : (strsP xs).map (s :: ·) = some ys := e
        cases z : strsP xs with
        | none => rw [z] at e; cases e
        | some zs =>
          rw [z] at e; cases e
          rw [RPs.strs b z]
          cases a; rfl
      | _ => cases e
theorem RPs.ofStrs {K : PySem.W.Frag} {S : Ft} {H : Hp} : ∀ (ys : List Str), RPs K S H (ys.map V.str) (ys.map PyData.str)
  | [] => .nil
  | y :: ys => .cons (.str y) (RPs.ofStrs ys)
def kJoin (a : Str) (Q : Opd → Env → Prop) : Opd → Env → Prop := fun y e => ∃ xs ys, (y.get e).seq = some xs ∧ strsP xs = some ys ∧ (ys.map (·.length)).sum + ys.length * a.length ≤ 16777216 ∧ Q (.val (.p (.str (Txt.join a ys)))) e
def dJoin (to te : DT) : DT := fun env Q E => to env (fun o e1 => oneS o fun a => te e1 (fun y e2 => kJoin a Q y e2) E) E
def kSplit (a : Str) (Q : Opd → Env → Prop) : Opd → Env → Prop := fun y e => oneS y fun b => (b.length == 0) = false ∧ a.length + 2 ≤ sizeLine ∧ Q (.val (.lst (((Txt.split a b).map PyData.str).map D.p))) e
def dSplit (to te : DT) : DT := fun env Q E => to env (fun o e1 => oneS o fun a => te e1 (fun y e2 => kSplit a Q y e2) E) E
def kSInd (a : Str) (Q : Opd → Env → Prop) : Opd → Env → Prop := fun y e => oneS y fun b => ∃ (i : Nat) (rest : List Nat), Builtin.Str.occurrences a b 0 a.length 1 = i :: rest ∧ Q (.val (.p (.int (i : Int)))) e
def dSInd (to te : DT) : DT := fun env Q E => to env (fun o e1 => oneS o fun a => te e1 (fun y e2 => kSInd a Q y e2) E) E
theorem oneS_inv {o : Opd} {f : Str → Prop} (h : oneS o f) : ∃ s, o = .val (.p (.str s)) ∧ f s := by
  unfold oneS at h
  split at h
  · exact ⟨_, rfl, h⟩
  · exact h.elim
section
variable {X : Cx} {o e : Expr} {to te : DT} {apos pos : Pos}
/-- a text, then an operand behind it -/
theorem strThen {W : WX} (ho : DO X o to) (he : DO X e te) (tk : Takes X W) {σ : L2.St} {S F : Ft} {H : Hp} {env : Env} {E : EK} (kh : KH X.K H) (w : WF S F Em H) (es : ES X.K S H σ env F) (hx : HX X W (Eq σ) S F H E)
    {q : Str → Opd → Env → Prop} (h : to env (fun o e1 => oneS o fun a => te e1 (fun y e2 => q a y e2) E) E) {r : V → V → Hp → Prop}
    (k : ∀ a u H2 S2 F2 G2 y e2, KH X.K H2 → Nx S F H S2 F2 G2 H2 → ES X.K S2 H2 σ e2 F2 → OV X.K S2 H2 σ u y G2 → q a y e2 → r (.str a) u H2) :
    wE X o σ H fun x H1 => (∃ a, x = .str a) ∧ wE X e σ H1 fun y H2 => r x y H2 := by
  refine (ho.run W tk σ S F H env _ E kh w es hx h).mono fun v H1 kh1 ⟨S1, F1, G1, x, e1, n1, es1, ov1, q1⟩ => ?_
  obtain ⟨a, rfl, q1⟩ := oneS_inv q1
  have ov1 : R X.K S1 H1 v (.p (.str a)) G1 := ov1
  cases ov1 with
  | p rx =>
    cases rx
    refine ⟨⟨a, rfl⟩, ?_⟩
    refine (he.run W tk σ S1 F1 H1 e1 _ E kh1 n1.w.e es1 (hx.on n1) q1).mono fun u H2 kh2 ⟨S2, F2, G2, y, e2, n2, es2, ov2, q2⟩ => ?_
    exact k a u H2 S2 F2 G2 y e2 kh2 (n1.seq0 n2) es2 ov2 q2
theorem do_join (ho : DO X o to) (he : DO X e te) (hs : starEach [e] X.env = [(false, eval e X.env)] := by rfl) (hbase : attributeBase o "join" X.env (eval o X.env) = eval o X.env := by rfl) (hline : (apos.endLine == pos.line) = true := by rfl) :
    DO X (.Call (.Attribute o "join" apos) [e] [] pos) (dJoin to te) := by
  refine ⟨fun W tk σ S F H env Q E kh w es hx h => toE (pe_join (we X o) (we X e) hs hbase hline) ?_⟩
  refine strThen (q := fun a y e => kJoin a Q y e) ho he tk kh w es hx h fun a u H2 S2 F2 G2 y e2 kh2 n2 es2 ov2 q2 => ?_
  obtain ⟨xs, ys, hy, hp, hl, q⟩ := q2
  obtain ⟨Fy, ry⟩ := ov2.r kh2 es2 (fun z => by rw [z] at hy; cases hy)
  obtain ⟨p, vs, rfl, sq, rp⟩ := ry.seq hy
  have ev := rp.strs hp
  subst ev
  exact ⟨a, p, ys, rfl, rfl, sq, hl, S2, F2, G2, .val (.p (.str (Txt.join a ys))), e2, n2, es2, R.p (.str _), q⟩
theorem do_split (ho : DO X o to) (he : DO X e te) (hs : starEach [e] X.env = [(false, eval e X.env)] := by rfl) (hbase : attributeBase o "split" X.env (eval o X.env) = eval o X.env := by rfl) (hline : (apos.endLine == pos.line) = true := by rfl) :
    DO X (.Call (.Attribute o "split" apos) [e] [] pos) (dSplit to te) := by
  refine ⟨fun W tk σ S F H env Q E kh w es hx h => toE (pe_split (we X o) (we X e) hs hbase hline) ?_⟩
  refine strThen (q := fun a y e => kSplit a Q y e) ho he tk kh w es hx h fun a u H2 S2 F2 G2 y e2 kh2 n2 es2 ov2 q2 => ?_
  obtain ⟨b, rfl, h1, h2, q⟩ := oneS_inv q2
  have ov2 : R X.K S2 H2 u (.p (.str b)) G2 := ov2
  cases ov2 with
  | p ry =>
    cases ry
    refine ⟨a, b, rfl, rfl, h1, h2, fun p hp => ?_⟩
    exact QV.fin (W := W) n2 es2 (QV.ll (Q := fun d => Q (.val d) e2) hp (RPs.ofStrs _) q)
theorem do_sindex (ho : DO X o to) (he : DO X e te) (hs : starEach [e] X.env = [(false, eval e X.env)] := by rfl) (hbase : attributeBase o "index" X.env (eval o X.env) = eval o X.env := by rfl) (hline : (apos.endLine == pos.line) = true := by rfl) :
    DO X (.Call (.Attribute o "index" apos) [e] [] pos) (dSInd to te) := by
  refine ⟨fun W tk σ S F H env Q E kh w es hx h => toE (pe_m1 PySem.F.slot_str_index PySem.F.type_str_index mt_sindex (we X o) (we X e) hs hbase hline) ?_⟩
  refine strThen (q := fun a y e => kSInd a Q y e) ho he tk kh w es hx h fun a u H2 S2 F2 G2 y e2 kh2 n2 es2 ov2 q2 => ?_
  obtain ⟨b, rfl, i, rest, ho, q⟩ := oneS_inv q2
  have ov2 : R X.K S2 H2 u (.p (.str b)) G2 := ov2
  cases ov2 with
  | p ry =>
    cases ry
    exact ⟨a, b, i, rest, rfl, rfl, ho, S2, F2, G2, .val (.p (.int (i : Int))), e2, n2, es2, R.p (.int _), q⟩
end
/-! ### a sign in a text -/
def fInT (neg : Bool) : F2 := fun x y Q => match x, y with
  | .p (.str s), .p (.str z) => ∃ c, s = ⟨#[c]⟩ ∧ Q (.p (.bool (neg ^^ decide (c ∈ z.cps.toList))))
  | _, _ => False
theorem od_inT {X : Cx} : OpD X (compareOp .In) (fInT false) := by
  refine ⟨fun S H v u x y Fx Fy Q kh rx ry h => ?_⟩
  unfold fInT at h
  split at h
  · cases rx with
    | p rx =>
      cases rx
      cases ry with
      | p ry =>
        cases ry
        obtain ⟨c, rfl, q⟩ := h
        exact toO op_in_sign ⟨c, _, rfl, rfl, QV.pp (.bl _) (by rw [Bool.false_xor] at q; exact q)⟩
  · exact h.elim
theorem od_notinT {X : Cx} : OpD X (compareOp .NotIn) (fInT true) := by
  refine ⟨fun S H v u x y Fx Fy Q kh rx ry h => ?_⟩
  unfold fInT at h
  split at h
  · cases rx with
    | p rx =>
      cases rx
      cases ry with
      | p ry =>
        cases ry
        obtain ⟨c, rfl, q⟩ := h
        exact toO op_notIn_sign ⟨c, _, rfl, rfl, QV.pp (.bl _) (by rw [Bool.true_xor] at q; exact q)⟩
  · exact h.elim
theorem st_inT {n : Bool} : Strict (fInT n) := fun x y Q h => by
  unfold fInT at h; split at h
  · exact ⟨(fun z => nomatch z), (fun z => nomatch z)⟩
  · exact h.elim
theorem f_inT {neg : Bool} {x y : D} {QD : D → Prop} {c : Nat} {z : Str} (h1 : x = .p (.str ⟨#[c]⟩)) (h2 : y = .p (.str z)) (h : QD (.p (.bool (neg ^^ decide (c ∈ z.cps.toList))))) : fInT neg x y QD := by
  subst h1 h2
  exact ⟨c, rfl, h⟩
section
variable {env e : Env} {E : EK} {to te : DT} {Q : Opd → Env → Prop} {y : Opd} {a b : Str} {QO : Opd → Prop} {QD : D → Prop} {o : Opd} {d ky : D}
instance : Stp (dJoin to te env Q E) (dnQ (to env (fun o e1 => oneS o fun a => te e1 (fun y e2 => kJoin a Q y e2) E) E)) := ⟨fun h => h⟩
instance : Stp (dSplit to te env Q E) (dnQ (to env (fun o e1 => oneS o fun a => te e1 (fun y e2 => kSplit a Q y e2) E) E)) := ⟨fun h => h⟩
instance : Stp (dSInd to te env Q E) (dnQ (to env (fun o e1 => oneS o fun a => te e1 (fun y e2 => kSInd a Q y e2) E) E)) := ⟨fun h => h⟩
theorem k_join {xs : List PD} (ys : List Str) (h1 : (y.get e).seq = some xs) (h2 : strsP xs = some ys) (h3 : (ys.map (·.length)).sum + ys.length * a.length ≤ 16777216) (h : Q (.val (.p (.str (Txt.join a ys)))) e) : kJoin a Q y e := ⟨xs, ys, h1, h2, h3, h⟩
theorem k_split (h1 : (b.length == 0) = false) (h2 : a.length + 2 ≤ sizeLine) (h : Q (.val (.lst (((Txt.split a b).map PyData.str).map D.p))) e) : kSplit a Q (.val (.p (.str b))) e := ⟨h1, h2, h⟩
theorem k_sind {i : Nat} {rest : List Nat} (h1 : Builtin.Str.occurrences a b 0 a.length 1 = i :: rest) (h : Q (.val (.p (.int (i : Int)))) e) : kSInd a Q (.val (.p (.str b))) e := ⟨i, rest, h1, h⟩
theorem x_S {s : Str} {i : Int} {c : Nat} (h1 : d = .p (.str s)) (h2 : ky = .p (.int i)) (hl : s.length ≤ sizeLine) (hz : atI s.cps.toList i = some c) (h : QO (.val (.p (.str ⟨#[c]⟩)))) : ixO o d ky QO := by
  subst h1 h2
  refine ⟨hl, ?_⟩
  rw [hz]; exact h
theorem g_intS {ds : List D} {s : Str} {n : Int} (h : ds = [.p (.str s)]) (hl : s.length ≤ 640) (hn : PySem.intText? s = some n) (q : QD (.p (.int n))) : gInt ds QD := by
  subst h
  refine ⟨hl, ?_⟩
  rw [hn]; exact q
end
end Dv

set_option Elab.async false
set_option linter.all false
set_option maxRecDepth 100000
/-! Dv, part BC: a text so many times; the making of an object whose __init__ may let an exception out. -/
namespace Dv
open PySem PySem.Spec PyProof.Rows L2
def repS (x : Str) (n : Nat) : Str := ⟨(List.replicate n x.cps).foldl (· ++ ·) #[]⟩
theorem repS_fold (a : Array Nat) : ∀ (n : Nat) (b : Array Nat), ((List.replicate n a).foldl (· ++ ·) b).toList = b.toList ++ (List.replicate n a.toList).flatten
  | 0, b => by simp
  | n + 1, b => by
    rw [List.replicate_succ, List.foldl_cons, repS_fold a n (b ++ a), Array.toList_append, List.replicate_succ, List.flatten_cons, List.append_assoc]
theorem repS_tl (x : Str) (n : Nat) : (repS x n).cps.toList = (List.replicate n x.cps.toList).flatten := by
  unfold repS
  rw [repS_fold]; rfl
theorem repS_ext {x y : Str} (h : x.cps.toList = y.cps.toList) : x = y := by
  cases x; cases y
  simp only [Str.mk.injEq]
  exact Array.toList_inj.mp h
def fMulS : F2 := fun x y Q => match x, y with
  | .p (.str a), .p (.int k) => (k ≤ 100000 ∧ -100000 ≤ k ∧ a.length ≤ 100) ∧ Q (.p (.str (repS a k.toNat)))
  | _, _ => False
theorem st_mulS : Strict fMulS := fun x y Q h => by
  unfold fMulS at h
  split at h
  · exact ⟨(fun z => by cases z), fun z => by cases z⟩
  · exact h.elim
theorem od_mulS {X : Cx} : OpD X (binaryOp .Mult) fMulS := by
  refine ⟨fun S H v u x y Fx Fy Q kh rx ry h => ?_⟩
  unfold fMulS at h
  split at h
  · rename_i a k
    cases rx with
    | p rx =>
      cases rx
      cases ry with
      | p ry =>
        cases ry
        obtain ⟨⟨h1, h2, h3⟩, q⟩ := h
        intro pins s σ v u I r1 r2
        obtain ⟨t, rfl⟩ := r1
        obtain ⟨t', rfl⟩ := r2
        have sz : sizeLine = 16777216 := by rw [sizeLine_eq]
        have hlen : a.length = a.cps.toList.length := rfl
        have mulb : a.length * k.toNat ≤ 10000000 := Nat.le_trans (Nat.mul_le_mul h3 (show k.toNat ≤ 100000 by omega)) (by decide)
        refine P.mul_str (by rw [decide_eq_false (by omega), decide_eq_false (by omega)]; rfl) (fun h _ => ?_) (fun h _ => ?_) ?_
        · have hk : 1 ≤ k := by omega
          have : (1000 : Int) ≤ (2 ^ 63 - 1) / k := (Int.le_ediv_iff_mul_le (by omega)).mpr (by omega)
          omega
        · unfold Builtin.Str.tooLong
          rw [sz]
          exact decide_eq_false (by omega)
        · split
          · rename_i h
            have e : repS a k.toNat = Str.empty := by rw [show k.toNat = 0 by omega]; rfl
            rw [e] at q
            exact ⟨by decide, .str Str.empty, H, I.tok _, ⟨_, rfl⟩, QV.pp (.str _) q⟩
          · split
            · rename_i h h'
              rw [Bool.or_eq_true] at h'
              have e : repS a k.toNat = a := by
                refine repS_ext ?_
                rw [repS_tl]
                rcases h' with h' | h'
                · have : k = 1 := by simpa using h'
                  subst this
                  show (List.replicate 1 a.cps.toList).flatten = _
                  simp
                · have h0 : a.cps.toList = [] := List.length_eq_zero_iff.mp (by rw [← hlen]; simpa using h')
                  rw [h0]
                  simp
              rw [e] at q
              exact ⟨.str a, H, I, ⟨_, rfl⟩, QV.pp (.str _) q⟩
            · refine ⟨?_, .str (repS a k.toNat), H, I.tok _, ⟨_, rfl⟩, QV.pp (.str _) q⟩
              show (repS a k.toNat).cps.size ≤ _
              have e : (repS a k.toNat).cps.size = k.toNat * a.length := by
                rw [← Array.length_toList, repS_tl, hlen]
                generalize a.cps.toList = l
                generalize k.toNat = n
                induction n with
                | zero => simp
                | succ n ih => rw [List.replicate_succ, List.flatten_cons, List.length_append, ih, Nat.succ_mul]; omega
              rw [e, Nat.mul_comm]
              omega
  · exact h.elim
theorem f_mulS {x y : D} {a : Str} {k : Int} {QD : D → Prop} (h1 : x = .p (.str a)) (h2 : y = .p (.int k)) (hl : k ≤ 100000 ∧ -100000 ≤ k ∧ a.length ≤ 100) (h : QD (.p (.str (repS a k.toNat)))) : fMulS x y QD := by
  subst h1 h2
  exact ⟨hl, h⟩
/-! ### making, where __init__ may throw -/
def newXQ (cls : Str) (f : FD) (os : List Opd) (e : Env) (Q : Opd → Env → Prop) (E : EK) : Prop := ∃ xs : List PD, os = xs.map (fun x => Opd.val (.p x)) ∧
  f (.ins cls [] [] :: xs.map D.p) (fun r ds' => r = .p .none ∧ ∃ d rest, ds' = d :: rest ∧ Q (.val d) e) (fun C x _ => E C x e)
def dNewX (cls : Str) (f : FD) (tr : DTA) : DT := fun env Q E => tr env (fun os e1 => newXQ cls f os e1 Q E) E
/-- two new things beside what was there -/
theorem new_two {K : PySem.W.Frag} {S1 F1 G1 S' F' G' Fd : Ft} {H1 Hm H' : Hp} {x dx C : Addr} (w1 : WF S1 F1 G1 H1) (em : Hm = upd (upd H1 dx (.own x)) x (.ins C dx [])) (hx0 : H1 x = none) (hd0 : H1 dx = none) (n2 : Nx S1 (fun b => b = x) Hm S' F' G' H')
    (hs : Dj S' Fd) (fd : ∀ a, Fd a → F' a ∨ G' a) : Nx S1 F1 H1 S' F1 Fd H' ∧ ∀ a o, H1 a = some o → H' a = some o := by
  subst em
  have nn : ∀ {b : Addr} {u : HO}, H1 b = some u → upd (upd H1 dx (.own x)) x (.ins C dx []) b = some u := fun {b u} h => by
    rw [upd_ne (fun z => by rw [z, hx0] at h; cases h), upd_ne (fun z => by rw [z, hd0] at h; cases h)]; exact h
  have back : ∀ {b : Addr}, upd (upd H1 dx (.own x)) x (.ins C dx []) b = none → H1 b = none := fun {b} h => by
    cases z : H1 b with
    | none => rfl
    | some u => rw [nn z] at h; cases h
  have keep : ∀ a o, H1 a = some o → H' a = some o := fun a o h => n2.keep a o (nn h) fun z => by rw [z, hx0] at h; cases h
  have fresh : ∀ a, Fd a → H1 a = none := fun a h => by
    rcases fd a h with h | h
    · rcases n2.fn a h with z | z
      · rw [z]; exact hx0
      · exact back z
    · rcases n2.gn a h with z | z
      · rw [z]; exact hx0
      · exact back z
  have snew : ∀ a, S' a → S1 a ∨ H1 a = none := fun a h => by
    rcases n2.sn a h with z | z | z
    · exact .inl z
    · rw [z]; exact .inr hx0
    · exact .inr (back z)
  refine ⟨⟨fun a o h _ => keep a o h, n2.ss, fun a h => (snew a h).elim .inl fun z => .inr (.inr z), fun a h => .inl h, fun a h => .inr (fresh a h), ⟨fun a h1 h2 => (snew a h1).elim (fun z => w1.sf a z h2) fun z => (w1.fm a h2).ne z, hs, fun a h1 h2 => (w1.fm a h1).ne (fresh a h2), n2.w.sd, fun a h => ?_, fun a h => ?_⟩⟩, keep⟩
  · obtain ⟨u, e⟩ := (w1.fm a h).some
    rw [keep a u e, ← e]; exact w1.fm a h
  · rcases fd a h with h | h
    · exact n2.w.fm a h
    · exact n2.w.gm a h
theorem do_newX {X : Cx} {k j : Nat} {cls : Str} {st : Stmt} {ps : List Str} {fD : FD} {e : Expr} {es : List Expr} {tr : DTA} {p pos : Pos} (G : KnI X.prog X.w X.K X.mg X.base j cls st ps fD) (hr : Room k X.A) (hj : j + 1 ≤ k) (hg : Gl X cls) (ha : DA X (e :: es) tr)
    (hdb : (cls == ("__debug__" : Str)) = false := by decide) (he : starEach (e :: es) X.env = (false, eval e X.env) :: starEach es X.env := by rfl) (hpl : (backTo pos (starEach es X.env)).any (·.1) = false := by rfl) :
    DO X (.Call (.Name cls p) (e :: es) [] pos) (dNewX cls fD tr) := by
  obtain ⟨C, f, fd, cn, hm, M, bd, F⟩ := G.ex
  refine ⟨fun W tk σ S Fr H env Q E kh w hs hx q => fun pins s I => ?_⟩
  refine wpAny_Call_Name_kw (ld_glob I hg hm ?_ hdb)
  refine PySem.W.callWith_K (h₀ := X.base) I.ok.mod.kin M.kp (thn ((ha.run W tk σ S Fr H env _ E kh w hs hx q) pos pins s I) fun us s1 h1 => ?_) he hpl
  obtain ⟨vs, H1, I1, rv, S1, F1, G1, os, e1, n1, es1, ovs, xs, eo, q1⟩ := h1
  refine ⟨I1.kIn, ?_⟩
  subst eo
  have rp := plain_args ovs
  obtain ⟨x, ex⟩ : ∃ x, x = s1.heap.objs.size + 1 := ⟨_, rfl⟩
  obtain ⟨dx, edx⟩ : ∃ dx, dx = s1.heap.objs.size := ⟨_, rfl⟩
  have hx0 : H1 x = none := I1.hok.fresh (by omega)
  have hd0 : H1 dx = none := I1.hok.fresh (by omega)
  have I2 := Inv.made (C := C) I1
  rw [← ex, ← edx] at I2
  obtain ⟨Hm, em⟩ : ∃ Hm, Hm = upd (upd H1 dx (.own x)) x (.ins C dx []) := ⟨_, rfl⟩
  rw [← em] at I2
  have nS : ∀ b, S1 b → b ≠ x ∧ b ≠ dx := fun b h => ⟨fun z => n1.w.sd b h (by rw [z]; exact hx0), fun z => n1.w.sd b h (by rw [z]; exact hd0)⟩
  have nn : ∀ {b : Addr} {u : HO}, H1 b = some u → Hm b = some u := fun {b u} h => by
    rw [em, upd_ne (fun z => by rw [z, hx0] at h; cases h), upd_ne (fun z => by rw [z, hd0] at h; cases h)]; exact h
  have kp : ∀ {F0 : Ft}, Kp S1 F0 H1 Hm := fun b u h _ => nn h
  have hmx : Hm x = some (.ins C dx []) := by rw [em]; exact upd_same
  have wm : WF S1 (fun b => b = x) Em Hm := ⟨fun b h z => (nS b h).1 z, fun _ _ z => z.elim, fun _ _ z => z.elim, fun b h => (by
    cases z : H1 b with
    | none => exact absurd z (n1.w.sd b h)
    | some u => rw [nn z]; intro c; cases c), fun b z => by subst z; rw [hmx]; trivial, fun _ z => z.elim⟩
  have rs : Rs X.K S1 Hm (.ref x :: vs) (.ins cls [] [] :: xs.map Dv.D.p) (fun b => b = x) := by
    refine .cons (F1 := fun b => b = x) (F2 := Em) ?_ (RPs.rs (RPs.kp (F := Em) kp Sub.refl _ rp)) Sub.refl (fun _ z => z.elim) fun _ _ z => z.elim
    exact .ins (fs := []) (F' := Em) cn hmx rfl (fun _ z => z.elim) .nil
  have sp : SpD X.K ps.length fD (.ref x :: vs) Hm (fun v H2 => v = .non ∧ QO X.K σ S Fr H Q (.ref x) H2) (WE W σ) := by
    refine ⟨S1, fun b => b = x, _, _, _, G.hn _ _ _ q1, wm, rs, q1, fun v H' S' F' Gx r ds' n2 rs' rv qd => ?_, fun Cx nc d y ds' S' F3 G3 H' n3 rs' xr cn2 qd => ?_⟩
    · obtain ⟨er, d, rest, ed, q2⟩ := qd
      subst er ed
      cases rs' with
      | @cons _ _ _ _ _ Fd Fe rd _ sd _ _ =>
        have ev : v = .non := by
          cases rv with
          | p rv => cases rv; rfl
        obtain ⟨nm, keep⟩ := new_two (K := X.K) n1.w em hx0 hd0 n2 (fun a h1 h2 => n2.w.sf a h1 (sd a h2)) fun a h => .inl (sd a h)
        exact ⟨ev, S', F1, Fd, .val d, e1, n1.seq0 nm, es1.kp (fun a o h _ => keep a o h) n2.ss, rd, q2⟩
    · obtain ⟨nm, keep⟩ := new_two (K := X.K) n1.w em hx0 hd0 n3 n3.w.sg fun a h => .inr h
      exact hx σ S' F1 G3 H' Cx nc d y e1 rfl (n1.seq0 nm) (es1.kp (fun a o h _ => keep a o h) n3.ss) xr cn2 qd
  have r2 : Vals (V.ref x :: vs) (Value.ref x :: us) := .cons rfl rv
  have hl := F.len _ _ _ _ sp
  have bind := bd _ (Value.ref x :: us) I2.kIn (by rw [List.append_nil, ← hl]; exact r2.length.symm)
  rw [List.append_nil] at bind
  have go := F.run _ X.stack _ Hm ⟨Value.ref x :: us, []⟩ (Value.ref x :: us) _ _ _ ((hr.mono hj).make C us []) (I2.env0.make C us []) bind r2 sp
  subst ex edx
  show wpAny (model X.prog X.w) X.A (call (.ref C) us) _ _ _
  refine wpAny_call (make_map (f := f) I1.kIn M.makes M.init (beq_iff_eq.mp M.fn) (codeAny_mono go fun r s' back => ?_))
  cases r with
  | error x => exact L2N.passAt tk.n σ pins Hm _ x s' I2 back
  | ok fl =>
    cases fl with
    | ret u =>
      obtain ⟨v, H', I3, ru, ev, q3⟩ := I2.after back
      subst ev
      exact ⟨ru, .ref (s1.heap.objs.size + 1), H', I3, rfl, q3⟩
    | next => exact back.elim
    | brk => exact back.elim
    | cont => exact back.elim
section
variable {env e : Env} {Q : Opd → Env → Prop} {E : EK} {tr : DTA} {cls : Str} {fD : FD}
instance : Stp (dNewX cls fD tr env Q E) (dnQ (tr env (fun os e1 => newXQ cls fD os e1 Q E) E)) := ⟨fun h => h⟩
theorem newX_mk {os : List Opd} (xs : List PD) (ho : os = xs.map fun x => Opd.val (.p x)) (h : fD (.ins cls [] [] :: xs.map D.p) (fun r ds' => r = .p .none ∧ ∃ d rest, ds' = d :: rest ∧ Q (.val d) e) (fun C x _ => E C x e)) : newXQ cls fD os e Q E := ⟨xs, ho, h⟩
end
end Dv

set_option Elab.async false
set_option linter.all false
set_option maxRecDepth 100000
/-! Dv, part AI: a tuple so many times; an item of a list just made that is not plain. -/
namespace Dv
open PySem PySem.Spec PyProof.Rows L2
def fMulT : F2 := fun x y Q => match x, y with
  | .p (.tuple xs), .p (.int k) => (xs ≠ [] ∧ 2 ≤ k ∧ k ≤ 1000 ∧ xs.length ≤ 1000) ∧ Q (.p (.tuple (List.replicate k.toNat xs).flatten))
  | _, _ => False
theorem od_mulT {X : Cx} : OpD X (binaryOp .Mult) fMulT := by
  refine ⟨fun S H v u x y Fx Fy Q kh rx ry h => ?_⟩
  unfold fMulT at h
  split at h
  · rename_i xs k
    cases rx with
    | p rx =>
      cases rx with
      | tup a b =>
        cases ry with
        | p ry =>
          cases ry
          have l1 := RPs.length _ b
          obtain ⟨⟨h1, h2, h3, h4⟩, q⟩ := h
          exact toO op_repT ⟨_, _, _, rfl, rfl, a, (fun e => by rw [e] at l1; exact h1 (List.eq_nil_of_length_eq_zero l1.symm)), h2, h3, by rw [l1]; exact h4, fun p hp => QV.tt hp (b.rep _) q⟩
  · exact h.elim
theorem st_mulT : Strict fMulT := fun x y Q h => by
  unfold fMulT at h
  split at h
  · exact ⟨(fun z => by cases z), fun z => by cases z⟩
  · exact h.elim
theorem f_mulT {x y : D} {xs : List PD} {k : Int} {QD : D → Prop} (h1 : x = .p (.tuple xs)) (h2 : y = .p (.int k)) (hl : xs ≠ [] ∧ 2 ≤ k ∧ k ≤ 1000 ∧ xs.length ≤ 1000) (h : QD (.p (.tuple (List.replicate k.toNat xs).flatten))) : fMulT x y QD := by
  subst h1 h2
  exact ⟨hl, h⟩
theorem x_LV {ds : List D} {ky w d d0 : D} {a : Int} {QO : Opd → Prop} (h1 : d = .lst ds) (h2 : ky = .p (.int a)) (hz : atI ds a = some w) (h : QO (.val w)) : ixO (.val d0) d ky QO := by
  subst h1 h2
  show (match atI ds a with
      | some (.p z) => QO (.val (.p z))
      | some z => QO (.val z)
      | none => False)
  rw [hz]
  cases w <;> exact h
end Dv

set_option Elab.async false
set_option linter.all false
set_option maxRecDepth 100000
/-! Dv, part BD: a def taken out of a written list of two and called; replace (behind a token). -/
namespace Dv
open PySem PySem.Spec PyProof.Rows L2
/-! ### [f, g][i](..) -/
def dFn (a : Addr) : DT := fun env Q _ => Q (.val (.lent a)) env
theorem do_fn {X : Cx} {x : Str} {a : Addr} {p : Pos} (hg : Gl X x) (hm : X.mg x = some (.ref a)) (hd : (x == ("__debug__" : Str)) = false := by decide) : DO X (.Name x p) (dFn a) := by
  refine ⟨fun W tk σ S F H env Q E kh w es hx q => toE (pe_glob (v := .ref a) hg hm rfl hd) ?_⟩
  exact ⟨S, F, Em, .val (.lent a), env, Nx.refl w, es, .lent, q⟩
/-- a call of what lies at a -/
theorem call_at {X : Cx} {k : Nat} {f : Addr} {fd : FuncData} {ps : List Str} {fD : FD} {n : Nat} {e : Expr} {es : List Expr} {tr : DTA} {pos : Pos} (F : FnOk X.prog X.w X.K X.mg X.base (L2N.CX X.prog X.w) k f fd ps (SpD X.K n fD)) (hn : ∀ ds Q E, fD ds Q E → ds.length = n) (hr : Room k X.A) (hk : PySem.W.keepIn X.K (.ref f) = true) (hb : L2.Binds X.K fd ps [])
    (ha : DA X (e :: es) tr) (he : starEach (e :: es) X.env = (false, eval e X.env) :: starEach es X.env) (hpl : (backTo pos (starEach es X.env)).any (·.1) = false)
    {W : WX} (tk : Takes X W) {σ : L2.St} {S S1 F0 F1 G1 : Ft} {H H1 : Hp} {e1 : Env} {Q : Opd → Env → Prop} {E : EK} {pins : List (Addr × Obj)} {s1 : Shared} (n1 : Nx S F0 H S1 F1 G1 H1) (es1 : ES X.K S1 H1 σ e1 F1) (hx : HX X W (Eq σ) S F0 H E) (I1 : Inv X pins σ H1 s1)
    (q : tr e1 (fun os e2 => cf0 os e2 fD Q E) E) : wpAny (model X.prog X.w) X.A (callWith pos (.ref f) [] (backTo pos (starEach (e :: es) X.env)) (backToKw pos (keywordEach [] X.env))) (EP X pins σ (QO X.K σ S F0 H Q)) X.xe s1 := by
  refine PySem.W.callWith_K (h₀ := X.base) I1.ok.mod.kin hk ?_ he hpl
  refine thn (ha.run W tk σ S1 F1 H1 e1 _ E (kh_of I1) n1.w.e es1 (hx.on n1) q pos pins s1 I1) fun us s2 z2 => ?_
  obtain ⟨ws, H2, I2, rw2, S2, F2, G2, os, e2, n2, es2, ovs, ⟨nd, okk⟩, q3⟩ := z2
  refine ⟨I2.kIn, ?_⟩
  have kh2 := kh_of I2
  have n12 := n1.seq0 n2
  obtain ⟨Fa, Fr2, rs2, sa, sr, dar, cl⟩ := take_args kh2 es2 ovs n12.w.fg nd okk
  have wa : WF S2 Fa Em H2 := ⟨fun b h1 h2 => (sa b h2).elim (n12.w.sf b h1) (n12.w.sg b h1), fun _ _ z => z.elim, fun _ _ z => z.elim, n12.w.sd, fun b h => (sa b h).elim (n12.w.fm b) (n12.w.gm b), fun _ z => z.elim⟩
  refine run_fnS (E := WE W) F hr hb (L2N.passAt tk.n σ) I2 rw2 ⟨S2, Fa, _, _, _, hn _ _ _ q3, wa, rs2, q3, fun v H' S' F3 G3 r ds' n3 rs' rv qd => ?_, fun Cx nc d y ds' S' F3 G3 H' n3 rs' xr cn2 qd => ?_⟩
  · obtain ⟨n4, kp, dj⟩ := call_step n12 sa sr dar n3
    exact ⟨S', _, G3, .val r, _, n4, cl S' H' ds' F3 kp n3.ss rs' dj, rv, qd⟩
  · obtain ⟨n4, kp, dj⟩ := call_step n12 sa sr dar n3
    exact hx σ S' _ G3 H' Cx nc d y _ rfl n4 (cl S' H' ds' F3 kp n3.ss rs' dj) xr cn2 qd
/-- which of two -/
def pickQ (a b : Addr) (f g : FD) (tr : DTA) (Q : Opd → Env → Prop) (E : EK) : Opd → Env → Prop := fun y e2 => ixO (.val (.lst [.lent a, .lent b])) (.lst [.lent a, .lent b]) (y.get e2) fun o => (o = .val (.lent a) ∧ tr e2 (fun os e3 => cf0 os e3 f Q E) E) ∨ (o = .val (.lent b) ∧ tr e2 (fun os e3 => cf0 os e3 g Q E) E)
def dPick2 (f g : FD) (ti : DT) (tr : DTA) : DT := fun env Q E => ∀ a b : Addr, ti env (pickQ a b f g tr Q E) E
theorem do_pick2 {X : Cx} {k j1 j2 : Nat} {n1 n2 : Str} {st1 st2 : Stmt} {ps1 ps2 : List Str} {f g : FD} {ei e : Expr} {es : List Expr} {ti : DT} {tr : DTA} {p1 p2 p3 p4 pos : Pos} (hr : Room k X.A) (M1 : Kn X.prog X.w X.K X.mg X.base j1 n1 st1 ps1 f) (M2 : Kn X.prog X.w X.K X.mg X.base j2 n2 st2 ps2 g)
    (h1 : j1 ≤ k) (h2 : j2 ≤ k) (g1 : Gl X n1) (g2 : Gl X n2) (hs : ∀ {ta tb : DT}, DO X (.List [.Name n1 p1, .Name n2 p2] p3) ta → DO X ei tb → DO X (.Subscript (.List [.Name n1 p1, .Name n2 p2] p3) ei p4) (dIx ta tb)) (hi : DO X ei ti) (ha : DA X (e :: es) tr)
    (d1 : (n1 == ("__debug__" : Str)) = false := by decide) (d2 : (n2 == ("__debug__" : Str)) = false := by decide) (hst : starEach [Expr.Name n1 p1, .Name n2 p2] X.env = (false, eval (.Name n1 p1) X.env) :: starEach [Expr.Name n2 p2] X.env := by rfl) (hst2 : starEach [Expr.Name n2 p2] X.env = (false, eval (.Name n2 p2) X.env) :: starEach [] X.env := by rfl)
    (he : starEach (e :: es) X.env = (false, eval e X.env) :: starEach es X.env := by rfl) (hpl : (backTo pos (starEach es X.env)).any (·.1) = false := by rfl)
    (hev : eval (.Call (.Subscript (.List [.Name n1 p1, .Name n2 p2] p3) ei p4) (e :: es) [] pos) X.env = (do callWith pos (← eval (.Subscript (.List [.Name n1 p1, .Name n2 p2] p3) ei p4) X.env) [] (backTo pos (starEach (e :: es) X.env)) (backToKw pos (keywordEach [] X.env))) := by rfl) :
    DO X (.Call (.Subscript (.List [.Name n1 p1, .Name n2 p2] p3) ei p4) (e :: es) [] pos) (dPick2 f g ti tr) := by
  obtain ⟨a, fa, Da, Fa⟩ := M1.ex
  obtain ⟨b, fb, Db, Fb⟩ := M2.ex
  have hfn : DO X (.Subscript (.List [.Name n1 p1, .Name n2 p2] p3) ei p4) (dIx (dLst (dCons (dFn a) (dCons (dFn b) dNil))) ti) := hs (do_lst (da_cons (do_fn g1 Da.pt d1) (da_cons (do_fn g2 Db.pt d2) da_nil hst2) hst)) hi
  refine ⟨fun W tk σ S Fr H env Q E kh w hs hx q => fun pins s I => ?_⟩
  rw [hev]
  have q0 : (dIx (dLst (dCons (dFn a) (dCons (dFn b) dNil))) ti) env (fun o e1 => (o = .val (.lent a) ∧ tr e1 (fun os e2 => cf0 os e2 f Q E) E) ∨ (o = .val (.lent b) ∧ tr e1 (fun os e2 => cf0 os e2 g Q E) E)) E := ⟨(by show 2 ≤ 1000; decide), q a b⟩
  refine wpAny_bind (thn (hfn.run W tk σ S Fr H env _ E kh w hs hx q0 pins s I) fun u s1 z => ?_)
  obtain ⟨x, H1, I1, rx, S1, F1, G1, o1, e1, n1, es1, ov, q1⟩ := z
  rcases q1 with ⟨eo, q1⟩ | ⟨eo, q1⟩
  · subst eo
    have ov : R X.K S1 H1 x (.lent a) G1 := ov
    cases ov
    obtain rfl : u = Value.ref a := rx
    exact call_at Fa M1.hn (hr.mono h1) Da.fn.kp Da.bd ha he hpl tk n1 es1 hx I1 q1
  · subst eo
    have ov : R X.K S1 H1 x (.lent b) G1 := ov
    cases ov
    obtain rfl : u = Value.ref b := rx
    exact call_at Fb M2.hn (hr.mono h2) Db.fn.kp Db.bd ha he hpl tk n1 es1 hx I1 q1
section
variable {env e : Env} {Q : Opd → Env → Prop} {E : EK} {ti : DT} {tr : DTA} {f g : FD} {a b : Addr}
instance : Stp (dPick2 f g ti tr env Q E) (dnQ (∀ a b : Addr, ti env (pickQ a b f g tr Q E) E)) := ⟨fun h => h⟩
theorem pick0 (h : tr e (fun os e3 => cf0 os e3 f Q E) E) : pickQ a b f g tr Q E (.val (.p (.int 0))) e := x_LV (w := .lent a) rfl rfl rfl (.inl ⟨rfl, h⟩)
theorem pick1 (h : tr e (fun os e3 => cf0 os e3 g Q E) E) : pickQ a b f g tr Q E (.val (.p (.int 1))) e := x_LV (w := .lent b) rfl rfl rfl (.inr ⟨rfl, h⟩)
end
/-! ### behind a token -/
def wET (X : Cx) (e : Expr) : TE := fun σ H Q => ∀ (pins : List (Addr × Obj)) (s : Shared), 1 ≤ s.toks → Inv X pins σ H s → wpAny (model X.prog X.w) X.A (eval e X.env) (EP X pins σ Q) X.xe s
def wAT (X : Cx) (es : List Expr) : TA := fun σ H Q => ∀ (pos : Pos) (pins : List (Addr × Obj)) (s : Shared), 1 ≤ s.toks → Inv X pins σ H s → wpAny (model X.prog X.w) X.A (spliced (backTo pos (starEach es X.env))) (L2.AP X pins σ Q) X.xe s
def wST (X : Cx) (st : Stmt) : TS := fun D σ H => ∀ (pins : List (Addr × Obj)) (s : Shared), 1 ≤ s.toks → Inv X pins σ H s → wpAny (model X.prog X.w) X.A (exec st X.env) (SP X pins D) X.xe s
def wSsT (X : Cx) (st : List Stmt) : TS := fun D σ H => ∀ (pins : List (Addr × Obj)) (s : Shared), 1 ≤ s.toks → Inv X pins σ H s → wpAny (model X.prog X.w) X.A (execs st X.env) (SP X pins D) X.xe s
section
variable {X : Cx} {e : Expr} {es : List Expr} {st : Stmt} {sts : List Stmt} {σ : L2.St} {H : Hp}
theorem wet (X : Cx) (e : Expr) : PET X e (wET X e) := fun pins s _ _ _ h0 I h => h pins s h0 I
theorem wat (X : Cx) (es : List Expr) : PAT X es (wAT X es) := fun pos pins s _ _ _ h0 I h => h pos pins s h0 I
theorem wst (X : Cx) (st : Stmt) : PST X st (wST X st) := fun pins s _ _ _ h0 I h => h pins s h0 I
theorem wsst (X : Cx) (st : List Stmt) : PSsT X st (wSsT X st) := fun pins s _ _ _ h0 I h => h pins s h0 I
theorem wET.mono {Q Q' : VK} (h : wET X e σ H Q) (m : ∀ v H', KH X.K H' → Q v H' → Q' v H') : wET X e σ H Q' := fun pins s h0 I =>
  thn (h pins s h0 I) fun u s' ⟨v, H', I', r, q⟩ => ⟨v, H', I', r, m v H' (kh_of I') q⟩
theorem wAT.mono {Q Q' : List V → Hp → Prop} (h : wAT X es σ H Q) (m : ∀ v H', KH X.K H' → Q v H' → Q' v H') : wAT X es σ H Q' := fun pos pins s h0 I =>
  thn (h pos pins s h0 I) fun u s' ⟨v, H', I', r, q⟩ => ⟨v, H', I', r, m v H' (kh_of I') q⟩
theorem wSsT.mono {D D' : Ends} (h : wSsT X sts D σ H) (n : ∀ σ H, KH X.K H → σ.length = X.N.length → D.nx σ H → D'.nx σ H) (r : ∀ v H, KH X.K H → D.rt v H → D'.rt v H)
    (b : ∀ σ H, KH X.K H → σ.length = X.N.length → D.bk σ H → D'.bk σ H) (c : ∀ σ H, KH X.K H → σ.length = X.N.length → D.ct σ H → D'.ct σ H) : wSsT X sts D' σ H := fun pins s h0 I => thn (h pins s h0 I) fun _ _ q => SP.mono q n r b c
end
structure DOT (X : Cx) (e : Expr) (t : DT) : Prop where
  run : ∀ (W : WX) (_ : Takes X W) (σ : L2.St) (S F : Ft) (H : Hp) (env : Env) (Q : Opd → Env → Prop) (E : EK), KH X.K H → WF S F Em H → ES X.K S H σ env F → HX X W (Eq σ) S F H E → t env Q E → wET X e σ H (QO X.K σ S F H Q)
structure DAT (X : Cx) (es : List Expr) (t : DTA) : Prop where
  run : ∀ (W : WX) (_ : Takes X W) (σ : L2.St) (S F : Ft) (H : Hp) (env : Env) (Q : List Opd → Env → Prop) (E : EK), KH X.K H → WF S F Em H → ES X.K S H σ env F → HX X W (Eq σ) S F H E → t env Q E → wAT X es σ H (QOs X.K σ S F H Q)
structure DST (X : Cx) (st : Stmt) (tv : List Nat) (t : DTS) : Prop where
  run : ∀ (W : WX) (_ : Takes X W) (σ : L2.St) (S F : Ft) (H : Hp) (env : Env) (D : DE) (E : EK), KH X.K H → σ.length = X.N.length → WF S F Em H → ES X.K S H σ env F → HX X W (Ag tv σ) S F H E → t D env E → wST X st (QD X.K tv σ S F H D) σ H
structure DSsT (X : Cx) (st : List Stmt) (tv : List Nat) (t : DTS) : Prop where
  run : ∀ (W : WX) (_ : Takes X W) (σ : L2.St) (S F : Ft) (H : Hp) (env : Env) (D : DE) (E : EK), KH X.K H → σ.length = X.N.length → WF S F Em H → ES X.K S H σ env F → HX X W (Ag tv σ) S F H E → t D env E → wSsT X st (QD X.K tv σ S F H D) σ H
section
variable {X : Cx} {st : Stmt} {sts : List Stmt} {tv tw : List Nat} {ub u : DTS} {e a b o : Expr} {es rest : List Expr} {t ta tb to : DT} {tr : DTA} {pos apos : Pos}
theorem DOT.of (h : DO X e t) : DOT X e t := ⟨fun W tk σ S F H env Q E kh w es hx q => fun pins s _ I => h.run W tk σ S F H env Q E kh w es hx q pins s I⟩
theorem DAT.of (h : DA X es tr) : DAT X es tr := ⟨fun W tk σ S F H env Q E kh w es hx q => fun pos pins s _ I => h.run W tk σ S F H env Q E kh w es hx q pos pins s I⟩
theorem DST.of (h : DS X st tv u) : DST X st tv u := ⟨fun W tk σ S F H env D E kh hl w es hx q => fun pins s _ I => h.run W tk σ S F H env D E kh hl w es hx q pins s I⟩
theorem DSsT.of (h : DSs X sts tv u) : DSsT X sts tv u := ⟨fun W tk σ S F H env D E kh hl w es hx q => fun pins s _ I => h.run W tk σ S F H env D E kh hl w es hx q pins s I⟩
theorem QN.onT {K : PySem.W.Frag} {σ σ1 σ2 : L2.St} {S F S1 F1 : Ft} {H H1 H2 : Hp} {Q : Env → Prop} (ag : Ag tv σ σ1) (n1 : Nx S F H S1 F1 Em H1) (h : QN K tw σ1 S1 F1 H1 Q σ2 H2) : QN K (tv ++ tw) σ S F H Q σ2 H2 :=
  QN.later (fun j hj => ag j fun z => hj (List.mem_append_left _ z)) (fun j h => List.mem_append_right _ h) n1 h
theorem dsst_cons (h1 : DST X st tv ub) (h2 : DSsT X sts tw u) : DSsT X (st :: sts) (tv ++ tw) (dSeq ub u) := by
  refine ⟨fun W tk σ S F H env D E kh hl w es hx q => fun pins s h0 I => psst_cons (wst X st) (wsst X sts) pins s σ H _ h0 I ?_⟩
  have wd : ∀ σ2, Ag tv σ σ2 → Ag (tv ++ tw) σ σ2 := fun σ2 a => a.wide fun j h => List.mem_append_left _ h
  intro pins s h0 I
  refine thn (h1.run W tk σ S F H env _ E kh hl w es (hx.imp wd) q pins s h0 I) fun fl s1 z => SP.mono z (fun σ1 H1 kh1 hl1 ⟨ag, S1, F1, e1, n1, es1, q1⟩ => ?_) (fun _ _ _ q => q.on (Nx.refl w) wd) (fun _ _ _ _ q => q.on (Nx.refl w) wd) (fun _ _ _ _ q => q.on (Nx.refl w) wd)
  exact (h2.run W tk σ1 S1 F1 H1 e1 D E kh1 hl1 n1.w.e es1 ((hx.on n1).imp fun _ a => ag.trans a) q1).mono (fun _ _ _ _ q => q.on n1 fun σ2 a => ag.trans a) (fun _ _ _ q => q.on n1 fun σ2 a => ag.trans a) (fun _ _ _ _ q => q.on n1 fun σ2 a => ag.trans a) (fun _ _ _ _ q => q.on n1 fun σ2 a => ag.trans a)
/-- two operands, the second behind a token -/
theorem dot_op {op : Operator} {f : F2} (sf : Strict f) (ho : OpD X (binaryOp op) f) (ha : DO X a ta) (hb : DOT X b tb) : DOT X (.BinOp a op b pos) (dBin f ta tb) := by
  refine ⟨fun W tk σ S F H env Q E kh w es hx h => fun pins s h0 I => CwR.pet_op (wo X (binaryOp op)) (CwR.PET.of (we X a)) (wet X b) pins s σ H _ h0 I ?_⟩
  refine (ha.run W tk σ S F H env _ E kh w es hx h).mono fun v H1 kh1 ⟨S1, F1, G1, x, e1, n1, es1, ov1, q1⟩ => ?_
  refine (hb.run W tk σ S1 F1 H1 e1 _ E kh1 n1.w.e es1 (hx.on n1) q1).mono fun u H2 kh2 ⟨S2, F2', G2, y, e2, n2, es2, ov2, q2⟩ => ?_
  have ne := sf _ _ _ q2
  obtain ⟨Fx, rx⟩ := (ov1.kp (n2.kpG n1.w) n2.ss).r kh2 es2 ne.1
  obtain ⟨Fy, ry⟩ := ov2.r kh2 es2 ne.2
  intro pins s σ' v' u' I r1 r2
  refine thn (ho.run S2 H2 v u _ _ _ _ _ kh2 rx ry q2 pins s σ' v' u' I r1 r2) fun z s' ⟨z', H', I', rz, q'⟩ => ⟨z', H', I', rz, ?_⟩
  exact QV.fin (W := W) (n1.seq0 n2) es2 q'
theorem dat_cons (ha : DOT X e t) (hr : DAT X rest tr) (hs : starEach (e :: rest) X.env = (false, eval e X.env) :: starEach rest X.env := by rfl) : DAT X (e :: rest) (dCons t tr) := by
  refine ⟨fun W tk σ S F H env Q E kh w es hx q => fun pos pins s h0 I => pat_cons (wet X e) (wat X rest) hs pos pins s σ H _ h0 I ?_⟩
  refine (ha.run W tk σ S F H env _ E kh w es hx q).mono fun v H1 kh1 ⟨S1, F1, G1, o, e1, n1, es1, ov1, q1⟩ => ?_
  refine (hr.run W tk σ S1 F1 H1 e1 _ E kh1 n1.w.e es1 (hx.on n1) q1).mono fun vs H2 kh2 ⟨S2, F2, G2, os, e2, n2, es2, ovs, q2⟩ => ?_
  refine ⟨S2, F2, Or2 G1 G2, o :: os, e2, n1.seq n2, es2, .cons (ov1.kp (n2.kpG n1.w) n2.ss) ovs (fun _ h => .inl h) (fun _ h => .inr h) fun a h1 h2 => ?_, q2⟩
  rcases n2.gn a h2 with h | h
  · exact n1.w.fg a h h1
  · exact (n1.w.gm a h1).ne h
theorem dot_lst (ha : DAT X es tr) : DOT X (.List es pos) (dLst tr) := by
  refine ⟨fun W tk σ S F H env Q E kh w es hx q => fun pins s h0 I => pet_lst (wat X _) pins s σ H _ h0 I ?_⟩
  refine (ha.run W tk σ S F H env _ E kh w es hx q).mono fun vs H1 kh1 ⟨S1, F1, G1, os, e1, n1, es1, ovs, q1⟩ => ?_
  have q1 : (match vals os with
  | some ds => ds.length ≤ 1000 ∧ Q (.val (.lst ds)) e1
  | none => False) := q1
  cases z : vals os with
  | none => rw [z] at q1; exact q1.elim
  | some ds =>
    rw [z] at q1
    have rs := ovs.vals z
    refine ⟨by rw [Rs.length _ rs]; exact line1000 q1.1, fun p hp => ?_⟩
    have n2 := n1.seq (Nx.new (o := .lst vs) n1.w hp trivial)
    have es2 := es1.kp (kp_new (S := S1) hp) Sub.refl (H' := upd H1 p (.lst vs))
    refine ⟨S1, F1, _, .val (.lst ds), e1, n2, es2, ?_, q1.2⟩
    exact .lst upd_same (.inr rfl) (fun a h => ⟨.inl h, fun z => (n1.w.gm a h).ne (z ▸ hp)⟩) (Rs.kp Sub.refl _ (kp_new hp) rs)
def kRepl (y z : Str) (Q : Opd → Env → Prop) : Opd → Env → Prop := fun o e => oneS o fun a => a.length + (a.length + 1) * z.length ≤ 16777216 ∧ Q (.val (.p (.str (Txt.replace a y z)))) e
def dRepl (y z : Str) (to : DT) : DT := fun env Q E => to env (kRepl y z Q) E
theorem dot_repl {y z : Str} {j k : Nat} {c0 c1 : Pos} (ho : DO X o to) (hyz : (y == z) = false := by decide)
    (hst : starEach [.Constant (.str y) j c0, .Constant (.str z) k c1] X.env = [(false, eval (.Constant (.str y) j c0) X.env), (false, eval (.Constant (.str z) k c1) X.env)] := by rfl)
    (hbase : attributeBase o "replace" X.env (eval o X.env) = eval o X.env := by rfl) (hline : (apos.endLine == pos.line) = true := by rfl) :
    DOT X (.Call (.Attribute o "replace" apos) [.Constant (.str y) j c0, .Constant (.str z) k c1] [] pos) (dRepl y z to) := by
  refine ⟨fun W tk σ S F H env Q E kh w es hx q => fun pins s h0 I => CwR.pet_replC (we X o) hyz hst hbase hline pins s σ H _ h0 I ?_⟩
  refine (ho.run W tk σ S F H env _ E kh w es hx q).mono fun v H1 kh1 ⟨S1, F1, G1, x, e1, n1, es1, ov1, q1⟩ => ?_
  obtain ⟨a, rfl, hb, q2⟩ := oneS_inv q1
  have ov1 : R X.K S1 H1 v (.p (.str a)) G1 := ov1
  cases ov1 with
  | p rx =>
    cases rx
    exact ⟨a, rfl, hb, S1, F1, G1, .val (.p (.str (Txt.replace a y z))), e1, n1, es1, R.p (.str _), q2⟩
theorem dst_set {i : Nat} {x : Str} {pos' : Pos} (hN : X.N.Nodup) (he : DOT X e t) (hi : X.N[i]? = some x := by rfl) (hx : Loc X.env.scope x := by first | exact .inl rfl | exact .inr rfl) (hs : swapsWith e (some (.Name x pos')) pos.line X.env = pure false := by rfl)
    (hf : X.fn x = true ∨ X.env.scope.names.lookup x = some .local := by first | exact .inl rfl | exact .inr rfl | assumption) : DST X (.Assign [.Name x pos'] e pos) [i] (dAsg t (gNm i)) := by
  refine ⟨fun W tk σ S F H env D E kh hl w es hx' q => fun pins s h0 I => wpAny_Assign_Name (thn (he.run W tk σ S F H env _ E kh w es hx'.eq q pins s h0 I) fun v s1 ⟨y, H1, I1, r1, q1⟩ => store_ok I1 hN hi hx r1 (fun s2 I2 => ⟨_, H1, I2, ?_⟩) hf) hs⟩
  obtain ⟨S1, F1, G1, o, e1, n1, es1, ov, q1⟩ := q1
  cases o with
  | ref _ _ => exact q1.elim
  | val d =>
    have q1 : D.nx (e1.set i d) := q1
    have hσ : i < σ.length := by rw [hl]; exact (List.getElem?_eq_some_iff.mp hi).1
    refine ⟨Ag.set, ?_⟩
    by_cases he : i < e1.length
    · exact ⟨S1, Or2 G1 F1, e1.set i d, n1.give fun a h => h.elim .inr .inl, es1.set i ov n1.w.fg.symm hσ he, q1⟩
    · rw [List.set_eq_of_length_le (by omega)] at q1
      refine ⟨S1, F1, e1, n1.e, es1.weak fun j => ?_, q1⟩
      by_cases hj : j = i
      · subst hj; rw [List.getElem?_eq_none (by omega)]; exact .inl rfl
      · rw [List.getElem?_set_ne (Ne.symm hj)]; exact .inr ⟨rfl, rfl⟩
/-- x = o.split(a written text): behind it a token is out -/
theorem dss_splitUp {i : Nat} {x y : Str} {j : Nat} {cp pos' p2 : Pos} (hN : X.N.Nodup) (ho : DO X o to) (h2 : DSsT X sts tw u) (hi : X.N[i]? = some x := by rfl) (hx : Loc X.env.scope x := by first | exact .inl rfl | exact .inr rfl)
    (hsw : swapsWith (.Call (.Attribute o "split" apos) [.Constant (.str y) j cp] [] pos) (some (.Name x pos')) p2.line X.env = pure false := by rfl) (hf : X.fn x = true ∨ X.env.scope.names.lookup x = some .local := by first | exact .inl rfl | exact .inr rfl | assumption)
    (hs : starEach [Expr.Constant (.str y) j cp] X.env = [(false, eval (.Constant (.str y) j cp) X.env)] := by rfl) (hbase : attributeBase o "split" X.env (eval o X.env) = eval o X.env := by rfl) (hline : (apos.endLine == pos.line) = true := by rfl) :
    DSs X (.Assign [.Name x pos'] (.Call (.Attribute o "split" apos) [.Constant (.str y) j cp] [] pos) p2 :: sts) ([i] ++ tw) (dSeq (dAsg (dSplit to (dK (.str y))) (gNm i)) u) := by
  refine ⟨fun W tk σ S F H env D E kh hl w es hx' q => fun pins s I => wpAny_execs_cons (wpAny_Assign_Name (PySem.Call_method1 hbase hs hline (thn (ho.run W tk σ S F H env _ E kh w es (hx'.imp fun _ e => (by subst e; exact fun _ _ => rfl)) q pins s I) fun v s1 z => ?_)) hsw)⟩
  obtain ⟨x1, H1, I1, r1, S1, F1, G1, o1, e1, n1, es1, ov1, q1⟩ := z
  obtain ⟨a, rfl, q1⟩ := oneS_inv q1
  have ov1 : R X.K S1 H1 x1 (.p (.str a)) G1 := ov1
  cases ov1 with
  | p rx =>
    cases rx
    obtain ⟨t, rfl⟩ := r1
    obtain ⟨hb, hz, q1⟩ := q1
    refine ⟨"str", _, PySem.F.plainAttrs_str, PySem.F.slot_str_split, PySem.F.type_str_split, typeIs_str _ _ _, (fun _ e => nomatch e), Calls.callWith_builtin rfl (Calls.evalArgs_plain (Calls.spliced_cons (Calls.Constant_str (Calls.spliced_nil ?_))))⟩
    have up := PySem.wpAny_toks_of (n := 1) (show 1 ≤ ({ s1 with toks := s1.toks + 1 } : Shared).toks by show 1 ≤ s1.toks + 1; omega) (mt_split pins { s1 with toks := s1.toks + 1 } σ H1 (.str a) [.str y] _ _ (fun v H2 => ∃ p, v = .ref p ∧ H1 p = none ∧ H2 = upd H1 p (.lst ((Txt.split a y).map V.str))) (I1.tok _) ⟨t, rfl⟩ (.cons ⟨s1.toks, rfl⟩ .nil) ⟨a, y, rfl, rfl, hb, hz, fun p hp => ⟨p, rfl, hp, rfl⟩⟩)
    refine wpAny_mono up (fun v2 s2 z => ?_) fun _ _ z => z.2
    obtain ⟨tk2, x2, H2, I2, r2, p, rfl, hp, rfl⟩ := z
    refine wpAny_mono (PySem.wpAny_toks_of tk2 (store_ok (Q := fun _ s3 => Inv X pins (σ.set i (some (.ref p))) _ s3) I2 hN hi hx r2 (fun _ I3 => I3) hf)) (fun _ s3 z => ?_) fun _ _ z => z.2
    obtain ⟨tk3, I3⟩ := z
    have hσ : i < σ.length := by rw [hl]; exact (List.getElem?_eq_some_iff.mp hi).1
    obtain ⟨G3, d, nw, r, q2⟩ : QV X.K S1 H1 (fun d => u D (e1.set i d) E) (.ref p) (upd H1 p (.lst ((Txt.split a y).map V.str))) := QV.ll hp (RPs.ofStrs _) q1
    have n2 := n1.seq0 (nw.nx n1.w)
    have es2 := es1.kp nw.kp Sub.refl
    have ag : Ag [i] σ (σ.set i (some (.ref p))) := Ag.set
    have kh3 := kh_of I3
    by_cases he : i < e1.length
    · have n3 := n2.give (F2 := Or2 G3 F1) fun a h => h.elim .inr .inl
      have es3 := es2.set i r n2.w.fg.symm hσ he
      refine thn (h2.run W tk _ S1 _ _ _ D E kh3 (by rw [List.length_set]; exact hl) n3.w es3 ((hx'.on n3).imp fun _ a => ag.trans a) q2 pins s3 tk3 I3) fun fl s4 z => ?_
      exact SP.mono z (fun _ _ _ _ q => q.on n3 fun σ2 a => ag.trans a) (fun _ _ _ q => q.on n3 fun σ2 a => ag.trans a) (fun _ _ _ _ q => q.on n3 fun σ2 a => ag.trans a) (fun _ _ _ _ q => q.on n3 fun σ2 a => ag.trans a)
    · rw [List.set_eq_of_length_le (by omega)] at q2
      have n3 := n2.e
      have es3 : ES X.K S1 (upd H1 p (.lst ((Txt.split a y).map V.str))) (σ.set i (some (.ref p))) e1 F1 := es2.weak fun j => by
        by_cases hj : j = i
        · subst hj; rw [List.getElem?_eq_none (by omega)]; exact .inl rfl
        · rw [List.getElem?_set_ne (Ne.symm hj)]; exact .inr ⟨rfl, rfl⟩
      refine thn (h2.run W tk _ S1 _ _ _ D E kh3 (by rw [List.length_set]; exact hl) n3.w es3 ((hx'.on n3).imp fun _ a => ag.trans a) q2 pins s3 tk3 I3) fun fl s4 z => ?_
      exact SP.mono z (fun _ _ _ _ q => q.on n3 fun σ2 a => ag.trans a) (fun _ _ _ q => q.on n3 fun σ2 a => ag.trans a) (fun _ _ _ _ q => q.on n3 fun σ2 a => ag.trans a) (fun _ _ _ _ q => q.on n3 fun σ2 a => ag.trans a)
end
section
variable {env e : Env} {Q : Opd → Env → Prop} {E : EK} {to : DT} {y z a : Str}
instance : Stp (dRepl y z to env Q E) (dnQ (to env (kRepl y z Q) E)) := ⟨fun h => h⟩
theorem k_repl (h1 : a.length + (a.length + 1) * z.length ≤ 16777216) (h : Q (.val (.p (.str (Txt.replace a y z)))) e) : kRepl y z Q (.val (.p (.str a))) e := ⟨h1, h⟩
end
end Dv

set_option Elab.async false
set_option linter.all false
set_option maxRecDepth 100000
set_option maxHeartbeats 0
namespace Dv
open PySem PySem.Spec PyProof.Rows L2

local macro_rules | `(tactic| walk_at "nd") => `(tactic| first | rfl | assumption)
local macro_rules | `(tactic| walk_at "nl") => `(tactic| repeat first | exact sl_nil | ((with_reducible refine sl_cons ?_ ?_); (· first | exact sl_own rfl | exact sl_old (by decide) rfl rfl | (refine sl_nol ?_; walk_at "nd"))))
local macro_rules | `(tactic| walk_at "big") => `(tactic| rfl)
local macro_rules | `(tactic| walk_at "ok") => `(tactic| repeat first | exact ok_nil | with_reducible refine ok_val ?_ | ((with_reducible refine ok_ref ?_ ?_); (· walk_at "big")))
local macro_rules | `(tactic| walk_at "sd") => `(tactic| first | with_reducible assumption | omega | (refine ⟨?_, ?_⟩ <;> omega) | (simp only [List.length_map, List.length_append, List.length_cons, List.length_nil]; omega))
local macro_rules | `(tactic| walk_at "sq") => `(tactic| first | exact sq_T rfl | exact sq_F rfl | exact sq_L rfl | exact sq_U rfl | rfl)
local macro_rules | `(tactic| walk_at "lq") => `(tactic| first | exact lq_F rfl | exact lq_L rfl)
local macro_rules | `(tactic| walk_at "nf") => `(tactic| first | (simp only [startD, putAll, Env.put, D.put, dj, wip, rsP, List.set_cons_zero, List.set_cons_succ, List.getElem?_cons_zero, List.getElem?_cons_succ, List.length_cons, List.length_nil, Nat.reduceAdd, Nat.reduceSub, List.replicate_succ, List.replicate_zero, List.cons_append, List.nil_append, List.map_cons, List.map_nil]; rfl) | rfl | (intro aX; rfl))
local macro_rules | `(tactic| walk_at "fv") => `(tactic| first | rfl | with_reducible assumption | exact fz_L _ rfl)
local macro_rules | `(tactic| walk_at "no") => `(tactic| repeat first | exact nfe_nil | ((with_reducible refine nfe_own ?_ ?_); (· rfl)) | ((with_reducible refine nfe_cons ?_ ?_); (· first | rfl | assumption | exact nofD_lst _)))
local macro_rules | `(tactic| walk_at "cl") => `(tactic| first
  | ((with_reducible refine fvI ?_ ?_); (· walk_at "fv"); walk_at "cl")
  | with_reducible refine dnI ?_
  | ((with_reducible refine eqI ?_ ?_); (· rfl); walk_at "cl")
  | ((with_reducible apply exI); walk_at "cl")
  | ((with_reducible refine sdI ?_ ?_); (· walk_at "sd"); walk_at "cl")
  | ((with_reducible refine arI ?_ ?_); (· first | with_reducible assumption | rfl); walk_at "cl")
  | ((with_reducible refine asI ?_ ?_); (· with_reducible assumption); walk_at "cl")
  | ((with_reducible refine sqI ?_ ?_); (· walk_at "sq"); walk_at "cl")
  | ((with_reducible refine lqI ?_ ?_); (· walk_at "lq"); walk_at "cl")
  | ((with_reducible refine bgI ?_ ?_); (· walk_at "big"); walk_at "cl")
  | ((with_reducible refine okI ?_ ?_); (· walk_at "ok"); walk_at "cl")
  | ((with_reducible refine ndI ?_ ?_); (· first | exact List.nodup_nil | (simp only [slots]; decide)); walk_at "cl")
  | ((with_reducible refine trI ?_ ?_); (· exact True.intro); walk_at "cl")
  | ((with_reducible refine blI ?_ ?_); (· exact Nat.le_of_ble_eq_true rfl); walk_at "cl")
  | ((with_reducible refine imI ?_ ?_); (· first | with_reducible assumption | exact intsP_map _); walk_at "cl")
  | ((with_reducible refine nfI ?_ ?_); (· walk_at "nf"); walk_at "cl")
  | ((with_reducible refine nlI ?_ ?_); (· walk_at "nl"); walk_at "cl")
  | ((with_reducible refine bmI ?_ ?_); (· first | with_reducible assumption | exact boolsP_map _); walk_at "cl")
  | ((with_reducible refine noI ?_ ?_); (· first | rfl | with_reducible assumption | exact nofD_lst _ | walk_at "no"); walk_at "cl"))
local macro_rules | `(tactic| walk_at "br") => `(tactic| first
  | with_reducible refine dnI ?_
  | ((with_reducible refine orL ?_); walk_at "cl")
  | ((with_reducible refine orR ?_); walk_at "br")
  | walk_at "cl")
local macro_rules | `(tactic| walk_at "go") => `(tactic| repeat first | (refine Stp.go ?_; walk_at "br") | intro aL)

/-! ### words for webs -/
structure Web where
  rooms : List Int
  keys : List (List Nat)
def natP (n : Nat) : PD := .int (n : Int)
def natsP (ns : List Nat) : List PD := ns.map natP
def keyT (k : List Nat) : PD := .tuple (natsP k)
def encW (w : Web) : PD := .tuple [.tuple (w.rooms.map PyData.int), .tuple (w.keys.map keyT)]
def natsD (ns : List Nat) : List D := (natsP ns).map D.p
/-- a web as the text draws it: at most ten nests, at least one; at most so many keys of two or three homes -/
structure WebOk (m : Nat) (w : Web) : Prop where
  r1 : 0 < w.rooms.length
  r2 : w.rooms.length ≤ 10
  nn : ∀ r ∈ w.rooms, 0 ≤ r
  big : ∀ r ∈ w.rooms, r < 2 ^ 200
  kn : w.keys.length ≤ m
  k2 : ∀ k ∈ w.keys, k.length = 2 ∨ k.length = 3
  kh : ∀ k ∈ w.keys, ∀ h ∈ k, h < w.rooms.length
/-- a pen: four numbers, the last of them not beyond b -/
def penD (m num len at' : Int) : D := .lst [.p (.int m), .p (.int num), .p (.int len), .p (.int at')]
def PenOk (b : Int) (d : D) : Prop := ∃ m num len at', d = penD m num len at' ∧ 0 ≤ at' ∧ at' ≤ b
theorem PenOk.mono {b b' : Int} {d : D} (h : PenOk b d) (hb : b ≤ b') : PenOk b' d := by
  obtain ⟨m, n, l, a, e, h1, h2⟩ := h
  exact ⟨m, n, l, a, e, h1, by omega⟩
def scrP (ns : List Int) : PD := .list (ns.map PyData.int)
theorem bits_le (x : Int) : Builtin.Int.intBits x ≤ x.natAbs.log2 + 1 := by
  unfold Builtin.Int.intBits
  split <;> omega
theorem log2_le {x : Int} {k : Nat} (h : x.natAbs < 2 ^ k) : x.natAbs.log2 ≤ k := by
  by_cases z : x.natAbs = 0
  · rw [z]; exact Nat.zero_le _
  · exact Nat.le_of_lt ((Nat.log2_lt z).mpr h)
/-- factors within 2^250 -/
theorem mulx {x y : Int} (hx : x.natAbs < 2 ^ 250) (hy : y.natAbs < 2 ^ 250) : CMulX x y := by
  have h1 := bits_le x
  have h2 := bits_le y
  have h3 := log2_le hx
  have h4 := log2_le hy
  unfold CMulX
  omega
theorem natAbs_mul_lt {x y : Int} {a b : Nat} (hx : x.natAbs < 2 ^ a) (hy : y.natAbs < 2 ^ b) : (x * y).natAbs < 2 ^ (a + b) := by
  rw [Int.natAbs_mul, Nat.pow_add]
  exact Nat.mul_lt_mul'' hx hy
theorem small_lt {x : Int} {a b : Nat} (hx : x.natAbs < 2 ^ a) (h : a ≤ b) : x.natAbs < 2 ^ b := Nat.lt_of_lt_of_le hx (Nat.pow_le_pow_right (by decide) h)
theorem natsP_get {ns : List Nat} {i : Nat} : (natsP ns)[i]? = ns[i]?.map natP := by unfold natsP; rw [List.getElem?_map]
theorem natsP_len {ns : List Nat} : (natsP ns).length = ns.length := by unfold natsP; rw [List.length_map]
/-- a number of a place from 0 on -/
theorem atI_ofNat {α : Type} {xs : List α} {i : Nat} {x : α} (h : xs[i]? = some x) : atI xs (i : Int) = some x := L2.atI_nat h
theorem atI_of_lt {α : Type} {xs : List α} {i : Int} (h0 : 0 ≤ i) (h1 : i < (xs.length : Int)) : ∃ x, xs[i.toNat]? = some x ∧ atI xs i = some x := by
  have hl : i.toNat < xs.length := by omega
  refine ⟨xs[i.toNat], List.getElem?_eq_getElem hl, ?_⟩
  have e : ((i.toNat : Nat) : Int) = i := by omega
  have := atI_ofNat (xs := xs) (i := i.toNat) (List.getElem?_eq_getElem hl)
  rw [e] at this
  exact this
theorem natsD_len {ks : List Nat} : (natsD ks).length = ks.length := by unfold natsD; rw [List.length_map, natsP_len]

/-! ### the drawing of numbers -/
theorem PenOk.big {b : Int} {d : D} (h : PenOk b d) : d.big = true := by
  obtain ⟨m, n, l, a, rfl, _⟩ := h
  rfl
local macro_rules | `(tactic| walk_at "big") => `(tactic| exact PenOk.big (by assumption))
theorem WebOk.snoc {m : Nat} {rs : List Int} {ks : List (List Nat)} {k : List Nat} (h : WebOk m ⟨rs, ks⟩) (h2 : k.length = 2 ∨ k.length = 3) (hh : ∀ x ∈ k, x < rs.length) : WebOk (m + 1) ⟨rs, ks ++ [k]⟩ := by
  refine ⟨h.r1, h.r2, h.nn, h.big, ?_, fun x hx => ?_, fun x hx => ?_⟩
  · have := h.kn
    show (ks ++ [k]).length ≤ m + 1
    rw [List.length_append]
    have : ks.length ≤ m := this
    simp; omega
  · rcases List.mem_append.mp hx with z | z
    · exact h.k2 x z
    · rw [List.mem_singleton.mp z]; exact h2
  · rcases List.mem_append.mp hx with z | z
    · exact h.kh x z
    · rw [List.mem_singleton.mp z]; exact hh
theorem int_nat {r : Int} (h : 0 ≤ r) : PyData.int r = natP r.toNat := by unfold natP; rw [Int.toNat_of_nonneg h]
theorem WebOk.set {m : Nat} {w : Web} (ok : WebOk m w) {j : Nat} {v : Int} (h0 : 0 ≤ v) (h1 : v < 2 ^ 200) : WebOk m ⟨w.rooms.set j v, w.keys⟩ := by
  have hl : (w.rooms.set j v).length = w.rooms.length := List.length_set
  refine ⟨by show 0 < (w.rooms.set j v).length; rw [hl]; exact ok.r1, by show (w.rooms.set j v).length ≤ 10; rw [hl]; exact ok.r2, fun r hr => ?_, fun r hr => ?_, ok.kn, ok.k2, fun k hk h hh => by show h < (w.rooms.set j v).length; rw [hl]; exact ok.kh k hk h hh⟩
  · rcases List.mem_or_eq_of_mem_set hr with z | z
    · exact ok.nn r z
    · rw [z]; exact h0
  · rcases List.mem_or_eq_of_mem_set hr with z | z
    · exact ok.big r z
    · rw [z]; exact h1
theorem WebOk.mono {m m' : Nat} {w : Web} (h : WebOk m w) (hm : m ≤ m') : WebOk m' w := { h with kn := Nat.le_trans h.kn hm }
/-- numbers drawn into a comprehension -/
theorem lc_takes {e1 : Env} {g : DTG} {t : DT} {tt : DTB} {vs : List Nat} {Q : Opd → Env → Prop} {xs : List PD} {ls : Ls} {T : Int → D → Prop} (mono : ∀ {b b' : Int} {d : D}, T b d → b ≤ b' → T b' d) (s : Int) (f : D → Env) (b0 : Int) (d0 : D) (hn : xs.length ≤ 1000000) (he0 : wip vs e1 = f d0) (hp0 : T b0 d0)
    (h : ∀ (x : PD) (d2 : D) (b : Int) (W : List D → Env → Prop) acc, T b d2 → b ≤ b0 + xs.length → (∀ (r : Int) d3, 0 ≤ r → r < s → T (b + 1) d3 → W (acc ++ [.p (.int r)]) (f d3)) →
      g (.p x) (f d2) fun e2 => tt e2 (fun b e3 => if b = true then t e3 (kVal fun d e4 => W (acc ++ [d]) (wip vs e4)) EF else W acc (wip vs e3)) EF)
    (h1 : ∀ (ks : List Nat) d2, ks.length = xs.length → (∀ k ∈ ks, (k : Int) < s) → T (b0 + xs.length) d2 → RS ls (fun e => Q (.val (.lst (natsD ks))) (rsP vs e1 e)) (f d2)) : lcQ xs ls e1 g tt t vs Q := by
  refine lc_mk (fun i acc e => ∃ (ks : List Nat) (d2 : D), ks.length = i ∧ i ≤ xs.length ∧ (∀ k ∈ ks, (k : Int) < s) ∧ T (b0 + i) d2 ∧ acc = natsD ks ∧ e = f d2) hn ⟨[], d0, rfl, Nat.zero_le _, (fun _ h => nomatch h), mono hp0 (by omega), rfl, he0⟩ (fun i x acc e hx ⟨ks, d2, l1, hi, l2, hp2, ha, he⟩ => ?_) (fun acc e ⟨ks, d2, l1, hi, l2, hp2, ha, he⟩ => ?_)
  · subst ha he
    have hlt := (List.getElem?_eq_some_iff.mp hx).1
    refine h x d2 (b0 + i) (fun acc e => ∃ (ks : List Nat) (d2 : D), ks.length = i + 1 ∧ i + 1 ≤ xs.length ∧ (∀ k ∈ ks, (k : Int) < s) ∧ T (b0 + (i + 1 : Nat)) d2 ∧ acc = natsD ks ∧ e = f d2) (natsD ks) hp2 (by omega) fun r d3 r0 r1 hp3 => ⟨ks ++ [r.toNat], d3, by rw [List.length_append, l1]; rfl, hlt, fun k hk => ?_, mono hp3 (by omega), ?_, rfl⟩
    · rcases List.mem_append.mp hk with z | z
      · exact l2 k z
      · rw [List.mem_singleton.mp z]; omega
    · rw [int_nat r0]; unfold natsD natsP; simp
  · subst ha he
    exact h1 ks d2 l1 l2 hp2
theorem lc_drawn {e1 : Env} {g : DTG} {t : DT} {tt : DTB} {vs : List Nat} {Q : Opd → Env → Prop} {xs : List PD} {ls : Ls} {α : Type} {T : Int → D → Prop} (mono : ∀ {b b' : Int} {d : D}, T b d → b ≤ b' → T b' d) (enc : α → PD) (P : α → Prop) (f : D → Env) (b0 : Int) (d0 : D) (hn : xs.length ≤ 1000000) (he0 : wip vs e1 = f d0) (hp0 : T b0 d0)
    (h : ∀ (x : PD) (d2 : D) (b : Int) (W : List D → Env → Prop) acc, T b d2 → b ≤ b0 + 2 * xs.length → (∀ (a : α) d3, P a → T (b + 2) d3 → W (acc ++ [.p (enc a)]) (f d3)) →
      g (.p x) (f d2) fun e2 => tt e2 (fun b e3 => if b = true then t e3 (kVal fun d e4 => W (acc ++ [d]) (wip vs e4)) EF else W acc (wip vs e3)) EF)
    (h1 : ∀ (as : List α) d2, as.length = xs.length → (∀ a ∈ as, P a) → T (b0 + 2 * xs.length) d2 → RS ls (fun e => Q (.val (.lst ((as.map enc).map D.p))) (rsP vs e1 e)) (f d2)) : lcQ xs ls e1 g tt t vs Q := by
  refine lc_mk (fun i acc e => ∃ (as : List α) (d2 : D), as.length = i ∧ i ≤ xs.length ∧ (∀ a ∈ as, P a) ∧ T (b0 + 2 * i) d2 ∧ acc = (as.map enc).map D.p ∧ e = f d2) hn ⟨[], d0, rfl, Nat.zero_le _, (fun _ h => nomatch h), mono hp0 (by omega), rfl, he0⟩ (fun i x acc e hx ⟨as, d2, l1, hi, l2, hp2, ha, he⟩ => ?_) (fun acc e ⟨as, d2, l1, hi, l2, hp2, ha, he⟩ => ?_)
  · subst ha he
    have hlt := (List.getElem?_eq_some_iff.mp hx).1
    refine h x d2 (b0 + 2 * i) (fun acc e => ∃ (as : List α) (d2 : D), as.length = i + 1 ∧ i + 1 ≤ xs.length ∧ (∀ a ∈ as, P a) ∧ T (b0 + 2 * (i + 1 : Nat)) d2 ∧ acc = (as.map enc).map D.p ∧ e = f d2) _ hp2 (by omega) fun a d3 pa hp3 => ⟨as ++ [a], d3, by rw [List.length_append, l1]; rfl, hlt, fun k hk => ?_, mono hp3 (by omega), by rw [List.map_append, List.map_append]; rfl, rfl⟩
    rcases List.mem_append.mp hk with z | z
    · exact l2 k z
    · rw [List.mem_singleton.mp z]; exact pa
  · subst ha he
    exact h1 as d2 l1 l2 hp2

/-! ### homes, room, crowds -/
def keyAt (w : Web) (k : Nat) : List Nat := w.keys.getD k []
def roomAt (w : Web) (h : Nat) : Int := w.rooms.getD h 0
def homesOf (w : Web) (ks : List Nat) : List Nat := (List.range w.rooms.length).filter fun h => ks.any fun k => decide (h ∈ keyAt w k)
def roomOf (w : Web) (hs : List Nat) : Int := (hs.map (roomAt w)).sum
def isCrowd (w : Web) (ks : List Nat) : Bool := decide (roomOf w (homesOf w ks) < (ks.length : Int))
theorem keyAt_get {w : Web} {k : Nat} (h : k < w.keys.length) : w.keys[k]? = some (keyAt w k) := by
  unfold keyAt
  rw [List.getD_eq_getElem?_getD, List.getElem?_eq_getElem h]; rfl
theorem roomAt_get {w : Web} {h : Nat} (hl : h < w.rooms.length) : w.rooms[h]? = some (roomAt w h) := by
  unfold roomAt
  rw [List.getD_eq_getElem?_getD, List.getElem?_eq_getElem hl]; rfl
theorem key_home {m : Nat} {w : Web} (ok : WebOk m w) {k h : Nat} (hk : k < w.keys.length) (hh : h ∈ keyAt w k) : h < w.rooms.length :=
  ok.kh _ (List.mem_of_getElem? (keyAt_get hk)) h hh
/-- a list or a tuple of numbers -/
def NumSeq (d : D) (ks : List Nat) : Prop := d = .lst (natsD ks) ∨ d = .p (.list (natsP ks)) ∨ d = .p (.tuple (natsP ks))
/-- the dict of what was found -/
def seenK (hs : List Nat) : List (Key × PD) := hs.map fun (h : Nat) => (Sum.inl (h : Int), PyData.bool true)
theorem seen_any {hs : List Nat} {h : Nat} : ((seenK hs).any fun kv => decide (kv.1 = Sum.inl (h : Int))) = decide (h ∈ hs) := by
  unfold seenK
  rw [List.any_map]
  induction hs with
  | nil => rfl
  | cons x r ih =>
    rw [List.any_cons, ih]
    by_cases e : x = h
    · subst e; simp
    · have e2 : ¬ ((x : Int) = (h : Int)) := by omega
      have e3 : ¬ h = x := fun z => e z.symm
      simp [e2, e3]
theorem seen_put {hs : List Nat} {h : Nat} : dput (seenK hs) (.inl (h : Int)) (.bool true) = seenK (if h ∈ hs then hs else hs ++ [h]) := by
  unfold dput
  rw [seen_any]
  by_cases m : h ∈ hs
  · rw [if_pos (by simpa using m), if_pos m]
    unfold seenK
    rw [List.map_map]
    refine List.map_congr_left fun x _ => ?_
    show (if (Sum.inl (x : Int) : Key) = Sum.inl (h : Int) then _ else _) = _
    split <;> rfl
  · rw [if_neg (by simpa using m), if_neg m]
    unfold seenK
    rw [List.map_append]; rfl
theorem nodup_lt_len {hs : List Nat} {n : Nat} (nd : hs.Nodup) (h : ∀ x ∈ hs, x < n) : hs.length ≤ n := by
  have p : hs.Perm ((List.range n).filter fun x => decide (x ∈ hs)) := (List.perm_ext_iff_of_nodup nd (List.nodup_range.filter _)).mpr fun x => by
    rw [List.mem_filter, List.mem_range]
    refine ⟨fun m => ⟨h x m, by simpa using m⟩, fun m => by simpa using m.2⟩
  have := p.length_eq
  have l := List.length_filter_le (fun x => decide (x ∈ hs)) (List.range n)
  rw [List.length_range] at l
  omega
theorem seen_sorted {hs : List Nat} {w : Web} {ks : List Nat} (nd : hs.Nodup) (m : ∀ h, h ∈ hs ↔ ∃ k ∈ ks, h ∈ keyAt w k) (lt : ∀ h ∈ hs, h < w.rooms.length) :
    sortI (hs.map fun (h : Nat) => (h : Int)) = (homesOf w ks).map fun (h : Nat) => (h : Int) := by
  refine sortI_of ?_ ?_
  · refine List.Perm.map _ ((List.perm_ext_iff_of_nodup nd (List.nodup_range.filter _)).mpr fun x => ?_)
    rw [List.mem_filter, List.mem_range, List.any_eq_true, m]
    refine ⟨fun ⟨k, h1, h2⟩ => ⟨lt x ((m x).mpr ⟨k, h1, h2⟩), k, h1, by simpa using h2⟩, fun ⟨_, k, h1, h2⟩ => ⟨k, h1, by simpa using h2⟩⟩
  · rw [List.pairwise_map]
    refine List.Pairwise.imp (fun {a b} (h : a < b) => by omega) ?_
    exact List.pairwise_lt_range.filter _
theorem homes_lt {w : Web} {ks : List Nat} : ∀ h ∈ homesOf w ks, h < w.rooms.length := fun h hh => by
  have := (List.mem_filter.mp hh).1
  simpa using this
theorem homes_len {w : Web} {ks : List Nat} : (homesOf w ks).length ≤ w.rooms.length := by
  have := List.length_filter_le (fun h => ks.any fun k => decide (h ∈ keyAt w k)) (List.range w.rooms.length)
  rw [List.length_range] at this
  exact this
theorem room_item {w : Web} {hs : List Nat} (hl : ∀ h ∈ hs, h < w.rooms.length) {i x : Nat} (hi : hs[i]? = some x) : atI (w.rooms.map PyData.int) (x : Int) = some (.int (roomAt w x)) :=
  atI_ofNat (by rw [List.getElem?_map, roomAt_get (hl x (List.mem_of_getElem? hi))]; rfl)
theorem seenK_keys (hs : List Nat) : ((seenK hs).map fun kv => keyP kv.1) = (hs.map fun (h : Nat) => (h : Int)).map PyData.int := by
  unfold seenK
  rw [List.map_map, List.map_map]; rfl
theorem nats_pint (hs : List Nat) : ((hs.map fun (h : Nat) => (h : Int)).map fun i => D.p (.int i)) = natsD hs := by
  unfold natsD natsP
  rw [List.map_map, List.map_map]; rfl
theorem nats_flat (ks : List Nat) : (natsP ks).all flatP = true := by
  unfold natsP
  rw [List.all_map, List.all_eq_true]
  exact fun _ _ => rfl
theorem natP_eqv (x y : Nat) : PyData.eqv (natP x) (natP y) = decide (x = y) := by
  unfold natP
  rw [eqv_ints]
  by_cases h : x = y
  · subst h; simp
  · have : ¬ ((x : Int) = (y : Int)) := by omega
    simp [h, this]
theorem nats_any (ks : List Nat) (x : Nat) : ((natsP ks).any fun z => PyData.eqv z (natP x)) = decide (x ∈ ks) := any_map natP_eqv ks x
theorem nats_lay (ks : List Nat) : Lay 1 (.list (natsP ks)) := Lay.list fun d hd => by
  unfold natsP at hd
  obtain ⟨x, _, rfl⟩ := List.mem_map.mp hd
  exact .int _
theorem nats_eqv (xs ys : List Nat) : PyData.eqv (.list (natsP xs)) (.list (natsP ys)) = decide (xs = ys) := by
  rw [eqv_lists]
  exact eqvAll_map natP_eqv xs ys
theorem py_nats (ks : List Nat) : D.py (.lst (natsD ks)) = some (.list (natsP ks)) := py_lst _
theorem filter_any (ks : List Nat) (p : Nat → Bool) : (!decide ((ks.filter p).map natP = [])) = ks.any p := by
  cases h : ks.any p with
  | true =>
    obtain ⟨x, h1, h2⟩ := List.any_eq_true.mp h
    have ne : ¬ ((ks.filter p).map natP = []) := fun z => by
      have m : x ∈ ks.filter p := List.mem_filter.mpr ⟨h1, h2⟩
      rw [List.map_eq_nil_iff.mp z] at m
      cases m
    rw [decide_eq_false ne]; rfl
  | false =>
    have e : (ks.filter p).map natP = [] := by
      rw [List.map_eq_nil_iff, List.filter_eq_nil_iff]
      exact fun x hx z => by rw [List.any_eq_true.mpr ⟨x, hx, z⟩] at h; cases h
    rw [decide_eq_true e]; rfl
theorem filter_none (ks : List Nat) (p : Nat → Bool) : decide ((ks.filter p).map natP = []) = !ks.any p := by rw [← filter_any, Bool.not_not]
theorem key_item {w : Web} {ks : List Nat} (hk : ∀ k ∈ ks, k < w.keys.length) {i x : Nat} (hi : ks[i]? = some x) : atI (w.keys.map keyT) (x : Int) = some (keyT (keyAt w x)) :=
  atI_ofNat (by rw [List.getElem?_map, keyAt_get (hk x (List.mem_of_getElem? hi))]; rfl)
def SomeOk (n : Nat) (ks : List Nat) : Prop := ks.Pairwise (· < ·) ∧ ∀ k ∈ ks, k < n
theorem SomeOk.nodup {n : Nat} {ks : List Nat} (h : SomeOk n ks) : ks.Nodup := h.1.imp fun h => Nat.ne_of_lt h
theorem SomeOk.len {n : Nat} {ks : List Nat} (h : SomeOk n ks) : ks.length ≤ n := nodup_lt_len h.nodup h.2
theorem range_some (n : Nat) : SomeOk n (List.range n) := ⟨List.pairwise_lt_range, fun k hk => by simpa using hk⟩
theorem SomeOk.sub {n : Nat} {ks js : List Nat} (h : SomeOk n ks) (s : js.Sublist ks) : SomeOk n js := ⟨h.1.sublist s, fun k hk => h.2 k (s.subset hk)⟩
theorem filter_some {n : Nat} (p : Nat → Bool) : SomeOk n ((List.range n).filter p) := (range_some n).sub List.filter_sublist

/-! ### webs compared -/
instance : DecidableEq Web := fun a b => decidable_of_iff (a.rooms = b.rooms ∧ a.keys = b.keys) ⟨fun h => by
  cases a; cases b
  exact congr (congrArg Web.mk h.1) h.2, fun h => by rw [h]; exact ⟨rfl, rfl⟩⟩
theorem keyT_eqv (a b : List Nat) : PyData.eqv (keyT a) (keyT b) = decide (a = b) := by
  unfold keyT
  rw [eqv_tuples]
  exact eqvAll_map natP_eqv a b
theorem keyT_lay (k : List Nat) : Lay 1 (keyT k) := Lay.tuple fun d hd => by
  unfold natsP at hd
  obtain ⟨x, _, rfl⟩ := List.mem_map.mp hd
  exact .int _
theorem rooms_lay (rs : List Int) : Lay 1 (.tuple (rs.map PyData.int)) := Lay.tuple fun d hd => by
  obtain ⟨x, _, rfl⟩ := List.mem_map.mp hd
  exact .int _
theorem keys_lay (ks : List (List Nat)) : Lay 2 (.tuple (ks.map keyT)) := Lay.tuple fun d hd => by
  obtain ⟨x, _, rfl⟩ := List.mem_map.mp hd
  exact keyT_lay x
theorem rooms_eqv (a b : List Int) : PyData.eqv (.tuple (a.map PyData.int)) (.tuple (b.map PyData.int)) = decide (a = b) := by
  rw [eqv_tuples]
  exact eqvAll_map eqv_ints a b
theorem keys_eqv (a b : List (List Nat)) : PyData.eqv (.tuple (a.map keyT)) (.tuple (b.map keyT)) = decide (a = b) := by
  rw [eqv_tuples]
  exact eqvAll_map keyT_eqv a b
theorem web_lay (w : Web) : Lay 3 (encW w) := Lay.tuple fun d hd => by
  rcases List.mem_cons.mp hd with h | h
  · subst h; exact (rooms_lay _).mono (by decide)
  · rw [List.mem_singleton.mp h]; exact keys_lay _
theorem web_eqv (a b : Web) : PyData.eqv (encW a) (encW b) = decide (a = b) := by
  unfold encW
  rw [eqv_tuples]
  simp only [PyData.eqvAll, rooms_eqv, keys_eqv, Bool.and_true]
  cases a with
  | mk ra ka =>
    cases b with
    | mk rb kb =>
      by_cases h1 : ra = rb <;> by_cases h2 : ka = kb <;> simp [h1, h2]

theorem all_const {α : Type} (xs : List α) : (xs.map fun _ => true).all _root_.id = true := by
  rw [List.all_map, List.all_eq_true]; exact fun _ _ => rfl
theorem lc_bools {α : Type} {e1 : Env} {g : DTG} {t : DT} {tt : DTB} {vs : List Nat} {Q : Opd → Env → Prop} {xs : List PD} {ls : Ls} (enc : α → PD) (ys : List α) (e0 : Env) (f : α → Bool) (hx : xs = ys.map enc) (hl : ys.length ≤ 1000000) (he0 : wip vs e1 = e0)
    (h : ∀ (i : Nat) x (W : List D → Env → Prop) acc, ys[i]? = some x → W (acc ++ [D.p (.bool (f x))]) e0 → g (.p (enc x)) e0 fun e2 => tt e2 (fun b e3 => if b = true then t e3 (kVal fun d e4 => W (acc ++ [d]) (wip vs e4)) EF else W acc (wip vs e3)) EF)
    (h1 : RS ls (fun e => Q (.val (.lst (((ys.map f).map PyData.bool).map D.p))) (rsP vs e1 e)) e0) : lcQ xs ls e1 g tt t vs Q := by
  refine lc_all enc ys e0 (fun x => PyData.bool (f x)) hx hl he0 h ?_
  have e : (ys.map fun x => PyData.bool (f x)) = (ys.map f).map PyData.bool := by rw [List.map_map]; rfl
  rw [e]
  exact h1

/-! lists of whole numbers -/
abbrev intsD (ns : List Int) : List D := (ns.map PyData.int).map D.p
theorem nats_ints (ks : List Nat) : natsD ks = intsD (ks.map fun (k : Nat) => (k : Int)) := by show (natsP ks).map D.p = _; unfold natsP intsD; rw [List.map_map, List.map_map, List.map_map]; rfl

/-! ### rules -/
structure Rule where
  rooms : List Int
  ways : List (Int × Int)
def wayT (p : Int × Int) : PD := .tuple [.int p.1, .int p.2]
def encR (r : Rule) : PD := .tuple [.tuple (r.rooms.map PyData.int), .tuple (r.ways.map wayT)]
structure RoomsOk (rs : List Int) : Prop where
  r1 : 1 ≤ rs.length
  r2 : rs.length ≤ 10
  lo : ∀ r ∈ rs, 0 ≤ r ∧ r ≤ 9
def WayOk (p : Int × Int) : Prop := 0 ≤ p.1 ∧ p.1 ≤ 10006 ∧ 0 ≤ p.2 ∧ p.2 ≤ 10006
structure RuleOk (r : Rule) : Prop where
  rooms : RoomsOk r.rooms
  w1 : 2 ≤ r.ways.length
  w2 : r.ways.length ≤ 3
  ways : ∀ p ∈ r.ways, WayOk p
def homeI (r : Rule) (key : Int) (p : Int × Int) : Int := (p.1 * key + p.2) % 10007 % (r.rooms.length : Int)
def homesR (r : Rule) (key : Int) : List Int := r.ways.map (homeI r key)
theorem home_lt {r : Rule} (ok : RuleOk r) (key : Int) (p : Int × Int) : 0 ≤ homeI r key p ∧ homeI r key p < r.rooms.length := by
  have := ok.rooms.r1
  exact ⟨Int.emod_nonneg _ (by omega), Int.emod_lt_of_pos _ (by omega)⟩

def webR (r : Rule) (ks : List Int) : Web := ⟨r.rooms, ks.map fun k => (homesR r k).map Int.toNat⟩
theorem homes_nat {r : Rule} (ok : RuleOk r) (k : Int) : natsP ((homesR r k).map Int.toNat) = (homesR r k).map PyData.int := by
  unfold natsP homesR
  rw [List.map_map, List.map_map, List.map_map]
  refine List.map_congr_left fun p hp => ?_
  have := (home_lt ok k p).1
  show PyData.int (((homeI r k p).toNat : Nat) : Int) = PyData.int (homeI r k p)
  rw [Int.toNat_of_nonneg this]
theorem homes_keyT {r : Rule} (ok : RuleOk r) (k : Int) : keyT ((homesR r k).map Int.toNat) = .tuple ((homesR r k).map PyData.int) := by unfold keyT; rw [homes_nat ok]
theorem webR_ok {r : Rule} (ok : RuleOk r) {m : Nat} {ks : List Int} (hm : ks.length ≤ m) : WebOk m (webR r ks) := by
  refine ⟨by show 0 < r.rooms.length; have := ok.rooms.r1; omega, ok.rooms.r2, fun x hx => (ok.rooms.lo x hx).1, fun x hx => ?_, by show (ks.map _).length ≤ m; rw [List.length_map]; exact hm, fun k hk => ?_, fun k hk h hh => ?_⟩
  · have := (ok.rooms.lo x hx).2
    exact Int.lt_of_le_of_lt this (by decide)
  · obtain ⟨k0, _, rfl⟩ := List.mem_map.mp hk
    have h1 := ok.w1
    have h2 := ok.w2
    have : ((homesR r k0).map Int.toNat).length = r.ways.length := by unfold homesR; rw [List.length_map, List.length_map]
    omega
  · obtain ⟨k0, _, rfl⟩ := List.mem_map.mp hk
    obtain ⟨x, hx, rfl⟩ := List.mem_map.mp hh
    obtain ⟨p, _, rfl⟩ := List.mem_map.mp hx
    have := home_lt ok k0 p
    show (homeI r k0 p).toNat < r.rooms.length
    omega

theorem wayT_eqv (a b : Int × Int) : PyData.eqv (wayT a) (wayT b) = decide (a = b) := by
  unfold wayT
  rw [eqv_tuples]
  simp only [PyData.eqvAll, eqv_ints, Bool.and_true]
  cases a with
  | mk a1 a2 =>
    cases b with
    | mk b1 b2 => by_cases h1 : a1 = b1 <;> by_cases h2 : a2 = b2 <;> simp [h1, h2]
theorem rule_eqv_self (r : Rule) : PyData.eqv (encR r) (encR r) = true := by
  unfold encR
  rw [eqv_tuples]
  simp only [PyData.eqvAll, eqv_tuples, Bool.and_true, eqvAll_map eqv_ints, eqvAll_map wayT_eqv]
  simp
theorem way_lay (p : Int × Int) : Lay 1 (wayT p) := Lay.tuple fun d hd => by
  rcases List.mem_cons.mp hd with h | h
  · subst h; exact .int _
  · rw [List.mem_singleton.mp h]; exact .int _
theorem rms_lay (rs : List Int) : Lay 1 (.tuple (rs.map PyData.int)) := Lay.tuple fun d hd => by
  obtain ⟨x, _, rfl⟩ := List.mem_map.mp hd
  exact .int _
theorem ways_lay (ws : List (Int × Int)) : Lay 2 (.tuple (ws.map wayT)) := Lay.tuple fun d hd => by
  obtain ⟨x, _, rfl⟩ := List.mem_map.mp hd
  exact way_lay x
theorem rule_lay (r : Rule) : Lay 3 (encR r) := Lay.tuple fun d hd => by
  rcases List.mem_cons.mp hd with h | h
  · subst h; exact (rms_lay _).mono (by decide)
  · rw [List.mem_singleton.mp h]; exact ways_lay _

/-! ### a datum is like itself -/
mutual
def nodP : PD → Bool
  | .none => true
  | .bool _ => true
  | .int _ => true
  | .str _ => true
  | .tuple xs => nodPs xs
  | .list xs => nodPs xs
  | .dict _ => false
def nodPs : List PD → Bool
  | [] => true
  | x :: xs => nodP x && nodPs xs
end
mutual
theorem eqv_self : ∀ x : PD, nodP x = true → PyData.eqv x x = true
  | .none, _ => rfl
  | .bool b, _ => by cases b <;> rfl
  | .int i, _ => by rw [eqv_ints]; exact decide_eq_true rfl
  | .str s, _ => by show decide (s = s) = true; exact decide_eq_true rfl
  | .tuple xs, h => by
    rw [eqv_tuples]
    exact eqvAll_self xs (by simpa [nodP] using h)
  | .list xs, h => by
    rw [eqv_lists]
    exact eqvAll_self xs (by simpa [nodP] using h)
  | .dict _, h => by simp [nodP] at h
theorem eqvAll_self : ∀ xs : List PD, nodPs xs = true → PyData.eqvAll xs xs = true
  | [], _ => by simp [PyData.eqvAll]
  | x :: xs, h => by
    have h : nodP x = true ∧ nodPs xs = true := by simpa [nodPs] using h
    simp only [PyData.eqvAll, eqv_self x h.1, eqvAll_self xs h.2, Bool.and_self]
end
theorem nodPs_map {α : Type} {enc : α → PD} (h : ∀ x, nodP (enc x) = true) : ∀ xs : List α, nodPs (xs.map enc) = true
  | [] => by simp [nodPs]
  | x :: xs => by
    rw [List.map_cons]
    simp only [nodPs, h x, nodPs_map h xs, Bool.and_self]

/-! ### things of any kind, asked whether they are a rule -/
def kndB : PD → Bool
  | .none => true
  | .bool _ => true
  | .int _ => true
  | .str _ => true
  | .tuple _ => true
  | .list _ => true
  | _ => false
def betB (lo hi : Int) : PD → Bool
  | .int i => decide (lo ≤ i) && decide (i ≤ hi)
  | _ => false
def roomsB : PD → Bool
  | .tuple xs => decide ((1 : Int) ≤ (xs.length : Int)) && (decide ((xs.length : Int) ≤ 10) && xs.all (betB 0 9))
  | _ => false
def wayB : PD → Bool
  | .tuple xs => decide ((xs.length : Int) = 2) && xs.all (betB 0 10006)
  | _ => false
def waysB : PD → Bool
  | .tuple xs => decide ((2 : Int) ≤ (xs.length : Int)) && (decide ((xs.length : Int) ≤ 3) && xs.all wayB)
  | _ => false
def ruleB : PD → Bool
  | .tuple [a, b] => roomsB a && waysB b
  | _ => false
theorem roomsB_t (xs : List PD) : roomsB (.tuple xs) = (decide ((1 : Int) ≤ (xs.length : Int)) && (decide ((xs.length : Int) ≤ 10) && xs.all (betB 0 9))) := rfl
theorem wayB_t (xs : List PD) : wayB (.tuple xs) = (decide ((xs.length : Int) = 2) && xs.all (betB 0 10006)) := rfl
theorem waysB_t (xs : List PD) : waysB (.tuple xs) = (decide ((2 : Int) ≤ (xs.length : Int)) && (decide ((xs.length : Int) ≤ 3) && xs.all wayB)) := rfl
def Kn1 (x : PD) : Prop := kndB x = true ∧ ∀ xs, x = .tuple xs → ∀ y ∈ xs, kndB y = true
def Kn2 (x : PD) : Prop := kndB x = true ∧ ∀ xs, x = .tuple xs → ∀ y ∈ xs, Kn1 y
def Kn3 (x : PD) : Prop := kndB x = true ∧ ∀ a b, x = .tuple [a, b] → Kn1 a ∧ Kn2 b
def RuleD (d : D) (b : Bool) : Prop := (∃ x, d = .p x ∧ Kn3 x ∧ b = ruleB x) ∨ (d = .dct [] ∧ b = false)

/-! ### bent things: words shared -/
theorem kn1_rooms (rs : List Int) : Kn1 (.tuple (rs.map PyData.int)) := ⟨rfl, fun xs e y hy => by
  cases e
  obtain ⟨x, _, rfl⟩ := List.mem_map.mp hy
  rfl⟩
theorem rooms_true {rs : List Int} (ok : RoomsOk rs) : roomsB (.tuple (rs.map PyData.int)) = true := by
  have h1 := ok.r1
  have h2 := ok.r2
  rw [roomsB_t, List.length_map, decide_eq_true (by omega : (1 : Int) ≤ (rs.length : Int)), decide_eq_true (by omega : (rs.length : Int) ≤ 10), Bool.true_and, Bool.true_and, List.all_map, List.all_eq_true]
  intro x hx
  have := ok.lo x hx
  show (decide (0 ≤ x) && decide (x ≤ 9)) = true
  rw [decide_eq_true this.1, decide_eq_true this.2]; rfl
theorem all_bad {p : PD → Bool} {xs : List PD} {j : Nat} {z : PD} (hj : j < xs.length) (hz : p z = false) : (xs.set j z).all p = false := by
  rw [List.all_eq_false]
  exact ⟨z, List.mem_iff_getElem?.mpr ⟨j, by rw [List.getElem?_set_self hj]⟩, by rw [hz]; exact Bool.false_ne_true⟩
theorem rooms_bad {xs : List PD} {j : Nat} {z : PD} (hj : j < xs.length) (hz : betB 0 9 z = false) : roomsB (.tuple (xs.set j z)) = false := by
  rw [roomsB_t, all_bad hj hz, Bool.and_false, Bool.and_false]
theorem kn1_set {xs : List PD} {j : Nat} {z : PD} (h : Kn1 (.tuple xs)) (hz : kndB z = true) : Kn1 (.tuple (xs.set j z)) := ⟨rfl, fun ys e y hy => by
  cases e
  rcases List.mem_or_eq_of_mem_set hy with c | c
  · exact h.2 xs rfl y c
  · rw [c]; exact hz⟩
theorem kn2_set {xs : List PD} {j : Nat} {z : PD} (h : Kn2 (.tuple xs)) (hz : Kn1 z) : Kn2 (.tuple (xs.set j z)) := ⟨rfl, fun ys e y hy => by
  cases e
  rcases List.mem_or_eq_of_mem_set hy with c | c
  · exact h.2 xs rfl y c
  · rw [c]; exact hz⟩
theorem cut_one {α : Type} {xs : List α} (h : 0 < xs.length) : cutP xs Option.none (some 1) = xs.take 1 := by
  have e3 : HT.sIx xs.length xs.length (some 1) = 1 := by
    have := HT.sIx_nat xs.length xs.length 1
    rw [show ((1 : Nat) : Int) = 1 from rfl] at this
    rw [this]; omega
  unfold cutP
  rw [HT.sIx_none, e3, List.drop_zero, Nat.sub_zero]
theorem kn1_non : Kn1 .none := ⟨rfl, fun _ e => by cases e⟩
theorem kn2_non : Kn2 .none := ⟨rfl, fun _ e => by cases e⟩
theorem kn1_int (i : Int) : Kn1 (.int i) := ⟨rfl, fun _ e => by cases e⟩
theorem kn1_str (s : Str) : Kn1 (.str s) := ⟨rfl, fun _ e => by cases e⟩
theorem kn1_list (xs : List PD) : Kn1 (.list xs) := ⟨rfl, fun _ e => by cases e⟩
theorem kn2_list (xs : List PD) : Kn2 (.list xs) := ⟨rfl, fun _ e => by cases e⟩
theorem kn1_ints (xs : List Int) : Kn1 (.tuple (xs.map PyData.int)) := kn1_rooms xs
theorem kn1_nil : Kn1 (.tuple []) := ⟨rfl, fun _ e y hy => by cases e; cases hy⟩
theorem kn2_nil : Kn2 (.tuple []) := ⟨rfl, fun _ e y hy => by cases e; cases hy⟩
theorem rep_mem {α : Type} {n : Nat} {x y : α} (h : y ∈ (List.replicate n [x]).flatten) : y = x := by
  obtain ⟨l, hl, hy⟩ := List.mem_flatten.mp h
  rw [(List.mem_replicate.mp hl).2] at hy
  exact List.mem_singleton.mp hy
theorem rep_len {α : Type} (n : Nat) (x : α) : ((List.replicate n [x]).flatten).length = n := by
  induction n with
  | zero => rfl
  | succ n ih => rw [List.replicate_succ, List.flatten_cons, List.length_append, ih, List.length_singleton, Nat.add_comm]
theorem kn1_flat {z : PD} (h : kndB z = true) (hn : ∀ xs, z ≠ .tuple xs) : Kn1 z := ⟨h, fun xs e => absurd e (hn xs)⟩
theorem betM (h : Int) : betB 0 h (.int (-1)) = false := by
  show (decide ((0 : Int) ≤ -1) && decide ((-1 : Int) ≤ h)) = false
  rw [show decide ((0 : Int) ≤ -1) = false from rfl, Bool.false_and]
theorem mulx2 {x y : Int} {a b : Nat} (hx : x.natAbs < 2 ^ a) (hy : y.natAbs < 2 ^ b) (h : a + b ≤ 100000000) : CMulX x y := by
  have h1 := bits_le x
  have h2 := bits_le y
  have h3 := log2_le hx
  have h4 := log2_le hy
  unfold CMulX
  omega
theorem cut_setP {α : Type} {xs : List α} {i : Nat} (hi : i < xs.length) (v : α) : cutP xs Option.none (some (i : Int)) ++ [v] ++ cutP xs (some ((i : Int) + 1)) Option.none = xs.set i v := by
  unfold cutP
  have e3 : HT.sIx xs.length xs.length (some (i : Int)) = i := by rw [HT.sIx_nat]; omega
  have e4 : HT.sIx xs.length 0 (some ((i : Int) + 1)) = i + 1 := by
    have := HT.sIx_nat xs.length 0 (i + 1)
    rw [show ((i : Int) + 1) = ((i + 1 : Nat) : Int) by omega, this]
    omega
  rw [HT.sIx_none, HT.sIx_none, e3, e4, List.set_eq_take_append_cons_drop, if_pos hi, List.drop_zero, Nat.sub_zero, List.take_of_length_le (l := List.drop (i + 1) xs) (by rw [List.length_drop]; exact Nat.le_refl _), List.append_assoc]
  rfl

/-! ### things of any kind, asked whether they are a web -/
def homesB (m : Int) : PD → Bool
  | .tuple xs => decide ((2 : Int) ≤ (xs.length : Int)) && (decide ((xs.length : Int) ≤ 3) && xs.all (betB 0 (m - 1)))
  | _ => false
def keysB (m : Int) : PD → Bool
  | .tuple xs => decide ((xs.length : Int) ≤ 30) && xs.all (homesB m)
  | _ => false
def lenT : PD → Int
  | .tuple xs => (xs.length : Int)
  | _ => 0
def webB : PD → Bool
  | .tuple [a, b] => roomsB a && keysB (lenT a) b
  | _ => false
theorem homesB_t (m : Int) (xs : List PD) : homesB m (.tuple xs) = (decide ((2 : Int) ≤ (xs.length : Int)) && (decide ((xs.length : Int) ≤ 3) && xs.all (betB 0 (m - 1)))) := rfl
theorem keysB_t (m : Int) (xs : List PD) : keysB m (.tuple xs) = (decide ((xs.length : Int) ≤ 30) && xs.all (homesB m)) := rfl
def WebD (d : D) (b : Bool) : Prop := (∃ x, d = .p x ∧ Kn3 x ∧ b = webB x) ∨ (d = .dct [] ∧ b = false)

/-! ### rules are rules -/
theorem kn1_way (p : Int × Int) : Kn1 (wayT p) := ⟨rfl, fun xs e y hy => by
  cases e
  simp only [List.mem_cons, List.not_mem_nil, or_false] at hy
  rcases hy with rfl | rfl <;> rfl⟩
theorem kn2_ways (ws : List (Int × Int)) : Kn2 (.tuple (ws.map wayT)) := ⟨rfl, fun xs e y hy => by
  cases e
  obtain ⟨p, _, rfl⟩ := List.mem_map.mp hy
  exact kn1_way p⟩
theorem kn1_ways (ws : List (Int × Int)) : Kn1 (.tuple (ws.map wayT)) := ⟨rfl, fun xs e y hy => by
  cases e
  obtain ⟨p, _, rfl⟩ := List.mem_map.mp hy
  rfl⟩
theorem kn2_rooms (rs : List Int) : Kn2 (.tuple (rs.map PyData.int)) := ⟨rfl, fun xs e y hy => by
  cases e
  obtain ⟨x, _, rfl⟩ := List.mem_map.mp hy
  exact ⟨rfl, fun _ e => by cases e⟩⟩
theorem way_true {p : Int × Int} (h : WayOk p) : wayB (wayT p) = true := by
  obtain ⟨h1, h2, h3, h4⟩ := h
  show (decide ((2 : Int) = 2) && ((decide (0 ≤ p.1) && decide (p.1 ≤ 10006)) && ((decide (0 ≤ p.2) && decide (p.2 ≤ 10006)) && true))) = true
  rw [decide_eq_true h1, decide_eq_true h2, decide_eq_true h3, decide_eq_true h4]; rfl
theorem ways_true {r : Rule} (ok : RuleOk r) : waysB (.tuple (r.ways.map wayT)) = true := by
  have h1 := ok.w1
  have h2 := ok.w2
  rw [waysB_t, List.length_map, decide_eq_true (by omega : (2 : Int) ≤ (r.ways.length : Int)), decide_eq_true (by omega : (r.ways.length : Int) ≤ 3), Bool.true_and, Bool.true_and, List.all_map, List.all_eq_true]
  exact fun p hp => way_true (ok.ways p hp)
theorem rule_true {r : Rule} (ok : RuleOk r) : ruleB (encR r) = true := by
  show (roomsB _ && waysB _) = true
  rw [rooms_true ok.rooms, ways_true ok]; rfl

/-! ### texts of numbers -/
def numT (n : Nat) : Str := PySem.Str.ofString (toString ((n : Nat) : Int))
def sCom : Str := PySem.Str.ofString ","
def sBl : Str := PySem.Str.ofString " "
theorem tl_com : TL.tl sCom = [44] := by decide
theorem tl_bl : TL.tl sBl = [32] := by decide
theorem com_ok : (sCom.cps.all fun x => decide (x < 256)) = true := by decide +kernel
theorem bl_ok : (sBl.cps.all fun x => decide (x < 256)) = true := by decide +kernel
theorem tl_numT (n : Nat) : TL.tl (numT n) = TL.numL n := TL.tl_num n
theorem numT_len {n : Nat} (h : n < 10 ^ 60) : (numT n).length ≤ 60 := by rw [TL.len_tl, tl_numT]; exact TL.numL_len (by decide) h
theorem numT_pos (n : Nat) : 1 ≤ (numT n).length := by
  rw [TL.len_tl, tl_numT]
  have := TL.numL_ne n
  cases h : TL.numL n with
  | nil => exact absurd h this
  | cons a r => exact Nat.succ_le_succ (Nat.zero_le _)
theorem numT_int {n : Nat} (h : n < 10 ^ 60) : PySem.intText? (numT n) = some (n : Int) := TL.int_num (by
  have := TL.numL_len (n := n) (k := 60) (by decide) h
  omega)
/-- the first figure: no nought but of nought alone -/
theorem numL_head (n : Nat) : n < 10 ∧ TL.numL n = [48 + n] ∨ ∃ c r, TL.numL n = c :: r ∧ c ≠ 48 := by
  induction n using Nat.strongRecOn with
  | ind n ih =>
    by_cases h : n < 10
    · exact .inl ⟨h, TL.numL_lt h⟩
    · refine .inr ?_
      rw [TL.numL_step (by omega)]
      rcases ih (n / 10) (by omega) with ⟨h1, h2⟩ | ⟨c, r, h1, h2⟩
      · rw [h2]
        exact ⟨_, _, rfl, by omega⟩
      · rw [h1]
        exact ⟨c, _, rfl, h2⟩
theorem Lay.str {n : Nat} {s : Str} (h : ∀ c ∈ TL.tl s, c < 1114112) : Lay n (.str s) := ⟨by
  unfold PyData.canLay0 PyData.strOk
  rw [← Array.all_toList, List.all_eq_true]
  exact fun c hc => decide_eq_true (h c hc), Nat.zero_le _⟩
theorem str_shaped {s : Str} (h : ∀ c ∈ TL.tl s, c < 1114112) : SeqAt.shaped (.str s) = true := (Lay.str (n := 0) h).ok (by decide)
theorem str_eqv (a b : Str) : PyData.eqv (.str a) (.str b) = decide (a = b) := rfl
theorem sum_len {ys : List Str} {b : Nat} (h : ∀ y ∈ ys, y.length ≤ b) : (ys.map (·.length)).sum ≤ b * ys.length := by
  induction ys with
  | nil => exact Nat.zero_le _
  | cons y r ih =>
    have h1 := h y List.mem_cons_self
    have h2 := ih fun z hz => h z (List.mem_cons_of_mem _ hz)
    rw [List.map_cons, List.sum_cons, List.length_cons, Nat.mul_succ]
    omega
theorem joinL_len (S : List Nat) : ∀ ps : List (List Nat), (TL.joinL S ps).length ≤ (ps.map (·.length)).sum + ps.length * S.length
  | [] => Nat.zero_le _
  | [p] => by show p.length ≤ _; simp
  | p :: q :: r => by
    have ih := joinL_len S (q :: r)
    show (p ++ (S ++ TL.joinL S (q :: r))).length ≤ _
    rw [List.length_append, List.length_append]
    simp only [List.map_cons, List.sum_cons, List.length_cons, Nat.succ_mul] at ih ⊢
    omega
theorem join_len {sep : Str} {ys : List Str} {b : Nat} (h : ∀ y ∈ ys, y.length ≤ b) : (Txt.join sep ys).length ≤ b * ys.length + ys.length * sep.length := by
  have := joinL_len (TL.tl sep) (ys.map TL.tl)
  rw [TL.len_tl, TL.join_eq, TL.tl_join]
  have e : (ys.map TL.tl).map (·.length) = ys.map (·.length) := by
    rw [List.map_map]
    exact List.map_congr_left fun y _ => (TL.len_tl y).symm
  rw [e, List.length_map, ← TL.len_tl] at this
  have := sum_len h
  omega
/-- the signs of a joined text are of the separator or of a part -/
theorem joinL_mem {S : List Nat} {c : Nat} : ∀ {ps : List (List Nat)}, c ∈ TL.joinL S ps → c ∈ S ∨ ∃ p ∈ ps, c ∈ p
  | [], h => nomatch h
  | [p], h => .inr ⟨p, List.mem_singleton.mpr rfl, h⟩
  | p :: q :: r, h => by
    have h : c ∈ p ++ (S ++ TL.joinL S (q :: r)) := h
    rcases List.mem_append.mp h with h | h
    · exact .inr ⟨p, List.mem_cons_self, h⟩
    · rcases List.mem_append.mp h with h | h
      · exact .inl h
      · rcases joinL_mem h with h | ⟨z, hz, hc⟩
        · exact .inl h
        · exact .inr ⟨z, List.mem_cons_of_mem _ hz, hc⟩
theorem join_mem {sep : Str} {ys : List Str} {c : Nat} (h : c ∈ TL.tl (Txt.join sep ys)) : c ∈ TL.tl sep ∨ ∃ y ∈ ys, c ∈ TL.tl y := by
  rw [TL.join_eq, TL.tl_join] at h
  rcases joinL_mem h with h | ⟨p, hp, hc⟩
  · exact .inl h
  · obtain ⟨y, hy, rfl⟩ := List.mem_map.mp hp
    exact .inr ⟨y, hy, hc⟩
/-- numbers with commas between -/
def numsT (ns : List Nat) : Str := Txt.join sCom (ns.map numT)
theorem numsT_split {ns : List Nat} (h : ns ≠ []) : Txt.split (numsT ns) sCom = ns.map numT := TL.split_join tl_com com_ok (fun z => h (List.map_eq_nil_iff.mp z)) fun p hp => by
  obtain ⟨n, _, rfl⟩ := List.mem_map.mp hp
  rw [tl_numT]
  exact TL.numL_free (by decide)
theorem numsT_signs {ns : List Nat} {c : Nat} (h : c ∈ TL.tl (numsT ns)) : c = 44 ∨ (48 ≤ c ∧ c ≤ 57) := by
  rcases join_mem h with h | ⟨y, hy, hc⟩
  · rw [tl_com] at h
    exact .inl (List.mem_singleton.mp h)
  · obtain ⟨n, _, rfl⟩ := List.mem_map.mp hy
    rw [tl_numT] at hc
    exact .inr (TL.numL_digits n c hc)
theorem numsT_len {ns : List Nat} (h : ∀ n ∈ ns, n < 10 ^ 60) : (numsT ns).length ≤ 61 * ns.length := by
  have := join_len (sep := sCom) (ys := ns.map numT) (b := 60) fun y hy => by
    obtain ⟨n, hn, rfl⟩ := List.mem_map.mp hy
    exact numT_len (h n hn)
  rw [List.length_map] at this
  have e : sCom.length = 1 := rfl
  rw [e] at this
  unfold numsT
  omega
theorem sz640 : (2000000 : Nat) ≤ sizeLine := by rw [sizeLine_eq]; decide
theorem figs_tl : (PySem.Str.ofString "0123456789").cps.toList = [48, 49, 50, 51, 52, 53, 54, 55, 56, 57] := by decide
theorem fig_mem {c : Nat} (h : 48 ≤ c ∧ c ≤ 57) : decide (c ∈ (PySem.Str.ofString "0123456789").cps.toList) = true := by
  rw [figs_tl]
  refine decide_eq_true ?_
  simp only [List.mem_cons, List.not_mem_nil, or_false]
  omega
theorem log_60 {n : Nat} (h : n < 10 ^ 60) : ((n : Nat) : Int).natAbs.log2 < 1920 := by
  have := log2_le (x := (n : Int)) (k := 200) (by show n < 2 ^ 200; exact Nat.lt_of_lt_of_le h (by decide))
  omega
/-! ### numbers in any text -/
theorem numL_of : ∀ (n : Nat) (cs : List Nat), cs.length = n + 1 → (cs.head? = some 48 → cs.length ≤ 1) → (∀ c ∈ cs, 48 ≤ c ∧ c ≤ 57) → ∃ m, TL.numL m = cs ∧ m < 10 ^ cs.length := by
  intro n
  induction n with
  | zero =>
    intro cs hl _ hd
    match cs, hl with
    | [c], _ =>
      have := hd c List.mem_cons_self
      refine ⟨c - 48, ?_, by show c - 48 < 10 ^ 1; omega⟩
      rw [TL.numL_lt (by omega), show 48 + (c - 48) = c by omega]
  | succ n ih =>
    intro cs hl h0 hd
    have hne : cs ≠ [] := fun z => by rw [z] at hl; cases hl
    have e := List.dropLast_concat_getLast hne
    generalize cs.dropLast = ini at e
    generalize cs.getLast hne = c at e
    subst e
    have li : ini.length = n + 1 := by rw [List.length_append] at hl; simp only [List.length_cons, List.length_nil] at hl; omega
    have hc := hd c (List.mem_append_right _ List.mem_cons_self)
    have n0 : ini.head? ≠ some 48 := fun z => by
      have : (ini ++ [c]).head? = some 48 := by
        cases ini with
        | nil => cases z
        | cons a r => exact z
      have := h0 this
      omega
    obtain ⟨m, em, lm⟩ := ih ini li (fun z => absurd z n0) fun x hx => hd x (List.mem_append_left _ hx)
    have m1 : 1 ≤ m := by
      rcases Nat.eq_zero_or_pos m with z | z
      · subst z
        rw [TL.numL_lt (by omega)] at em
        exact absurd (by rw [← em]; rfl) n0
      · exact z
    refine ⟨10 * m + (c - 48), ?_, ?_⟩
    · rw [TL.numL_step (by omega), show (10 * m + (c - 48)) / 10 = m by omega, show (10 * m + (c - 48)) % 10 = c - 48 by omega, em, show 48 + (c - 48) = c by omega]
    · rw [List.length_append, Nat.pow_add]
      show _ < 10 ^ ini.length * 10
      omega
def NumOk (cs : List Nat) : Prop := 1 ≤ cs.length ∧ cs.length ≤ 60 ∧ (cs.head? = some 48 → cs.length ≤ 1) ∧ ∀ c ∈ cs, 48 ≤ c ∧ c ≤ 57
def IsNum (s : Str) : Prop := ∃ n, n < 10 ^ 60 ∧ s = numT n
theorem num_ok {s : Str} (h : NumOk (TL.tl s)) : IsNum s := by
  obtain ⟨h1, h2, h3, h4⟩ := h
  obtain ⟨m, e, l⟩ := numL_of ((TL.tl s).length - 1) (TL.tl s) (by omega) h3 h4
  refine ⟨m, Nat.lt_of_lt_of_le l (Nat.pow_le_pow_right (by decide) h2), TL.ext_tl ?_⟩
  rw [tl_numT, e]
theorem ok_num {s : Str} (h : IsNum s) : NumOk (TL.tl s) := by
  obtain ⟨n, hn, rfl⟩ := h
  have l1 := numT_pos n
  have l2 := numT_len hn
  rw [TL.len_tl] at l1 l2
  refine ⟨l1, l2, fun z => ?_, fun c hc => TL.numL_digits n c (by rw [← tl_numT]; exact hc)⟩
  rw [tl_numT] at z ⊢
  rcases numL_head n with ⟨_, e⟩ | ⟨c, r, e, h2⟩
  · rw [e]; exact Nat.le_refl _
  · rw [e] at z; injection z with z; exact absurd z h2
theorem numT_inj {m n : Nat} (h : numT m = numT n) : m = n := TL.numL_inj (by rw [← tl_numT, ← tl_numT, h])
theorem fig_dec {c : Nat} : decide (c ∈ (PySem.Str.ofString "0123456789").cps.toList) = decide (48 ≤ c ∧ c ≤ 57) := by
  rw [figs_tl]
  refine decide_eq_decide.mpr ⟨fun h => ?_, fun h => ?_⟩
  · simp only [List.mem_cons, List.not_mem_nil, or_false] at h
    omega
  · simp only [List.mem_cons, List.not_mem_nil, or_false]
    omega
/-! ### texts: words shared -/
def natL (xs : List Int) : List Nat := xs.map Int.toNat
theorem natL_enc {xs : List Int} (h : ∀ x ∈ xs, 0 ≤ x) : xs.map PyData.int = natsP (natL xs) := by
  unfold natsP natL
  rw [List.map_map]
  refine List.map_congr_left fun x hx => ?_
  show PyData.int x = .int ((x.toNat : Nat) : Int)
  rw [Int.toNat_of_nonneg (h x hx)]
theorem cut_tl {α : Type} (xs : List α) : cutP xs (some 1) Option.none = xs.tail := by
  unfold cutP
  have e4 : HT.sIx xs.length 0 (some 1) = min 1 xs.length := by
    have := HT.sIx_nat xs.length 0 1
    rw [show ((1 : Nat) : Int) = 1 from rfl] at this
    rw [this]
  rw [e4, HT.sIx_none, List.take_of_length_le (by rw [List.length_drop]; exact Nat.le_refl _)]
  cases xs with
  | nil => rfl
  | cons a r => rw [show min 1 (a :: r).length = 1 by simp only [List.length_cons]; omega]; rfl

/-! ### texts of rules -/
def wayN (p : Int × Int) : List Nat := [p.1.toNat, p.2.toNat]
def ruleP (r : Rule) : List Str := numsT (natL r.rooms) :: r.ways.map fun p => numsT (wayN p)
def ruleT (r : Rule) : Str := Txt.join sBl (ruleP r)
theorem wayN_enc {p : Int × Int} (h : WayOk p) : wayT p = .tuple (natsP (wayN p)) := by
  unfold wayT wayN natsP natP
  simp only [List.map_cons, List.map_nil]
  rw [Int.toNat_of_nonneg h.1, Int.toNat_of_nonneg h.2.2.1]
theorem small_60 {x : Int} {b : Int} (h : x ≤ b) (hb : b < 10 ^ 60) : x.toNat < 10 ^ 60 := by omega
theorem natL_small {r : Rule} (ok : RuleOk r) : ∀ n ∈ natL r.rooms, n < 10 ^ 60 := fun n hn => by
  obtain ⟨x, hx, rfl⟩ := List.mem_map.mp hn
  have := (ok.rooms.lo x hx).2
  omega
theorem wayN_small {p : Int × Int} (h : WayOk p) : ∀ n ∈ wayN p, n < 10 ^ 60 := fun n hn => by
  obtain ⟨h1, h2, h3, h4⟩ := h
  unfold wayN at hn
  simp only [List.mem_cons, List.not_mem_nil, or_false] at hn
  rcases hn with rfl | rfl <;> omega
theorem rooms_nn {r : Rule} (ok : RuleOk r) : ∀ x ∈ r.rooms, 0 ≤ x := fun x hx => (ok.rooms.lo x hx).1
theorem ruleP_len {r : Rule} (ok : RuleOk r) : ∀ y ∈ ruleP r, y.length ≤ 610 := fun y hy => by
  unfold ruleP at hy
  rcases List.mem_cons.mp hy with rfl | hy
  · have := numsT_len (natL_small ok)
    have l : (natL r.rooms).length = r.rooms.length := List.length_map _
    have := ok.rooms.r2
    omega
  · obtain ⟨p, hp, rfl⟩ := List.mem_map.mp hy
    have := numsT_len (wayN_small (ok.ways p hp))
    have l : (wayN p).length = 2 := rfl
    omega
theorem ruleP_count {r : Rule} (ok : RuleOk r) : (ruleP r).length ≤ 4 := by
  unfold ruleP
  rw [List.length_cons, List.length_map]
  have := ok.w2
  omega
theorem ruleP_size {r : Rule} (ok : RuleOk r) : ((ruleP r).map (·.length)).sum + (ruleP r).length * 1 ≤ 5000 := by
  have h1 := sum_len (ruleP_len ok)
  have h2 := ruleP_count ok
  omega
theorem ruleT_len {r : Rule} (ok : RuleOk r) : (ruleT r).length ≤ 5000 := by
  have h1 := join_len (sep := sBl) (ruleP_len ok)
  have h2 := ruleP_count ok
  have e : sBl.length = 1 := rfl
  rw [e] at h1
  unfold ruleT
  omega
theorem ruleT_split (r : Rule) : Txt.split (ruleT r) sBl = ruleP r := TL.split_join tl_bl bl_ok (fun z => nomatch z) fun p hp hc => by
  have : ∃ ns, p = numsT ns := by
    unfold ruleP at hp
    rcases List.mem_cons.mp hp with rfl | hp
    · exact ⟨_, rfl⟩
    · obtain ⟨q, _, rfl⟩ := List.mem_map.mp hp
      exact ⟨_, rfl⟩
  obtain ⟨ns, rfl⟩ := this
  have := numsT_signs hc
  omega
theorem ruleT_signs {r : Rule} {c : Nat} (h : c ∈ TL.tl (ruleT r)) : c < 1114112 := by
  rcases join_mem h with h | ⟨y, hy, hc⟩
  · rw [tl_bl] at h
    rw [List.mem_singleton.mp h]; decide
  · have : ∃ ns, y = numsT ns := by
      unfold ruleP at hy
      rcases List.mem_cons.mp hy with rfl | hp
      · exact ⟨_, rfl⟩
      · obtain ⟨q, _, rfl⟩ := List.mem_map.mp hp
        exact ⟨_, rfl⟩
    obtain ⟨ns, rfl⟩ := this
    have := numsT_signs hc
    omega
/-! ### letters of nests -/
def letT (n : Nat) : Str := ⟨#[97 + n]⟩
theorem let_len (n : Nat) : (letT n).length = 1 := rfl
theorem letT_inj {m n : Nat} (h : letT m = letT n) : m = n := by
  have : TL.tl (letT m) = TL.tl (letT n) := by rw [h]
  have : [97 + m] = [97 + n] := this
  injection this with h1 _
  omega
theorem lets_tl : (PySem.Str.ofString "abcdefghij").cps.toList = [97, 98, 99, 100, 101, 102, 103, 104, 105, 106] := by decide
theorem let_at {k : Nat} (h : k < 10) : atI (PySem.Str.ofString "abcdefghij").cps.toList (k : Int) = some (97 + k) := by
  rw [lets_tl]
  refine atI_ofNat ?_
  rcases (by omega : k = 0 ∨ k = 1 ∨ k = 2 ∨ k = 3 ∨ k = 4 ∨ k = 5 ∨ k = 6 ∨ k = 7 ∨ k = 8 ∨ k = 9) with h | h | h | h | h | h | h | h | h | h <;> subst h <;> rfl
theorem let_mem {k : Nat} (h : k < 10) : decide (97 + k ∈ (PySem.Str.ofString "abcdefghij").cps.toList) = true := by
  rw [lets_tl]
  refine decide_eq_true ?_
  simp only [List.mem_cons, List.not_mem_nil, or_false]
  omega
theorem let_occ {k : Nat} (h : k < 10) : Builtin.Str.occurrences (PySem.Str.ofString "abcdefghij") (letT k) 0 (PySem.Str.ofString "abcdefghij").length 1 = [k] := by
  rcases (by omega : k = 0 ∨ k = 1 ∨ k = 2 ∨ k = 3 ∨ k = 4 ∨ k = 5 ∨ k = 6 ∨ k = 7 ∨ k = 8 ∨ k = 9) with h | h | h | h | h | h | h | h | h | h <;> subst h <;> decide +kernel
theorem let_sz : (PySem.Str.ofString "abcdefghij").length ≤ sizeLine := by
  have := sz640
  have e : (PySem.Str.ofString "abcdefghij").length = 10 := rfl
  rw [e]; omega
theorem bl_len : (PySem.Str.ofString " ").length = 1 := rfl

/-! ### texts of webs -/
def keyS (k : List Nat) : Str := Txt.join sBl (k.map letT)
def sSem : Str := PySem.Str.ofString "; "
theorem tl_sem : TL.tl sSem = [59, 32] := by decide
theorem sem_ok : (sSem.cps.all fun x => decide (x < 256)) = true := by decide +kernel
def webPs (w : Web) : List Str := numsT (natL w.rooms) :: w.keys.map keyS
def webT (w : Web) : Str := Txt.join sSem (webPs w)
theorem keyS_split {k : List Nat} (h : k ≠ []) : Txt.split (keyS k) sBl = k.map letT := TL.split_join tl_bl bl_ok (fun z => h (List.map_eq_nil_iff.mp z)) fun p hp => by
  obtain ⟨n, _, rfl⟩ := List.mem_map.mp hp
  show 32 ∉ [97 + n]
  rw [List.mem_singleton]; omega
theorem keyS_signs {k : List Nat} {c : Nat} (hk : ∀ n ∈ k, n < 10) (h : c ∈ TL.tl (keyS k)) : c = 32 ∨ (97 ≤ c ∧ c < 107) := by
  rcases join_mem h with h | ⟨y, hy, hc⟩
  · rw [tl_bl] at h
    exact .inl (List.mem_singleton.mp h)
  · obtain ⟨n, hn, rfl⟩ := List.mem_map.mp hy
    have hc : c ∈ [97 + n] := hc
    rw [List.mem_singleton] at hc
    have := hk n hn
    exact .inr (by omega)
theorem keyS_len {k : List Nat} (h : k.length ≤ 3) : (keyS k).length ≤ 6 := by
  have := join_len (sep := sBl) (ys := k.map letT) (b := 1) fun y hy => by
    obtain ⟨n, _, rfl⟩ := List.mem_map.mp hy
    exact Nat.le_refl _
  rw [List.length_map] at this
  have e : sBl.length = 1 := rfl
  rw [e] at this
  unfold keyS
  omega
/-- a web whose rooms are at most 9 -/
structure Web9 (w : Web) : Prop where
  ok : WebOk 30 w
  r9 : ∀ r ∈ w.rooms, r < 10
theorem Web9.rooms {w : Web} (h : Web9 w) : RoomsOk w.rooms := ⟨h.ok.r1, h.ok.r2, fun r hr => ⟨h.ok.nn r hr, by have := h.r9 r hr; omega⟩⟩
theorem Web9.home {w : Web} (h : Web9 w) {k : List Nat} (hk : k ∈ w.keys) : ∀ n ∈ k, n < 10 := fun n hn => by
  have := h.ok.kh k hk n hn
  have := h.ok.r2
  omega
theorem Web9.small {w : Web} (h : Web9 w) : ∀ n ∈ natL w.rooms, n < 10 ^ 60 := fun n hn => by
  obtain ⟨x, hx, rfl⟩ := List.mem_map.mp hn
  have := h.r9 x hx
  omega
theorem webPs_len {w : Web} (h : Web9 w) : ∀ y ∈ webPs w, y.length ≤ 610 := fun y hy => by
  unfold webPs at hy
  rcases List.mem_cons.mp hy with rfl | hy
  · have := numsT_len h.small
    have l : (natL w.rooms).length = w.rooms.length := List.length_map _
    have := h.ok.r2
    omega
  · obtain ⟨k, hk, rfl⟩ := List.mem_map.mp hy
    have := keyS_len (k := k) (by rcases h.ok.k2 k hk with e | e <;> omega)
    omega
theorem webPs_count {w : Web} (h : Web9 w) : (webPs w).length ≤ 31 := by
  unfold webPs
  rw [List.length_cons, List.length_map]
  have := h.ok.kn
  omega
theorem webPs_size {w : Web} (h : Web9 w) : ((webPs w).map (·.length)).sum + (webPs w).length * 2 ≤ 50000 := by
  have h1 := sum_len (webPs_len h)
  have h2 := webPs_count h
  omega
theorem webT_len {w : Web} (h : Web9 w) : (webT w).length ≤ 50000 := by
  have h1 := join_len (sep := sSem) (webPs_len h)
  have h2 := webPs_count h
  have e : sSem.length = 2 := rfl
  rw [e] at h1
  unfold webT
  omega
theorem webPs_signs {w : Web} (h : Web9 w) {y : Str} {c : Nat} (hy : y ∈ webPs w) (hc : c ∈ TL.tl y) : c = 44 ∨ (48 ≤ c ∧ c ≤ 57) ∨ c = 32 ∨ (97 ≤ c ∧ c < 107) := by
  unfold webPs at hy
  rcases List.mem_cons.mp hy with rfl | hy
  · rcases numsT_signs hc with z | z
    · exact .inl z
    · exact .inr (.inl z)
  · obtain ⟨k, hk, rfl⟩ := List.mem_map.mp hy
    exact .inr (.inr (keyS_signs (h.home hk) hc))
theorem webT_split {w : Web} (h : Web9 w) : Txt.split (webT w) sSem = webPs w := TL.split_join tl_sem sem_ok (fun z => nomatch z) fun p hp hc => by
  have := webPs_signs h hp hc
  omega
theorem webT_signs {w : Web} (h : Web9 w) {c : Nat} (hc : c ∈ TL.tl (webT w)) : c < 1114112 := by
  rcases join_mem hc with hc | ⟨y, hy, hc⟩
  · rw [tl_sem] at hc
    simp only [List.mem_cons, List.not_mem_nil, or_false] at hc
    omega
  · have := webPs_signs h hy hc
    omega
theorem keyS_strs (k : List Nat) : strsP (k.map fun n => PyData.str (letT n)) = some (k.map letT) := by
  have := strsP_map (k.map letT)
  rw [List.map_map] at this
  exact this
theorem keyS_size {k : List Nat} (h : k.length ≤ 3) : ((k.map letT).map (·.length)).sum + (k.map letT).length * 1 ≤ 16777216 := by
  have := sum_len (ys := k.map letT) (b := 1) fun y hy => by
    obtain ⟨n, _, rfl⟩ := List.mem_map.mp hy
    exact Nat.le_refl _
  rw [List.length_map] at this ⊢
  omega
theorem sem_len : (PySem.Str.ofString "; ").length = 2 := rfl
theorem web9_true {w : Web} (h : Web9 w) : webB (encW w) = true := by
  have hk := h.ok.kn
  show (roomsB (.tuple (w.rooms.map PyData.int)) && keysB (((w.rooms.map PyData.int).length : Nat) : Int) _) = true
  rw [rooms_true h.rooms, Bool.true_and, keysB_t, List.length_map, List.length_map, decide_eq_true (by omega : (w.keys.length : Int) ≤ 30), Bool.true_and, List.all_map, List.all_eq_true]
  intro k hkm
  have k2 := h.ok.k2 k hkm
  have kh := h.ok.kh k hkm
  show homesB (w.rooms.length : Int) (keyT k) = true
  unfold keyT
  rw [homesB_t, natsP_len, decide_eq_true (by omega : (2 : Int) ≤ (k.length : Int)), decide_eq_true (by omega : (k.length : Int) ≤ 3), Bool.true_and, Bool.true_and, List.all_eq_true]
  intro x hx
  obtain ⟨n, hn, rfl⟩ := List.mem_map.mp hx
  have := kh n hn
  show (decide ((0 : Int) ≤ (n : Int)) && decide ((n : Int) ≤ (w.rooms.length : Int) - 1)) = true
  rw [decide_eq_true (by omega : (0 : Int) ≤ (n : Int)), decide_eq_true (by omega : (n : Int) ≤ (w.rooms.length : Int) - 1)]; rfl
theorem kn1_keyT (k : List Nat) : Kn1 (keyT k) := ⟨rfl, fun xs e y hy => by
  cases e
  obtain ⟨x, _, rfl⟩ := List.mem_map.mp hy
  rfl⟩
theorem kn3_web (w : Web) : Kn3 (encW w) := ⟨rfl, fun x y e => by
  cases e
  refine ⟨kn1_rooms _, rfl, fun xs e y hy => ?_⟩
  cases e
  obtain ⟨p, _, rfl⟩ := List.mem_map.mp hy
  exact kn1_keyT p⟩

/-! ### nests in any text (letT, lets_tl, let_mem, let_occ as in textW) -/
theorem let_dec {c : Nat} : decide (c ∈ (PySem.Str.ofString "abcdefghij").cps.toList) = decide (97 ≤ c ∧ c ≤ 106) := by
  rw [lets_tl]
  refine decide_eq_decide.mpr ⟨fun h => ?_, fun h => ?_⟩
  · simp only [List.mem_cons, List.not_mem_nil, or_false] at h
    omega
  · simp only [List.mem_cons, List.not_mem_nil, or_false]
    omega
def IsLet (s : Str) : Prop := ∃ n, n < 10 ∧ s = letT n
/-! ### any text, split -/
theorem spl_ne (S : List Nat) : ∀ (l : List Nat) (k : Nat) (acc : List Nat), TL.spl S k acc l ≠ []
  | [], k, acc => by rw [TL.spl_nil]; exact List.cons_ne_nil _ _
  | c :: r, 0, acc => by
    cases h : TL.pre S (c :: r) with
    | true => rw [TL.spl_hit h]; exact List.cons_ne_nil _ _
    | false => rw [TL.spl_miss h]; exact spl_ne S r 0 _
  | c :: r, k + 1, acc => spl_ne S r k acc
theorem spl_back {S : List Nat} (hS : S ≠ []) : ∀ (n : Nat) (l acc : List Nat), l.length ≤ n → TL.joinL S (TL.spl S 0 acc l) = acc ++ l
  | _, [], acc, _ => by
    rw [TL.spl_nil, List.append_nil]; rfl
  | 0, c :: r, _, h => absurd h (by simp)
  | n + 1, c :: r, acc, h => by
    have hr : r.length ≤ n := by simpa using h
    cases e : TL.pre S (c :: r) with
    | false =>
      rw [TL.spl_miss e, spl_back hS n r _ hr, List.append_assoc]; rfl
    | true =>
      rw [TL.spl_hit e, TL.spl_pass]
      have ih := spl_back hS n (r.drop (S.length - 1)) [] (by rw [List.length_drop]; omega)
      have ne := spl_ne S (r.drop (S.length - 1)) 0 []
      have e1 : (c :: r).take S.length = S := eq_of_beq e
      have e2 : (c :: r).drop S.length = r.drop (S.length - 1) := by
        cases S with
        | nil => exact absurd rfl hS
        | cons s S => rfl
      have e3 : c :: r = S ++ r.drop (S.length - 1) := by
        rw [← e2]
        conv => lhs; rw [← List.take_append_drop S.length (c :: r), e1]
      rw [List.nil_append] at ih
      cases z : TL.spl S 0 [] (r.drop (S.length - 1)) with
      | nil => exact absurd z ne
      | cons q L =>
        rw [z] at ih
        show acc ++ (S ++ TL.joinL S (q :: L)) = acc ++ (c :: r)
        rw [ih, e3]
theorem join_split {y : Str} (hy : TL.tl y ≠ []) (hk : y.cps.all (· < 256) = true) (x : Str) : Txt.join y (Txt.split x y) = x := by
  refine TL.ext_tl ?_
  rw [TL.join_eq, TL.tl_join, TL.split_spl x y hy (TL.kind_ok hk), spl_back hy _ _ _ (Nat.le_refl _)]; rfl
theorem split_ne {y : Str} (hy : TL.tl y ≠ []) (hk : y.cps.all (· < 256) = true) (x : Str) : Txt.split x y ≠ [] := fun z => by
  have h := TL.split_spl x y hy (TL.kind_ok hk)
  rw [z] at h
  exact spl_ne (TL.tl y) (TL.tl x) 0 [] h.symm
theorem joinL_piece {S : List Nat} : ∀ {ps : List (List Nat)} {p : List Nat}, p ∈ ps → p.length ≤ (TL.joinL S ps).length
  | [], _, h => nomatch h
  | [q], p, h => by rw [List.mem_singleton.mp h]; exact Nat.le_refl _
  | q :: z :: r, p, h => by
    show p.length ≤ (q ++ (S ++ TL.joinL S (z :: r))).length
    rw [List.length_append, List.length_append]
    rcases List.mem_cons.mp h with h | h
    · rw [h]; omega
    · have := joinL_piece (S := S) h; omega
theorem joinL_many {S : List Nat} (hS : 1 ≤ S.length) : ∀ (ps : List (List Nat)), ps.length ≤ (TL.joinL S ps).length + 1
  | [] => Nat.zero_le _
  | [q] => by show 1 ≤ _; omega
  | q :: z :: r => by
    show (z :: r).length + 1 ≤ (q ++ (S ++ TL.joinL S (z :: r))).length + 1
    rw [List.length_append, List.length_append]
    have := joinL_many hS (z :: r); omega
theorem split_sizes {y : Str} (hy : TL.tl y ≠ []) (hk : y.cps.all (· < 256) = true) (x : Str) : (Txt.split x y).length ≤ x.length + 1 ∧ ∀ p ∈ Txt.split x y, p.length ≤ x.length := by
  have hj := join_split hy hk x
  have e : TL.tl x = TL.joinL (TL.tl y) ((Txt.split x y).map TL.tl) := by
    conv => lhs; rw [← hj]
    rw [TL.join_eq, TL.tl_join]
  have h1 := joinL_many (List.length_pos_iff.mpr hy) ((Txt.split x y).map TL.tl)
  rw [← e, ← TL.len_tl, List.length_map] at h1
  refine ⟨h1, fun p hp => ?_⟩
  have h2 := joinL_piece (S := TL.tl y) (List.mem_map_of_mem (f := TL.tl) hp)
  rw [← e, ← TL.len_tl, ← TL.len_tl] at h2
  exact h2
theorem joinL_signs {S : List Nat} {c : Nat} : ∀ {ps : List (List Nat)} {p : List Nat}, p ∈ ps → c ∈ p → c ∈ TL.joinL S ps
  | [], _, h, _ => nomatch h
  | [p], _, h, hc => by
    rw [List.mem_singleton.mp h] at hc; exact hc
  | p :: q :: r, x, h, hc => by
    show c ∈ p ++ (S ++ TL.joinL S (q :: r))
    rcases List.mem_cons.mp h with h | h
    · rw [h] at hc; exact List.mem_append_left _ hc
    · exact List.mem_append_right _ (List.mem_append_right _ (joinL_signs h hc))
theorem split_signs {y : Str} (hy : TL.tl y ≠ []) (hk : y.cps.all (· < 256) = true) (x : Str) : ∀ p ∈ Txt.split x y, ∀ c ∈ TL.tl p, c ∈ TL.tl x := fun p hp c hc => by
  have hj := join_split hy hk x
  have e : TL.tl x = TL.joinL (TL.tl y) ((Txt.split x y).map TL.tl) := by
    conv => lhs; rw [← hj]
    rw [TL.join_eq, TL.tl_join]
  rw [e]
  exact joinL_signs (List.mem_map_of_mem (f := TL.tl) hp) hc
/-- a text of numbers with commas between -/
def IsNums (s : Str) : Prop := ∃ ns : List Nat, ns ≠ [] ∧ (∀ n ∈ ns, n < 10 ^ 60) ∧ s = numsT ns
theorem nums_iff (s : Str) : IsNums s ↔ ∀ p ∈ Txt.split s sCom, IsNum p := by
  constructor
  · rintro ⟨ns, ne, hb, rfl⟩ p hp
    rw [numsT_split ne] at hp
    obtain ⟨n, hn, rfl⟩ := List.mem_map.mp hp
    exact ⟨n, hb n hn, rfl⟩
  · intro h
    have hne := split_ne (y := sCom) (by rw [tl_com]; exact List.cons_ne_nil _ _) com_ok s
    have hj := join_split (y := sCom) (by rw [tl_com]; exact List.cons_ne_nil _ _) com_ok s
    obtain ⟨ns, e, hb⟩ : ∃ ns : List Nat, Txt.split s sCom = ns.map numT ∧ ∀ n ∈ ns, n < 10 ^ 60 := by
      clear hne hj
      generalize Txt.split s sCom = ps at h
      induction ps with
      | nil => exact ⟨[], rfl, (fun _ h => nomatch h)⟩
      | cons p l ih =>
        obtain ⟨n, hn, rfl⟩ := h p List.mem_cons_self
        obtain ⟨ns, e, hb⟩ := ih fun q hq => h q (List.mem_cons_of_mem _ hq)
        exact ⟨n :: ns, by rw [e]; rfl, fun m hm => by
          rcases List.mem_cons.mp hm with z | z
          · rw [z]; exact hn
          · exact hb m z⟩
    refine ⟨ns, fun z => hne (by rw [e, z]; rfl), hb, ?_⟩
    rw [← hj, e]; rfl
def numP (p : Str) : PD := match PySem.intText? p with
  | some n => .int n
  | none => .none
theorem numP_num {n : Nat} (h : n < 10 ^ 60) : numP (numT n) = natP n := by
  unfold numP
  rw [numT_int h]; rfl
/-! ### rules in any text -/
def IsRuleT (s : Str) : Prop := ∃ r : Rule, RuleOk r ∧ s = ruleT r
def numsV (p : Str) : PD := .tuple ((Txt.split p sCom).map numP)
theorem numsV_nums {ns : List Nat} (ne : ns ≠ []) (hb : ∀ n ∈ ns, n < 10 ^ 60) : numsV (numsT ns) = .tuple (natsP ns) := by
  unfold numsV
  rw [numsT_split ne]
  unfold natsP
  rw [List.map_map]
  exact congrArg PyData.tuple (List.map_congr_left fun n hn => numP_num (hb n hn))
theorem rule_words {ns : List Nat} {ws : List (List Nat)} (h : ruleB (.tuple [.tuple (natsP ns), .tuple (ws.map fun w => .tuple (natsP w))]) = true) : ∃ r, RuleOk r ∧ natL r.rooms = ns ∧ r.ways.map wayN = ws := by
  have h : (roomsB (.tuple (natsP ns)) && waysB (.tuple (ws.map fun w => .tuple (natsP w)))) = true := h
  rw [Bool.and_eq_true, roomsB_t, waysB_t] at h
  simp only [Bool.and_eq_true, decide_eq_true_eq, List.all_eq_true, natsP_len, List.length_map] at h
  obtain ⟨⟨a1, a2, a3⟩, b1, b2, b3⟩ := h
  have wk : ∀ w ∈ ws, ∃ a b, w = [a, b] ∧ a ≤ 10006 ∧ b ≤ 10006 := fun w hw => by
    have := b3 _ (List.mem_map_of_mem (f := fun w => PyData.tuple (natsP w)) hw)
    rw [wayB_t] at this
    simp only [Bool.and_eq_true, decide_eq_true_eq, List.all_eq_true, natsP_len] at this
    obtain ⟨c1, c2⟩ := this
    match w, c1 with
    | [a, b], _ =>
      have d1 := c2 (natP a) (by unfold natsP; simp)
      have d2 := c2 (natP b) (by unfold natsP; simp)
      have d1 : (decide ((0 : Int) ≤ (a : Int)) && decide ((a : Int) ≤ 10006)) = true := d1
      have d2 : (decide ((0 : Int) ≤ (b : Int)) && decide ((b : Int) ≤ 10006)) = true := d2
      simp only [Bool.and_eq_true, decide_eq_true_eq] at d1 d2
      exact ⟨a, b, rfl, by omega, by omega⟩
  refine ⟨⟨ns.map fun (n : Nat) => (n : Int), ws.map fun w => (((w.getD 0 0 : Nat) : Int), ((w.getD 1 0 : Nat) : Int))⟩, ⟨⟨?_, ?_, ?_⟩, ?_, ?_, ?_⟩, ?_, ?_⟩
  · show 1 ≤ (ns.map _).length; rw [List.length_map]; omega
  · show (ns.map _).length ≤ 10; rw [List.length_map]; omega
  · intro x hx
    obtain ⟨n, hn, rfl⟩ := List.mem_map.mp hx
    have d : (decide ((0 : Int) ≤ (n : Int)) && decide ((n : Int) ≤ 9)) = true := a3 (natP n) (List.mem_map_of_mem hn)
    simp only [Bool.and_eq_true, decide_eq_true_eq] at d
    omega
  · show 2 ≤ (ws.map _).length; rw [List.length_map]; omega
  · show (ws.map _).length ≤ 3; rw [List.length_map]; omega
  · intro p hp
    obtain ⟨w, hw, rfl⟩ := List.mem_map.mp hp
    obtain ⟨a, b, rfl, h1, h2⟩ := wk w hw
    exact ⟨Int.natCast_nonneg _, by show (a : Int) ≤ 10006; omega, Int.natCast_nonneg _, by show (b : Int) ≤ 10006; omega⟩
  · unfold natL
    rw [List.map_map]
    exact (List.map_congr_left fun n _ => by show ((n : Int)).toNat = id n; rw [Int.toNat_natCast]; rfl).trans (List.map_id ns)
  · rw [List.map_map]
    refine (List.map_congr_left fun w hw => ?_).trans (List.map_id ws)
    obtain ⟨a, b, rfl, _, _⟩ := wk w hw
    show [((a : Int)).toNat, ((b : Int)).toNat] = [a, b]
    rw [Int.toNat_natCast, Int.toNat_natCast]
theorem numsL_of {ps : List Str} (h : ∀ p ∈ ps, IsNums p) : ∃ wss : List (List Nat), ps = wss.map numsT ∧ ∀ w ∈ wss, w ≠ [] ∧ ∀ n ∈ w, n < 10 ^ 60 := by
  induction ps with
  | nil => exact ⟨[], rfl, (fun _ h => nomatch h)⟩
  | cons p l ih =>
    obtain ⟨ns, ne, hb, rfl⟩ := h p List.mem_cons_self
    obtain ⟨wss, e, hw⟩ := ih fun q hq => h q (List.mem_cons_of_mem _ hq)
    exact ⟨ns :: wss, by rw [e]; rfl, fun w hw' => by
      rcases List.mem_cons.mp hw' with z | z
      · rw [z]; exact ⟨ne, hb⟩
      · exact hw w z⟩
theorem ruleT_nums {r : Rule} (ok : RuleOk r) : ∀ p ∈ ruleP r, IsNums p := fun p hp => by
  unfold ruleP at hp
  rcases List.mem_cons.mp hp with rfl | hp
  · refine ⟨natL r.rooms, fun z => ?_, natL_small ok, rfl⟩
    have h := congrArg List.length z
    unfold natL at h
    rw [List.length_map] at h
    have := ok.rooms.r1
    have h : r.rooms.length = 0 := h
    omega
  · obtain ⟨q, hq, rfl⟩ := List.mem_map.mp hp
    exact ⟨wayN q, (fun z => nomatch z), wayN_small (ok.ways q hq), rfl⟩
theorem kn1_nats (ns : List Nat) : Kn1 (.tuple (natsP ns)) := ⟨rfl, fun xs e y hy => by
  cases e
  obtain ⟨n, _, rfl⟩ := List.mem_map.mp hy
  rfl⟩
theorem kn2_numss (wss : List (List Nat)) : Kn2 (.tuple (wss.map fun w => .tuple (natsP w))) := ⟨rfl, fun xs e y hy => by
  cases e
  obtain ⟨w, _, rfl⟩ := List.mem_map.mp hy
  exact kn1_nats w⟩
def noStr : PD → Bool
  | .str _ => false
  | _ => true
/-- things that are no texts -/
def NoStrD (d : D) : Prop := (∃ x : PD, d = .p x ∧ kndB x = true ∧ noStr x = true) ∨ d = .dct []
/-! ### webs in any text -/
def letV (p : Str) : PD := .int (((p.cps.toList.headD 0 : Nat) : Int) - 97)
theorem letV_let {n : Nat} : letV (letT n) = natP n := by
  show PyData.int ((((97 + n : Nat)) : Int) - 97) = PyData.int (n : Int)
  exact congrArg PyData.int (by omega)
def keyV (p : Str) : PD := .tuple ((Txt.split p sBl).map letV)
def IsKeyT (s : Str) : Prop := ∃ ns : List Nat, ns ≠ [] ∧ (∀ n ∈ ns, n < 10) ∧ s = keyS ns
theorem key_iff (s : Str) : IsKeyT s ↔ ∀ p ∈ Txt.split s sBl, IsLet p := by
  have yb : TL.tl sBl ≠ [] := by rw [tl_bl]; exact List.cons_ne_nil _ _
  constructor
  · rintro ⟨ns, ne, hb, rfl⟩ p hp
    rw [keyS_split ne] at hp
    obtain ⟨n, hn, rfl⟩ := List.mem_map.mp hp
    exact ⟨n, hb n hn, rfl⟩
  · intro h
    have hj := join_split yb bl_ok s
    have hne := split_ne yb bl_ok s
    obtain ⟨ns, e, hb⟩ : ∃ ns : List Nat, Txt.split s sBl = ns.map letT ∧ ∀ n ∈ ns, n < 10 := by
      clear hne hj
      generalize Txt.split s sBl = ps at h
      induction ps with
      | nil => exact ⟨[], rfl, (fun _ h => nomatch h)⟩
      | cons p l ih =>
        obtain ⟨n, hn, rfl⟩ := h p List.mem_cons_self
        obtain ⟨ns, e, hb⟩ := ih fun q hq => h q (List.mem_cons_of_mem _ hq)
        exact ⟨n :: ns, by rw [e]; rfl, fun m hm => by
          rcases List.mem_cons.mp hm with z | z
          · rw [z]; exact hn
          · exact hb m z⟩
    refine ⟨ns, fun z => hne (by rw [e, z]; rfl), hb, ?_⟩
    rw [← hj, e]; rfl
theorem keyV_key {ns : List Nat} (ne : ns ≠ []) : keyV (keyS ns) = .tuple (natsP ns) := by
  unfold keyV
  rw [keyS_split ne]
  unfold natsP
  rw [List.map_map]
  exact congrArg PyData.tuple (List.map_congr_left fun n _ => letV_let)
theorem keysL_of {ps : List Str} (h : ∀ p ∈ ps, IsKeyT p) : ∃ kss : List (List Nat), ps = kss.map keyS ∧ ∀ k ∈ kss, k ≠ [] ∧ ∀ n ∈ k, n < 10 := by
  induction ps with
  | nil => exact ⟨[], rfl, (fun _ h => nomatch h)⟩
  | cons p l ih =>
    obtain ⟨ns, ne, hb, rfl⟩ := h p List.mem_cons_self
    obtain ⟨wss, e, hw⟩ := ih fun q hq => h q (List.mem_cons_of_mem _ hq)
    exact ⟨ns :: wss, by rw [e]; rfl, fun w hw' => by
      rcases List.mem_cons.mp hw' with z | z
      · rw [z]; exact ⟨ne, hb⟩
      · exact hw w z⟩
def IsWebT (s : Str) : Prop := ∃ w : Web, Web9 w ∧ s = webT w
theorem web_words {ns : List Nat} {ks : List (List Nat)} (h : webB (.tuple [.tuple (natsP ns), .tuple (ks.map fun w => .tuple (natsP w))]) = true) : ∃ w, Web9 w ∧ natL w.rooms = ns ∧ w.keys = ks := by
  have h : (roomsB (.tuple (natsP ns)) && keysB ((natsP ns).length : Int) (.tuple (ks.map fun w => .tuple (natsP w)))) = true := h
  rw [Bool.and_eq_true, roomsB_t, keysB_t] at h
  simp only [Bool.and_eq_true, decide_eq_true_eq, List.all_eq_true, natsP_len, List.length_map] at h
  obtain ⟨⟨a1, a2, a3⟩, b1, b2⟩ := h
  have wk : ∀ k ∈ ks, (k.length = 2 ∨ k.length = 3) ∧ ∀ n ∈ k, n < ns.length := fun k hk => by
    have := b2 _ (List.mem_map_of_mem (f := fun w => PyData.tuple (natsP w)) hk)
    rw [homesB_t] at this
    simp only [Bool.and_eq_true, decide_eq_true_eq, List.all_eq_true, natsP_len] at this
    obtain ⟨c1, c2, c3⟩ := this
    refine ⟨by omega, fun n hn => ?_⟩
    have d : (decide ((0 : Int) ≤ (n : Int)) && decide ((n : Int) ≤ (ns.length : Int) - 1)) = true := c3 (natP n) (List.mem_map_of_mem hn)
    simp only [Bool.and_eq_true, decide_eq_true_eq] at d
    omega
  have ln : (ns.map fun (n : Nat) => (n : Int)).length = ns.length := List.length_map _
  have rm : ∀ x ∈ ns.map (fun (n : Nat) => (n : Int)), 0 ≤ x ∧ x < 10 := fun x hx => by
    obtain ⟨n, hn, rfl⟩ := List.mem_map.mp hx
    have d : (decide ((0 : Int) ≤ (n : Int)) && decide ((n : Int) ≤ 9)) = true := a3 (natP n) (List.mem_map_of_mem hn)
    simp only [Bool.and_eq_true, decide_eq_true_eq] at d
    omega
  refine ⟨⟨ns.map fun (n : Nat) => (n : Int), ks⟩, ⟨⟨?_, ?_, fun x hx => (rm x hx).1, fun x hx => ?_, ?_, fun k hk => (wk k hk).1, fun k hk n hn => ?_⟩, fun x hx => (rm x hx).2⟩, ?_, rfl⟩
  · show 0 < (ns.map _).length; rw [List.length_map]; omega
  · show (ns.map _).length ≤ 10; rw [List.length_map]; omega
  · have := (rm x hx).2
    omega
  · show ks.length ≤ 30; omega
  · show n < (ns.map _).length
    rw [List.length_map]
    exact (wk k hk).2 n hn
  · unfold natL
    rw [List.map_map]
    exact (List.map_congr_left fun n _ => by show ((n : Int)).toNat = id n; rw [Int.toNat_natCast]; rfl).trans (List.map_id ns)
theorem key_ne {w : Web} (ok : Web9 w) {k : List Nat} (hk : k ∈ w.keys) : k ≠ [] := fun z => by
  have := ok.ok.k2 k hk
  rw [z] at this
  rcases this with h | h <;> cases h
theorem natL_ne {w : Web} (ok : Web9 w) : natL w.rooms ≠ [] := fun z => by
  have h := congrArg List.length z
  unfold natL at h
  rw [List.length_map] at h
  have := ok.ok.r1
  have h : w.rooms.length = 0 := h
  omega
/-! ### a rule's words -/
theorem ruleP_ne (r : Rule) : ruleP r ≠ [] := fun z => nomatch z
theorem join_one (x : Str) : x = Txt.join sBl [x] := TL.ext_tl (by rw [TL.join_eq, TL.tl_join]; rfl)
theorem ruleP_free {r : Rule} {p : Str} (hp : p ∈ ruleP r) : 32 ∉ TL.tl p := fun hc => by
  have : ∃ ns, p = numsT ns := by
    unfold ruleP at hp
    rcases List.mem_cons.mp hp with rfl | hp
    · exact ⟨_, rfl⟩
    · obtain ⟨q, _, rfl⟩ := List.mem_map.mp hp
      exact ⟨_, rfl⟩
  obtain ⟨ns, rfl⟩ := this
  have := numsT_signs hc
  omega
/-! ### a rule by its text -/
theorem numsT_inj {as bs : List Nat} (na : as ≠ []) (nb : bs ≠ []) (ha : ∀ n ∈ as, n < 10 ^ 60) (hb : ∀ n ∈ bs, n < 10 ^ 60) (h : numsT as = numsT bs) : as = bs := by
  have h1 := numsT_split na
  rw [h, numsT_split nb] at h1
  have : ∀ {xs ys : List Nat}, (∀ n ∈ xs, n < 10 ^ 60) → (∀ n ∈ ys, n < 10 ^ 60) → xs.map numT = ys.map numT → xs = ys := fun {xs} => by
    induction xs with
    | nil => intro ys _ _ e; cases ys with
      | nil => rfl
      | cons y l => cases e
    | cons x l ih => intro ys hx hy e; cases ys with
      | nil => cases e
      | cons y l2 =>
        injection e with e1 e2
        rw [numT_inj e1, ih (fun n hn => hx n (List.mem_cons_of_mem _ hn)) (fun n hn => hy n (List.mem_cons_of_mem _ hn)) e2]
  exact (this hb ha h1).symm
theorem natL_inj {xs ys : List Int} (hx : ∀ x ∈ xs, 0 ≤ x) (hy : ∀ y ∈ ys, 0 ≤ y) (h : natL xs = natL ys) : xs = ys := by
  have h1 := natL_enc hx
  have h2 := natL_enc hy
  rw [h, ← h2] at h1
  have : ∀ {xs ys : List Int}, xs.map PyData.int = ys.map PyData.int → xs = ys := fun {xs} => by
    induction xs with
    | nil => intro ys e; cases ys with
      | nil => rfl
      | cons y l => cases e
    | cons x l ih => intro ys e; cases ys with
      | nil => cases e
      | cons y l2 =>
        injection e with e1 e2
        injection e1 with e1
        rw [e1, ih e2]
  exact this h1
theorem ways_inj : ∀ {xs ys : List (Int × Int)}, (∀ p ∈ xs, WayOk p) → (∀ p ∈ ys, WayOk p) → (xs.map fun p => numsT (wayN p)) = (ys.map fun p => numsT (wayN p)) → xs = ys
  | [], [], _, _, _ => rfl
  | [], _ :: _, _, _, e => nomatch e
  | _ :: _, [], _, _, e => nomatch e
  | p :: xs, q :: ys, hx, hy, e => by
    injection e with e1 e2
    have h1 := hx p List.mem_cons_self
    have h2 := hy q List.mem_cons_self
    obtain ⟨a0, a1, b0, b1⟩ := h1
    obtain ⟨c0, c1, d0, d1⟩ := h2
    have wb : ∀ (a : Int × Int), 0 ≤ a.1 → a.1 ≤ 10006 → 0 ≤ a.2 → a.2 ≤ 10006 → ∀ n ∈ wayN a, n < 10 ^ 60 := fun a h1 h2 h3 h4 n hn => by
      unfold wayN at hn
      simp only [List.mem_cons, List.not_mem_nil, or_false] at hn
      omega
    have w := numsT_inj (by unfold wayN; exact List.cons_ne_nil _ _) (by unfold wayN; exact List.cons_ne_nil _ _) (wb p a0 a1 b0 b1) (wb q c0 c1 d0 d1) e1
    have e3 : p = q := by
      unfold wayN at w
      injection w with w1 w2
      injection w2 with w2 _
      exact Prod.ext (by omega) (by omega)
    rw [e3, ways_inj (fun p hp => hx p (List.mem_cons_of_mem _ hp)) (fun p hp => hy p (List.mem_cons_of_mem _ hp)) e2]
theorem ruleT_inj {r s : Rule} (hr : RuleOk r) (hs : RuleOk s) (h : ruleT r = ruleT s) : r = s := by
  have h1 := ruleT_split r
  rw [h, ruleT_split s] at h1
  unfold ruleP at h1
  injection h1 with e1 e2
  have ne : ∀ {r : Rule}, RuleOk r → natL r.rooms ≠ [] := fun {r} ok z => by
    have h := congrArg List.length z
    unfold natL at h
    rw [List.length_map] at h
    have := ok.rooms.r1
    have h : r.rooms.length = 0 := h
    omega
  have e3 := natL_inj (fun x hx => (hs.rooms.lo x hx).1) (fun x hx => (hr.rooms.lo x hx).1) (numsT_inj (ne hs) (ne hr) (natL_small hs) (natL_small hr) e1)
  have e4 := ways_inj hs.ways hr.ways e2
  cases r; cases s
  simp only at e3 e4
  rw [e3, e4]
theorem rule_shaped (r : Rule) : SeqAt.shaped (.str (ruleT r)) = true := str_shaped fun c hc => ruleT_signs hc
theorem letTs_inj : ∀ {xs ys : List Nat}, xs.map letT = ys.map letT → xs = ys
  | [], [], _ => rfl
  | [], _ :: _, h => nomatch h
  | _ :: _, [], h => nomatch h
  | x :: xs, y :: ys, h => by
    rw [List.map_cons, List.map_cons] at h
    injection h with h1 h2
    rw [letT_inj h1, letTs_inj h2]
theorem keyS_inj {j k : List Nat} (hj : j ≠ []) (hk : k ≠ []) (h : keyS j = keyS k) : j = k := by
  have h1 := keyS_split hj
  rw [h, keyS_split hk] at h1
  exact (letTs_inj h1).symm
theorem keysS_inj : ∀ {xs ys : List (List Nat)}, (∀ k ∈ xs, k ≠ []) → (∀ k ∈ ys, k ≠ []) → xs.map keyS = ys.map keyS → xs = ys
  | [], [], _, _, _ => rfl
  | [], _ :: _, _, _, h => nomatch h
  | _ :: _, [], _, _, h => nomatch h
  | x :: xs, y :: ys, hx, hy, h => by
    rw [List.map_cons, List.map_cons] at h
    injection h with h1 h2
    rw [keyS_inj (hx x List.mem_cons_self) (hy y List.mem_cons_self) h1, keysS_inj (fun k hk => hx k (List.mem_cons_of_mem _ hk)) (fun k hk => hy k (List.mem_cons_of_mem _ hk)) h2]
theorem webT_inj {v w : Web} (hv : Web9 v) (hw : Web9 w) (h : webT v = webT w) : v = w := by
  have h1 := webT_split hv
  rw [h, webT_split hw] at h1
  unfold webPs at h1
  injection h1 with e1 e2
  have e3 := natL_inj hw.ok.nn hv.ok.nn (numsT_inj (natL_ne hw) (natL_ne hv) hw.small hv.small e1)
  have e4 := keysS_inj (fun k hk => key_ne hw hk) (fun k hk => key_ne hv hk) e2
  cases v; cases w
  simp only at e3 e4
  rw [e3, e4]
/-! ### what is no number, no rule: told by words -/
def numB (cs : List Nat) : Bool := decide (1 ≤ cs.length) && decide (cs.length ≤ 60) && (decide (cs.head? ≠ some 48) || decide (cs.length ≤ 1)) && cs.all fun c => decide (48 ≤ c) && decide (c ≤ 57)
theorem num_b {s : Str} (h : IsNum s) : numB (TL.tl s) = true := by
  obtain ⟨h1, h2, h3, h4⟩ := ok_num h
  unfold numB
  rw [decide_eq_true h1, decide_eq_true h2, Bool.true_and, Bool.true_and]
  have e : (decide ((TL.tl s).head? ≠ some 48) || decide ((TL.tl s).length ≤ 1)) = true := by
    by_cases z : (TL.tl s).head? = some 48
    · rw [decide_eq_true (h3 z), Bool.or_true]
    · rw [decide_eq_true z, Bool.true_or]
  rw [e, Bool.true_and, List.all_eq_true]
  intro c hc
  rw [decide_eq_true (h4 c hc).1, decide_eq_true (h4 c hc).2]; rfl
theorem no_num {s : Str} (h : numB (TL.tl s) = false) : ¬ IsNum s := fun z => by
  rw [num_b z] at h; cases h
def valL (cs : List Nat) : Nat := cs.foldl (fun a c => 10 * a + (c - 48)) 0
theorem valL_num (n : Nat) : valL (TL.numL n) = n := by
  induction n using Nat.strongRecOn with
  | ind n ih =>
    by_cases h : n < 10
    · rw [TL.numL_lt h]
      show 10 * 0 + (48 + n - 48) = n
      omega
    · rw [TL.numL_step (by omega)]
      unfold valL
      rw [List.foldl_append]
      show 10 * valL (TL.numL (n / 10)) + (48 + n % 10 - 48) = n
      rw [ih (n / 10) (by omega)]
      omega
def numLe (b : Nat) (s : Str) : Bool := numB (TL.tl s) && decide (valL (TL.tl s) ≤ b)
theorem num_le {n b : Nat} (h : n ≤ b) (hb : n < 10 ^ 60) : numLe b (numT n) = true := by
  unfold numLe
  rw [num_b ⟨n, hb, rfl⟩, tl_numT, valL_num, decide_eq_true h]; rfl
def numsB (lo hi b : Nat) (w : Str) : Bool := decide (lo ≤ (Txt.split w sCom).length) && (decide ((Txt.split w sCom).length ≤ hi) && (Txt.split w sCom).all (numLe b))
theorem nums_b {lo hi b : Nat} {ns : List Nat} (h1 : lo ≤ ns.length) (h2 : ns.length ≤ hi) (h3 : ∀ n ∈ ns, n ≤ b) (hb : b < 10 ^ 60) (ne : ns ≠ []) : numsB lo hi b (numsT ns) = true := by
  unfold numsB
  rw [numsT_split ne, List.length_map, decide_eq_true h1, decide_eq_true h2, Bool.true_and, Bool.true_and, List.all_map, List.all_eq_true]
  intro n hn
  have := h3 n hn
  exact num_le this (by omega)
def ruleWB : List Str → Bool
  | [] => false
  | w :: ws => numsB 1 10 9 w && (decide (2 ≤ ws.length) && (decide (ws.length ≤ 3) && ws.all (numsB 2 2 10006)))
theorem rule_b {r : Rule} (ok : RuleOk r) : ruleWB (ruleP r) = true := by
  have l : (natL r.rooms).length = r.rooms.length := List.length_map _
  have h1 := ok.rooms.r1
  have h2 := ok.rooms.r2
  have w1 := ok.w1
  have w2 := ok.w2
  have e1 : numsB 1 10 9 (numsT (natL r.rooms)) = true := nums_b (by omega) (by omega) (fun n hn => by
    obtain ⟨x, hx, rfl⟩ := List.mem_map.mp hn
    have := (ok.rooms.lo x hx).2
    omega) (by decide) (fun z => by rw [z] at l; simp at l; omega)
  show (numsB 1 10 9 (numsT (natL r.rooms)) && (decide (2 ≤ (r.ways.map fun p => numsT (wayN p)).length) && (decide ((r.ways.map fun p => numsT (wayN p)).length ≤ 3) && (r.ways.map fun p => numsT (wayN p)).all (numsB 2 2 10006)))) = true
  rw [e1, List.length_map, decide_eq_true w1, decide_eq_true w2, Bool.true_and, Bool.true_and, Bool.true_and, List.all_map, List.all_eq_true]
  intro p hp
  obtain ⟨a0, a1, b0, b1⟩ := ok.ways p hp
  refine nums_b (by exact Nat.le_refl 2) (by exact Nat.le_refl 2) (fun n hn => ?_) (by decide) (fun z => nomatch z)
  unfold wayN at hn
  simp only [List.mem_cons, List.not_mem_nil, or_false] at hn
  omega
theorem no_rule {s : Str} (h : ruleWB (Txt.split s sBl) = false) : ¬ IsRuleT s := fun ⟨r, ok, e⟩ => by
  rw [e, ruleT_split, rule_b ok] at h; cases h
def letB (s : Str) : Bool := (List.range 10).any fun n => decide (s = letT n)
theorem no_let {s : Str} (h : letB s = false) : ¬ IsLet s := fun ⟨n, hn, e⟩ => by
  unfold letB at h
  rw [List.any_eq_false] at h
  exact h n (List.mem_range.mpr hn) (decide_eq_true e)
/-- words that hold no blank, joined and split -/
theorem split_words {ws : List Str} (ne : ws ≠ []) (h : ∀ w ∈ ws, 32 ∉ TL.tl w) : Txt.split (Txt.join sBl ws) sBl = ws := TL.split_join tl_bl bl_ok ne h
theorem join_cons {w : Str} {ws : List Str} (ne : ws ≠ []) : Txt.join sBl (w :: ws) = w ++ sBl ++ Txt.join sBl ws := by
  cases ws with
  | nil => exact absurd rfl ne
  | cons a r =>
    refine TL.ext_tl ?_
    rw [TL.join_eq, TL.tl_join, TL.tl_append, TL.tl_append, TL.join_eq, TL.tl_join]
    show TL.tl w ++ (TL.tl sBl ++ TL.joinL (TL.tl sBl) ((a :: r).map TL.tl)) = TL.tl w ++ TL.tl sBl ++ _
    rw [List.append_assoc]
theorem str_assoc (a b c : Str) : a ++ b ++ c = a ++ (b ++ c) := TL.ext_tl (by rw [TL.tl_append, TL.tl_append, TL.tl_append, TL.tl_append, List.append_assoc])
theorem join_snoc : ∀ {ws : List Str} {v : Str}, ws ≠ [] → Txt.join sBl (ws ++ [v]) = Txt.join sBl ws ++ sBl ++ v
  | [], _, h => absurd rfl h
  | [a], v, _ => by
    show Txt.join sBl [a, v] = _
    rw [join_cons (List.cons_ne_nil _ _), ← join_one, ← join_one]
  | a :: b :: r, v, _ => by
    show Txt.join sBl (a :: (b :: r ++ [v])) = _
    rw [join_cons (by simp), join_snoc (ws := b :: r) (List.cons_ne_nil _ _), join_cons (w := a) (ws := b :: r) (List.cons_ne_nil _ _), str_assoc, str_assoc, str_assoc, str_assoc, str_assoc]
/-! ### rules' texts made worse at the end -/
theorem sgn_append {a b : Str} (ha : ∀ c ∈ TL.tl a, c < 1114112) (hb : ∀ c ∈ TL.tl b, c < 1114112) : ∀ c ∈ TL.tl (a ++ b), c < 1114112 := fun c hc => by
  rw [TL.tl_append] at hc
  exact (List.mem_append.mp hc).elim (ha c) (hb c)
theorem len_append (a b : Str) : (a ++ b).length = a.length + b.length := by rw [TL.len_tl, TL.tl_append, List.length_append, ← TL.len_tl, ← TL.len_tl]
theorem ruleP_more {r : Rule} {v : Str} (hb : 32 ∉ TL.tl v) : Txt.split (ruleT r ++ sBl ++ v) sBl = ruleP r ++ [v] := by
  have e : ruleT r ++ sBl ++ v = Txt.join sBl (ruleP r ++ [v]) := (join_snoc (ruleP_ne r)).symm
  rw [e]
  refine split_words (by simp) fun w hw => ?_
  rcases List.mem_append.mp hw with hw | hw
  · exact ruleP_free hw
  · rw [List.mem_singleton.mp hw]; exact hb
theorem rule_more {r : Rule} {v : Str} (hb : 32 ∉ TL.tl v) (hv : numsB 2 2 10006 v = false) : ¬ IsRuleT (ruleT r ++ sBl ++ v) := by
  refine no_rule ?_
  rw [ruleP_more hb]
  show (numsB 1 10 9 _ && (_ && (_ && ((r.ways.map fun p => numsT (wayN p)) ++ [v]).all (numsB 2 2 10006)))) = false
  rw [List.all_append, List.all_cons, hv, Bool.false_and, Bool.and_false, Bool.and_false, Bool.and_false, Bool.and_false]
theorem com_words {ws : List Str} (ne : ws ≠ []) (h : ∀ w ∈ ws, 44 ∉ TL.tl w) : Txt.split (Txt.join sCom ws) sCom = ws := TL.split_join tl_com com_ok ne h
theorem join_consC {w : Str} {ws : List Str} (ne : ws ≠ []) : Txt.join sCom (w :: ws) = w ++ sCom ++ Txt.join sCom ws := by
  cases ws with
  | nil => exact absurd rfl ne
  | cons a r =>
    refine TL.ext_tl ?_
    rw [TL.join_eq, TL.tl_join, TL.tl_append, TL.tl_append, TL.join_eq, TL.tl_join]
    show TL.tl w ++ (TL.tl sCom ++ TL.joinL (TL.tl sCom) ((a :: r).map TL.tl)) = TL.tl w ++ TL.tl sCom ++ _
    rw [List.append_assoc]
theorem join_oneC (x : Str) : x = Txt.join sCom [x] := TL.ext_tl (by rw [TL.join_eq, TL.tl_join]; rfl)
theorem join_snocC : ∀ {ws : List Str} {v : Str}, ws ≠ [] → Txt.join sCom (ws ++ [v]) = Txt.join sCom ws ++ sCom ++ v
  | [], _, h => absurd rfl h
  | [a], v, _ => by
    show Txt.join sCom [a, v] = _
    rw [join_consC (List.cons_ne_nil _ _), ← join_oneC, ← join_oneC]
  | a :: b :: r, v, _ => by
    show Txt.join sCom (a :: (b :: r ++ [v])) = _
    rw [join_consC (by simp), join_snocC (ws := b :: r) (List.cons_ne_nil _ _), join_consC (w := a) (ws := b :: r) (List.cons_ne_nil _ _), str_assoc, str_assoc, str_assoc, str_assoc, str_assoc]
theorem numT_free {n c : Nat} (h : ¬ (48 ≤ c ∧ c ≤ 57)) : c ∉ TL.tl (numT n) := fun z => by
  rw [tl_numT] at z
  exact h (TL.numL_digits n c z)
theorem nums_more {ns : List Nat} {v : Str} (ne : ns ≠ []) (hv : 44 ∉ TL.tl v) : Txt.split (numsT ns ++ sCom ++ v) sCom = ns.map numT ++ [v] := by
  have e : numsT ns ++ sCom ++ v = Txt.join sCom (ns.map numT ++ [v]) := (join_snocC (fun z => ne (List.map_eq_nil_iff.mp z))).symm
  rw [e]
  refine com_words (by simp) fun w hw => ?_
  rcases List.mem_append.mp hw with hw | hw
  · obtain ⟨n, _, rfl⟩ := List.mem_map.mp hw
    exact numT_free (by omega)
  · rw [List.mem_singleton.mp hw]; exact hv
/-- the last way of a rule -/
theorem way_last {r : Rule} (ok : RuleOk r) : ∃ (ini : List Str) (p : Int × Int), ruleP r = ini ++ [numsT (wayN p)] ∧ ini ≠ [] ∧ ∀ w ∈ ini, 32 ∉ TL.tl w := by
  have w1 := ok.w1
  have ne : r.ways ≠ [] := fun z => by rw [z] at w1; simp at w1
  refine ⟨numsT (natL r.rooms) :: (r.ways.dropLast.map fun p => numsT (wayN p)), r.ways.getLast ne, ?_, List.cons_ne_nil _ _, fun w hw => ?_⟩
  · unfold ruleP
    conv => lhs; rw [← List.dropLast_concat_getLast ne, List.map_append]
    rfl
  · refine ruleP_free (r := r) ?_
    unfold ruleP
    rcases List.mem_cons.mp hw with rfl | hw
    · exact List.mem_cons_self
    · obtain ⟨q, hq, rfl⟩ := List.mem_map.mp hw
      exact List.mem_cons_of_mem _ (List.mem_map_of_mem (f := fun p => numsT (wayN p)) (by rw [← List.dropLast_concat_getLast ne]; exact List.mem_append_left _ hq))
theorem ruleWB_last {ini : List Str} {w : Str} (ne : ini ≠ []) (h : numsB 2 2 10006 w = false) : ruleWB (ini ++ [w]) = false := by
  cases ini with
  | nil => exact absurd rfl ne
  | cons a l =>
    show (numsB 1 10 9 a && (_ && (_ && (l ++ [w]).all (numsB 2 2 10006)))) = false
    rw [List.all_append, List.all_cons, h, Bool.false_and, Bool.and_false, Bool.and_false, Bool.and_false, Bool.and_false]
/-- what is written behind a rule's text without a blank -/
theorem rule_glued {r : Rule} (ok : RuleOk r) {u : Str} (hu : 32 ∉ TL.tl u) (h : ∀ p : Int × Int, numsB 2 2 10006 (numsT (wayN p) ++ u) = false) : ¬ IsRuleT (ruleT r ++ u) := by
  obtain ⟨ini, p, e, ne, fr⟩ := way_last ok
  refine no_rule ?_
  have e2 : ruleT r ++ u = Txt.join sBl (ini ++ [numsT (wayN p) ++ u]) := by
    rw [join_snoc ne]
    unfold ruleT
    rw [e, join_snoc ne, str_assoc]
  rw [e2, split_words (by simp) fun w hw => ?_]
  · exact ruleWB_last ne (h p)
  · rcases List.mem_append.mp hw with hw | hw
    · exact fr w hw
    · rw [List.mem_singleton.mp hw, TL.tl_append]
      intro z
      rcases List.mem_append.mp z with z | z
      · have := numsT_signs z
        omega
      · exact hu z
theorem numsB_three {ns : List Nat} {v : Str} (l : 2 ≤ ns.length) (hv : 44 ∉ TL.tl v) : numsB 2 2 10006 (numsT ns ++ sCom ++ v) = false := by
  unfold numsB
  rw [nums_more (fun z => by rw [z] at l; simp at l) hv, List.length_append, List.length_map, List.length_singleton, decide_eq_false (by omega : ¬ ns.length + 1 ≤ 2), Bool.false_and, Bool.and_false]
theorem rule_comma {r : Rule} (ok : RuleOk r) {v : Str} (hb : 32 ∉ TL.tl v) (hc : 44 ∉ TL.tl v) : ¬ IsRuleT (ruleT r ++ (sCom ++ v)) := by
  refine rule_glued ok (fun z => ?_) fun p => ?_
  · rw [TL.tl_append] at z
    rcases List.mem_append.mp z with z | z
    · rw [tl_com] at z; simp at z
    · exact hb z
  · rw [← str_assoc]
    exact numsB_three (Nat.le_refl 2) hc
/-! ### rules' texts made worse ahead and within -/
theorem str_nilr (a : Str) : a ++ PySem.Str.ofString "" = a := TL.ext_tl (by rw [TL.tl_append, show TL.tl (PySem.Str.ofString "") = [] from by decide, List.append_nil])
theorem str_nill (a : Str) : PySem.Str.ofString "" ++ a = a := TL.ext_tl (by rw [TL.tl_append, show TL.tl (PySem.Str.ofString "") = [] from by decide, List.nil_append])
theorem numsB_signs {lo hi b : Nat} {w : Str} (h : numsB lo hi b w = true) : ∀ c ∈ TL.tl w, c = 44 ∨ (48 ≤ c ∧ c ≤ 57) := fun c hc => by
  have h : (_ && (_ && (Txt.split w sCom).all (numLe b))) = true := h
  simp only [Bool.and_eq_true] at h
  have hj := join_split (y := sCom) (by rw [tl_com]; exact List.cons_ne_nil _ _) com_ok w
  rw [← hj] at hc
  rcases join_mem hc with hc | ⟨p, hp, hc⟩
  · rw [tl_com] at hc
    exact .inl (List.mem_singleton.mp hc)
  · have := (List.all_eq_true.mp h.2.2) p hp
    unfold numLe numB at this
    simp only [Bool.and_eq_true, List.all_eq_true, decide_eq_true_eq] at this
    exact .inr (this.1.2 c hc)
theorem numsB_sign {lo hi b : Nat} {w : Str} (c : Nat) (hc : c ∈ TL.tl w) (h : c ≠ 44 ∧ ¬ (48 ≤ c ∧ c ≤ 57)) : numsB lo hi b w = false := by
  cases e : numsB lo hi b w with
  | false => rfl
  | true => exact absurd (numsB_signs e c hc) (by omega)
theorem rule_words_bad {ws : List Str} (ne : ws ≠ []) (fr : ∀ w ∈ ws, 32 ∉ TL.tl w) (h : ruleWB ws = false) : ¬ IsRuleT (Txt.join sBl ws) := no_rule (by rw [split_words ne fr]; exact h)
/-- another first word -/
theorem rule_first {v : Str} {ws : List Str} (ne : ws ≠ []) (fv : 32 ∉ TL.tl v) (fr : ∀ w ∈ ws, 32 ∉ TL.tl w) (h : numsB 1 10 9 v = false) : ¬ IsRuleT (v ++ sBl ++ Txt.join sBl ws) := by
  rw [← join_cons ne]
  refine rule_words_bad (List.cons_ne_nil _ _) (fun w hw => ?_) ?_
  · rcases List.mem_cons.mp hw with rfl | hw
    · exact fv
    · exact fr w hw
  · show (numsB 1 10 9 v && _) = false
    rw [h, Bool.false_and]
/-- an empty word, or any bad one, among the ways -/
theorem rule_way {f v : Str} {ws : List Str} (ne : ws ≠ []) (ff : 32 ∉ TL.tl f) (fv : 32 ∉ TL.tl v) (fr : ∀ w ∈ ws, 32 ∉ TL.tl w) (h : numsB 2 2 10006 v = false) : ¬ IsRuleT (f ++ sBl ++ (v ++ sBl ++ Txt.join sBl ws)) := by
  rw [← join_cons ne, ← join_cons (List.cons_ne_nil _ _)]
  refine rule_words_bad (List.cons_ne_nil _ _) (fun w hw => ?_) ?_
  · rcases List.mem_cons.mp hw with rfl | hw
    · exact ff
    · rcases List.mem_cons.mp hw with rfl | hw
      · exact fv
      · exact fr w hw
  · show (numsB 1 10 9 f && (_ && (_ && (numsB 2 2 10006 v && _)))) = false
    rw [h, Bool.false_and, Bool.and_false, Bool.and_false, Bool.and_false]
theorem numsT_free {ns : List Nat} : 32 ∉ TL.tl (numsT ns) := fun z => by
  have := numsT_signs z
  omega
/-- the first word and the ways -/
theorem numsB_lead {lo hi b : Nat} {u : Str} {ns : List Nat} (ne : ns ≠ []) (hu : 44 ∉ TL.tl u) (h : ∀ n, numLe b (u ++ numT n) = false) : numsB lo hi b (u ++ numsT ns) = false := by
  cases ns with
  | nil => exact absurd rfl ne
  | cons n l =>
    have e : u ++ numsT (n :: l) = Txt.join sCom ((u ++ numT n) :: l.map numT) := by
      cases l with
      | nil =>
        unfold numsT
        rw [List.map_cons, List.map_nil, ← join_oneC, ← join_oneC]
      | cons m l =>
        unfold numsT
        rw [List.map_cons, join_consC (by simp), join_consC (by simp), ← str_assoc, ← str_assoc]
    unfold numsB
    rw [e, com_words (List.cons_ne_nil _ _) fun w hw => ?_]
    · rw [List.all_cons, h n, Bool.false_and, Bool.and_false, Bool.and_false]
    · rcases List.mem_cons.mp hw with rfl | hw
      · rw [TL.tl_append]
        intro z
        rcases List.mem_append.mp z with z | z
        · exact hu z
        · exact numT_free (by omega) z
      · obtain ⟨m, _, rfl⟩ := List.mem_map.mp hw
        exact numT_free (by omega)
theorem num_zero (b n : Nat) : numLe b (PySem.Str.ofString "0" ++ numT n) = false := by
  unfold numLe numB
  have e : TL.tl (PySem.Str.ofString "0" ++ numT n) = 48 :: TL.tl (numT n) := by rw [TL.tl_append]; rfl
  have l := numT_pos n
  rw [TL.len_tl] at l
  rw [e, List.head?_cons, List.length_cons, decide_eq_false (by omega : ¬ (TL.tl (numT n)).length + 1 ≤ 1), decide_eq_false (show ¬ (some 48 ≠ some 48) from fun z => z rfl), Bool.or_false, Bool.and_false, Bool.false_and, Bool.false_and]
theorem rule_comma_in {s : Str} (h : IsRuleT s) : 44 ∈ TL.tl s := by
  obtain ⟨r, ok, rfl⟩ := h
  obtain ⟨ini, p, e, ne, _⟩ := way_last ok
  unfold ruleT
  rw [e, join_snoc ne, TL.tl_append]
  refine List.mem_append_right _ ?_
  unfold numsT wayN
  rw [List.map_cons, join_consC (by simp), TL.tl_append, TL.tl_append]
  exact List.mem_append_left _ (List.mem_append_right _ (by rw [tl_com]; exact List.mem_cons_self))
open PySem.StrLaws in
theorem repl_one (x : Str) : TL.tl (Txt.replace x (PySem.Str.ofString ",") (PySem.Str.ofString ";")) = (TL.tl x).map fun c => if c = 44 then 59 else c := by
  have h : TL.tl (Txt.replace x (PySem.Str.ofString ",") (PySem.Str.ofString ";")) = replL [44] [59] (TL.tl x) := replace_list (by decide)
  rw [h]
  generalize TL.tl x = l
  induction l with
  | nil => rw [replL_nil]; rfl
  | cons c r ih =>
    by_cases hc : c = 44
    · subst hc
      rw [replL_hit (List.cons_ne_nil _ _) rfl]
      show [59] ++ replL [44] [59] r = _
      rw [ih]; rfl
    · rw [replL_miss (by simp [hc]), ih, List.map_cons, if_neg hc]
theorem rule_replaced {r : Rule} : ¬ IsRuleT (Txt.replace (ruleT r) (PySem.Str.ofString ",") (PySem.Str.ofString ";")) := fun h => by
  have := rule_comma_in h
  rw [repl_one] at this
  obtain ⟨c, _, e⟩ := List.mem_map.mp this
  split at e <;> omega
/-! ### webs' texts made worse -/
def letLt (m : Nat) (s : Str) : Bool := (List.range m).any fun n => decide (s = letT n)
def keyB (m : Nat) (p : Str) : Bool := decide (2 ≤ (Txt.split p sBl).length) && (decide ((Txt.split p sBl).length ≤ 3) && (Txt.split p sBl).all (letLt m))
def webPB : List Str → Bool
  | [] => false
  | w :: ks => numsB 1 10 9 w && (decide (ks.length ≤ 30) && ks.all (keyB (Txt.split w sCom).length))
theorem let_lt {n m : Nat} (h : n < m) : letLt m (letT n) = true := List.any_eq_true.mpr ⟨n, List.mem_range.mpr h, decide_eq_true rfl⟩
theorem letLt_mono {m k : Nat} {s : Str} (h : m ≤ k) (z : letLt m s = true) : letLt k s = true := by
  obtain ⟨n, hn, e⟩ := List.any_eq_true.mp z
  have := List.mem_range.mp hn
  exact List.any_eq_true.mpr ⟨n, List.mem_range.mpr (by omega), e⟩
theorem keyB_mono {m k : Nat} {p : Str} (h : m ≤ k) (z : keyB m p = true) : keyB k p = true := by
  unfold keyB at z ⊢
  simp only [Bool.and_eq_true, List.all_eq_true] at z ⊢
  exact ⟨z.1, z.2.1, fun s hs => letLt_mono h (z.2.2 s hs)⟩
theorem keyB_ten {m : Nat} {p : Str} (h : m ≤ 10) (z : keyB 10 p = false) : keyB m p = false := by
  cases e : keyB m p with
  | false => rfl
  | true => rw [keyB_mono h e] at z; cases z
theorem rooms_split {w : Web} (ok : Web9 w) : (Txt.split (numsT (natL w.rooms)) sCom).length = w.rooms.length := by
  rw [numsT_split (natL_ne ok), List.length_map]
  exact List.length_map _
theorem web_b {w : Web} (ok : Web9 w) : webPB (webPs w) = true := by
  have l : (natL w.rooms).length = w.rooms.length := List.length_map _
  have h1 := ok.ok.r1
  have h2 := ok.ok.r2
  have e1 : numsB 1 10 9 (numsT (natL w.rooms)) = true := nums_b (by omega) (by omega) (fun n hn => by
    obtain ⟨x, hx, rfl⟩ := List.mem_map.mp hn
    have := ok.r9 x hx
    omega) (by decide) (natL_ne ok)
  show (numsB 1 10 9 (numsT (natL w.rooms)) && (decide ((w.keys.map keyS).length ≤ 30) && (w.keys.map keyS).all (keyB (Txt.split (numsT (natL w.rooms)) sCom).length))) = true
  rw [e1, rooms_split ok, List.length_map, decide_eq_true ok.ok.kn, Bool.true_and, Bool.true_and, List.all_map, List.all_eq_true]
  intro k hk
  have k2 := ok.ok.k2 k hk
  show keyB _ (keyS k) = true
  unfold keyB
  rw [keyS_split (key_ne ok hk), List.length_map, decide_eq_true (by omega : 2 ≤ k.length), decide_eq_true (by omega : k.length ≤ 3), Bool.true_and, Bool.true_and, List.all_map, List.all_eq_true]
  exact fun n hn => let_lt (ok.ok.kh k hk n hn)
theorem no_web {s : Str} (h : webPB (Txt.split s sSem) = false) : ¬ IsWebT s := fun ⟨w, ok, e⟩ => by
  rw [e, webT_split ok, web_b ok] at h; cases h
theorem sem_words {ws : List Str} (ne : ws ≠ []) (h : ∀ w ∈ ws, 59 ∉ TL.tl w) : Txt.split (Txt.join sSem ws) sSem = ws := TL.split_join tl_sem sem_ok ne h
theorem web_parts_bad {ws : List Str} (ne : ws ≠ []) (fr : ∀ w ∈ ws, 59 ∉ TL.tl w) (h : webPB ws = false) : ¬ IsWebT (Txt.join sSem ws) := no_web (by rw [sem_words ne fr]; exact h)
theorem join_consS {w : Str} {ws : List Str} (ne : ws ≠ []) : Txt.join sSem (w :: ws) = w ++ sSem ++ Txt.join sSem ws := by
  cases ws with
  | nil => exact absurd rfl ne
  | cons a r =>
    refine TL.ext_tl ?_
    rw [TL.join_eq, TL.tl_join, TL.tl_append, TL.tl_append, TL.join_eq, TL.tl_join]
    show TL.tl w ++ (TL.tl sSem ++ TL.joinL (TL.tl sSem) ((a :: r).map TL.tl)) = TL.tl w ++ TL.tl sSem ++ _
    rw [List.append_assoc]
theorem join_oneS (x : Str) : x = Txt.join sSem [x] := TL.ext_tl (by rw [TL.join_eq, TL.tl_join]; rfl)
theorem join_snocS : ∀ {ws : List Str} {v : Str}, ws ≠ [] → Txt.join sSem (ws ++ [v]) = Txt.join sSem ws ++ sSem ++ v
  | [], _, h => absurd rfl h
  | [a], v, _ => by
    show Txt.join sSem [a, v] = _
    rw [join_consS (List.cons_ne_nil _ _), ← join_oneS, ← join_oneS]
  | a :: b :: r, v, _ => by
    show Txt.join sSem (a :: (b :: r ++ [v])) = _
    rw [join_consS (by simp), join_snocS (ws := b :: r) (List.cons_ne_nil _ _), join_consS (w := a) (ws := b :: r) (List.cons_ne_nil _ _), str_assoc, str_assoc, str_assoc, str_assoc, str_assoc]
theorem web_free {w : Web} (ok : Web9 w) : ∀ p ∈ webPs w, 59 ∉ TL.tl p := fun p hp z => by
  have := webPs_signs ok hp z
  omega
theorem webPs_ne (w : Web) : webPs w ≠ [] := fun z => nomatch z
/-- a part more that is no key -/
theorem web_more {w : Web} (ok : Web9 w) {v : Str} (fv : 59 ∉ TL.tl v) (h : keyB w.rooms.length v = false) : ¬ IsWebT (webT w ++ sSem ++ v) := by
  unfold webT
  rw [← join_snocS (webPs_ne w)]
  refine web_parts_bad (by simp) (fun p hp => ?_) ?_
  · rcases List.mem_append.mp hp with hp | hp
    · exact web_free ok p hp
    · rw [List.mem_singleton.mp hp]; exact fv
  · show (_ && (_ && ((w.keys.map keyS) ++ [v]).all (keyB (Txt.split (numsT (natL w.rooms)) sCom).length))) = false
    rw [List.all_append, List.all_cons, rooms_split ok, h, Bool.false_and, Bool.and_false, Bool.and_false, Bool.and_false]
theorem join_leadS {u a : Str} {ws : List Str} : u ++ Txt.join sSem (a :: ws) = Txt.join sSem ((u ++ a) :: ws) := by
  cases ws with
  | nil => rw [← join_oneS, ← join_oneS]
  | cons b r => rw [join_consS (List.cons_ne_nil _ _), join_consS (List.cons_ne_nil _ _), str_assoc, str_assoc, str_assoc]
/-- another first part -/
theorem web_first {w : Web} (ok : Web9 w) {v : Str} (fv : 59 ∉ TL.tl v) (h : numsB 1 10 9 v = false) : ¬ IsWebT (Txt.join sSem (v :: w.keys.map keyS)) := by
  refine web_parts_bad (List.cons_ne_nil _ _) (fun p hp => ?_) ?_
  · rcases List.mem_cons.mp hp with rfl | hp
    · exact fv
    · exact web_free ok p (List.mem_cons_of_mem _ hp)
  · show (numsB 1 10 9 v && _) = false
    rw [h, Bool.false_and]
/-- behind each semicolon a blank -/
def semOk : List Nat → Bool
  | [] => true
  | c :: r => if c = 59 then decide (r.head? = some 32) && semOk r else semOk r
theorem semOk_cons (c : Nat) (r : List Nat) : semOk (c :: r) = if c = 59 then decide (r.head? = some 32) && semOk r else semOk r := rfl
theorem semOk_free : ∀ {a : List Nat} (l : List Nat), 59 ∉ a → semOk (a ++ l) = semOk l
  | [], _, _ => rfl
  | c :: r, l, h => by
    rw [List.cons_append, semOk_cons, if_neg (fun z => h (by rw [z]; exact List.mem_cons_self)), semOk_free l fun z => h (List.mem_cons_of_mem _ z)]
theorem semOk_join : ∀ {ps : List (List Nat)}, (∀ p ∈ ps, 59 ∉ p) → semOk (TL.joinL [59, 32] ps) = true
  | [], _ => rfl
  | [p], h => by
    show semOk p = true
    have := semOk_free (a := p) [] (h p List.mem_cons_self)
    rw [List.append_nil] at this
    rw [this]; rfl
  | p :: q :: r, h => by
    show semOk (p ++ ([59, 32] ++ TL.joinL [59, 32] (q :: r))) = true
    rw [semOk_free _ (h p List.mem_cons_self)]
    have ih := semOk_join (ps := q :: r) fun x hx => h x (List.mem_cons_of_mem _ hx)
    show semOk (59 :: 32 :: TL.joinL [59, 32] (q :: r)) = true
    rw [semOk_cons, if_pos rfl, semOk_cons, if_neg (by decide), ih]; rfl
theorem semOk_bad : ∀ (a : List Nat) {l : List Nat}, l.head? ≠ some 32 → semOk (a ++ 59 :: l) = false
  | [], l, h => by
    rw [List.nil_append, semOk_cons, if_pos rfl, decide_eq_false h, Bool.false_and]
  | c :: r, l, h => by
    rw [List.cons_append, semOk_cons, semOk_bad r h, Bool.and_false]
    split <;> rfl
theorem web_sem {w : Web} (ok : Web9 w) : semOk (TL.tl (webT w)) = true := by
  unfold webT
  rw [TL.join_eq, TL.tl_join, tl_sem]
  exact semOk_join fun p hp => by
    obtain ⟨x, hx, rfl⟩ := List.mem_map.mp hp
    exact web_free ok x hx
theorem no_sem {s a : Str} {l : List Nat} (e : TL.tl s = TL.tl a ++ 59 :: l) (h : l.head? ≠ some 32) : ¬ IsWebT s := fun ⟨w, ok, z⟩ => by
  have := web_sem ok
  rw [← z, e, semOk_bad _ h] at this
  cases this
/-- the last part with a blank behind -/
theorem web_last {w : Web} (ok : Web9 w) : ¬ IsWebT (webT w ++ sBl) := by
  have bl : 32 ∈ TL.tl sBl := by rw [tl_bl]; exact List.mem_cons_self
  have f59 : 59 ∉ TL.tl sBl := by rw [tl_bl]; decide
  by_cases hk : w.keys = []
  · have e : webT w ++ sBl = Txt.join sSem ((numsT (natL w.rooms) ++ sBl) :: w.keys.map keyS) := by
      unfold webT webPs
      rw [hk, List.map_nil, ← join_oneS, ← join_oneS]
    rw [e]
    refine web_first ok (fun z => ?_) (numsB_sign 32 (by rw [TL.tl_append]; exact List.mem_append_right _ bl) (by omega))
    rw [TL.tl_append] at z
    rcases List.mem_append.mp z with z | z
    · have := numsT_signs z
      omega
    · exact f59 z
  · have km : w.keys.getLast hk ∈ w.keys := List.getLast_mem hk
    have e0 : webPs w = (numsT (natL w.rooms) :: w.keys.dropLast.map keyS) ++ [keyS (w.keys.getLast hk)] := by
      unfold webPs
      conv => lhs; rw [← List.dropLast_concat_getLast hk, List.map_append]
      rfl
    have e : webT w ++ sBl = Txt.join sSem ((numsT (natL w.rooms) :: w.keys.dropLast.map keyS) ++ [keyS (w.keys.getLast hk) ++ sBl]) := by
      rw [join_snocS (List.cons_ne_nil _ _)]
      unfold webT
      rw [e0, join_snocS (List.cons_ne_nil _ _), str_assoc]
    have kb : keyB w.rooms.length (keyS (w.keys.getLast hk) ++ sBl) = false := by
      have e2 : keyS (w.keys.getLast hk) ++ sBl = Txt.join sBl ((w.keys.getLast hk).map letT ++ [PySem.Str.ofString ""]) := by
        rw [join_snoc (fun z => key_ne ok km (List.map_eq_nil_iff.mp z)), str_nilr]; rfl
      unfold keyB
      rw [e2, split_words (by simp) fun x hx => ?_]
      · rw [List.all_append, List.all_cons]
        have : letLt w.rooms.length (PySem.Str.ofString "") = false := by
          cases z : letLt w.rooms.length (PySem.Str.ofString "") with
          | false => rfl
          | true =>
            have h10 := letLt_mono ok.ok.r2 z
            exact absurd h10 (by decide +kernel)
        rw [this, Bool.false_and, Bool.and_false, Bool.and_false, Bool.and_false]
      · rcases List.mem_append.mp hx with hx | hx
        · obtain ⟨n, _, rfl⟩ := List.mem_map.mp hx
          show 32 ∉ [97 + n]
          rw [List.mem_singleton]; omega
        · rw [List.mem_singleton.mp hx]; decide
    rw [e]
    refine web_parts_bad (by simp) (fun p hp => ?_) ?_
    · rcases List.mem_append.mp hp with hp | hp
      · exact web_free ok p (by rw [e0]; exact List.mem_append_left _ hp)
      · rw [List.mem_singleton.mp hp, TL.tl_append]
        intro z
        rcases List.mem_append.mp z with z | z
        · exact web_free ok _ (by rw [e0]; exact List.mem_append_right _ List.mem_cons_self) z
        · exact f59 z
    · show (_ && (_ && ((w.keys.dropLast.map keyS) ++ [keyS (w.keys.getLast hk) ++ sBl]).all (keyB (Txt.split (numsT (natL w.rooms)) sCom).length))) = false
      rw [List.all_append, List.all_cons, rooms_split ok, kb, Bool.false_and, Bool.and_false, Bool.and_false, Bool.and_false]
/-- many keys -/
theorem joinL_rep (S a p : List Nat) : ∀ n, TL.joinL S (a :: List.replicate n p) = a ++ (List.replicate n (S ++ p)).flatten
  | 0 => by show a = a ++ []; rw [List.append_nil]
  | n + 1 => by
    rw [List.replicate_succ]
    show a ++ (S ++ TL.joinL S (p :: List.replicate n p)) = _
    rw [joinL_rep S p p n, List.replicate_succ, List.flatten_cons, List.append_assoc]
theorem web_many (f : Str) (ff : 59 ∉ TL.tl f) : ¬ IsWebT (f ++ repS (PySem.Str.ofString "; a a") (31 : Int).toNat) := by
  have e : f ++ repS (PySem.Str.ofString "; a a") (31 : Int).toNat = Txt.join sSem (f :: List.replicate 31 (PySem.Str.ofString "a a")) := by
    refine TL.ext_tl ?_
    rw [TL.tl_append, TL.join_eq, TL.tl_join, List.map_cons, List.map_replicate, joinL_rep]
    refine congrArg (TL.tl f ++ ·) ?_
    exact repS_tl _ _
  rw [e]
  refine web_parts_bad (List.cons_ne_nil _ _) (fun p hp => ?_) ?_
  · rcases List.mem_cons.mp hp with rfl | hp
    · exact ff
    · rw [(List.mem_replicate.mp hp).2]; decide
  · show (_ && (decide ((List.replicate 31 (PySem.Str.ofString "a a")).length ≤ 30) && _)) = false
    rw [List.length_replicate, decide_eq_false (by decide), Bool.false_and, Bool.and_false]

/-! ### rules drawn by the family's pen -/

/-! ### texts asked -/
def sgn (s : Str) : Prop := ∀ c ∈ TL.tl s, c < 1114112
def BadR (d : D) : Prop := NoStrD d ∨ ∃ s, d = .p (.str s) ∧ s.length ≤ 900000 ∧ sgn s ∧ ¬ IsRuleT s
def BadW (d : D) : Prop := NoStrD d ∨ ∃ s, d = .p (.str s) ∧ s.length ≤ 900000 ∧ sgn s ∧ ¬ IsWebT s
theorem str_shaped2 {s : Str} (h : sgn s) : SeqAt.shaped (.str s) = true := str_shaped h
theorem f_eqS2 {x y : D} {QD : D → Prop} {s : Str} (hx : x = .p (.str s)) (hy : y = .p (.str s)) (h : sgn s) (q : QD (.p (.bool true))) : fEq x y QD := by
  subst hx hy
  refine f_eq (u := .str s) (v := .str s) rfl rfl (str_shaped h) (str_shaped h) ?_
  rw [str_eqv, decide_eq_true rfl]
  exact q
theorem kn3_rule (r : Rule) : Kn3 (encR r) := ⟨rfl, fun x y e => by
  cases e
  refine ⟨kn1_rooms _, rfl, fun xs e y hy => ?_⟩
  cases e
  obtain ⟨p, _, rfl⟩ := List.mem_map.mp hy
  exact ⟨rfl, fun xs e y hy => by
    cases e
    simp only [List.mem_cons, List.not_mem_nil, or_false] at hy
    rcases hy with rfl | rfl <;> rfl⟩⟩

theorem cutS_mem {s : Str} {a b : Option Int} {c : Nat} (h : c ∈ TL.tl (cutS s a b)) : c ∈ TL.tl s := by
  have h : c ∈ ((((TL.tl s).drop _).take _).toArray).toList := h
  rw [List.toList_toArray] at h
  exact List.mem_of_mem_drop (List.mem_of_mem_take h)
theorem cutS_len (s : Str) (a b : Option Int) : (cutS s a b).length ≤ s.length := by
  rw [TL.len_tl, TL.len_tl]
  show ((((TL.tl s).drop _).take _).toArray).toList.length ≤ _
  rw [List.toList_toArray, List.length_take, List.length_drop]
  omega
theorem cutS_sgn {s : Str} (h : sgn s) (a b : Option Int) : sgn (cutS s a b) := fun c hc => h c (cutS_mem hc)

local macro_rules | `(tactic| walk_at "sd") => `(tactic| (simp only [len_append]; omega))
def BadRT (s : Str) : Prop := s.length ≤ 100000 ∧ sgn s ∧ ¬ IsRuleT s
structure BadL (P : Str → Prop) (n : Nat) (L : List Str) : Prop where
  len : L.length = n
  all : ∀ s ∈ L, P s
theorem BadL.add {P : Str → Prop} {n m : Nat} {L M : List Str} (h : BadL P n L) (hm : M.length = m) (ha : ∀ s ∈ M, P s) : ∃ N, N.map PyData.str = L.map PyData.str ++ M.map PyData.str ∧ BadL P (n + m) N := ⟨L ++ M, List.map_append, by rw [List.length_append, h.len, hm], fun s hs => (List.mem_append.mp hs).elim (h.all s) (ha s)⟩
theorem cut_takeP {α : Type} {xs : List α} {n : Nat} : cutP xs none (some (n : Int)) = xs.take n := by
  unfold cutP
  rw [HT.sIx_none, HT.sIx_nat]
  show (xs.drop 0).take (min n xs.length - 0) = xs.take n
  rw [List.drop_zero, Nat.sub_zero]
  by_cases h : n ≤ xs.length
  · rw [Nat.min_eq_left h]
  · rw [Nat.min_eq_right (by omega), List.take_of_length_le (Nat.le_refl _), List.take_of_length_le (by omega)]
/-- what is known of a rule's text -/
structure RT (r : Rule) (F W1 R : Str) (wr : List Str) : Prop where
  ok : RuleOk r
  words : ruleP r = F :: W1 :: wr
  rest : R = Txt.join sBl (W1 :: wr)
  text : ruleT r = F ++ sBl ++ R
  nF : ∃ ns, ns ≠ [] ∧ F = numsT ns
  nW : ∃ p : Int × Int, W1 = numsT (wayN p)
  lF : F.length ≤ 610
  lW : W1.length ≤ 610
  lR : R.length ≤ 5000
section
variable {r : Rule} {F W1 R : Str} {wr : List Str}
theorem RT.fr (h : RT r F W1 R wr) : ∀ w ∈ F :: W1 :: wr, 32 ∉ TL.tl w := fun w hw => ruleP_free (r := r) (by rw [h.words]; exact hw)
theorem RT.sg (h : RT r F W1 R wr) : ∀ w ∈ F :: W1 :: wr, sgn w := fun w hw c hc => by
  rw [← h.words] at hw
  obtain ⟨ns, _, _, rfl⟩ := ruleT_nums h.ok w hw
  have := numsT_signs hc
  omega
theorem RT.sF (h : RT r F W1 R wr) : sgn F := h.sg F List.mem_cons_self
theorem RT.sW (h : RT r F W1 R wr) : sgn W1 := h.sg W1 (List.mem_cons_of_mem _ List.mem_cons_self)
theorem RT.sT (h : RT r F W1 R wr) : sgn (ruleT r) := fun c hc => ruleT_signs hc
theorem RT.sR (h : RT r F W1 R wr) : sgn R := fun c hc => h.sT c (by rw [h.text, TL.tl_append]; exact List.mem_append_right _ hc)
theorem RT.fw (h : RT r F W1 R wr) : ∀ w ∈ W1 :: wr, 32 ∉ TL.tl w := fun w hw => h.fr w (List.mem_cons_of_mem _ hw)
theorem sg_of {x : Str} (h : (TL.tl x).all (fun c => decide (c < 1114112)) = true) : sgn x := fun c hc => of_decide_eq_true ((List.all_eq_true.mp h) c hc)
/-- v in the first word's place -/
theorem RT.first (h : RT r F W1 R wr) {v s : Str} (e : s = v ++ sBl ++ R) (fv : 32 ∉ TL.tl v) (hv : numsB 1 10 9 v = false) : ¬ IsRuleT s := by
  rw [e, h.rest]
  exact rule_first (List.cons_ne_nil _ _) fv h.fw hv
theorem RT.more (h : RT r F W1 R wr) {v s : Str} (e : s = ruleT r ++ sBl ++ v) (fv : 32 ∉ TL.tl v) (hv : numsB 2 2 10006 v = false) : ¬ IsRuleT s := by
  rw [e]
  exact rule_more fv hv
theorem RT.way (h : RT r F W1 R wr) {v s : Str} (e : s = F ++ sBl ++ (v ++ sBl ++ R)) (fv : 32 ∉ TL.tl v) (hv : numsB 2 2 10006 v = false) : ¬ IsRuleT s := by
  rw [e, h.rest]
  exact rule_way (List.cons_ne_nil _ _) (h.fr F List.mem_cons_self) fv h.fw hv
theorem RT.b1 (h : RT r F W1 R wr) : BadRT (F ++ PySem.Str.ofString ", " ++ R) := by
  have lF := h.lF
  have lR := h.lR
  have k : (PySem.Str.ofString ", ").length = 2 := rfl
  refine ⟨by simp only [len_append]; omega, sgn_append (sgn_append h.sF (sg_of (by decide))) h.sR, h.first (v := F ++ sCom) ?_ (fun z => ?_) ?_⟩
  · rw [show PySem.Str.ofString ", " = sCom ++ sBl from TL.ext_tl (by decide), ← str_assoc]
  · rw [TL.tl_append] at z
    rcases List.mem_append.mp z with z | z
    · exact h.fr F List.mem_cons_self z
    · rw [tl_com] at z; simp at z
  · obtain ⟨ns, ne, e⟩ := h.nF
    have e2 : F ++ sCom = numsT ns ++ sCom ++ PySem.Str.ofString "" := by rw [str_nilr, e]
    unfold numsB
    rw [e2, nums_more ne (by decide), List.all_append, List.all_cons, show numLe 9 (PySem.Str.ofString "") = false from by decide +kernel, Bool.false_and, Bool.and_false, Bool.and_false, Bool.and_false]
theorem RT.b2 (h : RT r F W1 R wr) : BadRT (PySem.Str.ofString "0" ++ F ++ PySem.Str.ofString " " ++ R) := by
  have lF := h.lF
  have lR := h.lR
  have k : (PySem.Str.ofString "0").length = 1 := rfl
  have k2 : (PySem.Str.ofString " ").length = 1 := rfl
  refine ⟨by simp only [len_append]; omega, sgn_append (sgn_append (sgn_append (sg_of (by decide)) h.sF) (sg_of (by decide))) h.sR, h.first (v := PySem.Str.ofString "0" ++ F) rfl (fun z => ?_) ?_⟩
  · rw [TL.tl_append] at z
    rcases List.mem_append.mp z with z | z
    · exact absurd z (by decide)
    · exact h.fr F List.mem_cons_self z
  · obtain ⟨ns, ne, e⟩ := h.nF
    rw [e]
    exact numsB_lead ne (by decide) (num_zero 9)
theorem RT.b3 (h : RT r F W1 R wr) : BadRT (PySem.Str.ofString "-1," ++ F ++ PySem.Str.ofString " " ++ R) := by
  have lF := h.lF
  have lR := h.lR
  have k : (PySem.Str.ofString "-1,").length = 3 := rfl
  have k2 : (PySem.Str.ofString " ").length = 1 := rfl
  refine ⟨by simp only [len_append]; omega, sgn_append (sgn_append (sgn_append (sg_of (by decide)) h.sF) (sg_of (by decide))) h.sR, h.first (v := PySem.Str.ofString "-1," ++ F) rfl (fun z => ?_) (numsB_sign 45 (by rw [TL.tl_append]; exact List.mem_append_left _ (by decide)) (by omega))⟩
  rw [TL.tl_append] at z
  rcases List.mem_append.mp z with z | z
  · exact absurd z (by decide)
  · exact h.fr F List.mem_cons_self z
theorem RT.b4 (h : RT r F W1 R wr) : BadRT (PySem.Str.ofString "10 " ++ R) := by
  have lR := h.lR
  have k : (PySem.Str.ofString "10 ").length = 3 := rfl
  refine ⟨by simp only [len_append]; omega, sgn_append (sg_of (by decide)) h.sR, h.first (v := PySem.Str.ofString "10") ?_ (by decide) (by decide +kernel)⟩
  rw [show PySem.Str.ofString "10 " = PySem.Str.ofString "10" ++ sBl from TL.ext_tl (by decide)]
theorem RT.b5 (h : RT r F W1 R wr) : BadRT (PySem.Str.ofString " " ++ R) := by
  have lR := h.lR
  have k : (PySem.Str.ofString " ").length = 1 := rfl
  refine ⟨by simp only [len_append]; omega, sgn_append (sg_of (by decide)) h.sR, h.first (v := PySem.Str.ofString "") ?_ (by decide) (by decide +kernel)⟩
  rw [str_nill]; rfl
def elevT : Str := repS (PySem.Str.ofString "1,") (10 : Int).toNat ++ PySem.Str.ofString "1"
theorem RT.b6 (h : RT r F W1 R wr) : BadRT (Txt.join (PySem.Str.ofString " ") [elevT, R]) := by
  have lR := h.lR
  have k : elevT.length = 21 := by decide +kernel
  have e : Txt.join (PySem.Str.ofString " ") [elevT, R] = elevT ++ sBl ++ R := by
    show Txt.join sBl [elevT, R] = _
    rw [join_cons (List.cons_ne_nil _ _), ← join_one]
  have k2 : sBl.length = 1 := rfl
  refine ⟨by rw [e]; simp only [len_append]; omega, by rw [e]; exact sgn_append (sgn_append (sg_of (by decide +kernel)) (sg_of (by decide))) h.sR, h.first e (by decide +kernel) (by decide +kernel)⟩
theorem RT.b7 (h : RT r F W1 R wr) : BadRT F := by
  have lF := h.lF
  refine ⟨by omega, h.sF, ?_⟩
  rw [join_one F]
  refine rule_words_bad (List.cons_ne_nil _ _) (fun w hw => ?_) ?_
  · rw [List.mem_singleton.mp hw]; exact h.fr F List.mem_cons_self
  · show (_ && (decide (2 ≤ 0) && _)) = false
    rw [decide_eq_false (by decide), Bool.false_and, Bool.and_false]
theorem RT.b8 (h : RT r F W1 R wr) : BadRT (F ++ PySem.Str.ofString " " ++ W1) := by
  have lF := h.lF
  have lW := h.lW
  have k : (PySem.Str.ofString " ").length = 1 := rfl
  refine ⟨by simp only [len_append]; omega, sgn_append (sgn_append h.sF (sg_of (by decide))) h.sW, ?_⟩
  have e : F ++ PySem.Str.ofString " " ++ W1 = Txt.join sBl [F, W1] := by rw [join_cons (List.cons_ne_nil _ _), ← join_one]; rfl
  rw [e]
  refine rule_words_bad (List.cons_ne_nil _ _) (fun w hw => ?_) ?_
  · simp only [List.mem_cons, List.not_mem_nil, or_false] at hw
    rcases hw with rfl | rfl
    · exact h.fr _ List.mem_cons_self
    · exact h.fr _ (List.mem_cons_of_mem _ List.mem_cons_self)
  · show (_ && (decide (2 ≤ 1) && _)) = false
    rw [decide_eq_false (by decide), Bool.false_and, Bool.and_false]
/-- what is written behind the text, a blank ahead -/
theorem RT.bm (h : RT r F W1 R wr) {u v : Str} (e : u = sBl ++ v) (l : v.length ≤ 1000) (sv : sgn v) (fv : 32 ∉ TL.tl v) (hv : numsB 2 2 10006 v = false) : BadRT (ruleT r ++ u) := by
  have tl := ruleT_len h.ok
  have k : sBl.length = 1 := rfl
  refine ⟨by rw [e]; simp only [len_append]; omega, by rw [e]; exact sgn_append h.sT (sgn_append (sg_of (by decide)) sv), h.more (v := v) ?_ fv hv⟩
  rw [e, ← str_assoc]
theorem RT.b10 (h : RT r F W1 R wr) : BadRT (PySem.Str.ofString " " ++ ruleT r) := by
  have tl := ruleT_len h.ok
  have k : (PySem.Str.ofString " ").length = 1 := rfl
  refine ⟨by simp only [len_append]; omega, sgn_append (sg_of (by decide)) h.sT, ?_⟩
  have e : PySem.Str.ofString " " ++ ruleT r = PySem.Str.ofString "" ++ sBl ++ Txt.join sBl (ruleP r) := by rw [str_nill]; rfl
  rw [e]
  exact rule_first (ruleP_ne r) (by decide) (fun w hw => ruleP_free hw) (by decide +kernel)
theorem RT.b12 (h : RT r F W1 R wr) : BadRT (F ++ PySem.Str.ofString "  " ++ R) := by
  have lF := h.lF
  have lR := h.lR
  have k : (PySem.Str.ofString "  ").length = 2 := rfl
  refine ⟨by simp only [len_append]; omega, sgn_append (sgn_append h.sF (sg_of (by decide))) h.sR, h.way (v := PySem.Str.ofString "") ?_ (by decide) (by decide +kernel)⟩
  rw [str_nill, show PySem.Str.ofString "  " = sBl ++ sBl from TL.ext_tl (by decide), ← str_assoc, ← str_assoc]
theorem RT.b13 (h : RT r F W1 R wr) : BadRT (F ++ PySem.Str.ofString " " ++ W1 ++ PySem.Str.ofString ",3 " ++ R) := by
  have lF := h.lF
  have lW := h.lW
  have lR := h.lR
  have k : (PySem.Str.ofString " ").length = 1 := rfl
  have k2 : (PySem.Str.ofString ",3 ").length = 3 := rfl
  refine ⟨by simp only [len_append]; omega, sgn_append (sgn_append (sgn_append (sgn_append h.sF (sg_of (by decide))) h.sW) (sg_of (by decide))) h.sR, h.way (v := W1 ++ sCom ++ PySem.Str.ofString "3") ?_ (fun z => ?_) ?_⟩
  · rw [show PySem.Str.ofString ",3 " = sCom ++ PySem.Str.ofString "3" ++ sBl from TL.ext_tl (by decide), show PySem.Str.ofString " " = sBl from rfl]
    simp only [str_assoc]
  · rw [TL.tl_append, TL.tl_append] at z
    rcases List.mem_append.mp z with z | z
    · rcases List.mem_append.mp z with z | z
      · exact h.fr W1 (List.mem_cons_of_mem _ List.mem_cons_self) z
      · rw [tl_com] at z; simp at z
    · exact absurd z (by decide)
  · obtain ⟨p, e⟩ := h.nW
    rw [e]
    exact numsB_three (Nat.le_refl 2) (by decide)
theorem RT.bw (h : RT r F W1 R wr) {u : Str} {ws : List Str} (e : u = sBl ++ Txt.join sBl ws) (ne : ws ≠ []) (l : u.length ≤ 1000) (su : sgn u) (fr : ∀ w ∈ ws, 32 ∉ TL.tl w) (hb : (decide (2 ≤ ws.length) && (decide (ws.length ≤ 3) && ws.all (numsB 2 2 10006))) = false) : BadRT (F ++ u) := by
  have lF := h.lF
  refine ⟨by simp only [len_append]; omega, sgn_append h.sF su, ?_⟩
  rw [e, ← str_assoc, ← join_cons ne]
  refine rule_words_bad (List.cons_ne_nil _ _) (fun w hw => ?_) ?_
  · rcases List.mem_cons.mp hw with rfl | hw
    · exact h.fr _ List.mem_cons_self
    · exact fr w hw
  · show (_ && (decide (2 ≤ ws.length) && (decide (ws.length ≤ 3) && ws.all (numsB 2 2 10006)))) = false
    rw [hb, Bool.and_false]
theorem RT.b20 (h : RT r F W1 R wr) : BadRT (Txt.join (PySem.Str.ofString ",") (ruleP r)) := by
  have l1 := join_len (sep := sCom) (ruleP_len h.ok)
  have l2 := ruleP_count h.ok
  have k : sCom.length = 1 := rfl
  rw [k] at l1
  have fr : 32 ∉ TL.tl (Txt.join sCom (ruleP r)) := fun z => by
    rcases join_mem z with z | ⟨y, hy, z⟩
    · rw [tl_com] at z; simp at z
    · exact ruleP_free hy z
  refine ⟨by show (Txt.join sCom (ruleP r)).length ≤ _; omega, fun c hc => ?_, ?_⟩
  · rcases join_mem hc with z | ⟨y, hy, z⟩
    · have z : c ∈ TL.tl sCom := z
      rw [tl_com] at z
      rw [List.mem_singleton.mp z]; decide
    · rw [h.words] at hy
      exact h.sg y hy c z
  · show ¬ IsRuleT (Txt.join sCom (ruleP r))
    rw [join_one (Txt.join sCom (ruleP r))]
    refine rule_words_bad (List.cons_ne_nil _ _) (fun w hw => ?_) ?_
    · rw [List.mem_singleton.mp hw]; exact fr
    · show (_ && (decide (2 ≤ 0) && _)) = false
      rw [decide_eq_false (by decide), Bool.false_and, Bool.and_false]
theorem joinL_alike (a b : Nat) : ∀ ps : List (List Nat), (TL.joinL [a] ps).length = (TL.joinL [b] ps).length
  | [] => rfl
  | [_] => rfl
  | p :: q :: r => by
    have ih := joinL_alike a b (q :: r)
    show (p ++ ([a] ++ TL.joinL [a] (q :: r))).length = (p ++ ([b] ++ TL.joinL [b] (q :: r))).length
    rw [List.length_append, List.length_append, List.length_append, List.length_append, ih]; rfl
theorem bad_nil : BadRT (PySem.Str.ofString "") := ⟨by decide, sg_of (by decide), no_rule (by decide +kernel)⟩
theorem RT.b22 (h : RT r F W1 R wr) : BadRT (Txt.replace (ruleT r) (PySem.Str.ofString ",") (PySem.Str.ofString ";")) := by
  have tl := ruleT_len h.ok
  refine ⟨?_, fun c hc => ?_, rule_replaced⟩
  · rw [TL.len_tl, repl_one, List.length_map, ← TL.len_tl]; omega
  · rw [repl_one] at hc
    obtain ⟨x, hx, e⟩ := List.mem_map.mp hc
    have := h.sT x hx
    split at e <;> omega
theorem RT.b23 (h : RT r F W1 R wr) : BadRT (ruleT r ++ PySem.Str.ofString ",") := by
  have tl := ruleT_len h.ok
  have k : (PySem.Str.ofString ",").length = 1 := rfl
  refine ⟨by simp only [len_append]; omega, sgn_append h.sT (sg_of (by decide)), ?_⟩
  have := rule_comma h.ok (v := PySem.Str.ofString "") (by decide) (by decide)
  rw [str_nilr] at this
  exact this
theorem RT.b24 (h : RT r F W1 R wr) {C : List Str} (eC : C = Txt.split F sCom) : BadRT (Txt.join (PySem.Str.ofString " ") [Txt.join (PySem.Str.ofString ";") C ++ PySem.Str.ofString ";", R]) := by
  have lF := h.lF
  have lR := h.lR
  obtain ⟨z1, z2⟩ := split_sizes (y := sCom) (by rw [tl_com]; exact List.cons_ne_nil _ _) com_ok F
  have z3 := split_signs (y := sCom) (by rw [tl_com]; exact List.cons_ne_nil _ _) com_ok F
  rw [← eC] at z1 z2 z3
  have jm : ∀ c ∈ TL.tl (Txt.join (PySem.Str.ofString ";") C), c = 59 ∨ c ∈ TL.tl F := fun c hc => by
    rcases join_mem hc with z | ⟨y, hy, z⟩
    · have e : TL.tl (PySem.Str.ofString ";") = [59] := by decide
      rw [e] at z
      exact .inl (List.mem_singleton.mp z)
    · exact .inr (z3 y hy c z)
  obtain ⟨J, eJ⟩ : ∃ J, J = Txt.join (PySem.Str.ofString ";") C := ⟨_, rfl⟩
  have lJ : J.length ≤ 20000 := by
    obtain ⟨ns, ne, e⟩ := h.nF
    have l := numsT_split ne
    rw [← e, ← eC] at l
    have lj : (TL.tl J).length = (TL.tl F).length := by
      have e2 : F = Txt.join sCom C := by rw [eC, join_split (by rw [tl_com]; exact List.cons_ne_nil _ _) com_ok]
      rw [eJ, e2, TL.join_eq, TL.tl_join, TL.join_eq, TL.tl_join, tl_com, show TL.tl (PySem.Str.ofString ";") = [59] from by decide]
      exact joinL_alike _ _ _
    rw [TL.len_tl, lj, ← TL.len_tl]; omega
  rw [← eJ] at jm ⊢
  have e : Txt.join (PySem.Str.ofString " ") [J ++ PySem.Str.ofString ";", R] = J ++ PySem.Str.ofString ";" ++ sBl ++ R := by
    show Txt.join sBl _ = _
    rw [join_cons (List.cons_ne_nil _ _), ← join_one]
  have k : (PySem.Str.ofString ";").length = 1 := rfl
  have k2 : sBl.length = 1 := rfl
  have sJ : sgn J := fun c hc => by
    rcases jm c hc with z | z
    · omega
    · exact h.sF c z
  refine ⟨by rw [e]; simp only [len_append]; omega, by rw [e]; exact sgn_append (sgn_append (sgn_append sJ (sg_of (by decide))) (sg_of (by decide))) h.sR, h.first e (fun z => ?_) (numsB_sign 59 (by rw [TL.tl_append]; exact List.mem_append_right _ (by decide)) (by omega))⟩
  rw [TL.tl_append] at z
  rcases List.mem_append.mp z with z | z
  · rcases jm 32 z with z | z
    · cases z
    · exact h.fr F List.mem_cons_self z
  · exact absurd z (by decide)
theorem RT.b25 (h : RT r F W1 R wr) : BadRT (PySem.Str.ofString "+" ++ ruleT r) := by
  have tl := ruleT_len h.ok
  have k : (PySem.Str.ofString "+").length = 1 := rfl
  refine ⟨by simp only [len_append]; omega, sgn_append (sg_of (by decide)) h.sT, h.first (v := PySem.Str.ofString "+" ++ F) (by rw [h.text]; simp only [str_assoc]) (fun z => ?_) (numsB_sign 43 (by rw [TL.tl_append]; exact List.mem_append_left _ (by decide)) (by omega))⟩
  rw [TL.tl_append] at z
  rcases List.mem_append.mp z with z | z
  · exact absurd z (by decide)
  · exact h.fr F List.mem_cons_self z
end

def BadWT (s : Str) : Prop := s.length ≤ 300000 ∧ sgn s ∧ ¬ IsWebT s
theorem cut_head (a b : Str) : cutS (a ++ b) (some (a.length : Int)) none = b := by
  refine TL.ext_tl ?_
  have la : a.length = (TL.tl a).length := TL.len_tl a
  have lb : (a ++ b).length = (TL.tl a).length + (TL.tl b).length := by rw [TL.len_tl, TL.tl_append, List.length_append]
  show ((((TL.tl (a ++ b)).drop _).take _).toArray).toList = _
  rw [List.toList_toArray, HT.sIx_none, HT.sIx_nat, TL.tl_append, lb, la, Nat.min_eq_left (by omega), List.drop_left, List.take_of_length_le (by omega)]
theorem letk_at {n : Nat} (h : n ≤ 10) : atI (PySem.Str.ofString "abcdefghijk").cps.toList (n : Int) = some (97 + n) := by
  have e : (PySem.Str.ofString "abcdefghijk").cps.toList = [97, 98, 99, 100, 101, 102, 103, 104, 105, 106, 107] := by decide
  rw [e]
  refine atI_ofNat ?_
  rcases (by omega : n = 0 ∨ n = 1 ∨ n = 2 ∨ n = 3 ∨ n = 4 ∨ n = 5 ∨ n = 6 ∨ n = 7 ∨ n = 8 ∨ n = 9 ∨ n = 10) with h | h | h | h | h | h | h | h | h | h | h <;> subst h <;> rfl
theorem numsB_comma {lo hi b : Nat} {ns : List Nat} (ne : ns ≠ []) : numsB lo hi b (numsT ns ++ sCom) = false := by
  have e2 : numsT ns ++ sCom = numsT ns ++ sCom ++ PySem.Str.ofString "" := by rw [str_nilr]
  unfold numsB
  have z : numLe b (PySem.Str.ofString "") = false := by
    unfold numLe
    rw [show numB (TL.tl (PySem.Str.ofString "")) = false from by decide +kernel, Bool.false_and]
  rw [e2, nums_more ne (by decide), List.all_append, List.all_cons, z, Bool.false_and, Bool.and_false, Bool.and_false, Bool.and_false]
section
variable {w : Web} (ok : Web9 w)
include ok
theorem ws_T : sgn (webT w) := fun c hc => webT_signs ok hc
theorem ws_F : sgn (numsT (natL w.rooms)) := fun c hc => by
  have := numsT_signs hc
  omega
theorem ws_len : (numsT (natL w.rooms)).length ≤ 610 := webPs_len ok _ (by unfold webPs; exact List.mem_cons_self)
theorem F59 : 59 ∉ TL.tl (numsT (natL w.rooms)) := web_free ok _ (by unfold webPs; exact List.mem_cons_self)
/-- a part more behind -/
theorem cm {u v : Str} (e : u = sSem ++ v) (l : u.length ≤ 1000) (sv : sgn u) (fv : 59 ∉ TL.tl v) (hv : keyB 10 v = false) : BadWT (webT w ++ u) := by
  have tl := webT_len ok
  refine ⟨by simp only [len_append]; omega, sgn_append (ws_T ok) sv, ?_⟩
  rw [e, ← str_assoc]
  exact web_more ok fv (keyB_ten ok.ok.r2 hv)
theorem c5 : BadWT (webT w ++ PySem.Str.ofString "; a " ++ letT w.rooms.length) := by
  have tl := webT_len ok
  have r2 := ok.ok.r2
  have k : (PySem.Str.ofString "; a ").length = 4 := rfl
  have k2 : (letT w.rooms.length).length = 1 := rfl
  have fl : ∀ c, c ∈ TL.tl (letT w.rooms.length) → 97 ≤ c ∧ c ≤ 107 := fun c hc => by
    have hc : c ∈ [97 + w.rooms.length] := hc
    have := List.mem_singleton.mp hc
    omega
  refine ⟨by simp only [len_append]; omega, sgn_append (sgn_append (ws_T ok) (sg_of (by decide))) fun c hc => by have := fl c hc; omega, ?_⟩
  rw [show PySem.Str.ofString "; a " = sSem ++ (PySem.Str.ofString "a" ++ sBl) from TL.ext_tl (by decide), ← str_assoc, str_assoc]
  refine web_more ok (fun z => ?_) ?_
  · rw [TL.tl_append] at z
    rcases List.mem_append.mp z with z | z
    · exact absurd z (by decide)
    · have := fl 59 z; omega
  · have e : PySem.Str.ofString "a" ++ sBl ++ letT w.rooms.length = Txt.join sBl [PySem.Str.ofString "a", letT w.rooms.length] := by rw [join_cons (List.cons_ne_nil _ _), ← join_one]
    unfold keyB
    rw [e, split_words (List.cons_ne_nil _ _) fun x hx => ?_]
    · have : letLt w.rooms.length (letT w.rooms.length) = false := by
        unfold letLt
        rw [List.any_eq_false]
        intro n hn z
        have := letT_inj (of_decide_eq_true z)
        have := List.mem_range.mp hn
        omega
      rw [List.all_cons, List.all_cons, this, Bool.false_and, Bool.and_false, Bool.and_false, Bool.and_false]
    · simp only [List.mem_cons, List.not_mem_nil, or_false] at hx
      rcases hx with rfl | rfl
      · decide
      · intro z
        have := fl 32 z; omega
theorem cs {u a : Str} {l : List Nat} (e : TL.tl (webT w ++ u) = TL.tl a ++ 59 :: l) (hl : l.head? ≠ some 32) (lu : u.length ≤ 1000) (su : sgn u) : BadWT (webT w ++ u) := by
  have tl := webT_len ok
  exact ⟨by simp only [len_append]; omega, sgn_append (ws_T ok) su, no_sem e hl⟩
theorem c13 : BadWT (numsT (natL w.rooms) ++ repS (PySem.Str.ofString "; a a") (31 : Int).toNat) := by
  have lf := ws_len ok
  have k : (repS (PySem.Str.ofString "; a a") (31 : Int).toNat).length = 155 := by decide +kernel
  exact ⟨by simp only [len_append]; omega, sgn_append (ws_F ok) (sg_of (by decide +kernel)), web_many _ (F59 ok)⟩
theorem c14 : BadWT (PySem.Str.ofString "10" ++ cutS (webT w) (some 1) none) := by
  have tl := webT_len ok
  have lc := cutS_len (webT w) (some 1) none
  have k : (PySem.Str.ofString "10").length = 2 := rfl
  refine ⟨by simp only [len_append]; omega, sgn_append (sg_of (by decide)) (cutS_sgn (ws_T ok) _ _), ?_⟩
  obtain ⟨n, ns, en⟩ : ∃ n ns, natL w.rooms = n :: ns := by
    cases h : natL w.rooms with
    | nil => exact absurd h (natL_ne ok)
    | cons n ns => exact ⟨n, ns, rfl⟩
  have n9 : n < 10 := by
    have hm : n ∈ natL w.rooms := by rw [en]; exact List.mem_cons_self
    obtain ⟨x, hx, rfl⟩ := List.mem_map.mp hm
    have := ok.r9 x hx
    omega
  obtain ⟨Y, hY⟩ : ∃ Y : Str, ∀ m, numsT (m :: ns) = numT m ++ Y := by
    cases ns with
    | nil => exact ⟨PySem.Str.ofString "", fun m => by unfold numsT; rw [str_nilr, List.map_cons, List.map_nil, ← join_oneC]⟩
    | cons a l => exact ⟨sCom ++ Txt.join sCom ((a :: l).map numT), fun m => by unfold numsT; rw [List.map_cons, join_consC (by simp), str_assoc]⟩
  have eT : ∀ m, Txt.join sSem (numsT (m :: ns) :: w.keys.map keyS) = numT m ++ Txt.join sSem (Y :: w.keys.map keyS) := fun m => by rw [join_leadS, hY]
  have e1 : webT w = numT n ++ Txt.join sSem (Y :: w.keys.map keyS) := by
    rw [← eT, ← en]; rfl
  have l1 : ((numT n).length : Int) = 1 := by
    rw [TL.len_tl, tl_numT, TL.numL_lt n9]; rfl
  have e2 : cutS (webT w) (some 1) none = Txt.join sSem (Y :: w.keys.map keyS) := by
    rw [e1, ← l1, cut_head]
  have e3 : PySem.Str.ofString "10" = numT 10 := by decide +kernel
  rw [e2, e3, ← eT 10]
  refine web_first ok (fun z => ?_) ?_
  · have := numsT_signs z
    omega
  · unfold numsB
    rw [numsT_split (List.cons_ne_nil _ _), List.map_cons, List.all_cons, ← e3, show numLe 9 (PySem.Str.ofString "10") = false from by decide +kernel, Bool.false_and, Bool.and_false, Bool.and_false]
/-- signs ahead -/
theorem ca {u : Str} (lu : u.length ≤ 10) (su : sgn u) (fu : 59 ∉ TL.tl u) (hb : numsB 1 10 9 (u ++ numsT (natL w.rooms)) = false) : BadWT (u ++ webT w) := by
  have tl := webT_len ok
  refine ⟨by simp only [len_append]; omega, sgn_append su (ws_T ok), ?_⟩
  have e : u ++ webT w = Txt.join sSem ((u ++ numsT (natL w.rooms)) :: w.keys.map keyS) := join_leadS
  rw [e]
  refine web_first ok (fun z => ?_) hb
  rw [TL.tl_append] at z
  rcases List.mem_append.mp z with z | z
  · exact fu z
  · exact F59 ok z
theorem c20 : BadWT (numsT (natL w.rooms) ++ PySem.Str.ofString ",; a a") := by
  have lf := ws_len ok
  have k : (PySem.Str.ofString ",; a a").length = 6 := rfl
  refine ⟨by simp only [len_append]; omega, sgn_append (ws_F ok) (sg_of (by decide)), ?_⟩
  have e : numsT (natL w.rooms) ++ PySem.Str.ofString ",; a a" = Txt.join sSem [numsT (natL w.rooms) ++ sCom, PySem.Str.ofString "a a"] := by
    rw [join_consS (List.cons_ne_nil _ _), ← join_oneS, show PySem.Str.ofString ",; a a" = sCom ++ sSem ++ PySem.Str.ofString "a a" from TL.ext_tl (by decide)]
    simp only [str_assoc]
  rw [e]
  refine web_parts_bad (List.cons_ne_nil _ _) (fun p hp => ?_) ?_
  · simp only [List.mem_cons, List.not_mem_nil, or_false] at hp
    rcases hp with rfl | rfl
    · intro z
      rw [TL.tl_append] at z
      rcases List.mem_append.mp z with z | z
      · exact F59 ok z
      · exact absurd z (by decide)
    · decide
  · show (numsB 1 10 9 _ && _) = false
    rw [numsB_comma (natL_ne ok), Bool.false_and]
theorem c22 : BadWT (webT w ++ PySem.Str.ofString " ") := by
  have tl := webT_len ok
  have k : (PySem.Str.ofString " ").length = 1 := rfl
  exact ⟨by simp only [len_append]; omega, sgn_append (ws_T ok) (sg_of (by decide)), web_last ok⟩
end

theorem k63_eqv {r : Rule} : PyData.eqv (encR r) (encR r) = true := eqv_self _ (by
  unfold encR
  simp only [nodP, nodPs, Bool.and_true, Bool.and_eq_true]
  exact ⟨nodPs_map (fun _ => by simp [nodP]) _, nodPs_map (fun _ => by simp [nodP, nodPs, wayT]) _⟩)
theorem k63_eqw {w : Web} : PyData.eqv (encW w) (encW w) = true := eqv_self _ (by
  unfold encW
  simp only [nodP, nodPs, Bool.and_true, Bool.and_eq_true]
  exact ⟨nodPs_map (fun _ => by simp [nodP]) _, nodPs_map (fun k => by unfold keyT natsP; simp only [nodP]; exact nodPs_map (fun _ => by simp [nodP, natP]) _) _⟩)
theorem pick63 {P : Str → Prop} {n : Nat} {L : List Str} (h : BadL P n L) {z : Int} (z0 : 0 ≤ z) (z1 : z < (n : Int)) : ∃ s, atI (L.map PyData.str) z = some (.str s) ∧ P s := by
  obtain ⟨s, hs, _⟩ := atI_of_lt (xs := L) (i := z) z0 (by rw [h.len]; exact z1)
  refine ⟨s, ?_, h.all s (List.mem_of_getElem? hs)⟩
  have e : z = ((z.toNat : Nat) : Int) := by omega
  rw [e]
  exact atI_ofNat (by rw [List.getElem?_map, hs]; rfl)
def BadI (y : Int) (d : D) : Prop := (y = 0 ∧ BadR d) ∨ (y = 1 ∧ BadW d)
theorem rule_shaped2 (r : Rule) : SeqAt.shaped (encR r) = true := (Lay.tuple (n := 2) fun x hx => by
  simp only [List.mem_cons, List.not_mem_nil, or_false] at hx
  rcases hx with rfl | rfl
  · exact Lay.tuple (n := 1) fun y hy => by
      obtain ⟨i, _, rfl⟩ := List.mem_map.mp hy
      exact Lay.int i
  · exact Lay.tuple (n := 1) fun y hy => by
      obtain ⟨p, _, rfl⟩ := List.mem_map.mp hy
      exact Lay.tuple (n := 0) fun z hz => by
        simp only [List.mem_cons, List.not_mem_nil, or_false] at hz
        rcases hz with rfl | rfl <;> exact Lay.int _).ok (by decide)
theorem web_shaped2 (w : Web) : SeqAt.shaped (encW w) = true := (Lay.tuple (n := 2) fun x hx => by
  simp only [List.mem_cons, List.not_mem_nil, or_false] at hx
  rcases hx with rfl | rfl
  · exact Lay.tuple (n := 1) fun y hy => by
      obtain ⟨i, _, rfl⟩ := List.mem_map.mp hy
      exact Lay.int i
  · exact Lay.tuple (n := 1) fun y hy => by
      obtain ⟨p, _, rfl⟩ := List.mem_map.mp hy
      exact Lay.tuple (n := 0) fun z hz => by
        obtain ⟨n, _, rfl⟩ := List.mem_map.mp hz
        exact Lay.int _).ok (by decide)

def topS (i : Nat) : Stmt := PySem.Challenge.pw_keynests_k63_texts_refused.main.body.getD i (.Pass ⟨0, 0, 0, 0⟩)

abbrev s_law_mixed : Stmt := topS 37

abbrev s_law_cell_at : Stmt := topS 38

abbrev s_law_pen : Stmt := topS 40

abbrev s_law_take : Stmt := topS 39

abbrev s_law_rule : Stmt := topS 42

abbrev s_law_web : Stmt := topS 41

abbrev s_numbers_shown : Stmt := topS 28

abbrev s_show_rule : Stmt := topS 29

abbrev s_show_web : Stmt := topS 30

abbrev s_law_bad_rule : Stmt := topS 46

abbrev s_law_bad_web : Stmt := topS 47

abbrev s_number_in : Stmt := topS 31

abbrev s_numbers_in : Stmt := topS 32

abbrev s_is_between : Stmt := topS 15

abbrev s_are_rooms : Stmt := topS 16

abbrev s_is_way : Stmt := topS 17

abbrev s_are_ways : Stmt := topS 18

abbrev s_is_rule : Stmt := topS 19

abbrev s_read_rule : Stmt := topS 34

abbrev s_are_homes : Stmt := topS 22

abbrev s_is_web : Stmt := topS 23

abbrev s_nest_in : Stmt := topS 33

abbrev s_read_web : Stmt := topS 35

abbrev s_law_asked : Stmt := topS 43

abbrev s_law_sign_right : Stmt := topS 45

abbrev s_law_sign : Stmt := topS 44

abbrev s_law : Stmt := topS 48

abbrev cat_NestError : Str → Option Bool := catL [("NoText", true)]

abbrev icat0 : Str → Option Bool := catL [("NoText", false)]

abbrev icat1 : Str → Option Bool := catL [("NoText", true)]

abbrev icat2 : Str → Option Bool := catL [("NoText", true)]

/-! ### _law_mixed -/

def t_law_mixed : DTS := (dSeq (dAsg (dK (.int 0)) (gNm 2))
  (dSeq (dIfS (dTst (dBin fGt (dCall gLen (dCons (dNm 0) dNil)) (dK (.int 0)))) (dAsg (dBin fMod (dIx (dNm 0) (dBin fMod (dNm 1) (dCall gLen (dCons (dNm 0) dNil)))) (dK (.int 2305843009213693951))) (gNm 2)) dNext)
  (dSeq (dAsg (dBin fMod (dBin fAdd (dBin fAdd (dBin fAdd (dBin fMul (dNm 2) (dK (.int 48271))) (dBin fMul (dBin fMul (dNm 1) (dNm 1)) (dK (.int 40692)))) (dBin fMul (dK (.int 7)) (dNm 1))) (dK (.int 11))) (dK (.int 2147483647))) (gNm 2))
  (dRet (dBin fMod (dBin fMul (dNm 2) (dK (.int 1181783497276652981))) (dK (.int 2305843009213693951)))))))
abbrev tv_law_mixed : List Nat := [2, 2, 2]

def fd_law_mixed : FD := fun ds QD _ => ∃ (ns : List Int) (k : Int), ds = [.p (scrP ns), .p (.int k)] ∧ 0 ≤ k ∧ k < 2 ^ 100 ∧ ∀ r : Int, 0 ≤ r → r < 2305843009213693951 → QD (.p (.int r)) ds
theorem hn_law_mixed (ds : List D) (Q E) (h : fd_law_mixed ds Q E) : ds.length = 2 := by obtain ⟨_, _, rfl, _⟩ := h; rfl
theorem rd_law_mixed : Body t_law_mixed tv_law_mixed 3 fd_law_mixed := by
  rintro ds QD ED ⟨ns, k, rfl, h0, h1, q⟩
  unfold t_law_mixed
  walk_at "go"
  refine i_cut (fun e => ∃ z : Int, z.natAbs < 2 ^ 61 ∧ e = [.p (scrP ns), .p (.int k), .p (.int z)]) (fun K hK => ?_) ?_
  · walk_at "go"
    refine i_ite (fun h => ?_) (fun h => ?_)
    · have h : 0 < ((ns.map PyData.int).length : Int) := of_decide_eq_true h
      walk_at "go"
      have h2 := Int.emod_nonneg k (b := ((ns.map PyData.int).length : Int)) (by omega)
      have h3 := Int.emod_lt_of_pos k h
      obtain ⟨x, e1, e2⟩ := atI_of_lt h2 h3
      rw [List.getElem?_map] at e1
      cases z : ns[(k % ((ns.map PyData.int).length : Int)).toNat]? with
      | none => rw [z] at e1; cases e1
      | some y =>
        rw [z] at e1; cases e1
        walk_at "go"
        refine hK _ ⟨y % 2305843009213693951, ?_, rfl⟩
        have := Int.emod_nonneg y (b := 2305843009213693951) (by decide)
        have := Int.emod_lt_of_pos y (b := 2305843009213693951) (by decide)
        omega
    · walk_at "go"
      exact hK _ ⟨0, by decide, rfl⟩
  · rintro e ⟨z, hz, rfl⟩
    have a1 : CMulX z 48271 := mulx (small_lt hz (by decide)) (by decide)
    have hk : k.natAbs < 2 ^ 100 := by omega
    have a2 : CMulX k k := mulx (small_lt hk (by decide)) (small_lt hk (by decide))
    have a3 : CMulX (k * k) 40692 := mulx (small_lt (natAbs_mul_lt hk hk) (by decide)) (by decide)
    have a4 : CMulX 7 k := mulx (by decide) (small_lt hk (by decide))
    have b1 := Int.emod_nonneg (z * 48271 + k * k * 40692 + 7 * k + 11) (b := 2147483647) (by decide)
    have b2 := Int.emod_lt_of_pos (z * 48271 + k * k * 40692 + 7 * k + 11) (b := 2147483647) (by decide)
    have a5 : CMulX ((z * 48271 + k * k * 40692 + 7 * k + 11) % 2147483647) 1181783497276652981 := mulx (small_lt (a := 31) (by omega) (by decide)) (by decide)
    walk_at "go"
    exact q _ (Int.emod_nonneg _ (by decide)) (Int.emod_lt_of_pos _ (by decide))
/-! ### _law_cell_at -/

def t_law_cell_at : DTS := (dSeq (dIfS (dTst (dBin fLt (dNm 1) (dCall gLen (dCons (dNm 0) dNil)))) (dRet (dFz (dIx (dNm 0) (dNm 1)))) dNext)
  (dRet (dCallF fd_law_mixed (dCons (dNm 0) (dCons (dNm 1) dNil)))))
abbrev tv_law_cell_at : List Nat := []

def fd_law_cell_at : FD := fun ds QD _ => ∃ (ns : List Int) (k : Int), ds = [.p (scrP ns), .p (.int k)] ∧ 0 ≤ k ∧ k < 2 ^ 100 ∧ ∀ r : Int, QD (.p (.int r)) ds
theorem hn_law_cell_at (ds : List D) (Q E) (h : fd_law_cell_at ds Q E) : ds.length = 2 := by obtain ⟨_, _, rfl, _⟩ := h; rfl
theorem rd_law_cell_at : Body t_law_cell_at tv_law_cell_at 2 fd_law_cell_at := by
  rintro ds QD ED ⟨ns, k, rfl, h0, h1, q⟩
  unfold t_law_cell_at
  refine i_seq ?_
  refine i_ifs ?_
  walk_at "go"
  refine i_ite (fun h => ?_) (fun h => ?_)
  · have h : k < ((ns.map PyData.int).length : Int) := of_decide_eq_true h
    obtain ⟨x, e1, e2⟩ := atI_of_lt h0 h
    rw [List.getElem?_map] at e1
    cases z : ns[k.toNat]? with
    | none => rw [z] at e1; cases e1
    | some y =>
      rw [z] at e1; cases e1
      walk_at "go"
      exact q _
  · walk_at "go"
    refine cf_mk [.p (scrP ns), .p (.int k)] rfl ⟨ns, k, rfl, h0, h1, fun r _ _ => ?_⟩
    walk_at "go"
    exact q _
/-! ### _law_pen -/

def t_law_pen : DTS := (dSeq (dAsg (dCallF fd_law_cell_at (dCons (dNm 0) (dCons (dNm 1) dNil))) (gNm 2))
  (dRet (dLst (dCons (dBin fMod (dNm 2) (dK (.int 2))) (dCons (dBin fDiv (dNm 2) (dK (.int 2))) (dCons (dCall gLen (dCons (dNm 0) dNil)) (dCons (dBin fMul (dK (.int 101)) (dNm 1)) dNil)))))))
abbrev tv_law_pen : List Nat := [2]

def fd_law_pen : FD := fun ds QD _ => ∃ (ns : List Int) (k : Int), ds = [.p (scrP ns), .p (.int k)] ∧ 0 ≤ k ∧ k < 1000000 ∧ ∀ d : D, PenOk (101 * k) d → QD d ds
theorem hn_law_pen (ds : List D) (Q E) (h : fd_law_pen ds Q E) : ds.length = 2 := by obtain ⟨_, _, rfl, _⟩ := h; rfl
theorem rd_law_pen : Body t_law_pen tv_law_pen 3 fd_law_pen := by
  rintro ds QD ED ⟨ns, k, rfl, h0, h1, q⟩
  have a1 : CMulX 101 k := mulx (by decide) (small_lt (a := 20) (by omega) (by decide))
  have a2 : ∀ r : Int, CDivW r 2 := fun r => ⟨by decide, by decide⟩
  unfold t_law_pen
  walk_at "go"
  refine cf_mk [.p (scrP ns), .p (.int k)] rfl ⟨ns, k, rfl, h0, by omega, fun r => ?_⟩
  have a3 := a2 r
  walk_at "go"
  exact q _ ⟨_, _, _, _, rfl, by omega, by omega⟩

/-! ### _law_take -/

def t_law_take : DTS := (dSeq (dIfS (dTst (dBin fEq (dIx (dNm 0) (dK (.int 0))) (dK (.int 0)))) (dSeq (dAsg (dBin fMod (dIx (dNm 0) (dK (.int 1))) (dNm 1)) (gNm 2))
  (dSeq (dSetL (dBin fDiv (dIx (dNm 0) (dK (.int 1))) (dNm 1)) (dNm 0) (dK (.int 1)))
  (dRet (dMv (dNm 2))))) dNext)
  (dSeq (dSetL (dBin fAdd (dIx (dNm 0) (dK (.int 3))) (dK (.int 1))) (dNm 0) (dK (.int 3)))
  (dSeq (dAsg (dFz (dIx (dNm 0) (dK (.int 3)))) (gNm 3))
  (dSeq (dAsg (dBin fMul (dBin fMod (dIx (dNm 0) (dK (.int 1))) (dK (.int 2305843009213693951))) (dK (.int 48271))) (gNm 4))
  (dSeq (dAsg (dBin fMod (dBin fAdd (dBin fAdd (dBin fAdd (dNm 4) (dBin fMul (dBin fMul (dNm 3) (dNm 3)) (dK (.int 40692)))) (dBin fMul (dK (.int 7)) (dNm 3))) (dK (.int 11))) (dK (.int 2147483647))) (gNm 4))
  (dRet (dBin fMod (dBin fDiv (dBin fMod (dBin fMul (dNm 4) (dK (.int 1181783497276652981))) (dK (.int 2305843009213693951))) (dK (.int 64))) (dNm 1))))))))
abbrev tv_law_take : List Nat := [2, 3, 4, 4]

def fd_law_take : FD := fun ds QD _ => ∃ (d : D) (s b : Int), ds = [d, .p (.int s)] ∧ PenOk b d ∧ b < 2 ^ 60 ∧ 0 < s ∧ s < 2 ^ 200 ∧ ∀ (r : Int) (d' : D), 0 ≤ r → r < s → PenOk (b + 1) d' → QD (.p (.int r)) [d', .p (.int s)]
theorem hn_law_take (ds : List D) (Q E) (h : fd_law_take ds Q E) : ds.length = 2 := by obtain ⟨_, _, _, rfl, _⟩ := h; rfl
theorem rd_law_take : Body t_law_take tv_law_take 5 fd_law_take := by
  rintro ds QD ED ⟨d, s, b, rfl, ⟨m, num, len, at', rfl, h1, h2⟩, h3, h4, h5, q⟩
  have cs : CDivW num s := ⟨h4, Nat.lt_of_le_of_lt (log2_le (k := 200) (by omega)) (by decide)⟩
  unfold t_law_take
  refine i_seq ?_
  refine i_ifs ?_
  walk_at "go"
  refine i_ite (fun h => ?_) (fun h => ?_)
  · walk_at "go"
    exact q _ _ (Int.emod_nonneg _ (by omega)) (Int.emod_lt_of_pos _ h4) ⟨m, _, len, at', rfl, h1, by omega⟩
  · have ha : (at' + 1).natAbs < 2 ^ 61 := by omega
    have m0 := Int.emod_nonneg num (b := 2305843009213693951) (by decide)
    have m1 := Int.emod_lt_of_pos num (b := 2305843009213693951) (by decide)
    have a1 : CMulX (num % 2305843009213693951) 48271 := mulx (small_lt (a := 62) (by omega) (by decide)) (by decide)
    have a2 : CMulX (at' + 1) (at' + 1) := mulx (small_lt ha (by decide)) (small_lt ha (by decide))
    have a3 : CMulX ((at' + 1) * (at' + 1)) 40692 := mulx (small_lt (natAbs_mul_lt ha ha) (by decide)) (by decide)
    have a4 : CMulX 7 (at' + 1) := mulx (by decide) (small_lt ha (by decide))
    obtain ⟨g, hg⟩ : ∃ g, g = (num % 2305843009213693951 * 48271 + (at' + 1) * (at' + 1) * 40692 + 7 * (at' + 1) + 11) % 2147483647 := ⟨_, rfl⟩
    have g0 : 0 ≤ g := by rw [hg]; exact Int.emod_nonneg _ (by decide)
    have g1 : g < 2147483647 := by rw [hg]; exact Int.emod_lt_of_pos _ (by decide)
    have a5 : CMulX g 1181783497276652981 := mulx (small_lt (a := 31) (by omega) (by decide)) (by decide)
    have a6 : CDivW (g * 1181783497276652981 % 2305843009213693951) 64 := ⟨by decide, by decide⟩
    rw [hg] at a5 a6
    walk_at "go"
    exact q _ _ (Int.emod_nonneg _ (by omega)) (Int.emod_lt_of_pos _ h4) ⟨m, _, len, at' + 1, rfl, by omega, by omega⟩
/-! ### _law_rule -/

def t_law_rule : DTS := (dSeq (dAsg (dBin fAdd (dK (.int 1)) (dCallF fd_law_take (dCons (dNm 0) (dCons (dK (.int 10)) dNil)))) (gNm 1))
  (dSeq (dAsg (dCall gTuple (dCons (dLc (diRange (dCons (dNm 1) dNil)) (gNm 5) dYes (dCallF fd_law_take (dCons (dNm 0) (dCons (dK (.int 10)) dNil))) [5]) dNil)) (gNm 2))
  (dSeq (dAsg (dIx (dLst (dCons (dK (.int 10007)) (dCons (dK (.int 30)) dNil))) (dCallF fd_law_take (dCons (dNm 0) (dCons (dK (.int 2)) dNil)))) (gNm 3))
  (dSeq (dAsg (dCall gTuple (dCons (dLc (diRange (dCons (dBin fAdd (dK (.int 2)) (dCallF fd_law_take (dCons (dNm 0) (dCons (dK (.int 2)) dNil)))) dNil)) (gNm 5) dYes (dTup (dCons (dCallF fd_law_take (dCons (dNm 0) (dCons (dNm 3) dNil))) (dCons (dCallF fd_law_take (dCons (dNm 0) (dCons (dNm 3) dNil))) dNil))) [5]) dNil)) (gNm 4))
  (dRet (dTupM (dCons (dNm 2) (dCons (dNm 4) dNil))))))))
abbrev tv_law_rule : List Nat := [1, 2, 3, 4]

def fd_law_rule : FD := fun ds QD _ => ∃ (d : D) (b : Int), ds = [d] ∧ PenOk b d ∧ b < 2 ^ 59 ∧ ∀ (r : Rule) (d' : D), RuleOk r → PenOk (b + 100) d' → QD (.p (encR r)) [d']
theorem hn_law_rule (ds : List D) (Q E) (h : fd_law_rule ds Q E) : ds.length = 1 := by obtain ⟨_, _, rfl, _⟩ := h; rfl
theorem rd_law_rule : Body t_law_rule tv_law_rule 6 fd_law_rule := by
  rintro ds QD ED ⟨d, b, rfl, hp, hb, q⟩
  unfold t_law_rule
  walk_at "go"
  refine cf_mk [d, .p (.int 10)] rfl ⟨d, 10, b, rfl, hp, by omega, by decide, by decide, fun m d3 m0 m1 hp3 => ?_⟩
  have hr : (rangeP 0 (1 + m).toNat).length = (1 + m).toNat := by unfold rangeP; rw [List.length_map, List.length_range]
  walk_at "go"
  refine lc_takes (T := PenOk) PenOk.mono 10 (fun d => [d, .p (.int (1 + m)), .hole, .hole, .hole, .hole]) _ d3 (by rw [hr]; omega) rfl hp3 (fun x d4 b4 W acc hp4 hb4 hW => ?_) (fun rs0 d4 hl hrs hp4 => ?_)
  · rw [hr] at hb4
    walk_at "go"
    refine cf_mk [d4, .p (.int 10)] rfl ⟨d4, 10, _, rfl, hp4, by omega, by omega, by omega, fun r d5 r0 r1' hp5 => ?_⟩
    have := hW r d5 r0 r1' hp5
    walk_at "go"
    exact this
  · rw [hr] at hl hp4
    have e7 : natsD rs0 = ((rs0.map fun (n : Nat) => (n : Int)).map PyData.int).map D.p := by rw [nats_ints]
    rw [e7]
    walk_at "go"
    refine cf_mk [d4, .p (.int 2)] rfl ⟨d4, 2, _, rfl, hp4, by omega, by decide, by decide, fun fd d5 k0 k1 hp5 => ?_⟩
    obtain ⟨fs, e4, l4, u4⟩ : ∃ n : Int, atI [D.p (.int 10007), D.p (.int 30)] fd = some (.p (.int n)) ∧ 0 < n ∧ n ≤ 10007 := by
      rcases (by omega : fd = 0 ∨ fd = 1) with h | h <;> subst h
      · exact ⟨10007, rfl, by decide, by decide⟩
      · exact ⟨30, rfl, by decide, by decide⟩
    walk_at "go"
    refine cf_mk [d5, .p (.int 2)] rfl ⟨d5, 2, _, rfl, hp5, by omega, by decide, by decide, fun wy d6 k0 k1 hp6 => ?_⟩
    have hr2 : (rangeP 0 (2 + wy).toNat).length = (2 + wy).toNat := by unfold rangeP; rw [List.length_map, List.length_range]
    walk_at "go"
    refine lc_drawn (T := PenOk) PenOk.mono wayT WayOk (fun d => [d, .p (.int (1 + m)), .p (.tuple ((rs0.map fun (n : Nat) => (n : Int)).map PyData.int)), .p (.int fs), .hole, .hole]) _ d6 (by rw [hr2]; omega) rfl hp6 (fun x d7 b7 W acc hp7 hb7 hW => ?_) (fun wl d7 hl2 hws hp7 => ?_)
    · rw [hr2] at hb7
      walk_at "go"
      refine cf_mk [d7, .p (.int fs)] rfl ⟨d7, fs, _, rfl, hp7, by omega, by omega, by omega, fun p1 d8 r0 r1' hp8 => ?_⟩
      walk_at "go"
      refine cf_mk [d8, .p (.int fs)] rfl ⟨d8, fs, _, rfl, hp8, by omega, by omega, by omega, fun p2 d9 s0 s1' hp9 => ?_⟩
      have := hW (p1, p2) d9 ⟨r0, by show p1 ≤ 10006; omega, s0, by show p2 ≤ 10006; omega⟩ (hp9.mono (by omega))
      walk_at "go"
      exact this
    · rw [hr2] at hl2 hp7
      walk_at "go"
      refine q ⟨rs0.map fun (n : Nat) => (n : Int), wl⟩ d7 ⟨⟨by show 1 ≤ (rs0.map _).length; rw [List.length_map]; omega, by show (rs0.map _).length ≤ 10; rw [List.length_map]; omega, fun x hx => ?_⟩, by show 2 ≤ wl.length; omega, by show wl.length ≤ 3; omega, hws⟩ (hp7.mono (by omega))
      obtain ⟨n, hn, rfl⟩ := List.mem_map.mp hx
      have := hrs n hn
      omega

/-! ### _law_web -/

def t_law_web : DTS := (dSeq (dAsg (dBin fAdd (dK (.int 1)) (dCallF fd_law_take (dCons (dNm 0) (dCons (dK (.int 6)) dNil)))) (gNm 2))
  (dSeq (dIfS (dTst (dBin fEq (dCallF fd_law_take (dCons (dNm 0) (dCons (dK (.int 8)) dNil))) (dK (.int 5)))) (dAsg (dBin fAdd (dK (.int 7)) (dCallF fd_law_take (dCons (dNm 0) (dCons (dK (.int 4)) dNil)))) (gNm 2)) dNext)
  (dSeq (dAsg (dCallF fd_law_take (dCons (dNm 0) (dCons (dK (.int 4)) dNil))) (gNm 3))
  (dSeq (dAsg (dCall gTuple (dCons (dLc (diRange (dCons (dNm 2) dNil)) (gNm 7) dYes (dIx (dLst (dCons (dCallF fd_law_take (dCons (dNm 0) (dCons (dK (.int 3)) dNil))) (dCons (dK (.int 1)) (dCons (dCallF fd_law_take (dCons (dNm 0) (dCons (dK (.int 10)) dNil))) (dCons (dCallF fd_law_take (dCons (dNm 0) (dCons (dK (.int 2)) dNil))) dNil))))) (dNm 3)) [7]) dNil)) (gNm 4))
  (dSeq (dAsg (dCallF fd_law_take (dCons (dNm 0) (dCons (dBin fAdd (dNm 1) (dK (.int 1))) dNil))) (gNm 5))
  (dSeq (dAsg (dLst dNil) (gNm 6))
  (dSeq (dFor (diRange (dCons (dNm 5) dNil)) (gNm 7) (dSeq (dAsg (dLst (dCons (dCallF fd_law_take (dCons (dNm 0) (dCons (dNm 2) dNil))) (dCons (dCallF fd_law_take (dCons (dNm 0) (dCons (dNm 2) dNil))) dNil))) (gNm 8))
  (dSeq (dIfS (dTst (dBin fEq (dCallF fd_law_take (dCons (dNm 0) (dCons (dK (.int 3)) dNil))) (dK (.int 1)))) (dDrop (dMut mAppend (dNm 8) (dCons (dCallF fd_law_take (dCons (dNm 0) (dCons (dNm 2) dNil))) dNil))) dNext)
  (dDrop (dMut mAppend (dNm 6) (dCons (dCall gTuple (dCons (dNm 8) dNil)) dNil))))))
  (dRet (dTupM (dCons (dNm 4) (dCons (dCall gTuple (dCons (dNm 6) dNil)) dNil)))))))))))
abbrev tv_law_web : List Nat := [2, 2, 3, 4, 5, 6, 7, 8]

def fd_law_web : FD := fun ds QD _ => ∃ (d : D) (lim b : Int), ds = [d, .p (.int lim)] ∧ PenOk b d ∧ b < 2 ^ 59 ∧ 0 ≤ lim ∧ lim ≤ 100 ∧ ∀ (w : Web) (d' : D), WebOk lim.toNat w → (∀ r ∈ w.rooms, r < 10) → PenOk (b + 1000) d' → QD (.p (encW w)) [d', .p (.int lim)]
theorem hn_law_web (ds : List D) (Q E) (h : fd_law_web ds Q E) : ds.length = 2 := by obtain ⟨_, _, _, rfl, _⟩ := h; rfl
theorem rd_law_web : Body t_law_web tv_law_web 9 fd_law_web := by
  rintro ds QD ED ⟨d, lim, b, rfl, hp, hb, l0, l1, q⟩
  unfold t_law_web
  walk_at "go"
  refine cf_mk [d, .p (.int 6)] rfl ⟨d, 6, b, rfl, hp, by omega, by decide, by decide, fun r1 d1 a1 a2 hp1 => ?_⟩
  walk_at "go"
  refine i_cut (fun e => ∃ (m : Int) (d2 : D), 1 ≤ m ∧ m ≤ 10 ∧ PenOk (b + 3) d2 ∧ e = [d2, .p (.int lim), .p (.int m), .hole, .hole, .hole, .hole, .hole, .hole]) (fun K hK => ?_) ?_
  · walk_at "go"
    refine cf_mk [d1, .p (.int 8)] rfl ⟨d1, 8, b + 1, rfl, hp1, by omega, by decide, by decide, fun r2 d2 b1 b2 hp2 => ?_⟩
    walk_at "go"
    refine i_ite (fun h => ?_) (fun h => ?_)
    · walk_at "go"
      refine cf_mk [d2, .p (.int 4)] rfl ⟨d2, 4, b + 1 + 1, rfl, hp2, by omega, by decide, by decide, fun r3 d3 c1 c2 hp3 => ?_⟩
      walk_at "go"
      exact hK _ ⟨7 + r3, d3, by omega, by omega, hp3.mono (by omega), rfl⟩
    · walk_at "go"
      exact hK _ ⟨1 + r1, d2, by omega, by omega, hp2.mono (by omega), rfl⟩
  · rintro e ⟨m, d2, m1, m2, hp2, rfl⟩
    walk_at "go"
    refine cf_mk [d2, .p (.int 4)] rfl ⟨d2, 4, b + 3, rfl, hp2, by omega, by decide, by decide, fun kd d3 k0 k1 hp3 => ?_⟩
    walk_at "go"
    refine lc_mk (fun i acc e => ∃ (rs : List Int) (d4 : D), rs.length = i ∧ (∀ r ∈ rs, 0 ≤ r ∧ r < 10) ∧ PenOk (b + 4 + 3 * i) d4 ∧ acc = (rs.map PyData.int).map D.p ∧ e = [d4, .p (.int lim), .p (.int m), .p (.int kd), .hole, .hole, .hole, .hole, .hole]) ?_ ⟨[], d3, rfl, (fun _ h => nomatch h), hp3.mono (by omega), rfl, rfl⟩ (fun i x acc e hx ⟨rs, d4, e1, e2, hp4, e3, e4⟩ => ?_) (fun acc e ⟨rs, d4, e1, e2, hp4, e3, e4⟩ => ?_)
    · unfold rangeP; rw [List.length_map, List.length_range]; omega
    · have hi : (i : Int) < 10 := by
        rw [rangeP_get] at hx
        split at hx
        · omega
        · cases hx
      subst e3 e4
      walk_at "go"
      refine cf_mk [d4, .p (.int 3)] rfl ⟨d4, 3, _, rfl, hp4, by omega, by decide, by decide, fun r1 d5 b1 b2 hp5 => ?_⟩
      walk_at "go"
      refine cf_mk [d5, .p (.int 10)] rfl ⟨d5, 10, _, rfl, hp5, by omega, by decide, by decide, fun r2 d6 b3 b4 hp6 => ?_⟩
      walk_at "go"
      refine cf_mk [d6, .p (.int 2)] rfl ⟨d6, 2, _, rfl, hp6, by omega, by decide, by decide, fun r3 d7 b5 b6 hp7 => ?_⟩
      have fin : ∀ z : Int, 0 ≤ z → z < 10 → ∃ (rs' : List Int) (d4 : D), rs'.length = i + 1 ∧ (∀ r ∈ rs', 0 ≤ r ∧ r < 10) ∧ PenOk (b + 4 + 3 * ((i + 1 : Nat) : Int)) d4 ∧ (rs.map PyData.int).map D.p ++ [D.p (.int z)] = (rs'.map PyData.int).map D.p ∧ [d7, .p (.int lim), .p (.int m), .p (.int kd), .hole, .hole, .hole, .hole, .hole] = [d4, D.p (.int lim), .p (.int m), .p (.int kd), .hole, .hole, .hole, .hole, .hole] := fun z z0 z1 =>
        ⟨rs ++ [z], d7, by rw [List.length_append, e1]; rfl, fun r hr => by
          rcases List.mem_append.mp hr with h | h
          · exact e2 r h
          · rw [List.mem_singleton.mp h]; exact ⟨z0, z1⟩, hp7.mono (by omega), by simp, rfl⟩
      rcases (by omega : kd = 0 ∨ kd = 1 ∨ kd = 2 ∨ kd = 3) with h | h | h | h <;> subst h
      · walk_at "go"
        exact fin _ (by omega) (by omega)
      · walk_at "go"
        exact fin _ (by omega) (by omega)
      · walk_at "go"
        exact fin _ (by omega) (by omega)
      · walk_at "go"
        exact fin _ (by omega) (by omega)
    · subst e3 e4
      have hl : rs.length ≤ 10 ∧ 1 ≤ rs.length := by
        unfold rangeP at e1
        rw [List.length_map, List.length_range] at e1
        omega
      have hl2 : (rs.length : Int) = m := by
        unfold rangeP at e1
        rw [List.length_map, List.length_range] at e1
        omega
      have hq : ((rangeP 0 m.toNat).length : Int) ≤ 10 := by
        unfold rangeP
        rw [List.length_map, List.length_range]
        omega
      walk_at "go"
      refine cf_mk [d4, .p (.int (lim + 1))] rfl ⟨d4, lim + 1, _, rfl, hp4, by omega, by omega, by omega, fun ct d5 b1 b2 hp5 => ?_⟩
      walk_at "go"
      refine for_mk (fun i e => ∃ (ks : List (List Nat)) (d6 y7 y8 : D), WebOk i ⟨rs, ks⟩ ∧ PenOk (b + 40 + 4 * i) d6 ∧ ks.length = i ∧ e = [d6, .p (.int lim), .p (.int m), .p (.int kd), .p (.tuple (rs.map PyData.int)), .p (.int ct), .lst ((ks.map keyT).map D.p), y7, y8]) ⟨[], d5, _, _, ⟨hl.2, hl.1, fun r hr => (e2 r hr).1, (fun r hr => by have := (e2 r hr).2; omega), Nat.le_refl _, (fun _ h => nomatch h), (fun _ h => nomatch h)⟩, hp5.mono (by omega), rfl, rfl⟩ (fun i x e hx ⟨ks, d6, y7, y8, wk, hp6, kl, he⟩ => ?_) (fun e ⟨ks, d6, y7, y8, wk, hp6, kl, he⟩ => ?_)
      · have hi : (i : Int) < ct := by
          rw [rangeP_get] at hx
          split at hx
          · omega
          · cases hx
        subst he
        walk_at "go"
        refine cf_mk [d6, .p (.int m)] rfl ⟨d6, m, _, rfl, hp6, by omega, by omega, by omega, fun h1 d7 c1 c2 hp7 => ?_⟩
        walk_at "go"
        refine cf_mk [d7, .p (.int m)] rfl ⟨d7, m, _, rfl, hp7, by omega, by omega, by omega, fun h2 d8 c3 c4 hp8 => ?_⟩
        walk_at "go"
        refine i_cut (fun e => ∃ (k : List Nat) (d9 : D), (k.length = 2 ∨ k.length = 3) ∧ (∀ x ∈ k, x < rs.length) ∧ PenOk (b + 40 + 4 * i + 4) d9 ∧ e = [d9, .p (.int lim), .p (.int m), .p (.int kd), .p (.tuple (rs.map PyData.int)), .p (.int ct), .lst ((ks.map keyT).map D.p), .p x, .lst (natsD k)]) (fun K hK => ?_) ?_
        · walk_at "go"
          refine cf_mk [d8, .p (.int 3)] rfl ⟨d8, 3, _, rfl, hp8, by omega, by decide, by decide, fun r3 d9 c5 c6 hp9 => ?_⟩
          walk_at "go"
          have n1 := int_nat c1
          have n2 := int_nat c3
          refine i_ite (fun h => ?_) (fun h => ?_)
          · walk_at "go"
            refine cf_mk [d9, .p (.int m)] rfl ⟨d9, m, _, rfl, hp9, by omega, by omega, by omega, fun h3 d10 c7 c8 hp10 => ?_⟩
            walk_at "go"
            have n3 := int_nat c7
            rw [n1, n2, n3]
            refine hK _ ⟨[h1.toNat, h2.toNat, h3.toNat], d10, .inr rfl, fun x hx => ?_, hp10.mono (by omega), rfl⟩
            simp only [List.mem_cons, List.not_mem_nil, or_false] at hx
            omega
          · walk_at "go"
            rw [n1, n2]
            refine hK _ ⟨[h1.toNat, h2.toNat], d9, .inl rfl, fun x hx => ?_, hp9.mono (by omega), rfl⟩
            simp only [List.mem_cons, List.not_mem_nil, or_false] at hx
            omega
        · rintro e ⟨k, d9, k2, kh, hp9, rfl⟩
          have ll : ((ks.map keyT).map D.p).length < 1000000 := by
            rw [List.length_map, List.length_map, kl]; omega
          walk_at "go"
          exact ⟨ks ++ [k], d9, _, _, wk.snoc k2 kh, hp9.mono (by omega), by rw [List.length_append, kl]; rfl, by rw [List.map_append, List.map_append]; rfl⟩
      · subst he
        have cl : (ct.toNat : Int) ≤ 100 := by omega
        walk_at "go"
        have hz : (rangeP 0 ct.toNat).length = ct.toNat := by unfold rangeP; rw [List.length_map, List.length_range]
        rw [hz] at wk hp6
        exact q ⟨rs, ks⟩ d6 { wk with kn := Nat.le_trans wk.kn (by omega) } (fun r hr => (e2 r hr).2) (hp6.mono (by omega))

/-! ### numbers_shown -/

def t_numbers_shown : DTS := (dRet (dJoin (dK (.str (PySem.Str.ofString ","))) (dLc (diSeq (dNm 0)) (gNm 1) dYes (dCall gStr (dCons (dNm 1) dNil)) [1])))
abbrev tv_numbers_shown : List Nat := []

def fd_numbers_shown : FD := fun ds QD _ => ∃ (ns : List Nat) (d : D), ds = [d] ∧ (d = .p (.tuple (natsP ns)) ∨ d = .lst (natsD ns)) ∧ ns.length ≤ 100 ∧ (∀ n ∈ ns, n < 10 ^ 60) ∧ QD (.p (.str (numsT ns))) ds
theorem hn_numbers_shown (ds : List D) (Q E) (h : fd_numbers_shown ds Q E) : ds.length = 1 := by obtain ⟨_, _, rfl, _⟩ := h; rfl
theorem rd_numbers_shown : Body t_numbers_shown tv_numbers_shown 2 fd_numbers_shown := by
  rintro ds QD ED ⟨ns, d, rfl, hd, hl, hb, q⟩
  unfold t_numbers_shown
  rcases hd with rfl | rfl
  all_goals
    walk_at "go"
    refine lc_all natP ns _ (fun n => PyData.str (numT n)) rfl (by omega) rfl (fun i n W acc hi hw => ?_) ?_
    · have l0 := log_60 (hb n (List.mem_of_getElem? hi))
      walk_at "go"
      exact hw
    · have es : strsP (ns.map fun n => PyData.str (numT n)) = some (ns.map numT) := by
        have := strsP_map (ns.map numT)
        rw [List.map_map] at this
        exact this
      have sl := sum_len (ys := ns.map numT) (b := 60) fun y hy => by
        obtain ⟨n, hn, rfl⟩ := List.mem_map.mp hy
        exact numT_len (hb n hn)
      rw [List.length_map] at sl
      walk_at "go"
      refine k_join (xs := ns.map fun n => PyData.str (numT n)) (ns.map numT) (by exact pys_map _) es ?_ ?_
      · rw [List.length_map]
        have e : (PySem.Str.ofString ",").length = 1 := rfl
        rw [e]
        omega
      walk_at "go"
      exact q
/-! ### show_rule -/

def t_show_rule : DTS := (dSeq (dAsg (dFz (dNm 0)) (gTu 2 (gCn (gNm 1) (gCn (gNm 2) gNl))))
  (dRet (dJoin (dK (.str (PySem.Str.ofString " "))) (dBin fAdd (dLst (dCons (dCallF fd_numbers_shown (dCons (dNm 1) dNil)) dNil)) (dLc (diSeq (dNm 2)) (gNm 3) dYes (dCallF fd_numbers_shown (dCons (dNm 3) dNil)) [3])))))
abbrev tv_show_rule : List Nat := [1, 2]

def fd_show_rule : FD := fun ds QD _ => ∃ r : Rule, ds = [.p (encR r)] ∧ RuleOk r ∧ QD (.p (.str (ruleT r))) ds
theorem hn_show_rule (ds : List D) (Q E) (h : fd_show_rule ds Q E) : ds.length = 1 := by obtain ⟨_, rfl, _⟩ := h; rfl
theorem rd_show_rule : Body t_show_rule tv_show_rule 4 fd_show_rule := by
  rintro ds QD ED ⟨r, rfl, ok, q⟩
  have hw := ok.w2
  have hr := ok.rooms.r2
  have lr : (natL r.rooms).length = r.rooms.length := List.length_map _
  have er := natL_enc (rooms_nn ok)
  unfold t_show_rule
  walk_at "go"
  rw [er]
  refine cf_mk [.p (.tuple (natsP (natL r.rooms)))] rfl ⟨_, _, rfl, .inl rfl, by omega, natL_small ok, ?_⟩
  walk_at "go"
  refine lc_all wayT r.ways _ (fun p => PyData.str (numsT (wayN p))) rfl (by omega) rfl (fun i p W acc hi hw => ?_) ?_
  · have wok := ok.ways p (List.mem_of_getElem? hi)
    have we := wayN_enc wok
    walk_at "go"
    rw [we]
    refine cf_mk [.p (.tuple (natsP (wayN p)))] rfl ⟨_, _, rfl, .inl rfl, (show 2 ≤ 100 by decide), wayN_small wok, ?_⟩
    rw [← we]
    walk_at "go"
    exact hw
  · have sz := sz640
    have es : strsP (PyData.str (numsT (natL r.rooms)) :: r.ways.map fun p => PyData.str (numsT (wayN p))) = some (ruleP r) := by
      have := strsP_map (ruleP r)
      unfold ruleP at this ⊢
      rw [List.map_cons, List.map_map] at this
      exact this
    walk_at "go"
    refine f_addL (xs := [PyData.str (numsT (natL r.rooms))]) (ys := r.ways.map fun p => PyData.str (numsT (wayN p))) rfl rfl (by rw [List.length_map]; show 1 + _ ≤ _; omega) ?_
    walk_at "go"
    refine k_join (xs := PyData.str (numsT (natL r.rooms)) :: r.ways.map fun p => PyData.str (numsT (wayN p))) (ruleP r) (by exact pys_map (_ :: _)) es ?_ ?_
    · have := ruleP_size ok
      have e : (PySem.Str.ofString " ").length = 1 := rfl
      rw [e]; omega
    walk_at "go"
    rw [← er]
    exact q
/-! ### show_web -/

def t_show_web : DTS := (dSeq (dAsg (dFz (dNm 0)) (gTu 2 (gCn (gNm 1) (gCn (gNm 2) gNl))))
  (dSeq (dAsg (dLst (dCons (dCallF fd_numbers_shown (dCons (dNm 1) dNil)) dNil)) (gNm 3))
  (dSeq (dFor (diSeq (dNm 2)) (gNm 4) (dDrop (dMut mAppend (dNm 3) (dCons (dJoin (dK (.str (PySem.Str.ofString " "))) (dLc (diSeq (dNm 4)) (gNm 5) dYes (dIx (dK (.str (PySem.Str.ofString "abcdefghij"))) (dNm 5)) [5])) dNil))))
  (dRet (dJoin (dK (.str (PySem.Str.ofString "; "))) (dNm 3))))))
abbrev tv_show_web : List Nat := [1, 2, 3, 4]

def fd_show_web : FD := fun ds QD _ => ∃ w : Web, ds = [.p (encW w)] ∧ Web9 w ∧ QD (.p (.str (webT w))) ds
theorem hn_show_web (ds : List D) (Q E) (h : fd_show_web ds Q E) : ds.length = 1 := by obtain ⟨_, rfl, _⟩ := h; rfl
theorem rd_show_web : Body t_show_web tv_show_web 6 fd_show_web := by
  rintro ds QD ED ⟨w, rfl, ok, q⟩
  have hkn := ok.ok.kn
  have hr := ok.ok.r2
  have sz := sz640
  have lr : (natL w.rooms).length = w.rooms.length := List.length_map _
  have er := natL_enc (xs := w.rooms) ok.ok.nn
  unfold t_show_web
  walk_at "go"
  rw [er]
  refine cf_mk [.p (.tuple (natsP (natL w.rooms)))] rfl ⟨_, _, rfl, .inl rfl, by omega, ok.small, ?_⟩
  rw [← er]
  walk_at "go"
  refine for_mk (fun i e => ∃ (y4 : D), e = [.p (encW w), .p (.tuple (w.rooms.map PyData.int)), .p (.tuple (w.keys.map keyT)), .lst (((numsT (natL w.rooms) :: (w.keys.take i).map keyS).map PyData.str).map D.p), y4, .hole]) ⟨_, rfl⟩ (fun i x e hx ⟨y4, he⟩ => ?_) (fun e ⟨y4, he⟩ => ?_)
  · subst he
    rw [List.getElem?_map] at hx
    cases z : w.keys[i]? with
    | none => rw [z] at hx; cases hx
    | some k =>
      rw [z] at hx; cases hx
      have km := List.mem_of_getElem? z
      have k3 : k.length ≤ 3 := by rcases ok.ok.k2 k km with e | e <;> omega
      have n1 : (((numsT (natL w.rooms) :: (w.keys.take i).map keyS).map PyData.str).map D.p).length < 1000000 := by
        rw [List.length_map, List.length_map, List.length_cons, List.length_map, List.length_take]; omega
      walk_at "go"
      refine lc_all natP k _ (fun n => PyData.str (letT n)) rfl (by omega) rfl (fun i2 n W acc hi2 hw => ?_) ?_
      · have hn := ok.home km n (List.mem_of_getElem? hi2)
        walk_at "go"
        refine x_S rfl rfl let_sz (let_at hn) ?_
        walk_at "go"
        exact hw
      walk_at "go"
      refine k_join (xs := k.map fun n => PyData.str (letT n)) (k.map letT) (by exact pys_map _) (keyS_strs k) (by rw [bl_len]; exact keyS_size k3) ?_
      walk_at "go"
      refine ⟨n1, ?_⟩
      walk_at "go"
      refine ⟨.p (keyT k), ?_⟩
      rw [List.take_add_one, z]
      simp only [Option.toList_some, List.map_append, List.map_cons, List.map_nil, List.cons_append]
      rfl
  · subst he
    rw [List.length_map, List.take_length]
    walk_at "go"
    refine k_join (xs := (webPs w).map PyData.str) (webPs w) (by exact pys_map _) (strsP_map _) (by have := webPs_size ok; rw [sem_len]; omega) ?_
    walk_at "go"
    exact q
/-! ### _law_bad_rule -/

def t_law_bad_rule : DTS := (dSeq (dAsg (dSplit (dNm 1) (dK (.str (PySem.Str.ofString " ")))) (gNm 2))
  (dSeq (dAsgL 2 (dSl (dNm 2) dNoP (dSoP (dK (.int 2)))) (gCn (gNm 3) (gCn (gNm 4) gNl)))
  (dSeq (dAsg (dJoin (dK (.str (PySem.Str.ofString " "))) (dSl (dNm 2) (dSoP (dK (.int 1))) dNoP)) (gNm 5))
  (dSeq (dAsg (dSplit (dNm 3) (dK (.str (PySem.Str.ofString ",")))) (gNm 6))
  (dSeq (dAsg (dLst (dCons (dBin fAdd (dBin fAdd (dNm 3) (dK (.str (PySem.Str.ofString ", ")))) (dNm 5)) (dCons (dBin fAdd (dBin fAdd (dBin fAdd (dK (.str (PySem.Str.ofString "0"))) (dNm 3)) (dK (.str (PySem.Str.ofString " ")))) (dNm 5)) (dCons (dBin fAdd (dBin fAdd (dBin fAdd (dK (.str (PySem.Str.ofString "-1,"))) (dNm 3)) (dK (.str (PySem.Str.ofString " ")))) (dNm 5)) (dCons (dBin fAdd (dK (.str (PySem.Str.ofString "10 "))) (dNm 5)) (dCons (dBin fAdd (dK (.str (PySem.Str.ofString " "))) (dNm 5)) dNil)))))) (gNm 7))
  (dSeq (dAsg (dBin fAdd (dNm 7) (dLst (dCons (dJoin (dK (.str (PySem.Str.ofString " "))) (dLst (dCons (dBin fAdd (dBin fMulS (dK (.str (PySem.Str.ofString "1,"))) (dK (.int 10))) (dK (.str (PySem.Str.ofString "1")))) (dCons (dFz (dNm 5)) dNil)))) (dCons (dFz (dNm 3)) (dCons (dBin fAdd (dBin fAdd (dNm 3) (dK (.str (PySem.Str.ofString " ")))) (dNm 4)) (dCons (dBin fAdd (dNm 1) (dK (.str (PySem.Str.ofString " ")))) (dCons (dBin fAdd (dK (.str (PySem.Str.ofString " "))) (dNm 1)) (dCons (dBin fAdd (dNm 1) (dK (.str (PySem.Str.ofString " 3")))) dNil)))))))) (gNm 7))
  (dSeq (dAsg (dBin fAdd (dNm 7) (dLst (dCons (dBin fAdd (dBin fAdd (dNm 3) (dK (.str (PySem.Str.ofString "  ")))) (dNm 5)) (dCons (dBin fAdd (dBin fAdd (dBin fAdd (dBin fAdd (dNm 3) (dK (.str (PySem.Str.ofString " ")))) (dNm 4)) (dK (.str (PySem.Str.ofString ",3 ")))) (dNm 5)) (dCons (dBin fAdd (dNm 1) (dK (.str (PySem.Str.ofString " 3,10007")))) (dCons (dBin fAdd (dNm 1) (dK (.str (PySem.Str.ofString " 03,4")))) dNil)))))) (gNm 7))
  (dSeq (dDrop (dMut mAppend (dNm 7) (dCons (dBin fAdd (dNm 1) (dK (.str (PySem.Str.ofString " 3,-0")))) dNil)))
  (dSeq (dAsg (dBin fAdd (dNm 7) (dLst (dCons (dBin fAdd (dNm 3) (dK (.str (PySem.Str.ofString " 1,2 3,4 5,6 7,8")))) (dCons (dBin fAdd (dBin fAdd (dBin fAdd (dNm 1) (dK (.str (PySem.Str.ofString " 1")))) (dBin fMulS (dK (.str (PySem.Str.ofString "0"))) (dK (.int 60)))) (dK (.str (PySem.Str.ofString ",4")))) (dCons (dBin fAdd (dNm 3) (dK (.str (PySem.Str.ofString " 3, 4 5,6")))) (dCons (dJoin (dK (.str (PySem.Str.ofString ","))) (dNm 2)) (dCons (dK (.str (PySem.Str.ofString ""))) dNil))))))) (gNm 7))
  (dSeq (dAsg (dBin fAdd (dNm 7) (dLst (dCons (dRepl (PySem.Str.ofString ",") (PySem.Str.ofString ";") (dNm 1)) (dCons (dBin fAdd (dNm 1) (dK (.str (PySem.Str.ofString ",")))) (dCons (dJoin (dK (.str (PySem.Str.ofString " "))) (dLst (dCons (dBin fAdd (dJoin (dK (.str (PySem.Str.ofString ";"))) (dNm 6)) (dK (.str (PySem.Str.ofString ";")))) (dCons (dMv (dNm 5)) dNil)))) (dCons (dBin fAdd (dK (.str (PySem.Str.ofString "+"))) (dNm 1)) dNil)))))) (gNm 7))
  (dRet (dMv (dNm 7)))))))))))))
abbrev tv_law_bad_rule : List Nat := [2, 3, 4, 5, 6, 7, 7, 7, 7, 7]

def fd_law_bad_rule : FD := fun ds QD _ => ∃ r : Rule, ds = [.p (encR r), .p (.str (ruleT r))] ∧ RuleOk r ∧ ∀ L : List Str, BadL BadRT 25 L → QD (.lst ((L.map PyData.str).map D.p)) ds
theorem hn_law_bad_rule (ds : List D) (Q E) (h : fd_law_bad_rule ds Q E) : ds.length = 2 := by obtain ⟨_, rfl, _⟩ := h; rfl
theorem rd_law_bad_rule : Body t_law_bad_rule tv_law_bad_rule 8 fd_law_bad_rule := by
  rintro ds QD ED ⟨r, rfl, ok, q⟩
  have sz := sz640
  have tl := ruleT_len ok
  obtain ⟨p1, p2, ps, ew⟩ : ∃ p1 p2 ps, r.ways = p1 :: p2 :: ps := by
    have w1 := ok.w1
    revert w1
    cases r.ways with
    | nil => exact fun h => absurd h (by show ¬ 2 ≤ 0; decide)
    | cons p1 l =>
      cases l with
      | nil => exact fun h => absurd h (by show ¬ 2 ≤ 1; decide)
      | cons p2 ps => exact fun _ => ⟨p1, p2, ps, rfl⟩
  obtain ⟨F, eF⟩ : ∃ F, F = numsT (natL r.rooms) := ⟨_, rfl⟩
  obtain ⟨W1, e1⟩ : ∃ W1, W1 = numsT (wayN p1) := ⟨_, rfl⟩
  obtain ⟨wr, er⟩ : ∃ wr, wr = (p2 :: ps).map fun p => numsT (wayN p) := ⟨_, rfl⟩
  have eP : ruleP r = F :: W1 :: wr := by unfold ruleP; rw [ew, List.map_cons, eF, e1, er]
  have lP := ruleP_len ok
  have lF : F.length ≤ 610 := lP F (by rw [eP]; exact List.mem_cons_self)
  have lW : W1.length ≤ 610 := lP W1 (by rw [eP]; exact List.mem_cons_of_mem _ List.mem_cons_self)
  obtain ⟨R, eR⟩ : ∃ R, R = Txt.join sBl (W1 :: wr) := ⟨_, rfl⟩
  have eT : ruleT r = F ++ sBl ++ R := by unfold ruleT; rw [eP, join_cons (List.cons_ne_nil _ _), eR]
  have lR : R.length ≤ 5000 := by
    have := congrArg Str.length eT
    rw [len_append, len_append] at this
    omega
  have rne : natL r.rooms ≠ [] := fun z => by
    have h := congrArg List.length z
    unfold natL at h
    rw [List.length_map] at h
    have := ok.rooms.r1
    have h : r.rooms.length = 0 := h
    omega
  have h : RT r F W1 R wr := ⟨ok, eP, eR, eT, ⟨_, rne, eF⟩, ⟨p1, e1⟩, lF, lW, lR⟩
  have ps1 := ruleP_size ok
  rw [eP] at ps1
  obtain ⟨C, eC⟩ : ∃ C, C = Txt.split F sCom := ⟨_, rfl⟩
  obtain ⟨z1, z2⟩ := split_sizes (y := sCom) (by rw [tl_com]; exact List.cons_ne_nil _ _) com_ok F
  rw [← eC] at z1 z2
  have zs := sum_len z2
  have c1 : (PySem.Str.ofString ", ").length = 2 := rfl
  have c2 : (PySem.Str.ofString "0").length = 1 := rfl
  have c3 : (PySem.Str.ofString " ").length = 1 := rfl
  have c4 : (PySem.Str.ofString "-1,").length = 3 := rfl
  have c5 : (PySem.Str.ofString "10 ").length = 3 := rfl
  have c6 : (repS (PySem.Str.ofString "1,") (10 : Int).toNat).length = 20 := by decide +kernel
  have c7 : (PySem.Str.ofString "1").length = 1 := rfl
  have c8 : (PySem.Str.ofString " 3").length = 2 := rfl
  have c9 : (PySem.Str.ofString "  ").length = 2 := rfl
  have c10 : (PySem.Str.ofString ",3 ").length = 3 := rfl
  have c11 : (PySem.Str.ofString " 3,10007").length = 8 := rfl
  have c12 : (PySem.Str.ofString " 03,4").length = 5 := rfl
  have c13 : (PySem.Str.ofString " 3,-0").length = 5 := rfl
  have c14 : (PySem.Str.ofString " 1,2 3,4 5,6 7,8").length = 16 := rfl
  have c15 : (PySem.Str.ofString " 1").length = 2 := rfl
  have c16 : (repS (PySem.Str.ofString "0") (60 : Int).toNat).length = 60 := by decide +kernel
  have c17 : (PySem.Str.ofString ",4").length = 2 := rfl
  have c18 : (PySem.Str.ofString " 3, 4 5,6").length = 9 := rfl
  have c19 : (PySem.Str.ofString ",").length = 1 := rfl
  have c20 : (PySem.Str.ofString ";").length = 1 := rfl
  have c21 : (PySem.Str.ofString "+").length = 1 := rfl
  unfold t_law_bad_rule
  walk_at "go"
  refine k_split (b := sBl) rfl (by omega) ?_
  rw [ruleT_split, eP]
  walk_at "go"
  refine s_L (xs := (F :: W1 :: wr).map PyData.str) rfl ?_
  rw [show (2 : Int) = ((2 : Nat) : Int) from rfl, cut_takeP]
  refine (⟨rfl, ?_⟩ : _ ∧ _)
  show gCn (gNm 3) (gCn (gNm 4) gNl) [.p (.str F), .p (.str W1)] _ _
  walk_at "go"
  refine s_L (xs := (F :: W1 :: wr).map PyData.str) rfl ?_
  rw [cut_tl]
  walk_at "go"
  refine k_join (xs := (W1 :: wr).map PyData.str) (W1 :: wr) (by exact pys_map _) (strsP_map _) (by
    simp only [List.map_cons, List.sum_cons, List.length_cons] at ps1 ⊢
    rw [c3]; omega) ?_
  rw [show Txt.join (PySem.Str.ofString " ") (W1 :: wr) = R from eR.symm]
  walk_at "go"
  refine k_split (b := sCom) rfl (by omega) ?_
  rw [← eC]
  walk_at "go"
  obtain ⟨L5, a5, b5⟩ : ∃ L : List Str, L.map PyData.str = [PyData.str (F ++ PySem.Str.ofString ", " ++ R), .str (PySem.Str.ofString "0" ++ F ++ PySem.Str.ofString " " ++ R), .str (PySem.Str.ofString "-1," ++ F ++ PySem.Str.ofString " " ++ R), .str (PySem.Str.ofString "10 " ++ R), .str (PySem.Str.ofString " " ++ R)] ∧ BadL BadRT 5 L := ⟨[_, _, _, _, _], rfl, rfl, fun s hs => by
    simp only [List.mem_cons, List.not_mem_nil, or_false] at hs
    rcases hs with rfl | rfl | rfl | rfl | rfl
    · exact h.b1
    · exact h.b2
    · exact h.b3
    · exact h.b4
    · exact h.b5⟩
  have e5 : (L5.map PyData.str).map D.p = [D.p (.str (F ++ PySem.Str.ofString ", " ++ R)), .p (.str (PySem.Str.ofString "0" ++ F ++ PySem.Str.ofString " " ++ R)), .p (.str (PySem.Str.ofString "-1," ++ F ++ PySem.Str.ofString " " ++ R)), .p (.str (PySem.Str.ofString "10 " ++ R)), .p (.str (PySem.Str.ofString " " ++ R))] := by rw [a5]; rfl
  rw [← e5]
  clear e5 a5
  have n5 : L5.length = 5 := b5.len
  refine f_mulS (a := PySem.Str.ofString "1,") (k := 10) rfl rfl (by decide) ?_
  walk_at "go"
  refine k_join (xs := [.str elevT, .str R]) [elevT, R] rfl rfl (by
    have : elevT.length = 21 := by decide +kernel
    simp only [List.map_cons, List.map_nil, List.sum_cons, List.sum_nil, List.length_cons, List.length_nil]
    omega) ?_
  walk_at "go"
  refine f_addL (xs := L5.map PyData.str) (ys := [.str (Txt.join (PySem.Str.ofString " ") [elevT, R]), .str F, .str (F ++ PySem.Str.ofString " " ++ W1), .str (ruleT r ++ PySem.Str.ofString " "), .str (PySem.Str.ofString " " ++ ruleT r), .str (ruleT r ++ PySem.Str.ofString " 3")]) rfl rfl (by rw [List.length_map, n5]; show 5 + 6 ≤ _; omega) ?_
  obtain ⟨L11, a11, b11⟩ := b5.add (M := [Txt.join (PySem.Str.ofString " ") [elevT, R], F, F ++ PySem.Str.ofString " " ++ W1, ruleT r ++ PySem.Str.ofString " ", PySem.Str.ofString " " ++ ruleT r, ruleT r ++ PySem.Str.ofString " 3"]) (m := 6) rfl fun s hs => by
    simp only [List.mem_cons, List.not_mem_nil, or_false] at hs
    rcases hs with rfl | rfl | rfl | rfl | rfl | rfl
    · exact h.b6
    · exact h.b7
    · exact h.b8
    · exact h.bm (v := PySem.Str.ofString "") (TL.ext_tl (by decide)) (by decide) (sg_of (by decide)) (by decide) (by decide +kernel)
    · exact h.b10
    · exact h.bm (v := PySem.Str.ofString "3") (TL.ext_tl (by decide)) (by decide) (sg_of (by decide)) (by decide) (by decide +kernel)
  replace a11 : L11.map PyData.str = L5.map PyData.str ++ [.str (Txt.join (PySem.Str.ofString " ") [elevT, R]), .str F, .str (F ++ PySem.Str.ofString " " ++ W1), .str (ruleT r ++ PySem.Str.ofString " "), .str (PySem.Str.ofString " " ++ ruleT r), .str (ruleT r ++ PySem.Str.ofString " 3")] := a11
  rw [← a11]
  clear a11 b5 n5
  have n11 : L11.length = 11 := b11.len
  walk_at "go"
  refine f_addL (xs := L11.map PyData.str) (ys := [.str (F ++ PySem.Str.ofString "  " ++ R), .str (F ++ PySem.Str.ofString " " ++ W1 ++ PySem.Str.ofString ",3 " ++ R), .str (ruleT r ++ PySem.Str.ofString " 3,10007"), .str (ruleT r ++ PySem.Str.ofString " 03,4")]) rfl rfl (by rw [List.length_map, n11]; show 11 + 4 ≤ _; omega) ?_
  obtain ⟨L15, a15, b15⟩ := b11.add (M := [F ++ PySem.Str.ofString "  " ++ R, F ++ PySem.Str.ofString " " ++ W1 ++ PySem.Str.ofString ",3 " ++ R, ruleT r ++ PySem.Str.ofString " 3,10007", ruleT r ++ PySem.Str.ofString " 03,4"]) (m := 4) rfl fun s hs => by
    simp only [List.mem_cons, List.not_mem_nil, or_false] at hs
    rcases hs with rfl | rfl | rfl | rfl
    · exact h.b12
    · exact h.b13
    · exact h.bm (v := PySem.Str.ofString "3,10007") (TL.ext_tl (by decide)) (by decide) (sg_of (by decide)) (by decide) (by decide +kernel)
    · exact h.bm (v := PySem.Str.ofString "03,4") (TL.ext_tl (by decide)) (by decide) (sg_of (by decide)) (by decide) (by decide +kernel)
  replace a15 : L15.map PyData.str = L11.map PyData.str ++ [.str (F ++ PySem.Str.ofString "  " ++ R), .str (F ++ PySem.Str.ofString " " ++ W1 ++ PySem.Str.ofString ",3 " ++ R), .str (ruleT r ++ PySem.Str.ofString " 3,10007"), .str (ruleT r ++ PySem.Str.ofString " 03,4")] := a15
  rw [← a15]
  clear a15 b11 n11
  have n15 : L15.length = 15 := b15.len
  have m15 : ((L15.map PyData.str).map D.p).length < 1000000 := by rw [List.length_map, List.length_map]; omega
  walk_at "go"
  obtain ⟨L16, a16, b16⟩ := b15.add (M := [ruleT r ++ PySem.Str.ofString " 3,-0"]) (m := 1) rfl fun s hs => by
    rw [List.mem_singleton.mp hs]
    exact h.bm (v := PySem.Str.ofString "3,-0") (TL.ext_tl (by decide)) (by decide) (sg_of (by decide)) (by decide) (by decide +kernel)
  have e16 : (L16.map PyData.str).map D.p = (L15.map PyData.str).map D.p ++ [.p (.str (ruleT r ++ PySem.Str.ofString " 3,-0"))] := by rw [a16, List.map_append]; rfl
  rw [← e16]
  clear a16 e16 b15 n15 m15
  have n16 : L16.length = 16 := b16.len
  refine f_mulS (a := PySem.Str.ofString "0") (k := 60) rfl rfl (by decide) ?_
  walk_at "go"
  refine k_join (xs := (F :: W1 :: wr).map PyData.str) (F :: W1 :: wr) (by show pys (((F :: W1 :: wr).map PyData.str).map D.p) = _; exact pys_map _) (strsP_map _) (by rw [c19]; omega) ?_
  walk_at "go"
  refine f_addL (xs := L16.map PyData.str) (ys := [.str (F ++ PySem.Str.ofString " 1,2 3,4 5,6 7,8"), .str (ruleT r ++ PySem.Str.ofString " 1" ++ repS (PySem.Str.ofString "0") (60 : Int).toNat ++ PySem.Str.ofString ",4"), .str (F ++ PySem.Str.ofString " 3, 4 5,6"), .str (Txt.join (PySem.Str.ofString ",") (F :: W1 :: wr)), .str (PySem.Str.ofString "")]) rfl rfl (by rw [List.length_map, n16]; show 16 + 5 ≤ _; omega) ?_
  obtain ⟨L21, a21, b21⟩ := b16.add (M := [F ++ PySem.Str.ofString " 1,2 3,4 5,6 7,8", ruleT r ++ PySem.Str.ofString " 1" ++ repS (PySem.Str.ofString "0") (60 : Int).toNat ++ PySem.Str.ofString ",4", F ++ PySem.Str.ofString " 3, 4 5,6", Txt.join (PySem.Str.ofString ",") (F :: W1 :: wr), PySem.Str.ofString ""]) (m := 5) rfl fun s hs => by
    simp only [List.mem_cons, List.not_mem_nil, or_false] at hs
    rcases hs with rfl | rfl | rfl | rfl | rfl
    · exact h.bw (ws := [PySem.Str.ofString "1,2", PySem.Str.ofString "3,4", PySem.Str.ofString "5,6", PySem.Str.ofString "7,8"]) (TL.ext_tl (by decide)) (List.cons_ne_nil _ _) (by decide) (sg_of (by decide)) (by decide) (by decide +kernel)
    · have e : ruleT r ++ PySem.Str.ofString " 1" ++ repS (PySem.Str.ofString "0") (60 : Int).toNat ++ PySem.Str.ofString ",4" = ruleT r ++ (PySem.Str.ofString " 1" ++ repS (PySem.Str.ofString "0") (60 : Int).toNat ++ PySem.Str.ofString ",4") := by simp only [str_assoc]
      rw [e]
      exact h.bm (v := PySem.Str.ofString "1" ++ repS (PySem.Str.ofString "0") (60 : Int).toNat ++ PySem.Str.ofString ",4") (by decide +kernel) (by decide +kernel) (sg_of (by decide +kernel)) (by decide +kernel) (by decide +kernel)
    · exact h.bw (ws := [PySem.Str.ofString "3,", PySem.Str.ofString "4", PySem.Str.ofString "5,6"]) (TL.ext_tl (by decide)) (List.cons_ne_nil _ _) (by decide) (sg_of (by decide)) (by decide) (by decide +kernel)
    · rw [← h.words]; exact h.b20
    · exact bad_nil
  replace a21 : L21.map PyData.str = L16.map PyData.str ++ [.str (F ++ PySem.Str.ofString " 1,2 3,4 5,6 7,8"), .str (ruleT r ++ PySem.Str.ofString " 1" ++ repS (PySem.Str.ofString "0") (60 : Int).toNat ++ PySem.Str.ofString ",4"), .str (F ++ PySem.Str.ofString " 3, 4 5,6"), .str (Txt.join (PySem.Str.ofString ",") (F :: W1 :: wr)), .str (PySem.Str.ofString "")] := a21
  rw [← a21]
  clear a21 b16 n16
  have n21 : L21.length = 21 := b21.len
  walk_at "go"
  refine k_repl (by rw [c20]; omega) ?_
  walk_at "go"
  refine k_join (xs := C.map PyData.str) C (by exact pys_map _) (strsP_map _) (by
    rw [c20]
    have : F.length * C.length ≤ 610 * 611 := Nat.mul_le_mul lF (by omega)
    omega) ?_
  have lJ := join_len (sep := PySem.Str.ofString ";") z2
  rw [c20] at lJ
  have lJ2 : F.length * C.length ≤ 610 * 611 := Nat.mul_le_mul lF (by omega)
  have b24 := h.b24 eC
  walk_at "go"
  refine k_join (xs := [.str (Txt.join (PySem.Str.ofString ";") C ++ PySem.Str.ofString ";"), .str R]) [Txt.join (PySem.Str.ofString ";") C ++ PySem.Str.ofString ";", R] rfl rfl (by
    simp only [List.map_cons, List.map_nil, List.sum_cons, List.sum_nil, List.length_cons, List.length_nil, len_append]
    omega) ?_
  walk_at "go"
  refine f_addL (xs := L21.map PyData.str) (ys := [.str (Txt.replace (ruleT r) (PySem.Str.ofString ",") (PySem.Str.ofString ";")), .str (ruleT r ++ PySem.Str.ofString ","), .str (Txt.join (PySem.Str.ofString " ") [Txt.join (PySem.Str.ofString ";") C ++ PySem.Str.ofString ";", R]), .str (PySem.Str.ofString "+" ++ ruleT r)]) rfl rfl (by rw [List.length_map, n21]; show 21 + 4 ≤ _; omega) ?_
  obtain ⟨L25, a25, b25⟩ := b21.add (M := [Txt.replace (ruleT r) (PySem.Str.ofString ",") (PySem.Str.ofString ";"), ruleT r ++ PySem.Str.ofString ",", Txt.join (PySem.Str.ofString " ") [Txt.join (PySem.Str.ofString ";") C ++ PySem.Str.ofString ";", R], PySem.Str.ofString "+" ++ ruleT r]) (m := 4) rfl fun s hs => by
    simp only [List.mem_cons, List.not_mem_nil, or_false] at hs
    rcases hs with rfl | rfl | rfl | rfl
    · exact h.b22
    · exact h.b23
    · exact b24
    · exact h.b25
  replace a25 : L25.map PyData.str = L21.map PyData.str ++ [.str (Txt.replace (ruleT r) (PySem.Str.ofString ",") (PySem.Str.ofString ";")), .str (ruleT r ++ PySem.Str.ofString ","), .str (Txt.join (PySem.Str.ofString " ") [Txt.join (PySem.Str.ofString ";") C ++ PySem.Str.ofString ";", R]), .str (PySem.Str.ofString "+" ++ ruleT r)] := a25
  rw [← a25]
  walk_at "go"
  exact q L25 b25
/-! ### _law_bad_web -/

def t_law_bad_web : DTS := (dSeq (dAsg (dCall gLen (dCons (dIx (dNm 0) (dK (.int 0))) dNil)) (gNm 2))
  (dSeq (dAsg (dIx (dK (.str (PySem.Str.ofString "abcdefghijk"))) (dNm 2)) (gNm 3))
  (dSeq (dAsg (dIx (dSplit (dNm 1) (dK (.str (PySem.Str.ofString "; ")))) (dK (.int 0))) (gNm 4))
  (dSeq (dAsg (dLst (dCons (dBin fAdd (dNm 1) (dK (.str (PySem.Str.ofString ";")))) (dCons (dBin fAdd (dNm 1) (dK (.str (PySem.Str.ofString "; ")))) (dCons (dBin fAdd (dNm 1) (dK (.str (PySem.Str.ofString "; a")))) (dCons (dBin fAdd (dNm 1) (dK (.str (PySem.Str.ofString "; a a a a")))) (dCons (dBin fAdd (dBin fAdd (dNm 1) (dK (.str (PySem.Str.ofString "; a ")))) (dNm 3)) (dCons (dBin fAdd (dNm 1) (dK (.str (PySem.Str.ofString "; A a")))) dNil))))))) (gNm 5))
  (dSeq (dAsg (dBin fAdd (dNm 5) (dLst (dCons (dBin fAdd (dNm 1) (dK (.str (PySem.Str.ofString "; a  a")))) (dCons (dBin fAdd (dNm 1) (dK (.str (PySem.Str.ofString ";a a")))) (dCons (dBin fAdd (dNm 1) (dK (.str (PySem.Str.ofString "; a a ")))) (dCons (dBin fAdd (dNm 1) (dK (.str (PySem.Str.ofString ";  a a")))) (dCons (dBin fAdd (dNm 1) (dK (.str (PySem.Str.ofString "; aa a")))) dNil))))))) (gNm 5))
  (dSeq (dAsg (dBin fAdd (dNm 5) (dLst (dCons (dBin fAdd (dNm 1) (dK (.str (PySem.Str.ofString "; a,a")))) (dCons (dBin fAdd (dNm 4) (dBin fMulS (dK (.str (PySem.Str.ofString "; a a"))) (dK (.int 31)))) dNil)))) (gNm 5))
  (dSeq (dAsg (dBin fAdd (dNm 5) (dLst (dCons (dBin fAdd (dK (.str (PySem.Str.ofString "10"))) (dSl (dNm 1) (dSoP (dK (.int 1))) dNoP)) (dCons (dBin fAdd (dK (.str (PySem.Str.ofString "0"))) (dNm 1)) (dCons (dBin fAdd (dK (.str (PySem.Str.ofString "-"))) (dNm 1)) (dCons (dBin fAdd (dJoin (dK (.str (PySem.Str.ofString ","))) (dBin fMul (dLst (dCons (dK (.str (PySem.Str.ofString "1"))) dNil)) (dK (.int 11)))) (dK (.str (PySem.Str.ofString "; a a")))) (dCons (dK (.str (PySem.Str.ofString "; a a"))) (dCons (dK (.str (PySem.Str.ofString ""))) (dCons (dBin fAdd (dNm 4) (dK (.str (PySem.Str.ofString ",; a a")))) dNil))))))))) (gNm 5))
  (dSeq (dAsg (dBin fAdd (dNm 5) (dLst (dCons (dBin fAdd (dK (.str (PySem.Str.ofString " "))) (dNm 1)) (dCons (dBin fAdd (dNm 1) (dK (.str (PySem.Str.ofString " ")))) (dCons (dBin fAdd (dNm 1) (dK (.str (PySem.Str.ofString "; 0 0")))) (dCons (dBin fAdd (dNm 1) (dK (.str (PySem.Str.ofString "; a a;")))) (dCons (dBin fAdd (dK (.str (PySem.Str.ofString "+"))) (dNm 1)) (dCons (dBin fAdd (dNm 1) (dK (.str (PySem.Str.ofString "; a k")))) dNil)))))))) (gNm 5))
  (dRet (dMv (dNm 5)))))))))))
abbrev tv_law_bad_web : List Nat := [2, 3, 4, 5, 5, 5, 5, 5]

def fd_law_bad_web : FD := fun ds QD _ => ∃ w : Web, ds = [.p (encW w), .p (.str (webT w))] ∧ Web9 w ∧ ∀ L : List Str, BadL BadWT 26 L → QD (.lst ((L.map PyData.str).map D.p)) ds
theorem hn_law_bad_web (ds : List D) (Q E) (h : fd_law_bad_web ds Q E) : ds.length = 2 := by obtain ⟨_, rfl, _⟩ := h; rfl
theorem rd_law_bad_web : Body t_law_bad_web tv_law_bad_web 6 fd_law_bad_web := by
  rintro ds QD ED ⟨w, rfl, ok, q⟩
  have sz := sz640
  have tl := webT_len ok
  have r2 := ok.ok.r2
  have lF := ws_len ok
  obtain ⟨T, eT⟩ : ∃ T, T = webT w := ⟨_, rfl⟩
  obtain ⟨F, eF⟩ : ∃ F, F = numsT (natL w.rooms) := ⟨_, rfl⟩
  obtain ⟨B, eB⟩ : ∃ B, B = letT w.rooms.length := ⟨_, rfl⟩
  have lB : B.length = 1 := by rw [eB]; rfl
  obtain ⟨Z, eZ⟩ : ∃ Z, Z = cutS T (some 1) none := ⟨_, rfl⟩
  have lZ : Z.length ≤ T.length := by rw [eZ]; exact cutS_len _ _ _
  rw [← eT] at tl
  rw [← eF] at lF
  have h0 : ∀ n, numLe 9 (PySem.Str.ofString "0" ++ numT n) = false := num_zero 9
  have p1 : BadWT (T ++ PySem.Str.ofString ";") := by rw [eT]; exact cs ok (a := webT w) (l := []) (by rw [TL.tl_append]; rfl) (by decide) (by decide) (sg_of (by decide))
  have p2 : BadWT (T ++ PySem.Str.ofString "; ") := by rw [eT]; exact cm ok (v := PySem.Str.ofString "") (TL.ext_tl (by decide)) (by decide) (sg_of (by decide)) (by decide) (by decide +kernel)
  have p3 : BadWT (T ++ PySem.Str.ofString "; a") := by rw [eT]; exact cm ok (v := PySem.Str.ofString "a") (TL.ext_tl (by decide)) (by decide) (sg_of (by decide)) (by decide) (by decide +kernel)
  have p4 : BadWT (T ++ PySem.Str.ofString "; a a a a") := by rw [eT]; exact cm ok (v := PySem.Str.ofString "a a a a") (TL.ext_tl (by decide)) (by decide) (sg_of (by decide)) (by decide) (by decide +kernel)
  have p5 : BadWT (T ++ PySem.Str.ofString "; a " ++ B) := by rw [eT, eB]; exact c5 ok
  have p6 : BadWT (T ++ PySem.Str.ofString "; A a") := by rw [eT]; exact cm ok (v := PySem.Str.ofString "A a") (TL.ext_tl (by decide)) (by decide) (sg_of (by decide)) (by decide) (by decide +kernel)
  have p7 : BadWT (T ++ PySem.Str.ofString "; a  a") := by rw [eT]; exact cm ok (v := PySem.Str.ofString "a  a") (TL.ext_tl (by decide)) (by decide) (sg_of (by decide)) (by decide) (by decide +kernel)
  have p8 : BadWT (T ++ PySem.Str.ofString ";a a") := by rw [eT]; exact cs ok (a := webT w) (l := TL.tl (PySem.Str.ofString "a a")) (by rw [TL.tl_append]; rfl) (by decide) (by decide) (sg_of (by decide))
  have p9 : BadWT (T ++ PySem.Str.ofString "; a a ") := by rw [eT]; exact cm ok (v := PySem.Str.ofString "a a ") (TL.ext_tl (by decide)) (by decide) (sg_of (by decide)) (by decide) (by decide +kernel)
  have p10 : BadWT (T ++ PySem.Str.ofString ";  a a") := by rw [eT]; exact cm ok (v := PySem.Str.ofString " a a") (TL.ext_tl (by decide)) (by decide) (sg_of (by decide)) (by decide) (by decide +kernel)
  have p11 : BadWT (T ++ PySem.Str.ofString "; aa a") := by rw [eT]; exact cm ok (v := PySem.Str.ofString "aa a") (TL.ext_tl (by decide)) (by decide) (sg_of (by decide)) (by decide) (by decide +kernel)
  have p12 : BadWT (T ++ PySem.Str.ofString "; a,a") := by rw [eT]; exact cm ok (v := PySem.Str.ofString "a,a") (TL.ext_tl (by decide)) (by decide) (sg_of (by decide)) (by decide) (by decide +kernel)
  have p13 : BadWT (F ++ repS (PySem.Str.ofString "; a a") (31 : Int).toNat) := by rw [eF]; exact c13 ok
  have p14 : BadWT (PySem.Str.ofString "10" ++ Z) := by rw [eZ, eT]; exact c14 ok
  have p15 : BadWT (PySem.Str.ofString "0" ++ T) := by rw [eT]; exact ca ok (by decide) (sg_of (by decide)) (by decide) (numsB_lead (natL_ne ok) (by decide) h0)
  have p16 : BadWT (PySem.Str.ofString "-" ++ T) := by rw [eT]; exact ca ok (by decide) (sg_of (by decide)) (by decide) (numsB_sign 45 (by rw [TL.tl_append]; exact List.mem_append_left _ (by decide)) (by omega))
  have p17 : BadWT (Txt.join (PySem.Str.ofString ",") (List.replicate 11 (PySem.Str.ofString "1")) ++ PySem.Str.ofString "; a a") := ⟨by decide +kernel, sg_of (by decide +kernel), no_web (by decide +kernel)⟩
  have p18 : BadWT (PySem.Str.ofString "; a a") := ⟨by decide, sg_of (by decide), no_web (by decide +kernel)⟩
  have p19 : BadWT (PySem.Str.ofString "") := ⟨by decide, sg_of (by decide), no_web (by decide +kernel)⟩
  have p20 : BadWT (F ++ PySem.Str.ofString ",; a a") := by rw [eF]; exact c20 ok
  have p21 : BadWT (PySem.Str.ofString " " ++ T) := by rw [eT]; exact ca ok (by decide) (sg_of (by decide)) (by decide) (numsB_sign 32 (by rw [TL.tl_append]; exact List.mem_append_left _ (by decide)) (by omega))
  have p22 : BadWT (T ++ PySem.Str.ofString " ") := by rw [eT]; exact c22 ok
  have p23 : BadWT (T ++ PySem.Str.ofString "; 0 0") := by rw [eT]; exact cm ok (v := PySem.Str.ofString "0 0") (TL.ext_tl (by decide)) (by decide) (sg_of (by decide)) (by decide) (by decide +kernel)
  have p24 : BadWT (T ++ PySem.Str.ofString "; a a;") := by rw [eT]; exact cs ok (a := webT w ++ PySem.Str.ofString "; a a") (l := []) (by rw [TL.tl_append, TL.tl_append, List.append_assoc]; rfl) (by decide) (by decide) (sg_of (by decide))
  have p25 : BadWT (PySem.Str.ofString "+" ++ T) := by rw [eT]; exact ca ok (by decide) (sg_of (by decide)) (by decide) (numsB_sign 43 (by rw [TL.tl_append]; exact List.mem_append_left _ (by decide)) (by omega))
  have p26 : BadWT (T ++ PySem.Str.ofString "; a k") := by rw [eT]; exact cm ok (v := PySem.Str.ofString "a k") (TL.ext_tl (by decide)) (by decide) (sg_of (by decide)) (by decide) (by decide +kernel)
  have d1 : (PySem.Str.ofString ";").length = 1 := rfl
  have d2 : (PySem.Str.ofString "; ").length = 2 := rfl
  have d3 : (PySem.Str.ofString "; a").length = 3 := rfl
  have d4 : (PySem.Str.ofString "; a a a a").length = 9 := rfl
  have d5 : (PySem.Str.ofString "; a ").length = 4 := rfl
  have d6 : (PySem.Str.ofString "; A a").length = 5 := rfl
  have d7 : (PySem.Str.ofString "; a  a").length = 6 := rfl
  have d8 : (PySem.Str.ofString ";a a").length = 4 := rfl
  have d9 : (PySem.Str.ofString "; a a ").length = 6 := rfl
  have d10 : (PySem.Str.ofString ";  a a").length = 6 := rfl
  have d11 : (PySem.Str.ofString "; aa a").length = 6 := rfl
  have d12 : (PySem.Str.ofString "; a,a").length = 5 := rfl
  have d13 : (repS (PySem.Str.ofString "; a a") (31 : Int).toNat).length = 155 := by decide +kernel
  have d14 : (PySem.Str.ofString "10").length = 2 := rfl
  have d15 : (PySem.Str.ofString "0").length = 1 := rfl
  have d16 : (PySem.Str.ofString "-").length = 1 := rfl
  have d17 : (Txt.join (PySem.Str.ofString ",") (List.replicate 11 (PySem.Str.ofString "1"))).length = 21 := by decide +kernel
  have d18 : (PySem.Str.ofString "; a a").length = 5 := rfl
  have d20 : (PySem.Str.ofString ",; a a").length = 6 := rfl
  have d21 : (PySem.Str.ofString " ").length = 1 := rfl
  have d23 : (PySem.Str.ofString "; 0 0").length = 5 := rfl
  have d24 : (PySem.Str.ofString "; a a;").length = 6 := rfl
  have d25 : (PySem.Str.ofString "+").length = 1 := rfl
  have d26 : (PySem.Str.ofString "; a k").length = 5 := rfl
  have a0 : atI ((F :: w.keys.map keyS).map PyData.str |>.map D.p) 0 = some (.p (.str F)) := atI_ofNat (i := 0) rfl
  have es : Txt.split T sSem = F :: w.keys.map keyS := by rw [eT, eF, webT_split ok]; rfl
  rw [← eT] at q ⊢
  unfold t_law_bad_web
  walk_at "go"
  refine x_S (c := 97 + w.rooms.length) rfl rfl (by show 11 ≤ _; omega) (by rw [List.length_map]; exact letk_at r2) ?_
  rw [show (⟨#[97 + w.rooms.length]⟩ : Str) = B from eB.symm]
  walk_at "go"
  refine k_split (b := sSem) rfl (by omega) ?_
  rw [es]
  walk_at "go"
  refine f_addL (xs := [.str (T ++ PySem.Str.ofString ";"), .str (T ++ PySem.Str.ofString "; "), .str (T ++ PySem.Str.ofString "; a"), .str (T ++ PySem.Str.ofString "; a a a a"), .str (T ++ PySem.Str.ofString "; a " ++ B), .str (T ++ PySem.Str.ofString "; A a")]) (ys := [.str (T ++ PySem.Str.ofString "; a  a"), .str (T ++ PySem.Str.ofString ";a a"), .str (T ++ PySem.Str.ofString "; a a "), .str (T ++ PySem.Str.ofString ";  a a"), .str (T ++ PySem.Str.ofString "; aa a")]) rfl rfl (by show 6 + 5 ≤ _; omega) ?_
  generalize T ++ PySem.Str.ofString ";" = s1 at p1 ⊢
  generalize T ++ PySem.Str.ofString "; " = s2 at p2 ⊢
  generalize T ++ PySem.Str.ofString "; a" = s3 at p3 ⊢
  generalize T ++ PySem.Str.ofString "; a a a a" = s4 at p4 ⊢
  generalize T ++ PySem.Str.ofString "; a " ++ B = s5 at p5 ⊢
  generalize T ++ PySem.Str.ofString "; A a" = s6 at p6 ⊢
  generalize T ++ PySem.Str.ofString "; a  a" = s7 at p7 ⊢
  generalize T ++ PySem.Str.ofString ";a a" = s8 at p8 ⊢
  generalize T ++ PySem.Str.ofString "; a a " = s9 at p9 ⊢
  generalize T ++ PySem.Str.ofString ";  a a" = s10 at p10 ⊢
  generalize T ++ PySem.Str.ofString "; aa a" = s11 at p11 ⊢
  walk_at "go"
  refine f_mulS (a := PySem.Str.ofString "; a a") (k := 31) rfl rfl (by decide) ?_
  walk_at "go"
  refine f_addL (xs := [.str s1, .str s2, .str s3, .str s4, .str s5, .str s6, .str s7, .str s8, .str s9, .str s10, .str s11]) (ys := [.str (T ++ PySem.Str.ofString "; a,a"), .str (F ++ repS (PySem.Str.ofString "; a a") (31 : Int).toNat)]) rfl rfl (by show 11 + 2 ≤ _; omega) ?_
  generalize T ++ PySem.Str.ofString "; a,a" = s12 at p12 ⊢
  generalize F ++ repS (PySem.Str.ofString "; a a") (31 : Int).toNat = s13 at p13 ⊢
  walk_at "go"
  rw [← eZ]
  walk_at "go"
  refine f_mulL (xs := [PyData.str (PySem.Str.ofString "1")]) (a' := 11) rfl rfl ⟨by decide, by show 11 ≤ _; omega, by decide⟩ ?_
  walk_at "go"
  refine k_join (xs := (List.replicate (11 : Int).toNat [PyData.str (PySem.Str.ofString "1")]).flatten) (List.replicate 11 (PySem.Str.ofString "1")) (by exact pys_map _) rfl (by decide) ?_
  walk_at "go"
  refine f_addL (xs := [.str s1, .str s2, .str s3, .str s4, .str s5, .str s6, .str s7, .str s8, .str s9, .str s10, .str s11, .str s12, .str s13]) (ys := [.str (PySem.Str.ofString "10" ++ Z), .str (PySem.Str.ofString "0" ++ T), .str (PySem.Str.ofString "-" ++ T), .str (Txt.join (PySem.Str.ofString ",") (List.replicate 11 (PySem.Str.ofString "1")) ++ PySem.Str.ofString "; a a"), .str (PySem.Str.ofString "; a a"), .str (PySem.Str.ofString ""), .str (F ++ PySem.Str.ofString ",; a a")]) rfl rfl (by show 13 + 7 ≤ _; omega) ?_
  generalize PySem.Str.ofString "10" ++ Z = s14 at p14 ⊢
  generalize PySem.Str.ofString "0" ++ T = s15 at p15 ⊢
  generalize PySem.Str.ofString "-" ++ T = s16 at p16 ⊢
  generalize Txt.join (PySem.Str.ofString ",") (List.replicate 11 (PySem.Str.ofString "1")) ++ PySem.Str.ofString "; a a" = s17 at p17 ⊢
  generalize F ++ PySem.Str.ofString ",; a a" = s20 at p20 ⊢
  walk_at "go"
  refine f_addL (xs := [.str s1, .str s2, .str s3, .str s4, .str s5, .str s6, .str s7, .str s8, .str s9, .str s10, .str s11, .str s12, .str s13, .str s14, .str s15, .str s16, .str s17, .str (PySem.Str.ofString "; a a"), .str (PySem.Str.ofString ""), .str s20]) (ys := [.str (PySem.Str.ofString " " ++ T), .str (T ++ PySem.Str.ofString " "), .str (T ++ PySem.Str.ofString "; 0 0"), .str (T ++ PySem.Str.ofString "; a a;"), .str (PySem.Str.ofString "+" ++ T), .str (T ++ PySem.Str.ofString "; a k")]) rfl rfl (by show 20 + 6 ≤ _; omega) ?_
  walk_at "go"
  refine q [s1, s2, s3, s4, s5, s6, s7, s8, s9, s10, s11, s12, s13, s14, s15, s16, s17, PySem.Str.ofString "; a a", PySem.Str.ofString "", s20, PySem.Str.ofString " " ++ T, T ++ PySem.Str.ofString " ", T ++ PySem.Str.ofString "; 0 0", T ++ PySem.Str.ofString "; a a;", PySem.Str.ofString "+" ++ T, T ++ PySem.Str.ofString "; a k"] ⟨rfl, fun s hs => ?_⟩
  simp only [List.mem_cons, List.not_mem_nil, or_false] at hs
  rcases hs with rfl | rfl | rfl | rfl | rfl | rfl | rfl | rfl | rfl | rfl | rfl | rfl | rfl | rfl | rfl | rfl | rfl | rfl | rfl | rfl | rfl | rfl | rfl | rfl | rfl | rfl <;> assumption
/-! ### number_in -/

def t_number_in : DTS := (dSeq (dIfS (dOr (dNot (dTst (dChain fLe fLe (dK (.int 1)) (dCall gLen (dCons (dNm 0) dNil)) (dK (.int 60))))) (dAnd (dTst (dBin fEq (dIx (dNm 0) (dK (.int 0))) (dK (.str (PySem.Str.ofString "0"))))) (dTst (dBin fGt (dCall gLen (dCons (dNm 0) dNil)) (dK (.int 1)))))) (dRaise0 "NoText") dNext)
  (dSeq (dFor (diStr (dNm 0)) (gNm 1) (dIfS (dTst (dBin (fInT true) (dNm 1) (dK (.str (PySem.Str.ofString "0123456789"))))) (dRaise0 "NoText") dNext))
  (dRet (dCall gInt (dCons (dNm 0) dNil)))))
abbrev tv_number_in : List Nat := [1]

def fd_number_in : FD := fun ds QD ED => ∃ (s : Str), ds = [.p (.str s)] ∧ s.length ≤ 1000000 ∧ (∀ c ∈ TL.tl s, c < 1114112) ∧ (∀ n : Nat, n < 10 ^ 60 → s = numT n → QD (.p (.int (n : Int))) ds) ∧ (¬ IsNum s → ED "NoText" none ds)
theorem hn_number_in (ds : List D) (Q E) (h : fd_number_in ds Q E) : ds.length = 1 := by obtain ⟨_, rfl, _⟩ := h; rfl
theorem rd_number_in : Body t_number_in tv_number_in 2 fd_number_in := by
  rintro ds QD ED ⟨s, rfl, hs, hsg, q, no⟩
  have sz := sz640
  have lt := TL.len_tl s
  unfold t_number_in
  refine i_cut (fun e => e = [.p (.str s), .hole] ∧ 1 ≤ s.length ∧ s.length ≤ 60 ∧ ((TL.tl s).head? = some 48 → s.length ≤ 1)) (fun K hK => ?_) ?_
  · by_cases g1 : 1 ≤ s.length
    · have c1 : decide ((1 : Int) ≤ (s.length : Int)) = true := decide_eq_true (by omega)
      by_cases g2 : s.length ≤ 60
      · have c2 : decide ((s.length : Int) ≤ 60) = true := decide_eq_true (by omega)
        obtain ⟨c, r, hc⟩ : ∃ c r, TL.tl s = c :: r := by
          cases h : TL.tl s with
          | nil => rw [h] at lt; simp only [List.length_nil] at lt; omega
          | cons c r => exact ⟨c, r, rfl⟩
        have a0 : atI s.cps.toList 0 = some c := by
          have e : s.cps.toList = c :: r := hc
          rw [e]; exact atI_ofNat (i := 0) rfl
        have sh1 : SeqAt.shaped (.str ⟨#[c]⟩) = true := str_shaped fun x hx => by
          have : x = c := by simpa using hx
          exact this ▸ hsg c (by rw [hc]; exact List.mem_cons_self)
        walk_at "go"
        rw [c2]
        walk_at "go"
        refine x_S rfl rfl (by omega) a0 ?_
        walk_at "go"
        refine f_eq (u := .str ⟨#[c]⟩) (v := .str (PySem.Str.ofString "0")) rfl rfl sh1 (by decide +kernel) ?_
        rw [str_eqv]
        cases e : decide ((⟨#[c]⟩ : Str) = PySem.Str.ofString "0") with
        | false =>
          have h48 : c ≠ 48 := fun z => by
            have : (⟨#[c]⟩ : Str) = PySem.Str.ofString "0" := TL.ext_tl (by rw [show TL.tl (PySem.Str.ofString "0") = [48] from by decide, z])
            rw [this] at e
            simp at e
          walk_at "go"
          exact hK _ ⟨rfl, g1, g2, fun z => by rw [hc] at z; exact absurd (Option.some.inj z) h48⟩
        | true =>
          have hs0 : (⟨#[c]⟩ : Str) = PySem.Str.ofString "0" := of_decide_eq_true e
          have h48 : c = 48 := by
            have : TL.tl (⟨#[c]⟩ : Str) = TL.tl (PySem.Str.ofString "0") := by rw [hs0]
            rw [show TL.tl (PySem.Str.ofString "0") = [48] from by decide] at this
            have : [c] = [48] := this
            injection this
          by_cases g3 : 1 < s.length
          · have c3 : decide ((1 : Int) < (s.length : Int)) = true := decide_eq_true (by omega)
            walk_at "go"
            exact no fun h => by
              have := (ok_num h).2.2.1 (by rw [hc, h48]; rfl)
              omega
          · have c3 : decide ((1 : Int) < (s.length : Int)) = false := decide_eq_false (by omega)
            walk_at "go"
            exact hK _ ⟨rfl, g1, g2, fun _ => by omega⟩
      · have c2 : decide ((s.length : Int) ≤ 60) = false := decide_eq_false (by omega)
        walk_at "go"
        rw [c2]
        walk_at "go"
        exact no fun h => by
          have := (ok_num h).2.1
          omega
    · have c1 : decide ((1 : Int) ≤ (s.length : Int)) = false := decide_eq_false (by omega)
      walk_at "go"
      exact no fun h => by
        have := (ok_num h).1
        omega
  · rintro e ⟨rfl, g1, g2, g3⟩
    walk_at "go"
    refine for_mk (fun i e => ∃ y1 : D, e = [.p (.str s), y1] ∧ ∀ c ∈ (TL.tl s).take i, 48 ≤ c ∧ c ≤ 57) ⟨_, rfl, fun c hc => by rw [List.take_zero] at hc; cases hc⟩ (fun i x e hx ⟨y1, he, dg⟩ => ?_) (fun e ⟨y1, he, dg⟩ => ?_)
    · subst he
      obtain ⟨k, hk, rfl⟩ : ∃ k, (TL.tl s)[i]? = some k ∧ x = .str ⟨#[k]⟩ := by
        unfold signsP at hx
        rw [List.getElem?_map] at hx
        cases z : s.cps.toList[i]? with
        | none => rw [z] at hx; cases hx
        | some k => rw [z] at hx; injection hx with hx; exact ⟨k, rfl, hx.symm⟩
      walk_at "go"
      refine f_inT rfl rfl ?_
      rw [fig_dec]
      by_cases hd : 48 ≤ k ∧ k ≤ 57
      · rw [decide_eq_true hd]
        walk_at "go"
        refine ⟨_, rfl, fun c hc => ?_⟩
        rw [List.take_succ, hk] at hc
        rcases List.mem_append.mp hc with hc | hc
        · exact dg c hc
        · have : c = k := by simpa using hc
          exact this ▸ hd
      · rw [decide_eq_false hd]
        walk_at "go"
        exact no fun h => hd ((ok_num h).2.2.2 k (List.mem_of_getElem? hk))
    · subst he
      have ok : NumOk (TL.tl s) := by
        refine ⟨by omega, by omega, fun z => by have := g3 z; omega, fun c hc => dg c ?_⟩
        rw [List.take_of_length_le]
        · exact hc
        · unfold signsP
          rw [List.length_map]
          exact Nat.le_refl _
      obtain ⟨n, hn, rfl⟩ := num_ok ok
      walk_at "go"
      refine g_intS rfl (by omega) (numT_int hn) ?_
      walk_at "go"
      exact q n hn rfl

/-! ### numbers_in -/

def t_numbers_in : DTS := (dRet (dCall gTuple (dCons (dLcX (diSeq (dSplit (dNm 0) (dK (.str (PySem.Str.ofString ","))))) (gNm 1) dYes (dCallF fd_number_in (dCons (dNm 1) dNil)) [1]) dNil)))
abbrev tv_numbers_in : List Nat := []

def fd_numbers_in : FD := fun ds QD ED => ∃ s : Str, ds = [.p (.str s)] ∧ s.length ≤ 900000 ∧ (∀ c ∈ TL.tl s, c < 1114112) ∧ (∀ ns : List Nat, ns ≠ [] → (∀ n ∈ ns, n < 10 ^ 60) → s = numsT ns → QD (.p (.tuple (natsP ns))) ds) ∧ (¬ IsNums s → ED "NoText" none ds)
theorem hn_numbers_in (ds : List D) (Q E) (h : fd_numbers_in ds Q E) : ds.length = 1 := by obtain ⟨_, rfl, _⟩ := h; rfl
theorem rd_numbers_in : Body t_numbers_in tv_numbers_in 2 fd_numbers_in := by
  rintro ds QD ED ⟨s, rfl, hl, sg, q, no⟩
  have sz := sz640
  unfold t_numbers_in
  walk_at "go"
  refine k_split (b := sCom) rfl (by omega) ?_
  obtain ⟨z1, z2⟩ := split_sizes (y := sCom) (by rw [tl_com]; exact List.cons_ne_nil _ _) com_ok s
  have z3 := split_signs (y := sCom) (by rw [tl_com]; exact List.cons_ne_nil _ _) com_ok s
  have iff := nums_iff s
  walk_at "go"
  refine lcx_good PyData.str (Txt.split s sCom) IsNum numP _ rfl (by omega) rfl (fun i p W acc hi hw => ?_) (fun hg => ?_)
  · have hp := List.mem_of_getElem? hi
    have lp := z2 p hp
    walk_at "go"
    refine cf_mk [.p (.str p)] rfl ⟨p, rfl, by omega, fun c hc => sg c (z3 p hp c hc), fun n hn e => ?_, fun hno => ?_⟩
    · have hw := hw ⟨n, hn, e⟩
      rw [e, numP_num hn] at hw
      walk_at "go"
      exact hw
    · have no := no fun h => hno (iff.mp h p hp)
      walk_at "go"
      exact no
  · obtain ⟨ns, ne, hb, e⟩ := iff.mpr hg
    have q := q ns ne hb e
    have e2 : (Txt.split s sCom).map numP = natsP ns := by
      rw [e, numsT_split ne]
      unfold natsP
      rw [List.map_map]
      exact List.map_congr_left fun n hn => numP_num (hb n hn)
    rw [e2]
    walk_at "go"
    exact q

/-! ### is_between -/

def t_is_between : DTS := (dRet (dAndV (dIsi "int" (dNm 0)) (dAndV (dNotV (dIsi "bool" (dNm 0))) (dChain fLe fLe (dNm 1) (dNm 0) (dNm 2)))))
abbrev tv_is_between : List Nat := []

def fd_is_between : FD := fun ds QD _ => ∃ (x : PD) (lo hi : Int), ds = [.p x, .p (.int lo), .p (.int hi)] ∧ kndB x = true ∧ QD (.p (.bool (betB lo hi x))) ds
theorem hn_is_between (ds : List D) (Q E) (h : fd_is_between ds Q E) : ds.length = 3 := by obtain ⟨_, _, _, rfl, _⟩ := h; rfl
theorem rd_is_between : Body t_is_between tv_is_between 3 fd_is_between := by
  rintro ds QD ED ⟨x, lo, hi, rfl, kx, q⟩
  unfold t_is_between
  cases x
  case int i =>
    have q : QD (.p (.bool (decide (lo ≤ i) && decide (i ≤ hi)))) _ := q
    cases e1 : decide (lo ≤ i) with
    | false =>
      rw [e1] at q
      walk_at "go"
      exact q
    | true =>
      rw [e1] at q
      walk_at "go"
      exact q
  case none => walk_at "go"; exact q
  case bool b => walk_at "go"; exact q
  case str s => walk_at "go"; exact q
  case tuple xs => walk_at "go"; exact q
  case list xs => walk_at "go"; exact q
  all_goals cases kx
/-! ### are_rooms -/

def t_are_rooms : DTS := (dSeq (dIfS (dOr (dNot (dTst (dIsi "tuple" (dNm 0)))) (dNot (dTst (dChain fLe fLe (dK (.int 1)) (dCall gLen (dCons (dNm 0) dNil)) (dK (.int 10)))))) (dRet (dK (.bool false))) dNext)
  (dRet (dCall gAll (dCons (dLc (diSeq (dNm 0)) (gNm 1) dYes (dCallF fd_is_between (dCons (dNm 1) (dCons (dK (.int 0)) (dCons (dK (.int 9)) dNil)))) [1]) dNil))))
abbrev tv_are_rooms : List Nat := []

def fd_are_rooms : FD := fun ds QD _ => ∃ (x : PD), ds = [.p x] ∧ Kn1 x ∧ QD (.p (.bool (roomsB x))) ds
theorem hn_are_rooms (ds : List D) (Q E) (h : fd_are_rooms ds Q E) : ds.length = 1 := by obtain ⟨_, rfl, _⟩ := h; rfl
theorem rd_are_rooms : Body t_are_rooms tv_are_rooms 2 fd_are_rooms := by
  rintro ds QD ED ⟨x, rfl, ⟨kx, k1⟩, q⟩
  unfold t_are_rooms
  refine i_seq ?_
  cases x
  case tuple xs =>
    have q : QD (.p (.bool (decide ((1 : Int) ≤ (xs.length : Int)) && (decide ((xs.length : Int) ≤ 10) && xs.all (betB 0 9))))) _ := q
    cases e1 : decide ((1 : Int) ≤ (xs.length : Int)) with
    | false =>
      rw [e1] at q
      walk_at "go"
      exact q
    | true =>
      rw [e1] at q
      cases e2 : decide ((xs.length : Int) ≤ 10) with
      | false =>
        rw [e2] at q
        walk_at "go"
        rw [e2]
        walk_at "go"
        exact q
      | true =>
        rw [e2] at q
        have hl : (xs.length : Int) ≤ 10 := of_decide_eq_true e2
        walk_at "go"
        rw [e2]
        walk_at "go"
        refine lc_bools (fun x : PD => x) xs _ (betB 0 9) (List.map_id' xs).symm (by omega) rfl (fun i y W acc hi hw => ?_) ?_
        · walk_at "go"
          refine cf_mk [.p y, .p (.int 0), .p (.int 9)] rfl ⟨y, 0, 9, rfl, k1 xs rfl y (List.mem_of_getElem? hi), ?_⟩
          walk_at "go"
          exact hw
        · walk_at "go"
          rw [List.all_map]
          exact q
  case none => walk_at "go"; exact q
  case bool b => walk_at "go"; exact q
  case int b => walk_at "go"; exact q
  case str s => walk_at "go"; exact q
  case list xs => walk_at "go"; exact q
  all_goals cases kx
/-! ### is_way -/

def t_is_way : DTS := (dSeq (dIfS (dOr (dNot (dTst (dIsi "tuple" (dNm 0)))) (dTst (dBin fNe (dCall gLen (dCons (dNm 0) dNil)) (dK (.int 2))))) (dRet (dK (.bool false))) dNext)
  (dRet (dCall gAll (dCons (dLc (diSeq (dNm 0)) (gNm 1) dYes (dCallF fd_is_between (dCons (dNm 1) (dCons (dK (.int 0)) (dCons (dBin fSub (dK (.int 10007)) (dK (.int 1))) dNil)))) [1]) dNil))))
abbrev tv_is_way : List Nat := []

def fd_is_way : FD := fun ds QD _ => ∃ (x : PD), ds = [.p x] ∧ Kn1 x ∧ QD (.p (.bool (wayB x))) ds
theorem hn_is_way (ds : List D) (Q E) (h : fd_is_way ds Q E) : ds.length = 1 := by obtain ⟨_, rfl, _⟩ := h; rfl
theorem rd_is_way : Body t_is_way tv_is_way 2 fd_is_way := by
  rintro ds QD ED ⟨x, rfl, ⟨kx, k1⟩, q⟩
  unfold t_is_way
  refine i_seq ?_
  cases x
  case tuple xs =>
    have q : QD (.p (.bool (decide ((xs.length : Int) = 2) && xs.all (betB 0 10006)))) _ := q
    cases e1 : decide ((xs.length : Int) = 2) with
    | false =>
      rw [e1] at q
      walk_at "go"
      rw [e1]
      walk_at "go"
      exact q
    | true =>
      rw [e1] at q
      have hl : (xs.length : Int) = 2 := of_decide_eq_true e1
      walk_at "go"
      rw [e1]
      walk_at "go"
      refine lc_bools (fun x : PD => x) xs _ (betB 0 10006) (List.map_id' xs).symm (by omega) rfl (fun i y W acc hi hw => ?_) ?_
      · walk_at "go"
        refine cf_mk [.p y, .p (.int 0), .p (.int (10007 - 1))] rfl ⟨y, 0, _, rfl, k1 xs rfl y (List.mem_of_getElem? hi), ?_⟩
        walk_at "go"
        exact hw
      · walk_at "go"
        rw [List.all_map]
        exact q
  case none => walk_at "go"; exact q
  case bool b => walk_at "go"; exact q
  case int b => walk_at "go"; exact q
  case str s => walk_at "go"; exact q
  case list xs => walk_at "go"; exact q
  all_goals cases kx
/-! ### are_ways -/

def t_are_ways : DTS := (dSeq (dIfS (dOr (dNot (dTst (dIsi "tuple" (dNm 0)))) (dNot (dTst (dChain fLe fLe (dK (.int 2)) (dCall gLen (dCons (dNm 0) dNil)) (dK (.int 3)))))) (dRet (dK (.bool false))) dNext)
  (dRet (dCall gAll (dCons (dLc (diSeq (dNm 0)) (gNm 1) dYes (dCallF fd_is_way (dCons (dNm 1) dNil)) [1]) dNil))))
abbrev tv_are_ways : List Nat := []

def fd_are_ways : FD := fun ds QD _ => ∃ (x : PD), ds = [.p x] ∧ Kn2 x ∧ QD (.p (.bool (waysB x))) ds
theorem hn_are_ways (ds : List D) (Q E) (h : fd_are_ways ds Q E) : ds.length = 1 := by obtain ⟨_, rfl, _⟩ := h; rfl
theorem rd_are_ways : Body t_are_ways tv_are_ways 2 fd_are_ways := by
  rintro ds QD ED ⟨x, rfl, ⟨kx, k1⟩, q⟩
  unfold t_are_ways
  refine i_seq ?_
  cases x
  case tuple xs =>
    have q : QD (.p (.bool (decide ((2 : Int) ≤ (xs.length : Int)) && (decide ((xs.length : Int) ≤ 3) && xs.all wayB)))) _ := q
    cases e1 : decide ((2 : Int) ≤ (xs.length : Int)) with
    | false =>
      rw [e1] at q
      walk_at "go"
      exact q
    | true =>
      rw [e1] at q
      cases e2 : decide ((xs.length : Int) ≤ 3) with
      | false =>
        rw [e2] at q
        walk_at "go"
        rw [e2]
        walk_at "go"
        exact q
      | true =>
        rw [e2] at q
        have hl : (xs.length : Int) ≤ 3 := of_decide_eq_true e2
        walk_at "go"
        rw [e2]
        walk_at "go"
        refine lc_bools (fun x : PD => x) xs _ wayB (List.map_id' xs).symm (by omega) rfl (fun i y W acc hi hw => ?_) ?_
        · walk_at "go"
          refine cf_mk [.p y] rfl ⟨y, rfl, k1 xs rfl y (List.mem_of_getElem? hi), ?_⟩
          walk_at "go"
          exact hw
        · walk_at "go"
          rw [List.all_map]
          exact q
  case none => walk_at "go"; exact q
  case bool b => walk_at "go"; exact q
  case int b => walk_at "go"; exact q
  case str s => walk_at "go"; exact q
  case list xs => walk_at "go"; exact q
  all_goals cases kx
/-! ### is_rule -/

def t_is_rule : DTS := (dRet (dAndV (dIsi "tuple" (dNm 0)) (dAndV (dBin fEq (dCall gLen (dCons (dNm 0) dNil)) (dK (.int 2))) (dAndV (dCallF fd_are_rooms (dCons (dIx (dNm 0) (dK (.int 0))) dNil)) (dCallF fd_are_ways (dCons (dIx (dNm 0) (dK (.int 1))) dNil))))))
abbrev tv_is_rule : List Nat := []

def fd_is_rule : FD := fun ds QD _ => ∃ (d : D) (b : Bool), ds = [d] ∧ RuleD d b ∧ QD (.p (.bool b)) ds
theorem hn_is_rule (ds : List D) (Q E) (h : fd_is_rule ds Q E) : ds.length = 1 := by obtain ⟨_, _, rfl, _⟩ := h; rfl
theorem rd_is_rule : Body t_is_rule tv_is_rule 1 fd_is_rule := by
  rintro ds QD ED ⟨d, b, rfl, hd, q⟩
  unfold t_is_rule
  rcases hd with ⟨x, rfl, ⟨kx, k3⟩, rfl⟩ | ⟨rfl, rfl⟩
  · cases x
    case tuple xs =>
      cases e1 : decide ((xs.length : Int) = 2) with
      | false =>
        have : ruleB (.tuple xs) = false := by
          have h : ¬ (xs.length : Int) = 2 := of_decide_eq_false e1
          match xs, h with
          | [], _ => rfl
          | [_], _ => rfl
          | [_, _], h => exact absurd rfl h
          | _ :: _ :: _ :: _, _ => rfl
        rw [this] at q
        walk_at "go"
        exact q
      | true =>
        have h : (xs.length : Int) = 2 := of_decide_eq_true e1
        match xs, h with
        | [a, b], _ =>
          obtain ⟨ka, kb⟩ := k3 a b rfl
          have q : QD (.p (.bool (roomsB a && waysB b))) _ := q
          have a0 : atI [a, b] 0 = some a := rfl
          have a1 : atI [a, b] 1 = some b := rfl
          walk_at "go"
          refine cf_mk [.p a] rfl ⟨a, rfl, ka, ?_⟩
          cases er : roomsB a with
          | false =>
            rw [er] at q
            walk_at "go"
            exact q
          | true =>
            rw [er] at q
            walk_at "go"
            refine cf_mk [.p b] rfl ⟨b, rfl, kb, ?_⟩
            walk_at "go"
            exact q
    case none => walk_at "go"; exact q
    case bool b => walk_at "go"; exact q
    case int b => walk_at "go"; exact q
    case str s => walk_at "go"; exact q
    case list xs => walk_at "go"; exact q
    all_goals cases kx
  · walk_at "go"
    exact q
/-! ### read_rule -/

def t_read_rule : DTS := (dSeq (dIfS (dNot (dTst (dIsi "str" (dNm 0)))) (dRaise0 "NoText") dNext)
  (dSeq (dAsg (dSplit (dNm 0) (dK (.str (PySem.Str.ofString " ")))) (gNm 1))
  (dSeq (dAsg (dTup (dCons (dCallF fd_numbers_in (dCons (dIx (dNm 1) (dK (.int 0))) dNil)) (dCons (dCall gTuple (dCons (dLcX (diSeq (dSl (dNm 1) (dSoP (dK (.int 1))) dNoP)) (gNm 3) dYes (dCallF fd_numbers_in (dCons (dNm 3) dNil)) [3]) dNil)) dNil))) (gNm 2))
  (dSeq (dIfS (dNot (dTst (dCallF fd_is_rule (dCons (dNm 2) dNil)))) (dRaise0 "NoText") dNext)
  (dRet (dMv (dNm 2)))))))
abbrev tv_read_rule : List Nat := [1, 2]

def fd_read_rule : FD := fun ds QD ED => (∃ d : D, ds = [d] ∧ NoStrD d ∧ ED "NoText" none ds) ∨ ∃ s : Str, ds = [.p (.str s)] ∧ s.length ≤ 900000 ∧ (∀ c ∈ TL.tl s, c < 1114112) ∧ (∀ r : Rule, RuleOk r → s = ruleT r → QD (.p (encR r)) ds) ∧ (¬ IsRuleT s → ED "NoText" none ds)
theorem hn_read_rule (ds : List D) (Q E) (h : fd_read_rule ds Q E) : ds.length = 1 := by
  rcases h with ⟨_, rfl, _⟩ | ⟨_, rfl, _⟩ <;> rfl
theorem rd_read_rule : Body t_read_rule tv_read_rule 4 fd_read_rule := by
  rintro ds QD ED (⟨d, rfl, ⟨x, rfl, kx, nx⟩ | rfl, no⟩ | ⟨s, rfl, hl, sg, q, no⟩)
  rotate_left
  · unfold t_read_rule
    refine i_seq ?_
    walk_at "go"
    exact no
  rotate_left
  · unfold t_read_rule
    refine i_seq ?_
    cases x
    case str s => cases nx
    case none => walk_at "go"; exact no
    case bool b => walk_at "go"; exact no
    case int i => walk_at "go"; exact no
    case tuple xs => walk_at "go"; exact no
    case list xs => walk_at "go"; exact no
    all_goals cases kx
  have sz := sz640
  have yb : TL.tl sBl ≠ [] := by rw [tl_bl]; exact List.cons_ne_nil _ _
  obtain ⟨z1, z2⟩ := split_sizes yb bl_ok s
  have z3 := split_signs yb bl_ok s
  have hj := join_split yb bl_ok s
  have hne := split_ne yb bl_ok s
  have inv : ∀ r, RuleOk r → s = ruleT r → Txt.split s sBl = ruleP r := fun r _ e => by rw [e]; exact ruleT_split r
  unfold t_read_rule
  refine i_seq ?_
  walk_at "go"
  refine k_split (b := sBl) rfl (by omega) ?_
  generalize Txt.split s sBl = ws at z1 z2 z3 hj hne inv ⊢
  have nums : IsRuleT s → ∀ p ∈ ws, IsNums p := fun ⟨r, ok, e⟩ => by rw [inv r ok e]; exact ruleT_nums ok
  cases ws with
  | nil => exact absurd rfl hne
  | cons w0 rest =>
    have a0 : atI (D.p (.str w0) :: (rest.map PyData.str).map D.p) 0 = some (.p (.str w0)) := atI_ofNat (i := 0) rfl
    have l0 := z2 w0 List.mem_cons_self
    have zl : rest.length ≤ s.length := by rw [List.length_cons] at z1; omega
    show kVal _ (.val (.lst (D.p (.str w0) :: (rest.map PyData.str).map D.p))) _
    walk_at "go"
    refine cf_mk [.p (.str w0)] rfl ⟨w0, rfl, by omega, fun c hc => sg c (z3 w0 List.mem_cons_self c hc), fun ns ne hb e0 => ?_, fun hno => ?_⟩
    · walk_at "go"
      refine s_L (xs := PyData.str w0 :: rest.map PyData.str) rfl ?_
      rw [cut_tl]
      walk_at "go"
      refine lcx_good PyData.str rest IsNums numsV _ rfl (by omega) rfl (fun i p W acc hi hw => ?_) (fun hg => ?_)
      · have hp : p ∈ w0 :: rest := List.mem_cons_of_mem _ (List.mem_of_getElem? hi)
        have lp := z2 p hp
        walk_at "go"
        refine cf_mk [.p (.str p)] rfl ⟨p, rfl, by omega, fun c hc => sg c (z3 p hp c hc), fun ms ne hb e => ?_, fun hno => ?_⟩
        · have hw := hw ⟨ms, ne, hb, e⟩
          rw [e, numsV_nums ne hb] at hw
          walk_at "go"
          exact hw
        · have no := no fun h => hno (nums h p hp)
          walk_at "go"
          exact no
      · obtain ⟨wss, ew, hw⟩ := numsL_of hg
        have ev : rest.map numsV = wss.map fun w => .tuple (natsP w) := by
          rw [ew, List.map_map]
          exact List.map_congr_left fun w hw' => numsV_nums (hw w hw').1 (hw w hw').2
        rw [ev]
        have k3 : Kn3 (.tuple [.tuple (natsP ns), .tuple (wss.map fun w => .tuple (natsP w))]) := ⟨rfl, fun x y e => by cases e; exact ⟨kn1_nats _, kn2_numss _⟩⟩
        walk_at "go"
        refine i_seq ?_
        walk_at "go"
        refine cf_mk [.p (.tuple [.tuple (natsP ns), .tuple (wss.map fun w => .tuple (natsP w))])] rfl ⟨_, _, rfl, .inl ⟨_, rfl, k3, rfl⟩, ?_⟩
        cases c : ruleB (.tuple [.tuple (natsP ns), .tuple (wss.map fun w => .tuple (natsP w))]) with
        | true =>
          obtain ⟨r, rok, e1, e2⟩ := rule_words c
          have es : s = ruleT r := by
            rw [← hj, e0, ew, ← e1, ← e2]
            unfold ruleT ruleP
            rw [List.map_map]; rfl
          have q := q r rok es
          have er : encR r = .tuple [.tuple (natsP ns), .tuple (wss.map fun w => .tuple (natsP w))] := by
            unfold encR
            rw [← e1, ← e2, ← natL_enc (rooms_nn rok), List.map_map]
            have : r.ways.map wayT = r.ways.map ((fun w => PyData.tuple (natsP w)) ∘ wayN) := List.map_congr_left fun p hp => wayN_enc (rok.ways p hp)
            rw [this]
          rw [er] at q
          walk_at "go"
          exact q
        | false =>
          have no := no fun ⟨r, rok, e⟩ => by
            have h1 := inv r rok e
            unfold ruleP at h1
            injection h1 with h2 h3
            have t := rule_true rok
            have rn : natL r.rooms ≠ [] := fun z => by
              have h := congrArg List.length z
              unfold natL at h
              rw [List.length_map] at h
              have := rok.rooms.r1
              have h : r.rooms.length = 0 := h
              omega
            have f1 : numsV w0 = .tuple (r.rooms.map PyData.int) := by
              rw [h2, numsV_nums rn (natL_small rok), ← natL_enc (rooms_nn rok)]
            have f2 : numsV w0 = .tuple (natsP ns) := by rw [e0, numsV_nums ne hb]
            have f3 : rest.map numsV = r.ways.map wayT := by
              rw [h3, List.map_map]
              exact List.map_congr_left fun p hp => by
                show numsV (numsT (wayN p)) = wayT p
                rw [numsV_nums (by unfold wayN; exact List.cons_ne_nil _ _) (wayN_small (rok.ways p hp)), wayN_enc (rok.ways p hp)]
            rw [← f2, ← ev, f1, f3] at c
            have t : ruleB (.tuple [.tuple (r.rooms.map PyData.int), .tuple (r.ways.map wayT)]) = true := t
            rw [t] at c
            cases c
          walk_at "go"
          exact no
    · have no := no fun h => hno (nums h w0 List.mem_cons_self)
      walk_at "go"
      exact no

/-! ### are_homes -/

def t_are_homes : DTS := (dSeq (dIfS (dOr (dNot (dTst (dIsi "tuple" (dNm 0)))) (dNot (dTst (dChain fLe fLe (dK (.int 2)) (dCall gLen (dCons (dNm 0) dNil)) (dK (.int 3)))))) (dRet (dK (.bool false))) dNext)
  (dRet (dCall gAll (dCons (dLc (diSeq (dNm 0)) (gNm 2) dYes (dCallF fd_is_between (dCons (dNm 2) (dCons (dK (.int 0)) (dCons (dBin fSub (dNm 1) (dK (.int 1))) dNil)))) [2]) dNil))))
abbrev tv_are_homes : List Nat := []

def fd_are_homes : FD := fun ds QD _ => ∃ (x : PD) (m : Int), ds = [.p x, .p (.int m)] ∧ Kn1 x ∧ QD (.p (.bool (homesB m x))) ds
theorem hn_are_homes (ds : List D) (Q E) (h : fd_are_homes ds Q E) : ds.length = 2 := by obtain ⟨_, _, rfl, _⟩ := h; rfl
theorem rd_are_homes : Body t_are_homes tv_are_homes 3 fd_are_homes := by
  rintro ds QD ED ⟨x, m, rfl, ⟨kx, k1⟩, q⟩
  unfold t_are_homes
  refine i_seq ?_
  cases x
  case tuple xs =>
    rw [homesB_t] at q
    cases e1 : decide ((2 : Int) ≤ (xs.length : Int)) with
    | false =>
      rw [e1] at q
      walk_at "go"
      exact q
    | true =>
      rw [e1] at q
      cases e2 : decide ((xs.length : Int) ≤ 3) with
      | false =>
        rw [e2] at q
        walk_at "go"
        rw [e2]
        walk_at "go"
        exact q
      | true =>
        rw [e2] at q
        have hl : (xs.length : Int) ≤ 3 := of_decide_eq_true e2
        walk_at "go"
        rw [e2]
        walk_at "go"
        refine lc_bools (fun x : PD => x) xs _ (betB 0 (m - 1)) (List.map_id' xs).symm (by omega) rfl (fun i y W acc hi hw => ?_) ?_
        · walk_at "go"
          refine cf_mk [.p y, .p (.int 0), .p (.int (m - 1))] rfl ⟨y, 0, m - 1, rfl, k1 xs rfl y (List.mem_of_getElem? hi), ?_⟩
          walk_at "go"
          exact hw
        · walk_at "go"
          rw [List.all_map]
          exact q
  case none => walk_at "go"; exact q
  case bool b => walk_at "go"; exact q
  case int b => walk_at "go"; exact q
  case str s => walk_at "go"; exact q
  case list xs => walk_at "go"; exact q
  all_goals cases kx
/-! ### is_web -/

def t_is_web : DTS := (dSeq (dIfS (dOr (dNot (dTst (dIsi "tuple" (dNm 0)))) (dOr (dTst (dBin fNe (dCall gLen (dCons (dNm 0) dNil)) (dK (.int 2)))) (dNot (dTst (dCallF fd_are_rooms (dCons (dIx (dNm 0) (dK (.int 0))) dNil)))))) (dRet (dK (.bool false))) dNext)
  (dSeq (dIfS (dOr (dNot (dTst (dIsi "tuple" (dIx (dNm 0) (dK (.int 1)))))) (dTst (dBin fGt (dCall gLen (dCons (dIx (dNm 0) (dK (.int 1))) dNil)) (dK (.int 30))))) (dRet (dK (.bool false))) dNext)
  (dRet (dCall gAll (dCons (dLc (diSeq (dIx (dNm 0) (dK (.int 1)))) (gNm 1) dYes (dCallF fd_are_homes (dCons (dNm 1) (dCons (dCall gLen (dCons (dIx (dNm 0) (dK (.int 0))) dNil)) dNil))) [1]) dNil)))))
abbrev tv_is_web : List Nat := []

def fd_is_web : FD := fun ds QD _ => ∃ (d : D) (b : Bool), ds = [d] ∧ WebD d b ∧ QD (.p (.bool b)) ds
theorem hn_is_web (ds : List D) (Q E) (h : fd_is_web ds Q E) : ds.length = 1 := by obtain ⟨_, _, rfl, _⟩ := h; rfl
theorem rd_is_web : Body t_is_web tv_is_web 2 fd_is_web := by
  rintro ds QD ED ⟨d, b, rfl, hd, q⟩
  unfold t_is_web
  refine i_seq ?_
  rcases hd with ⟨x, rfl, ⟨kx, k3⟩, rfl⟩ | ⟨rfl, rfl⟩
  · cases x
    case tuple xs =>
      cases e1 : decide ((xs.length : Int) = 2) with
      | false =>
        have : webB (.tuple xs) = false := by
          have h : ¬ (xs.length : Int) = 2 := of_decide_eq_false e1
          match xs, h with
          | [], _ => rfl
          | [_], _ => rfl
          | [_, _], h => exact absurd rfl h
          | _ :: _ :: _ :: _, _ => rfl
        rw [this] at q
        walk_at "go"
        rw [e1]
        walk_at "go"
        exact q
      | true =>
        have h : (xs.length : Int) = 2 := of_decide_eq_true e1
        match xs, h with
        | [a, b], _ =>
          obtain ⟨ka, kb⟩ := k3 a b rfl
          replace q : QD (.p (.bool (roomsB a && keysB (lenT a) b))) _ := q
          have a0 : atI [a, b] 0 = some a := rfl
          have a1 : atI [a, b] 1 = some b := rfl
          walk_at "go"
          refine cf_mk [.p a] rfl ⟨a, rfl, ka, ?_⟩
          cases er : roomsB a with
          | false =>
            rw [er] at q
            walk_at "go"
            exact q
          | true =>
            rw [er] at q
            obtain ⟨rs, rfl⟩ : ∃ rs, a = .tuple rs := by
              cases a with
              | tuple rs => exact ⟨rs, rfl⟩
              | _ => cases er
            replace q : QD (.p (.bool (keysB (rs.length : Int) b))) _ := q
            walk_at "go"
            refine i_seq ?_
            cases b
            case tuple ks _ =>
              rw [keysB_t] at q
              cases e2 : decide ((ks.length : Int) ≤ 30) with
              | false =>
                rw [e2] at q
                have e3 : decide ((30 : Int) < (ks.length : Int)) = true := decide_eq_true (by have := of_decide_eq_false e2; omega)
                walk_at "go"
                exact q
              | true =>
                rw [e2] at q
                have hl : (ks.length : Int) ≤ 30 := of_decide_eq_true e2
                have e3 : decide ((30 : Int) < (ks.length : Int)) = false := decide_eq_false (by omega)
                walk_at "go"
                refine lc_bools (fun x : PD => x) ks _ (homesB (rs.length : Int)) (List.map_id' ks).symm (by omega) rfl (fun i y W acc hi hw => ?_) ?_
                · walk_at "go"
                  refine cf_mk [.p y, .p (.int (rs.length : Int))] rfl ⟨y, _, rfl, kb.2 ks rfl y (List.mem_of_getElem? hi), ?_⟩
                  walk_at "go"
                  exact hw
                · walk_at "go"
                  rw [List.all_map]
                  exact q
            case none => walk_at "go"; exact q
            case bool b => walk_at "go"; exact q
            case int b => walk_at "go"; exact q
            case str s => walk_at "go"; exact q
            case list xs => walk_at "go"; exact q
            all_goals cases kb.1
    case none => walk_at "go"; exact q
    case bool b => walk_at "go"; exact q
    case int b => walk_at "go"; exact q
    case str s => walk_at "go"; exact q
    case list xs => walk_at "go"; exact q
    all_goals cases kx
  · walk_at "go"
    exact q

/-! ### nest_in -/

def t_nest_in : DTS := (dSeq (dIfS (dOr (dTst (dBin fNe (dCall gLen (dCons (dNm 0) dNil)) (dK (.int 1)))) (dTst (dBin (fInT true) (dNm 0) (dK (.str (PySem.Str.ofString "abcdefghij")))))) (dRaise0 "NoText") dNext)
  (dRet (dSInd (dK (.str (PySem.Str.ofString "abcdefghij"))) (dNm 0))))
abbrev tv_nest_in : List Nat := []

def fd_nest_in : FD := fun ds QD ED => ∃ (s : Str), ds = [.p (.str s)] ∧ s.length ≤ 1000000 ∧ (∀ n : Nat, n < 10 → s = letT n → QD (.p (.int (n : Int))) ds) ∧ (¬ IsLet s → ED "NoText" none ds)
theorem hn_nest_in (ds : List D) (Q E) (h : fd_nest_in ds Q E) : ds.length = 1 := by obtain ⟨_, rfl, _⟩ := h; rfl
theorem rd_nest_in : Body t_nest_in tv_nest_in 1 fd_nest_in := by
  rintro ds QD ED ⟨s, rfl, hs, q, no⟩
  have sz := sz640
  have lt := TL.len_tl s
  unfold t_nest_in
  by_cases g1 : s.length = 1
  · obtain ⟨c, hc⟩ : ∃ c, TL.tl s = [c] := by
      cases h : TL.tl s with
      | nil => rw [h] at lt; simp only [List.length_nil] at lt; omega
      | cons c r =>
        cases r with
        | nil => exact ⟨c, rfl⟩
        | cons a r => rw [h] at lt; simp only [List.length_cons] at lt; omega
    have es : s = ⟨#[c]⟩ := TL.ext_tl hc
    subst es
    have l2 : (⟨#[c]⟩ : Str).length ≤ sizeLine := by omega
    refine i_seq ?_
    walk_at "go"
    refine f_inT (c := c) rfl rfl ?_
    rw [let_dec]
    by_cases hd : 97 ≤ c ∧ c ≤ 106
    · rw [decide_eq_true hd]
      have ec : (⟨#[c]⟩ : Str) = letT (c - 97) := by
        unfold letT
        rw [show 97 + (c - 97) = c by omega]
      walk_at "go"
      rw [ec]
      refine k_sind (let_occ (k := c - 97) (by omega)) ?_
      walk_at "go"
      rw [ec] at q
      exact q (c - 97) (by omega) rfl
    · rw [decide_eq_false hd]
      walk_at "go"
      exact no fun ⟨n, hn, e⟩ => hd (by
        have : TL.tl (⟨#[c]⟩ : Str) = TL.tl (letT n) := by rw [e]
        have : [c] = [97 + n] := this
        injection this with h1 _
        omega)
  · have c1 : decide ((s.length : Int) = 1) = false := decide_eq_false (by omega)
    refine i_seq ?_
    walk_at "go"
    rw [c1]
    walk_at "go"
    exact no fun ⟨n, hn, e⟩ => g1 (by rw [e]; rfl)

/-! ### read_web -/

def t_read_web : DTS := (dSeq (dIfS (dNot (dTst (dIsi "str" (dNm 0)))) (dRaise0 "NoText") dNext)
  (dSeq (dAsg (dSplit (dNm 0) (dK (.str (PySem.Str.ofString "; ")))) (gNm 1))
  (dSeq (dAsg (dLcX (diSeq (dSl (dNm 1) (dSoP (dK (.int 1))) dNoP)) (gNm 4) dYes (dCall gTuple (dCons (dLcX (diSeq (dSplit (dNm 4) (dK (.str (PySem.Str.ofString " "))))) (gNm 5) dYes (dCallF fd_nest_in (dCons (dNm 5) dNil)) [5]) dNil)) [4]) (gNm 2))
  (dSeq (dAsg (dTup (dCons (dCallF fd_numbers_in (dCons (dIx (dNm 1) (dK (.int 0))) dNil)) (dCons (dCall gTuple (dCons (dNm 2) dNil)) dNil))) (gNm 3))
  (dSeq (dIfS (dNot (dTst (dCallF fd_is_web (dCons (dNm 3) dNil)))) (dRaise0 "NoText") dNext)
  (dRet (dMv (dNm 3))))))))
abbrev tv_read_web : List Nat := [1, 2, 3]

def fd_read_web : FD := fun ds QD ED => (∃ d : D, ds = [d] ∧ NoStrD d ∧ ED "NoText" none ds) ∨ ∃ s : Str, ds = [.p (.str s)] ∧ s.length ≤ 900000 ∧ (∀ c ∈ TL.tl s, c < 1114112) ∧ (∀ w : Web, Web9 w → s = webT w → QD (.p (encW w)) ds) ∧ (¬ IsWebT s → ED "NoText" none ds)
theorem hn_read_web (ds : List D) (Q E) (h : fd_read_web ds Q E) : ds.length = 1 := by
  rcases h with ⟨_, rfl, _⟩ | ⟨_, rfl, _⟩ <;> rfl
theorem rd_read_web : Body t_read_web tv_read_web 6 fd_read_web := by
  rintro ds QD ED (⟨d, rfl, ⟨x, rfl, kx, nx⟩ | rfl, no⟩ | ⟨s, rfl, hl, sg, q, no⟩)
  rotate_left
  · unfold t_read_web
    refine i_seq ?_
    walk_at "go"
    exact no
  rotate_left
  · unfold t_read_web
    refine i_seq ?_
    cases x
    case str s => cases nx
    case none => walk_at "go"; exact no
    case bool b => walk_at "go"; exact no
    case int i => walk_at "go"; exact no
    case tuple xs => walk_at "go"; exact no
    case list xs => walk_at "go"; exact no
    all_goals cases kx
  have sz := sz640
  have yb : TL.tl sSem ≠ [] := by rw [tl_sem]; exact List.cons_ne_nil _ _
  have bb : TL.tl sBl ≠ [] := by rw [tl_bl]; exact List.cons_ne_nil _ _
  obtain ⟨z1, z2⟩ := split_sizes yb sem_ok s
  have z3 := split_signs yb sem_ok s
  have hj := join_split yb sem_ok s
  have hne := split_ne yb sem_ok s
  have inv : ∀ w, Web9 w → s = webT w → Txt.split s sSem = webPs w := fun w ok e => by rw [e]; exact webT_split ok
  unfold t_read_web
  refine i_seq ?_
  walk_at "go"
  refine k_split (b := sSem) rfl (by omega) ?_
  generalize Txt.split s sSem = ws at z1 z2 z3 hj hne inv ⊢
  cases ws with
  | nil => exact absurd rfl hne
  | cons w0 rest =>
    have a0 : atI (D.p (.str w0) :: (rest.map PyData.str).map D.p) 0 = some (.p (.str w0)) := atI_ofNat (i := 0) rfl
    have l0 := z2 w0 List.mem_cons_self
    have zl : rest.length ≤ s.length := by rw [List.length_cons] at z1; omega
    show kVal _ (.val (.lst (D.p (.str w0) :: (rest.map PyData.str).map D.p))) _
    walk_at "go"
    refine s_L (xs := PyData.str w0 :: rest.map PyData.str) rfl ?_
    rw [cut_tl]
    walk_at "go"
    refine lcx_good PyData.str rest IsKeyT keyV _ rfl (by omega) rfl (fun i p W acc hi hw => ?_) (fun hg => ?_)
    · have hp : p ∈ w0 :: rest := List.mem_cons_of_mem _ (List.mem_of_getElem? hi)
      have lp := z2 p hp
      obtain ⟨y1, y2⟩ := split_sizes bb bl_ok p
      have iff := key_iff p
      have no : ¬ IsKeyT p → ED "NoText" none [.p (.str s)] := fun hk => no fun ⟨w, ok, e⟩ => hk (by
        have h1 := inv w ok e
        unfold webPs at h1
        injection h1 with _ h2
        have hm := List.mem_of_getElem? hi
        rw [h2] at hm
        obtain ⟨k, km, rfl⟩ := List.mem_map.mp hm
        exact ⟨k, key_ne ok km, ok.home km, rfl⟩)
      walk_at "go"
      refine k_split (b := sBl) rfl (by omega) ?_
      walk_at "go"
      refine lcx_good PyData.str (Txt.split p sBl) IsLet letV _ rfl (by omega) rfl (fun i2 p2 W2 acc2 hi2 hw2 => ?_) (fun hg2 => ?_)
      · have hm2 := List.mem_of_getElem? hi2
        have lp2 := y2 p2 hm2
        walk_at "go"
        refine cf_mk [.p (.str p2)] rfl ⟨p2, rfl, by omega, fun n hn e => ?_, fun hno => ?_⟩
        · have hw2 := hw2 ⟨n, hn, e⟩
          rw [e, letV_let] at hw2
          walk_at "go"
          exact hw2
        · have no := no fun h => hno (iff.mp h p2 hm2)
          walk_at "go"
          exact no
      · have hw := hw (iff.mpr hg2)
        walk_at "go"
        exact hw
    · obtain ⟨kss, ek, hk⟩ := keysL_of hg
      have ev : rest.map keyV = kss.map fun w => .tuple (natsP w) := by
        rw [ek, List.map_map]
        exact List.map_congr_left fun w hw' => keyV_key (hk w hw').1
      rw [ev]
      walk_at "go"
      refine cf_mk [.p (.str w0)] rfl ⟨w0, rfl, by omega, fun c hc => sg c (z3 w0 List.mem_cons_self c hc), fun ns ne hb e0 => ?_, fun hno => ?_⟩
      · have k3 : Kn3 (.tuple [.tuple (natsP ns), .tuple (kss.map fun w => .tuple (natsP w))]) := ⟨rfl, fun x y e => by cases e; exact ⟨kn1_nats _, kn2_numss _⟩⟩
        walk_at "go"
        refine i_seq ?_
        walk_at "go"
        refine cf_mk [.p (.tuple [.tuple (natsP ns), .tuple (kss.map fun w => .tuple (natsP w))])] rfl ⟨_, _, rfl, .inl ⟨_, rfl, k3, rfl⟩, ?_⟩
        cases c : webB (.tuple [.tuple (natsP ns), .tuple (kss.map fun w => .tuple (natsP w))]) with
        | true =>
          obtain ⟨w, wok, e1, e2⟩ := web_words c
          have es : s = webT w := by
            rw [← hj, e0, ek, ← e1, ← e2]; rfl
          have q := q w wok es
          have er : encW w = .tuple [.tuple (natsP ns), .tuple (kss.map fun w => .tuple (natsP w))] := by
            unfold encW
            rw [← e1, ← e2, ← natL_enc wok.ok.nn]; rfl
          rw [er] at q
          walk_at "go"
          exact q
        | false =>
          have no := no fun ⟨w, wok, e⟩ => by
            have h1 := inv w wok e
            unfold webPs at h1
            injection h1 with h2 h3
            have t := web9_true wok
            have f1 : numsV w0 = .tuple (w.rooms.map PyData.int) := by
              rw [h2, numsV_nums (natL_ne wok) wok.small, ← natL_enc wok.ok.nn]
            have f2 : numsV w0 = .tuple (natsP ns) := by rw [e0, numsV_nums ne hb]
            have f3 : rest.map keyV = w.keys.map keyT := by
              rw [h3, List.map_map]
              exact List.map_congr_left fun k hk => keyV_key (key_ne wok hk)
            rw [← f2, ← ev, f1, f3] at c
            have t : webB (.tuple [.tuple (w.rooms.map PyData.int), .tuple (w.keys.map keyT)]) = true := t
            rw [t] at c
            cases c
          walk_at "go"
          exact no
      · have no := no fun ⟨w, wok, e⟩ => hno (by
          have h1 := inv w wok e
          unfold webPs at h1
          injection h1 with h2 _
          exact ⟨natL w.rooms, natL_ne wok, wok.small, h2⟩)
        walk_at "go"
        exact no

/-! ### _law_asked -/

def t_law_asked : DTS := (dSeq (dAsg (dK .none) (gNm 2))
  (dSeq (dAsg (dK .none) (gNm 3))
  (dSeq (dTry [⟨cat_NestError, some 4, fun (ha : Addr) => (dAsg (dMv (dNm 4)) (gNm 3))⟩] (dAsg (dPick2 fd_read_rule fd_read_web (dNm 0) (dCons (dNm 1) dNil)) (gNm 2)))
  (dSeq (dIfS (dTst (dBin fIs (dNm 3) (dK .none))) (dRet (dMv (dNm 2))) dNext)
  (dSeq (dAsg (dIsiE icat0 (dNm 3)) (gNm 5))
  (dRet (dAndV (dIsiE icat1 (dNm 3)) (dAndV (dIsiE icat2 (dNm 3)) (dNotV (dNm 5))))))))))
abbrev tv_law_asked : List Nat := [2, 3, 2, 3, 4, 5]

def fd_law_asked : FD := fun ds QD _ => ∃ (y : Int) (d : D), ds = [.p (.int y), d] ∧ ((y = 0 ∧ ((BadR d ∧ QD (.p (.bool true)) ds) ∨ ∃ r, RuleOk r ∧ d = .p (.str (ruleT r)) ∧ QD (.p (encR r)) ds)) ∨ (y = 1 ∧ ((BadW d ∧ QD (.p (.bool true)) ds) ∨ ∃ w, Web9 w ∧ d = .p (.str (webT w)) ∧ QD (.p (encW w)) ds)))
theorem hn_law_asked (ds : List D) (Q E) (h : fd_law_asked ds Q E) : ds.length = 2 := by obtain ⟨_, _, rfl, _⟩ := h; rfl
theorem rd_law_asked : Body t_law_asked tv_law_asked 6 fd_law_asked := by
  rintro ds QD ED ⟨y, d, rfl, ⟨rfl, ⟨hb, q⟩ | ⟨r, ok, rfl, q⟩⟩ | ⟨rfl, ⟨hb, q⟩ | ⟨w, ok, rfl, q⟩⟩⟩
  · unfold t_law_asked
    rcases hb with (⟨x, rfl, k, n⟩ | rfl) | ⟨s, rfl, hl, sg, nr⟩
    · walk_at "go"
      refine pick0 ?_
      walk_at "go"
      refine cf_mk [.p x] rfl (.inl ⟨_, rfl, .inl ⟨x, rfl, k, n⟩, ?_⟩)
      walk_at "go"
      refine i_seq ?_
      walk_at "go"
      exact q
    · walk_at "go"
      refine pick0 ?_
      walk_at "go"
      refine cf_mk [.dct []] rfl (.inl ⟨_, rfl, .inr rfl, ?_⟩)
      walk_at "go"
      refine i_seq ?_
      walk_at "go"
      exact q
    · walk_at "go"
      refine pick0 ?_
      walk_at "go"
      refine cf_mk [.p (.str s)] rfl (.inr ⟨s, rfl, hl, sg, fun r ok e => absurd ⟨r, ok, e⟩ nr, fun _ => ?_⟩)
      walk_at "go"
      refine i_seq ?_
      walk_at "go"
      exact q
  · have tl := ruleT_len ok
    unfold t_law_asked
    walk_at "go"
    refine pick0 ?_
    walk_at "go"
    refine cf_mk [.p (.str (ruleT r))] rfl (.inr ⟨ruleT r, rfl, by omega, fun c hc => ruleT_signs hc, fun r2 ok2 e => ?_, fun h => absurd ⟨r, ok, rfl⟩ h⟩)
    obtain rfl := ruleT_inj ok ok2 e
    walk_at "go"
    dsimp only
    refine i_seq ?_
    walk_at "go"
    exact q
  · unfold t_law_asked
    rcases hb with (⟨x, rfl, k, n⟩ | rfl) | ⟨s, rfl, hl, sg, nr⟩
    · walk_at "go"
      refine pick1 ?_
      walk_at "go"
      refine cf_mk [.p x] rfl (.inl ⟨_, rfl, .inl ⟨x, rfl, k, n⟩, ?_⟩)
      walk_at "go"
      refine i_seq ?_
      walk_at "go"
      exact q
    · walk_at "go"
      refine pick1 ?_
      walk_at "go"
      refine cf_mk [.dct []] rfl (.inl ⟨_, rfl, .inr rfl, ?_⟩)
      walk_at "go"
      refine i_seq ?_
      walk_at "go"
      exact q
    · walk_at "go"
      refine pick1 ?_
      walk_at "go"
      refine cf_mk [.p (.str s)] rfl (.inr ⟨s, rfl, hl, sg, fun r ok e => absurd ⟨r, ok, e⟩ nr, fun _ => ?_⟩)
      walk_at "go"
      refine i_seq ?_
      walk_at "go"
      exact q
  · have tl := webT_len ok
    unfold t_law_asked
    walk_at "go"
    refine pick1 ?_
    walk_at "go"
    refine cf_mk [.p (.str (webT w))] rfl (.inr ⟨webT w, rfl, by omega, fun c hc => webT_signs ok hc, fun w2 ok2 e => ?_, fun h => absurd ⟨w, ok, rfl⟩ h⟩)
    obtain rfl := webT_inj ok ok2 e
    walk_at "go"
    dsimp only
    refine i_seq ?_
    walk_at "go"
    exact q
/-! ### _law_sign_right -/

def t_law_sign_right : DTS := (dSeq (dAsg (dCallF fd_law_asked (dCons (dNm 0) (dCons (dNm 1) dNil))) (gNm 2))
  (dSeq (dIfS (dTst (dIsi "bool" (dNm 2))) (dRet (dMv (dNm 2))) dNext)
  (dSeq (dIfS (dTst (dBin fEq (dNm 0) (dK (.int 0)))) (dRet (dAndV (dCallF fd_is_rule (dCons (dNm 2) dNil)) (dBin fEq (dCallF fd_show_rule (dCons (dNm 2) dNil)) (dNm 1)))) dNext)
  (dRet (dAndV (dCallF fd_is_web (dCons (dNm 2) dNil)) (dBin fEq (dCallF fd_show_web (dCons (dNm 2) dNil)) (dNm 1)))))))
abbrev tv_law_sign_right : List Nat := [2]

def fd_law_sign_right : FD := fun ds QD _ => ∃ (y : Int) (s : Str), ds = [.p (.int y), .p (.str s)] ∧ (y = 0 ∨ y = 1) ∧ s.length ≤ 900000 ∧ sgn s ∧ QD (.p (.bool true)) ds
theorem hn_law_sign_right (ds : List D) (Q E) (h : fd_law_sign_right ds Q E) : ds.length = 2 := by obtain ⟨_, _, rfl, _⟩ := h; rfl
theorem rd_law_sign_right : Body t_law_sign_right tv_law_sign_right 3 fd_law_sign_right := by
  rintro ds QD ED ⟨y, s, rfl, rfl | rfl, hl, sg, q⟩
  · unfold t_law_sign_right
    walk_at "go"
    by_cases h : IsRuleT s
    · obtain ⟨r, ok, rfl⟩ := h
      refine cf_mk [.p (.int 0), .p (.str (ruleT r))] rfl ⟨_, _, rfl, .inl ⟨rfl, .inr ⟨r, ok, rfl, ?_⟩⟩⟩
      walk_at "go"
      refine i_seq ?_
      walk_at "go"
      refine i_seq ?_
      walk_at "go"
      refine cf_mk [.p (encR r)] rfl ⟨_, _, rfl, .inl ⟨_, rfl, kn3_rule r, rfl⟩, ?_⟩
      rw [rule_true ok]
      walk_at "go"
      refine cf_mk [.p (encR r)] rfl ⟨r, rfl, ok, ?_⟩
      walk_at "go"
      refine f_eqS2 rfl rfl sg ?_
      walk_at "go"
      exact q
    · refine cf_mk [.p (.int 0), .p (.str s)] rfl ⟨_, _, rfl, .inl ⟨rfl, .inl ⟨.inr ⟨s, rfl, hl, sg, h⟩, ?_⟩⟩⟩
      walk_at "go"
      refine i_seq ?_
      walk_at "go"
      exact q
  · unfold t_law_sign_right
    walk_at "go"
    by_cases h : IsWebT s
    · obtain ⟨w, ok, rfl⟩ := h
      refine cf_mk [.p (.int 1), .p (.str (webT w))] rfl ⟨_, _, rfl, .inr ⟨rfl, .inr ⟨w, ok, rfl, ?_⟩⟩⟩
      walk_at "go"
      refine i_seq ?_
      walk_at "go"
      refine i_seq ?_
      walk_at "go"
      refine cf_mk [.p (encW w)] rfl ⟨_, _, rfl, .inl ⟨_, rfl, kn3_web w, rfl⟩, ?_⟩
      rw [web9_true ok]
      walk_at "go"
      refine cf_mk [.p (encW w)] rfl ⟨w, rfl, ok, ?_⟩
      walk_at "go"
      refine f_eqS2 rfl rfl sg ?_
      walk_at "go"
      exact q
    · refine cf_mk [.p (.int 1), .p (.str s)] rfl ⟨_, _, rfl, .inr ⟨rfl, .inl ⟨.inr ⟨s, rfl, hl, sg, h⟩, ?_⟩⟩⟩
      walk_at "go"
      refine i_seq ?_
      walk_at "go"
      exact q
/-! ### _law_sign -/

def t_law_sign : DTS := (dSeq (dAsg (dCallF fd_law_take (dCons (dNm 0) (dCons (dBin fAdd (dCall gLen (dCons (dNm 1) dNil)) (dK (.int 1))) dNil))) (gNm 2))
  (dSeq (dAsg (dIx (dK (.str (PySem.Str.ofString "0123456789,; abcdjkAB-+._"))) (dCallF fd_law_take (dCons (dNm 0) (dCons (dK (.int 25)) dNil)))) (gNm 3))
  (dSeq (dAsg (dCallF fd_law_take (dCons (dNm 0) (dCons (dK (.int 3)) dNil))) (gNm 4))
  (dSeq (dIfS (dTst (dBin fEq (dNm 4) (dK (.int 0)))) (dRet (dBin fAdd (dBin fAdd (dSl (dNm 1) dNoP (dSoP (dNm 2))) (dNm 3)) (dSl (dNm 1) (dSoP (dNm 2)) dNoP))) dNext)
  (dSeq (dIfS (dTst (dBin fEq (dNm 4) (dK (.int 1)))) (dRet (dBin fAdd (dSl (dNm 1) dNoP (dSoP (dNm 2))) (dSl (dNm 1) (dSoP (dBin fAdd (dNm 2) (dK (.int 1)))) dNoP))) dNext)
  (dRet (dBin fAdd (dBin fAdd (dSl (dNm 1) dNoP (dSoP (dNm 2))) (dNm 3)) (dSl (dNm 1) (dSoP (dBin fAdd (dNm 2) (dK (.int 1)))) dNoP))))))))
abbrev tv_law_sign : List Nat := [2, 3, 4]

def fd_law_sign : FD := fun ds QD _ => ∃ (d : D) (b : Int) (s : Str), ds = [d, .p (.str s)] ∧ PenOk b d ∧ b < 2 ^ 59 ∧ s.length ≤ 100000 ∧ sgn s ∧ ∀ (s2 : Str) (d2 : D), s2.length ≤ 300000 → sgn s2 → PenOk (b + 3) d2 → QD (.p (.str s2)) [d2, .p (.str s)]
theorem hn_law_sign (ds : List D) (Q E) (h : fd_law_sign ds Q E) : ds.length = 2 := by obtain ⟨_, _, _, rfl, _⟩ := h; rfl
theorem rd_law_sign : Body t_law_sign tv_law_sign 5 fd_law_sign := by
  rintro ds QD ED ⟨d, b, s, rfl, hp, hb, hl, sg, q⟩
  have sz := sz640
  unfold t_law_sign
  walk_at "go"
  refine cf_mk [d, .p (.int ((s.length : Int) + 1))] rfl ⟨d, _, b, rfl, hp, by omega, by omega, by omega, fun a d1 a0 a1 hp1 => ?_⟩
  walk_at "go"
  refine cf_mk [d1, .p (.int 25)] rfl ⟨d1, 25, _, rfl, hp1, by omega, by decide, by decide, fun z d2 z0 z1 hp2 => ?_⟩
  obtain ⟨c, hc, az⟩ := atI_of_lt (xs := (PySem.Str.ofString "0123456789,; abcdjkAB-+._").cps.toList) (i := z) z0 (by show z < 25; exact z1)
  have sc : sgn (⟨#[c]⟩ : Str) := fun x hx => by
    have hx : x ∈ [c] := hx
    rw [List.mem_singleton.mp hx]
    have all : ∀ y ∈ (PySem.Str.ofString "0123456789,; abcdjkAB-+._").cps.toList, y < 1114112 := by decide
    exact all c (List.mem_of_getElem? hc)
  walk_at "go"
  refine x_S rfl rfl (by show 25 ≤ _; omega) az ?_
  walk_at "go"
  refine cf_mk [d2, .p (.int 3)] rfl ⟨d2, 3, _, rfl, hp2, by omega, by decide, by decide, fun y d3 y0 y1 hp3 => ?_⟩
  have hp3 : PenOk (b + 3) d3 := hp3.mono (by omega)
  have l1 := cutS_len s none (some a)
  have l2 := cutS_len s (some a) none
  have l3 := cutS_len s (some (a + 1)) none
  have s1 := cutS_sgn sg none (some a)
  have s2 := cutS_sgn sg (some a) none
  have s3 := cutS_sgn sg (some (a + 1)) none
  have lc : (⟨#[c]⟩ : Str).length = 1 := rfl
  rcases (by omega : y = 0 ∨ y = 1 ∨ y = 2) with rfl | rfl | rfl
  · walk_at "go"
    refine i_seq ?_
    walk_at "go"
    exact q _ d3 (by rw [len_append, len_append]; omega) (sgn_append (sgn_append s1 sc) s2) hp3
  · walk_at "go"
    refine i_seq ?_
    walk_at "go"
    refine i_seq ?_
    walk_at "go"
    exact q _ d3 (by rw [len_append]; omega) (sgn_append s1 s3) hp3
  · walk_at "go"
    refine i_seq ?_
    walk_at "go"
    refine i_seq ?_
    walk_at "go"
    exact q _ d3 (by rw [len_append, len_append]; omega) (sgn_append (sgn_append s1 sc) s3) hp3
/-! ### law -/

def t_law : DTS := (dSeq (dAsg (dCallF fd_law_pen (dCons (dNm 0) (dCons (dK (.int 0)) dNil))) (gNm 1))
  (dSeq (dAsg (dCallF fd_law_rule (dCons (dNm 1) dNil)) (gNm 2))
  (dSeq (dAsg (dCallF fd_law_web (dCons (dCallF fd_law_pen (dCons (dNm 0) (dCons (dK (.int 1)) dNil))) (dCons (dK (.int 28)) dNil))) (gNm 3))
  (dSeq (dAsg (dLst (dCons (dCallF fd_show_rule (dCons (dNm 2) dNil)) (dCons (dCallF fd_show_web (dCons (dNm 3) dNil)) dNil))) (gNm 4))
  (dSeq (dAsg (dLst (dCons (dFv (dCallF fd_law_bad_rule (dCons (dNm 2) (dCons (dIx (dNm 4) (dK (.int 0))) dNil)))) (dCons (dFv (dCallF fd_law_bad_web (dCons (dNm 3) (dCons (dIx (dNm 4) (dK (.int 1))) dNil)))) dNil))) (gNm 5))
  (dSeq (dFor (diRange (dCons (dK (.int 2)) dNil)) (gNm 6) (dFor (diRange (dCons (dK (.int 6)) dNil)) (gNm 7) (dSeq (dAsg (dCallF fd_law_pen (dCons (dNm 0) (dCons (dBin fAdd (dBin fAdd (dK (.int 2)) (dBin fMul (dK (.int 6)) (dNm 6))) (dNm 7)) dNil))) (gNm 8))
  (dSeq (dIfS (dNot (dTst (dCallF fd_law_sign_right (dCons (dNm 6) (dCons (dCallF fd_law_sign (dCons (dNm 8) (dCons (dIx (dNm 4) (dNm 6)) dNil))) dNil))))) (dRet (dK (.bool false))) dNext)
  (dSeq (dIfS (dTst (dBin fIsNot (dCallF fd_law_asked (dCons (dNm 6) (dCons (dIx (dIx (dNm 5) (dNm 6)) (dCallF fd_law_take (dCons (dNm 8) (dCons (dCall gLen (dCons (dIx (dNm 5) (dNm 6)) dNil)) dNil)))) dNil))) (dK (.bool true)))) (dRet (dK (.bool false))) dNext)
  (dSeq (dAsg (dIx (dLst (dCons (dK .none) (dCons (dK (.int 5)) (dCons (dK (.bool true)) (dCons (dFv (dLst (dCons (dFz (dIx (dNm 4) (dNm 6))) dNil))) (dCons (dTup dNil) (dCons dNewD (dCons (dFz (dNm 2)) dNil)))))))) (dCallF fd_law_take (dCons (dNm 8) (dCons (dK (.int 7)) dNil)))) (gNm 9))
  (dIfS (dTst (dBin fIsNot (dCallF fd_law_asked (dCons (dNm 6) (dCons (dNm 9) dNil))) (dK (.bool true)))) (dRet (dK (.bool false))) dNext)))))))
  (dRet (dAndV (dBin fEq (dCallF fd_read_rule (dCons (dIx (dNm 4) (dK (.int 0))) dNil)) (dNm 2)) (dBin fEq (dCallF fd_read_web (dCons (dIx (dNm 4) (dK (.int 1))) dNil)) (dNm 3))))))))))
abbrev tv_law : List Nat := [1, 2, 3, 4, 5, 6, 7, 8, 9]

def fd_law : FD := fun ds QD _ => ∃ ns : List Int, ds = [.p (scrP ns)] ∧ QD (.p (.bool true)) ds
theorem hn_law (ds : List D) (Q E) (h : fd_law ds Q E) : ds.length = 1 := by obtain ⟨_, rfl, _⟩ := h; rfl
theorem asked_bad {y : Int} {d : D} {Q : D → List D → Prop} {E : Str → Option (Str × D) → List D → Prop} (h : BadI y d) (q : Q (.p (.bool true)) [.p (.int y), d]) : fd_law_asked [.p (.int y), d] Q E := by
  rcases h with ⟨e, h⟩ | ⟨e, h⟩
  · exact ⟨y, d, rfl, .inl ⟨e, .inl ⟨h, q⟩⟩⟩
  · exact ⟨y, d, rfl, .inr ⟨e, .inl ⟨h, q⟩⟩⟩
theorem rd_law : Body t_law tv_law 10 fd_law := by
  rintro ds QD ED ⟨ns, rfl, q⟩
  have sz := sz640
  unfold t_law
  walk_at "go"
  refine cf_mk [.p (scrP ns), .p (.int 0)] rfl ⟨ns, 0, rfl, by decide, by decide, fun d hp => ?_⟩
  walk_at "go"
  refine cf_mk [d] rfl ⟨d, _, rfl, hp, by decide, fun r d1 ok hp1 => ?_⟩
  have tl := ruleT_len ok
  walk_at "go"
  refine cf_mk [.p (scrP ns), .p (.int 1)] rfl ⟨ns, 1, rfl, by decide, by decide, fun dw hpw => ?_⟩
  walk_at "go"
  refine cf_mk [dw, .p (.int 28)] rfl ⟨dw, 28, _, rfl, hpw, by decide, by decide, by decide, fun w dw1 okw hr9 hpw1 => ?_⟩
  have ok9 : Web9 w := ⟨okw.mono (by decide), hr9⟩
  have tw := webT_len ok9
  walk_at "go"
  refine cf_mk [.p (encR r)] rfl ⟨r, rfl, ok, ?_⟩
  walk_at "go"
  refine cf_mk [.p (encW w)] rfl ⟨w, rfl, ok9, ?_⟩
  have a0 : atI [D.p (.str (ruleT r)), D.p (.str (webT w))] 0 = some (.p (.str (ruleT r))) := rfl
  have a1 : atI [D.p (.str (ruleT r)), D.p (.str (webT w))] 1 = some (.p (.str (webT w))) := rfl
  walk_at "go"
  refine cf_mk [.p (encR r), .p (.str (ruleT r))] rfl ⟨r, rfl, ok, fun LR bR => ?_⟩
  walk_at "go"
  refine cf_mk [.p (encW w), .p (.str (webT w))] rfl ⟨w, rfl, ok9, fun LW bW => ?_⟩
  walk_at "go"
  refine for_mk (fun _ e => ∃ (y6 y7 y8 y9 : D), e = [.p (scrP ns), d1, .p (encR r), .p (encW w), .lst [.p (.str (ruleT r)), .p (.str (webT w))], .lst [.p (.list (LR.map PyData.str)), .p (.list (LW.map PyData.str))], y6, y7, y8, y9]) ⟨_, _, _, _, rfl⟩ (fun i x e hx ⟨y6, y7, y8, y9, he⟩ => ?_) (fun e ⟨y6, y7, y8, y9, he⟩ => ?_)
  · subst he
    have i2 : i < 2 := by
      have := (List.getElem?_eq_some_iff.mp hx).1
      unfold rangeP at this
      rw [List.length_map, List.length_range] at this
      exact this
    obtain rfl : x = .int (i : Int) := by
      rw [rangeP_get] at hx
      split at hx
      · cases hx
        exact congrArg PyData.int (by omega)
      · cases hx
    obtain ⟨T, eT, lT, sT⟩ : ∃ T : Str, atI [D.p (.str (ruleT r)), D.p (.str (webT w))] (i : Int) = some (.p (.str T)) ∧ T.length ≤ 100000 ∧ sgn T := by
      rcases (by omega : i = 0 ∨ i = 1) with rfl | rfl
      · exact ⟨_, rfl, by omega, fun c hc => ruleT_signs hc⟩
      · exact ⟨_, rfl, by omega, fun c hc => webT_signs ok9 hc⟩
    obtain ⟨L, n, eL, nL, bL⟩ : ∃ (L : List Str) (n : Nat), atI [D.p (.list (LR.map PyData.str)), D.p (.list (LW.map PyData.str))] (i : Int) = some (.p (.list (L.map PyData.str))) ∧ (1 ≤ n ∧ n ≤ 30) ∧ BadL (fun s => BadI (i : Int) (.p (.str s))) n L := by
      rcases (by omega : i = 0 ∨ i = 1) with rfl | rfl
      · exact ⟨LR, 25, rfl, by decide, bR.len, fun s hs => .inl ⟨rfl, .inr ⟨s, rfl, by have := (bR.all s hs).1; omega, (bR.all s hs).2.1, (bR.all s hs).2.2⟩⟩⟩
      · exact ⟨LW, 26, rfl, by decide, bW.len, fun s hs => .inr ⟨rfl, .inr ⟨s, rfl, by have := (bW.all s hs).1; omega, (bW.all s hs).2.1, (bW.all s hs).2.2⟩⟩⟩
    have lL : (L.map PyData.str).length = n := by rw [List.length_map]; exact bL.len
    have c6 : CMulX 6 (i : Int) := mulx (by decide) (small_lt (a := 20) (by omega) (by decide))
    have nb : ∀ v : D, NoStrD v → BadI (i : Int) v := fun v nv => by
      rcases (by omega : i = 0 ∨ i = 1) with rfl | rfl
      · exact .inl ⟨rfl, .inl nv⟩
      · exact .inr ⟨rfl, .inl nv⟩
    walk_at "go"
    refine for_mk (fun _ e => ∃ (y7 y8 y9 : D), e = [.p (scrP ns), d1, .p (encR r), .p (encW w), .lst [.p (.str (ruleT r)), .p (.str (webT w))], .lst [.p (.list (LR.map PyData.str)), .p (.list (LW.map PyData.str))], .p (.int (i : Int)), y7, y8, y9]) ⟨_, _, _, rfl⟩ (fun j x e hx ⟨y7, y8, y9, he⟩ => ?_) (fun e ⟨y7, y8, y9, he⟩ => ?_)
    · subst he
      have j6 : j < 6 := by
        have := (List.getElem?_eq_some_iff.mp hx).1
        unfold rangeP at this
        rw [List.length_map, List.length_range] at this
        exact this
      obtain rfl : x = .int (j : Int) := by
        rw [rangeP_get] at hx
        split at hx
        · cases hx
          exact congrArg PyData.int (by omega)
        · cases hx
      walk_at "go"
      refine cf_mk [.p (scrP ns), .p (.int (2 + 6 * (i : Int) + (j : Int)))] rfl ⟨ns, _, rfl, by omega, by omega, fun dm hpm => ?_⟩
      walk_at "go"
      refine i_seq ?_
      walk_at "go"
      refine cf_mk [dm, .p (.str T)] rfl ⟨dm, _, T, rfl, hpm, by omega, lT, sT, fun s2 dm2 l2 g2 hpm2 => ?_⟩
      walk_at "go"
      refine cf_mk [.p (.int (i : Int)), .p (.str s2)] rfl ⟨_, s2, rfl, by omega, by omega, g2, ?_⟩
      walk_at "go"
      refine i_seq ?_
      walk_at "go"
      refine cf_mk [dm2, .p (.int (n : Int))] (by show [dm2, D.p (.int (((L.map PyData.str).length : Nat) : Int))] = _; rw [lL]) ⟨dm2, _, _, rfl, hpm2, by omega, by omega, by omega, fun z dm3 z0 z1 hpm3 => ?_⟩
      obtain ⟨s3, a3, b3⟩ := pick63 bL z0 z1
      walk_at "go"
      refine cf_mk [.p (.int (i : Int)), .p (.str s3)] rfl (asked_bad b3 ?_)
      walk_at "go"
      refine cf_mk [dm3, .p (.int 7)] rfl ⟨dm3, _, _, rfl, hpm3, by omega, by decide, by decide, fun y dm4 y0 y1 hpm4 => ?_⟩
      obtain ⟨v, av, nv⟩ : ∃ v : D, atI [D.p .none, D.p (.int 5), D.p (.bool true), D.p (.list [.str T]), D.p (.tuple []), D.dct [], D.p (encR r)] y = some v ∧ NoStrD v := by
        rcases (by omega : y = 0 ∨ y = 1 ∨ y = 2 ∨ y = 3 ∨ y = 4 ∨ y = 5 ∨ y = 6) with rfl | rfl | rfl | rfl | rfl | rfl | rfl
        · exact ⟨_, rfl, .inl ⟨_, rfl, rfl, rfl⟩⟩
        · exact ⟨_, rfl, .inl ⟨_, rfl, rfl, rfl⟩⟩
        · exact ⟨_, rfl, .inl ⟨_, rfl, rfl, rfl⟩⟩
        · exact ⟨_, rfl, .inl ⟨_, rfl, rfl, rfl⟩⟩
        · exact ⟨_, rfl, .inl ⟨_, rfl, rfl, rfl⟩⟩
        · exact ⟨_, rfl, .inr rfl⟩
        · exact ⟨_, rfl, .inl ⟨_, rfl, rfl, rfl⟩⟩
      have bv := nb v nv
      walk_at "go"
      refine x_LV rfl rfl av ?_
      rcases nv with ⟨x, rfl, kx, nx⟩ | rfl
      · walk_at "go"
        refine cf_mk [.p (.int (i : Int)), .p x] rfl (asked_bad bv ?_)
        walk_at "go"
        exact ⟨_, _, _, rfl⟩
      · walk_at "go"
        refine cf_mk [.p (.int (i : Int)), .dct []] rfl (asked_bad bv ?_)
        walk_at "go"
        exact ⟨_, _, _, rfl⟩
    · subst he
      walk_at "go"
      exact ⟨_, _, _, _, rfl⟩
  · subst he
    walk_at "go"
    refine cf_mk [.p (.str (ruleT r))] rfl (.inr ⟨ruleT r, rfl, by omega, fun c hc => ruleT_signs hc, fun r2 ok2 e => ?_, fun h => absurd ⟨r, ok, rfl⟩ h⟩)
    obtain rfl := ruleT_inj ok ok2 e
    walk_at "go"
    refine f_eq (u := encR r) (v := encR r) rfl rfl (rule_shaped2 r) (rule_shaped2 r) ?_
    rw [k63_eqv]
    walk_at "go"
    refine cf_mk [.p (.str (webT w))] rfl (.inr ⟨webT w, rfl, by omega, fun c hc => webT_signs ok9 hc, fun w2 ok2 e => ?_, fun h => absurd ⟨w, ok9, rfl⟩ h⟩)
    obtain rfl := webT_inj ok9 ok2 e
    walk_at "go"
    refine f_eq (u := encW w) (v := encW w) rfl rfl (web_shaped2 w) (web_shaped2 w) ?_
    rw [k63_eqw]
    walk_at "go"
    exact q
theorem law_end (ns : List Int) (h1 : ns.length ≤ 63) (h2 : ∀ z ∈ ns, Builtin.Int.intBits z ≤ 1048576) : fd_law [.p (.list (ns.map PyData.int))] (fun r _ => r = .p (.bool true)) (fun _ _ _ => False) := ⟨ns, rfl, rfl⟩

structure Tx (K : PySem.W.Frag) (mg : Str → Option Value) : Prop where
  r_NoText : ∃ C, BareC K mg "NoText" C
  x_NestError : ∃ c, mg "NestError" = some c ∧ CatOk K cat_NestError c
  i_0 : ∃ C0 C1 C2 C3 C4 C5 C6 C7, mg "Full" = some (.ref C0) ∧ mg "NoFit" = some (.ref C1) ∧ mg "NoKey" = some (.ref C2) ∧ mg "NoPairs" = some (.ref C3) ∧ mg "NoPush" = some (.ref C4) ∧ mg "NoRow" = some (.ref C5) ∧ mg "NoRule" = some (.ref C6) ∧ mg "Twice" = some (.ref C7) ∧ IsOk K icat0 [.ref C0, .ref C1, .ref C2, .ref C3, .ref C4, .ref C5, .ref C6, .ref C7]
  i_1 : ∃ C, mg "NoText" = some (.ref C) ∧ IsOk K icat1 [.ref C]
  i_2 : IsOk K icat2 [.type "ValueError"]
  b_len : mg "len" = none
  b_tuple : mg "tuple" = none
  b_range : mg "range" = none
  b_str : mg "str" = none
  b_int : mg "int" = none
  b_isinstance : mg "isinstance" = none
  b_bool : mg "bool" = none
  b_all : mg "all" = none
  b_ValueError : mg "ValueError" = none
  c_LETTERS : ∃ u, mg "LETTERS" = some u ∧ RelV (.str (PySem.Str.ofString "abcdefghij")) u
  c_FIGURES : ∃ u, mg "FIGURES" = some u ∧ RelV (.str (PySem.Str.ofString "0123456789")) u
  c_MOST_FIGURES : ∃ u, mg "MOST_FIGURES" = some u ∧ RelV (.int 60) u
  c_MOST_NESTS : ∃ u, mg "MOST_NESTS" = some u ∧ RelV (.int 10) u
  c_MOST_ROOM : ∃ u, mg "MOST_ROOM" = some u ∧ RelV (.int 9) u
  c_PRIME : ∃ u, mg "PRIME" = some u ∧ RelV (.int 10007) u
  c_MOST_KEYS : ∃ u, mg "MOST_KEYS" = some u ∧ RelV (.int 30) u
  d_law_mixed : ∃ f fd, DefAt K mg "_law_mixed" s_law_mixed ["_law_script", "_law_k"] f fd
  d_law_cell_at : ∃ f fd, DefAt K mg "_law_cell_at" s_law_cell_at ["_law_script", "_law_k"] f fd
  d_law_pen : ∃ f fd, DefAt K mg "_law_pen" s_law_pen ["_law_script", "_law_k"] f fd
  d_law_take : ∃ f fd, DefAt K mg "_law_take" s_law_take ["_law_pen_here", "_law_size"] f fd
  d_law_rule : ∃ f fd, DefAt K mg "_law_rule" s_law_rule ["_law_pen_here"] f fd
  d_law_web : ∃ f fd, DefAt K mg "_law_web" s_law_web ["_law_pen_here", "_law_limit"] f fd
  d_numbers_shown : ∃ f fd, DefAt K mg "numbers_shown" s_numbers_shown ["numbers"] f fd
  d_show_rule : ∃ f fd, DefAt K mg "show_rule" s_show_rule ["rule"] f fd
  d_show_web : ∃ f fd, DefAt K mg "show_web" s_show_web ["web"] f fd
  d_law_bad_rule : ∃ f fd, DefAt K mg "_law_bad_rule" s_law_bad_rule ["_law_rule_here", "_law_text"] f fd
  d_law_bad_web : ∃ f fd, DefAt K mg "_law_bad_web" s_law_bad_web ["_law_web_here", "_law_text"] f fd
  d_number_in : ∃ f fd, DefAt K mg "number_in" s_number_in ["word"] f fd
  d_numbers_in : ∃ f fd, DefAt K mg "numbers_in" s_numbers_in ["word"] f fd
  d_is_between : ∃ f fd, DefAt K mg "is_between" s_is_between ["thing", "low", "high"] f fd
  d_are_rooms : ∃ f fd, DefAt K mg "are_rooms" s_are_rooms ["thing"] f fd
  d_is_way : ∃ f fd, DefAt K mg "is_way" s_is_way ["thing"] f fd
  d_are_ways : ∃ f fd, DefAt K mg "are_ways" s_are_ways ["thing"] f fd
  d_is_rule : ∃ f fd, DefAt K mg "is_rule" s_is_rule ["thing"] f fd
  d_read_rule : ∃ f fd, DefAt K mg "read_rule" s_read_rule ["text"] f fd
  d_are_homes : ∃ f fd, DefAt K mg "are_homes" s_are_homes ["thing", "many"] f fd
  d_is_web : ∃ f fd, DefAt K mg "is_web" s_is_web ["thing"] f fd
  d_nest_in : ∃ f fd, DefAt K mg "nest_in" s_nest_in ["word"] f fd
  d_read_web : ∃ f fd, DefAt K mg "read_web" s_read_web ["text"] f fd
  d_law_asked : ∃ f fd, DefAt K mg "_law_asked" s_law_asked ["_law_way", "_law_text"] f fd
  d_law_sign_right : ∃ f fd, DefAt K mg "_law_sign_right" s_law_sign_right ["_law_way", "_law_text"] f fd
  d_law_sign : ∃ f fd, DefAt K mg "_law_sign" s_law_sign ["_law_pen_here", "_law_text"] f fd
  d_law : ∃ f fd, DefAt K mg "law" s_law ["_law_script"] f fd
theorem Tx.mk' {K : PySem.W.Frag} {h : Heap} {mg : Str → Option Value} (X : K.In h) (G : h.Ns mainGlobals mg)
    {f0 : Addr} {od0 an0 : Option Addr} {sl0 : Array (Option Value)} {oc0 kV0 dc0 pm0 cd0 ct0 : Value}
    (a0 : PySem.W.nsIn K mainGlobals "_law_mixed" = some (some (.ref f0))) (l0 : K.lookup f0 = some ⟨oc0, od0, .func (PySem.W.fnOf "_law_mixed" "_law_mixed" (defArgs s_law_mixed) (defBody s_law_mixed) (defScope s_law_mixed) .none kV0 dc0 pm0 an0 cd0 ct0), sl0⟩) (e0 : PySem.W.codeIn K cd0 "_law_mixed" = true) (k0 : PySem.W.keepIn K (.ref f0) = true)
    {f1 : Addr} {od1 an1 : Option Addr} {sl1 : Array (Option Value)} {oc1 kV1 dc1 pm1 cd1 ct1 : Value}
    (a1 : PySem.W.nsIn K mainGlobals "_law_cell_at" = some (some (.ref f1))) (l1 : K.lookup f1 = some ⟨oc1, od1, .func (PySem.W.fnOf "_law_cell_at" "_law_cell_at" (defArgs s_law_cell_at) (defBody s_law_cell_at) (defScope s_law_cell_at) .none kV1 dc1 pm1 an1 cd1 ct1), sl1⟩) (e1 : PySem.W.codeIn K cd1 "_law_cell_at" = true) (k1 : PySem.W.keepIn K (.ref f1) = true)
    {f2 : Addr} {od2 an2 : Option Addr} {sl2 : Array (Option Value)} {oc2 kV2 dc2 pm2 cd2 ct2 : Value}
    (a2 : PySem.W.nsIn K mainGlobals "_law_pen" = some (some (.ref f2))) (l2 : K.lookup f2 = some ⟨oc2, od2, .func (PySem.W.fnOf "_law_pen" "_law_pen" (defArgs s_law_pen) (defBody s_law_pen) (defScope s_law_pen) .none kV2 dc2 pm2 an2 cd2 ct2), sl2⟩) (e2 : PySem.W.codeIn K cd2 "_law_pen" = true) (k2 : PySem.W.keepIn K (.ref f2) = true)
    {f3 : Addr} {od3 an3 : Option Addr} {sl3 : Array (Option Value)} {oc3 kV3 dc3 pm3 cd3 ct3 : Value}
    (a3 : PySem.W.nsIn K mainGlobals "_law_take" = some (some (.ref f3))) (l3 : K.lookup f3 = some ⟨oc3, od3, .func (PySem.W.fnOf "_law_take" "_law_take" (defArgs s_law_take) (defBody s_law_take) (defScope s_law_take) .none kV3 dc3 pm3 an3 cd3 ct3), sl3⟩) (e3 : PySem.W.codeIn K cd3 "_law_take" = true) (k3 : PySem.W.keepIn K (.ref f3) = true)
    {f4 : Addr} {od4 an4 : Option Addr} {sl4 : Array (Option Value)} {oc4 kV4 dc4 pm4 cd4 ct4 : Value}
    (a4 : PySem.W.nsIn K mainGlobals "_law_rule" = some (some (.ref f4))) (l4 : K.lookup f4 = some ⟨oc4, od4, .func (PySem.W.fnOf "_law_rule" "_law_rule" (defArgs s_law_rule) (defBody s_law_rule) (defScope s_law_rule) .none kV4 dc4 pm4 an4 cd4 ct4), sl4⟩) (e4 : PySem.W.codeIn K cd4 "_law_rule" = true) (k4 : PySem.W.keepIn K (.ref f4) = true)
    {f5 : Addr} {od5 an5 : Option Addr} {sl5 : Array (Option Value)} {oc5 kV5 dc5 pm5 cd5 ct5 : Value}
    (a5 : PySem.W.nsIn K mainGlobals "_law_web" = some (some (.ref f5))) (l5 : K.lookup f5 = some ⟨oc5, od5, .func (PySem.W.fnOf "_law_web" "_law_web" (defArgs s_law_web) (defBody s_law_web) (defScope s_law_web) .none kV5 dc5 pm5 an5 cd5 ct5), sl5⟩) (e5 : PySem.W.codeIn K cd5 "_law_web" = true) (k5 : PySem.W.keepIn K (.ref f5) = true)
    {f6 : Addr} {od6 an6 : Option Addr} {sl6 : Array (Option Value)} {oc6 kV6 dc6 pm6 cd6 ct6 : Value}
    (a6 : PySem.W.nsIn K mainGlobals "numbers_shown" = some (some (.ref f6))) (l6 : K.lookup f6 = some ⟨oc6, od6, .func (PySem.W.fnOf "numbers_shown" "numbers_shown" (defArgs s_numbers_shown) (defBody s_numbers_shown) (defScope s_numbers_shown) .none kV6 dc6 pm6 an6 cd6 ct6), sl6⟩) (e6 : PySem.W.codeIn K cd6 "numbers_shown" = true) (k6 : PySem.W.keepIn K (.ref f6) = true)
    {f7 : Addr} {od7 an7 : Option Addr} {sl7 : Array (Option Value)} {oc7 kV7 dc7 pm7 cd7 ct7 : Value}
    (a7 : PySem.W.nsIn K mainGlobals "show_rule" = some (some (.ref f7))) (l7 : K.lookup f7 = some ⟨oc7, od7, .func (PySem.W.fnOf "show_rule" "show_rule" (defArgs s_show_rule) (defBody s_show_rule) (defScope s_show_rule) .none kV7 dc7 pm7 an7 cd7 ct7), sl7⟩) (e7 : PySem.W.codeIn K cd7 "show_rule" = true) (k7 : PySem.W.keepIn K (.ref f7) = true)
    {f8 : Addr} {od8 an8 : Option Addr} {sl8 : Array (Option Value)} {oc8 kV8 dc8 pm8 cd8 ct8 : Value}
    (a8 : PySem.W.nsIn K mainGlobals "show_web" = some (some (.ref f8))) (l8 : K.lookup f8 = some ⟨oc8, od8, .func (PySem.W.fnOf "show_web" "show_web" (defArgs s_show_web) (defBody s_show_web) (defScope s_show_web) .none kV8 dc8 pm8 an8 cd8 ct8), sl8⟩) (e8 : PySem.W.codeIn K cd8 "show_web" = true) (k8 : PySem.W.keepIn K (.ref f8) = true)
    {f9 : Addr} {od9 an9 : Option Addr} {sl9 : Array (Option Value)} {oc9 kV9 dc9 pm9 cd9 ct9 : Value}
    (a9 : PySem.W.nsIn K mainGlobals "_law_bad_rule" = some (some (.ref f9))) (l9 : K.lookup f9 = some ⟨oc9, od9, .func (PySem.W.fnOf "_law_bad_rule" "_law_bad_rule" (defArgs s_law_bad_rule) (defBody s_law_bad_rule) (defScope s_law_bad_rule) .none kV9 dc9 pm9 an9 cd9 ct9), sl9⟩) (e9 : PySem.W.codeIn K cd9 "_law_bad_rule" = true) (k9 : PySem.W.keepIn K (.ref f9) = true)
    {f10 : Addr} {od10 an10 : Option Addr} {sl10 : Array (Option Value)} {oc10 kV10 dc10 pm10 cd10 ct10 : Value}
    (a10 : PySem.W.nsIn K mainGlobals "_law_bad_web" = some (some (.ref f10))) (l10 : K.lookup f10 = some ⟨oc10, od10, .func (PySem.W.fnOf "_law_bad_web" "_law_bad_web" (defArgs s_law_bad_web) (defBody s_law_bad_web) (defScope s_law_bad_web) .none kV10 dc10 pm10 an10 cd10 ct10), sl10⟩) (e10 : PySem.W.codeIn K cd10 "_law_bad_web" = true) (k10 : PySem.W.keepIn K (.ref f10) = true)
    {f11 : Addr} {od11 an11 : Option Addr} {sl11 : Array (Option Value)} {oc11 kV11 dc11 pm11 cd11 ct11 : Value}
    (a11 : PySem.W.nsIn K mainGlobals "number_in" = some (some (.ref f11))) (l11 : K.lookup f11 = some ⟨oc11, od11, .func (PySem.W.fnOf "number_in" "number_in" (defArgs s_number_in) (defBody s_number_in) (defScope s_number_in) .none kV11 dc11 pm11 an11 cd11 ct11), sl11⟩) (e11 : PySem.W.codeIn K cd11 "number_in" = true) (k11 : PySem.W.keepIn K (.ref f11) = true)
    {f12 : Addr} {od12 an12 : Option Addr} {sl12 : Array (Option Value)} {oc12 kV12 dc12 pm12 cd12 ct12 : Value}
    (a12 : PySem.W.nsIn K mainGlobals "numbers_in" = some (some (.ref f12))) (l12 : K.lookup f12 = some ⟨oc12, od12, .func (PySem.W.fnOf "numbers_in" "numbers_in" (defArgs s_numbers_in) (defBody s_numbers_in) (defScope s_numbers_in) .none kV12 dc12 pm12 an12 cd12 ct12), sl12⟩) (e12 : PySem.W.codeIn K cd12 "numbers_in" = true) (k12 : PySem.W.keepIn K (.ref f12) = true)
    {f13 : Addr} {od13 an13 : Option Addr} {sl13 : Array (Option Value)} {oc13 kV13 dc13 pm13 cd13 ct13 : Value}
    (a13 : PySem.W.nsIn K mainGlobals "is_between" = some (some (.ref f13))) (l13 : K.lookup f13 = some ⟨oc13, od13, .func (PySem.W.fnOf "is_between" "is_between" (defArgs s_is_between) (defBody s_is_between) (defScope s_is_between) .none kV13 dc13 pm13 an13 cd13 ct13), sl13⟩) (e13 : PySem.W.codeIn K cd13 "is_between" = true) (k13 : PySem.W.keepIn K (.ref f13) = true)
    {f14 : Addr} {od14 an14 : Option Addr} {sl14 : Array (Option Value)} {oc14 kV14 dc14 pm14 cd14 ct14 : Value}
    (a14 : PySem.W.nsIn K mainGlobals "are_rooms" = some (some (.ref f14))) (l14 : K.lookup f14 = some ⟨oc14, od14, .func (PySem.W.fnOf "are_rooms" "are_rooms" (defArgs s_are_rooms) (defBody s_are_rooms) (defScope s_are_rooms) .none kV14 dc14 pm14 an14 cd14 ct14), sl14⟩) (e14 : PySem.W.codeIn K cd14 "are_rooms" = true) (k14 : PySem.W.keepIn K (.ref f14) = true)
    {f15 : Addr} {od15 an15 : Option Addr} {sl15 : Array (Option Value)} {oc15 kV15 dc15 pm15 cd15 ct15 : Value}
    (a15 : PySem.W.nsIn K mainGlobals "is_way" = some (some (.ref f15))) (l15 : K.lookup f15 = some ⟨oc15, od15, .func (PySem.W.fnOf "is_way" "is_way" (defArgs s_is_way) (defBody s_is_way) (defScope s_is_way) .none kV15 dc15 pm15 an15 cd15 ct15), sl15⟩) (e15 : PySem.W.codeIn K cd15 "is_way" = true) (k15 : PySem.W.keepIn K (.ref f15) = true)
    {f16 : Addr} {od16 an16 : Option Addr} {sl16 : Array (Option Value)} {oc16 kV16 dc16 pm16 cd16 ct16 : Value}
    (a16 : PySem.W.nsIn K mainGlobals "are_ways" = some (some (.ref f16))) (l16 : K.lookup f16 = some ⟨oc16, od16, .func (PySem.W.fnOf "are_ways" "are_ways" (defArgs s_are_ways) (defBody s_are_ways) (defScope s_are_ways) .none kV16 dc16 pm16 an16 cd16 ct16), sl16⟩) (e16 : PySem.W.codeIn K cd16 "are_ways" = true) (k16 : PySem.W.keepIn K (.ref f16) = true)
    {f17 : Addr} {od17 an17 : Option Addr} {sl17 : Array (Option Value)} {oc17 kV17 dc17 pm17 cd17 ct17 : Value}
    (a17 : PySem.W.nsIn K mainGlobals "is_rule" = some (some (.ref f17))) (l17 : K.lookup f17 = some ⟨oc17, od17, .func (PySem.W.fnOf "is_rule" "is_rule" (defArgs s_is_rule) (defBody s_is_rule) (defScope s_is_rule) .none kV17 dc17 pm17 an17 cd17 ct17), sl17⟩) (e17 : PySem.W.codeIn K cd17 "is_rule" = true) (k17 : PySem.W.keepIn K (.ref f17) = true)
    {f18 : Addr} {od18 an18 : Option Addr} {sl18 : Array (Option Value)} {oc18 kV18 dc18 pm18 cd18 ct18 : Value}
    (a18 : PySem.W.nsIn K mainGlobals "read_rule" = some (some (.ref f18))) (l18 : K.lookup f18 = some ⟨oc18, od18, .func (PySem.W.fnOf "read_rule" "read_rule" (defArgs s_read_rule) (defBody s_read_rule) (defScope s_read_rule) .none kV18 dc18 pm18 an18 cd18 ct18), sl18⟩) (e18 : PySem.W.codeIn K cd18 "read_rule" = true) (k18 : PySem.W.keepIn K (.ref f18) = true)
    {f19 : Addr} {od19 an19 : Option Addr} {sl19 : Array (Option Value)} {oc19 kV19 dc19 pm19 cd19 ct19 : Value}
    (a19 : PySem.W.nsIn K mainGlobals "are_homes" = some (some (.ref f19))) (l19 : K.lookup f19 = some ⟨oc19, od19, .func (PySem.W.fnOf "are_homes" "are_homes" (defArgs s_are_homes) (defBody s_are_homes) (defScope s_are_homes) .none kV19 dc19 pm19 an19 cd19 ct19), sl19⟩) (e19 : PySem.W.codeIn K cd19 "are_homes" = true) (k19 : PySem.W.keepIn K (.ref f19) = true)
    {f20 : Addr} {od20 an20 : Option Addr} {sl20 : Array (Option Value)} {oc20 kV20 dc20 pm20 cd20 ct20 : Value}
    (a20 : PySem.W.nsIn K mainGlobals "is_web" = some (some (.ref f20))) (l20 : K.lookup f20 = some ⟨oc20, od20, .func (PySem.W.fnOf "is_web" "is_web" (defArgs s_is_web) (defBody s_is_web) (defScope s_is_web) .none kV20 dc20 pm20 an20 cd20 ct20), sl20⟩) (e20 : PySem.W.codeIn K cd20 "is_web" = true) (k20 : PySem.W.keepIn K (.ref f20) = true)
    {f21 : Addr} {od21 an21 : Option Addr} {sl21 : Array (Option Value)} {oc21 kV21 dc21 pm21 cd21 ct21 : Value}
    (a21 : PySem.W.nsIn K mainGlobals "nest_in" = some (some (.ref f21))) (l21 : K.lookup f21 = some ⟨oc21, od21, .func (PySem.W.fnOf "nest_in" "nest_in" (defArgs s_nest_in) (defBody s_nest_in) (defScope s_nest_in) .none kV21 dc21 pm21 an21 cd21 ct21), sl21⟩) (e21 : PySem.W.codeIn K cd21 "nest_in" = true) (k21 : PySem.W.keepIn K (.ref f21) = true)
    {f22 : Addr} {od22 an22 : Option Addr} {sl22 : Array (Option Value)} {oc22 kV22 dc22 pm22 cd22 ct22 : Value}
    (a22 : PySem.W.nsIn K mainGlobals "read_web" = some (some (.ref f22))) (l22 : K.lookup f22 = some ⟨oc22, od22, .func (PySem.W.fnOf "read_web" "read_web" (defArgs s_read_web) (defBody s_read_web) (defScope s_read_web) .none kV22 dc22 pm22 an22 cd22 ct22), sl22⟩) (e22 : PySem.W.codeIn K cd22 "read_web" = true) (k22 : PySem.W.keepIn K (.ref f22) = true)
    {f23 : Addr} {od23 an23 : Option Addr} {sl23 : Array (Option Value)} {oc23 kV23 dc23 pm23 cd23 ct23 : Value}
    (a23 : PySem.W.nsIn K mainGlobals "_law_asked" = some (some (.ref f23))) (l23 : K.lookup f23 = some ⟨oc23, od23, .func (PySem.W.fnOf "_law_asked" "_law_asked" (defArgs s_law_asked) (defBody s_law_asked) (defScope s_law_asked) .none kV23 dc23 pm23 an23 cd23 ct23), sl23⟩) (e23 : PySem.W.codeIn K cd23 "_law_asked" = true) (k23 : PySem.W.keepIn K (.ref f23) = true)
    {f24 : Addr} {od24 an24 : Option Addr} {sl24 : Array (Option Value)} {oc24 kV24 dc24 pm24 cd24 ct24 : Value}
    (a24 : PySem.W.nsIn K mainGlobals "_law_sign_right" = some (some (.ref f24))) (l24 : K.lookup f24 = some ⟨oc24, od24, .func (PySem.W.fnOf "_law_sign_right" "_law_sign_right" (defArgs s_law_sign_right) (defBody s_law_sign_right) (defScope s_law_sign_right) .none kV24 dc24 pm24 an24 cd24 ct24), sl24⟩) (e24 : PySem.W.codeIn K cd24 "_law_sign_right" = true) (k24 : PySem.W.keepIn K (.ref f24) = true)
    {f25 : Addr} {od25 an25 : Option Addr} {sl25 : Array (Option Value)} {oc25 kV25 dc25 pm25 cd25 ct25 : Value}
    (a25 : PySem.W.nsIn K mainGlobals "_law_sign" = some (some (.ref f25))) (l25 : K.lookup f25 = some ⟨oc25, od25, .func (PySem.W.fnOf "_law_sign" "_law_sign" (defArgs s_law_sign) (defBody s_law_sign) (defScope s_law_sign) .none kV25 dc25 pm25 an25 cd25 ct25), sl25⟩) (e25 : PySem.W.codeIn K cd25 "_law_sign" = true) (k25 : PySem.W.keepIn K (.ref f25) = true)
    {f26 : Addr} {od26 an26 : Option Addr} {sl26 : Array (Option Value)} {oc26 kV26 dc26 pm26 cd26 ct26 : Value}
    (a26 : PySem.W.nsIn K mainGlobals "law" = some (some (.ref f26))) (l26 : K.lookup f26 = some ⟨oc26, od26, .func (PySem.W.fnOf "law" "law" (defArgs s_law) (defBody s_law) (defScope s_law) .none kV26 dc26 pm26 an26 cd26 ct26), sl26⟩) (e26 : PySem.W.codeIn K cd26 "law" = true) (k26 : PySem.W.keepIn K (.ref f26) = true)
    (z_len : PySem.W.nsIn K mainGlobals "len" = some none)
    (z_tuple : PySem.W.nsIn K mainGlobals "tuple" = some none)
    (z_range : PySem.W.nsIn K mainGlobals "range" = some none)
    (z_str : PySem.W.nsIn K mainGlobals "str" = some none)
    (z_int : PySem.W.nsIn K mainGlobals "int" = some none)
    (z_isinstance : PySem.W.nsIn K mainGlobals "isinstance" = some none)
    (z_bool : PySem.W.nsIn K mainGlobals "bool" = some none)
    (z_all : PySem.W.nsIn K mainGlobals "all" = some none)
    (z_ValueError : PySem.W.nsIn K mainGlobals "ValueError" = some none)
    {u_LETTERS : Value} (y_LETTERS : PySem.W.nsIn K mainGlobals "LETTERS" = some (some u_LETTERS)) (w_LETTERS : RelV (.str (PySem.Str.ofString "abcdefghij")) u_LETTERS)
    {u_FIGURES : Value} (y_FIGURES : PySem.W.nsIn K mainGlobals "FIGURES" = some (some u_FIGURES)) (w_FIGURES : RelV (.str (PySem.Str.ofString "0123456789")) u_FIGURES)
    {u_MOST_FIGURES : Value} (y_MOST_FIGURES : PySem.W.nsIn K mainGlobals "MOST_FIGURES" = some (some u_MOST_FIGURES)) (w_MOST_FIGURES : RelV (.int 60) u_MOST_FIGURES)
    {u_MOST_NESTS : Value} (y_MOST_NESTS : PySem.W.nsIn K mainGlobals "MOST_NESTS" = some (some u_MOST_NESTS)) (w_MOST_NESTS : RelV (.int 10) u_MOST_NESTS)
    {u_MOST_ROOM : Value} (y_MOST_ROOM : PySem.W.nsIn K mainGlobals "MOST_ROOM" = some (some u_MOST_ROOM)) (w_MOST_ROOM : RelV (.int 9) u_MOST_ROOM)
    {u_PRIME : Value} (y_PRIME : PySem.W.nsIn K mainGlobals "PRIME" = some (some u_PRIME)) (w_PRIME : RelV (.int 10007) u_PRIME)
    {u_MOST_KEYS : Value} (y_MOST_KEYS : PySem.W.nsIn K mainGlobals "MOST_KEYS" = some (some u_MOST_KEYS)) (w_MOST_KEYS : RelV (.int 30) u_MOST_KEYS)
    {C_NestError : Addr} (n_NestError : PySem.W.nsIn K mainGlobals "NestError" = some (some (.ref C_NestError)))
    {C_NoRule : Addr} (n_NoRule : PySem.W.nsIn K mainGlobals "NoRule" = some (some (.ref C_NoRule)))
    {C_NoPush : Addr} (n_NoPush : PySem.W.nsIn K mainGlobals "NoPush" = some (some (.ref C_NoPush)))
    {C_NoPairs : Addr} (n_NoPairs : PySem.W.nsIn K mainGlobals "NoPairs" = some (some (.ref C_NoPairs)))
    {C_NoFit : Addr} (n_NoFit : PySem.W.nsIn K mainGlobals "NoFit" = some (some (.ref C_NoFit)))
    {C_Twice : Addr} (n_Twice : PySem.W.nsIn K mainGlobals "Twice" = some (some (.ref C_Twice)))
    {C_Full : Addr} (n_Full : PySem.W.nsIn K mainGlobals "Full" = some (some (.ref C_Full)))
    {C_NoKey : Addr} (n_NoKey : PySem.W.nsIn K mainGlobals "NoKey" = some (some (.ref C_NoKey)))
    {C_NoText : Addr} (n_NoText : PySem.W.nsIn K mainGlobals "NoText" = some (some (.ref C_NoText)))
    {C_NoRow : Addr} (n_NoRow : PySem.W.nsIn K mainGlobals "NoRow" = some (some (.ref C_NoRow)))
    (bx_NestError : PySem.W.subIn K (.ref C_NestError) (.type "BaseException") = some true)
    (hd_NestError : PySem.W.hasDictIn K C_NestError = true)
    (ty_NestError : PySem.W.typeIn K (.ref C_NestError) = some (.type "type"))
    (bx_NoRule : PySem.W.subIn K (.ref C_NoRule) (.type "BaseException") = some true)
    (hd_NoRule : PySem.W.hasDictIn K C_NoRule = true)
    (ty_NoRule : PySem.W.typeIn K (.ref C_NoRule) = some (.type "type"))
    (bx_NoPush : PySem.W.subIn K (.ref C_NoPush) (.type "BaseException") = some true)
    (hd_NoPush : PySem.W.hasDictIn K C_NoPush = true)
    (ty_NoPush : PySem.W.typeIn K (.ref C_NoPush) = some (.type "type"))
    (bx_NoPairs : PySem.W.subIn K (.ref C_NoPairs) (.type "BaseException") = some true)
    (hd_NoPairs : PySem.W.hasDictIn K C_NoPairs = true)
    (ty_NoPairs : PySem.W.typeIn K (.ref C_NoPairs) = some (.type "type"))
    (bx_NoFit : PySem.W.subIn K (.ref C_NoFit) (.type "BaseException") = some true)
    (hd_NoFit : PySem.W.hasDictIn K C_NoFit = true)
    (ty_NoFit : PySem.W.typeIn K (.ref C_NoFit) = some (.type "type"))
    (bx_Twice : PySem.W.subIn K (.ref C_Twice) (.type "BaseException") = some true)
    (hd_Twice : PySem.W.hasDictIn K C_Twice = true)
    (ty_Twice : PySem.W.typeIn K (.ref C_Twice) = some (.type "type"))
    (bx_Full : PySem.W.subIn K (.ref C_Full) (.type "BaseException") = some true)
    (hd_Full : PySem.W.hasDictIn K C_Full = true)
    (ty_Full : PySem.W.typeIn K (.ref C_Full) = some (.type "type"))
    (bx_NoKey : PySem.W.subIn K (.ref C_NoKey) (.type "BaseException") = some true)
    (hd_NoKey : PySem.W.hasDictIn K C_NoKey = true)
    (ty_NoKey : PySem.W.typeIn K (.ref C_NoKey) = some (.type "type"))
    (bx_NoText : PySem.W.subIn K (.ref C_NoText) (.type "BaseException") = some true)
    (hd_NoText : PySem.W.hasDictIn K C_NoText = true)
    (ty_NoText : PySem.W.typeIn K (.ref C_NoText) = some (.type "type"))
    (bx_NoRow : PySem.W.subIn K (.ref C_NoRow) (.type "BaseException") = some true)
    (hd_NoRow : PySem.W.hasDictIn K C_NoRow = true)
    (ty_NoRow : PySem.W.typeIn K (.ref C_NoRow) = some (.type "type"))
    (ke_NoText : PySem.W.keepIn K (.ref C_NoText) = true)
    (s_NoText_NestError : PySem.W.subIn K (.ref C_NoText) (.ref C_NestError) = some true)
    (d_NoText_NestError : (Value.ref C_NoText == Value.ref C_NestError) = false)
    (s_NoText_NoRule : PySem.W.subIn K (.ref C_NoText) (.ref C_NoRule) = some false)
    (d_NoText_NoRule : (Value.ref C_NoText == Value.ref C_NoRule) = false)
    (s_NoText_NoPush : PySem.W.subIn K (.ref C_NoText) (.ref C_NoPush) = some false)
    (d_NoText_NoPush : (Value.ref C_NoText == Value.ref C_NoPush) = false)
    (s_NoText_NoPairs : PySem.W.subIn K (.ref C_NoText) (.ref C_NoPairs) = some false)
    (d_NoText_NoPairs : (Value.ref C_NoText == Value.ref C_NoPairs) = false)
    (s_NoText_NoFit : PySem.W.subIn K (.ref C_NoText) (.ref C_NoFit) = some false)
    (d_NoText_NoFit : (Value.ref C_NoText == Value.ref C_NoFit) = false)
    (s_NoText_Twice : PySem.W.subIn K (.ref C_NoText) (.ref C_Twice) = some false)
    (d_NoText_Twice : (Value.ref C_NoText == Value.ref C_Twice) = false)
    (s_NoText_Full : PySem.W.subIn K (.ref C_NoText) (.ref C_Full) = some false)
    (d_NoText_Full : (Value.ref C_NoText == Value.ref C_Full) = false)
    (s_NoText_NoKey : PySem.W.subIn K (.ref C_NoText) (.ref C_NoKey) = some false)
    (d_NoText_NoKey : (Value.ref C_NoText == Value.ref C_NoKey) = false)
    (s_NoText_NoText : PySem.W.subIn K (.ref C_NoText) (.ref C_NoText) = some true)
    (s_NoText_NoRow : PySem.W.subIn K (.ref C_NoText) (.ref C_NoRow) = some false)
    (d_NoText_NoRow : (Value.ref C_NoText == Value.ref C_NoRow) = false)
    (v_NoText : PySem.W.subIn K (.ref C_NoText) (.type "ValueError") = some true)
    (ga_NoText : PySem.W.findIn K (.ref C_NoText) "__getattribute__" = some (some (.builtin "BaseException.__getattribute__")))
    (gg_NoText : PySem.W.findIn K (.ref C_NoText) "__getattr__" = some none)
    (gc_NoText : PySem.W.findIn K (.ref C_NoText) "__class__" = some (some (.builtin "object.__class__")))
    (mo_NoText : PySem.W.mroIn K C_NoText (.type "object") = some true)
    (xi_NoText : PySem.W.excIn K C_NoText PySem.HandSPX.veTail "ValueError.__new__" = true)
    (og : PySem.W.specialIn K (.builtin "object.__class__") "__get__" = some (some (.builtin "getset_descriptor.__get__"))) (ot : PySem.W.takesIn K (.builtin "object.__class__") = some true)
    : Tx K mg where
  r_NoText := bare_mk X G n_NoText xi_NoText ke_NoText bx_NoText ty_NoText
  x_NestError := ⟨_, PySem.W.mg_of X G n_NestError, catOk_cons n_NoText (PySem.W.exm_ref bx_NestError hd_NestError ty_NestError s_NoText_NestError) (catOk_nil)⟩
  i_0 := ⟨_, _, _, _, _, _, _, _, PySem.W.mg_of X G n_Full, PySem.W.mg_of X G n_NoFit, PySem.W.mg_of X G n_NoKey, PySem.W.mg_of X G n_NoPairs, PySem.W.mg_of X G n_NoPush, PySem.W.mg_of X G n_NoRow, PySem.W.mg_of X G n_NoRule, PySem.W.mg_of X G n_Twice, isOk_cons n_NoText ⟨ga_NoText, gg_NoText, bx_NoText, hd_NoText, gc_NoText, og, ot, mo_NoText⟩ (kitAny_miss (kit_ref d_NoText_Full hd_Full ty_Full s_NoText_Full) (kitAny_miss (kit_ref d_NoText_NoFit hd_NoFit ty_NoFit s_NoText_NoFit) (kitAny_miss (kit_ref d_NoText_NoKey hd_NoKey ty_NoKey s_NoText_NoKey) (kitAny_miss (kit_ref d_NoText_NoPairs hd_NoPairs ty_NoPairs s_NoText_NoPairs) (kitAny_miss (kit_ref d_NoText_NoPush hd_NoPush ty_NoPush s_NoText_NoPush) (kitAny_miss (kit_ref d_NoText_NoRow hd_NoRow ty_NoRow s_NoText_NoRow) (kitAny_miss (kit_ref d_NoText_NoRule hd_NoRule ty_NoRule s_NoText_NoRule) (kitAny_miss (kit_ref d_NoText_Twice hd_Twice ty_Twice s_NoText_Twice) (rfl))))))))) (isOk_nil)⟩
  i_1 := ⟨_, PySem.W.mg_of X G n_NoText, isOk_cons n_NoText ⟨ga_NoText, gg_NoText, bx_NoText, hd_NoText, gc_NoText, og, ot, mo_NoText⟩ (kitAny_hit (kit_self)) (isOk_nil)⟩
  i_2 := isOk_cons n_NoText ⟨ga_NoText, gg_NoText, bx_NoText, hd_NoText, gc_NoText, og, ot, mo_NoText⟩ (kitAny_hit (kit_VE v_NoText)) (isOk_nil)
  b_len := PySem.W.mg_none_of X G z_len
  b_tuple := PySem.W.mg_none_of X G z_tuple
  b_range := PySem.W.mg_none_of X G z_range
  b_str := PySem.W.mg_none_of X G z_str
  b_int := PySem.W.mg_none_of X G z_int
  b_isinstance := PySem.W.mg_none_of X G z_isinstance
  b_bool := PySem.W.mg_none_of X G z_bool
  b_all := PySem.W.mg_none_of X G z_all
  b_ValueError := PySem.W.mg_none_of X G z_ValueError
  c_LETTERS := ⟨_, PySem.W.mg_of X G y_LETTERS, w_LETTERS⟩
  c_FIGURES := ⟨_, PySem.W.mg_of X G y_FIGURES, w_FIGURES⟩
  c_MOST_FIGURES := ⟨_, PySem.W.mg_of X G y_MOST_FIGURES, w_MOST_FIGURES⟩
  c_MOST_NESTS := ⟨_, PySem.W.mg_of X G y_MOST_NESTS, w_MOST_NESTS⟩
  c_MOST_ROOM := ⟨_, PySem.W.mg_of X G y_MOST_ROOM, w_MOST_ROOM⟩
  c_PRIME := ⟨_, PySem.W.mg_of X G y_PRIME, w_PRIME⟩
  c_MOST_KEYS := ⟨_, PySem.W.mg_of X G y_MOST_KEYS, w_MOST_KEYS⟩
  d_law_mixed := def_mk X G a0 l0 e0 k0 fun _ _ _ _ _ _ us hl => match us, hl with | [_, _], _ => rfl
  d_law_cell_at := def_mk X G a1 l1 e1 k1 fun _ _ _ _ _ _ us hl => match us, hl with | [_, _], _ => rfl
  d_law_pen := def_mk X G a2 l2 e2 k2 fun _ _ _ _ _ _ us hl => match us, hl with | [_, _], _ => rfl
  d_law_take := def_mk X G a3 l3 e3 k3 fun _ _ _ _ _ _ us hl => match us, hl with | [_, _], _ => rfl
  d_law_rule := def_mk X G a4 l4 e4 k4 fun _ _ _ _ _ _ us hl => match us, hl with | [_], _ => rfl
  d_law_web := def_mk X G a5 l5 e5 k5 fun _ _ _ _ _ _ us hl => match us, hl with | [_, _], _ => rfl
  d_numbers_shown := def_mk X G a6 l6 e6 k6 fun _ _ _ _ _ _ us hl => match us, hl with | [_], _ => rfl
  d_show_rule := def_mk X G a7 l7 e7 k7 fun _ _ _ _ _ _ us hl => match us, hl with | [_], _ => rfl
  d_show_web := def_mk X G a8 l8 e8 k8 fun _ _ _ _ _ _ us hl => match us, hl with | [_], _ => rfl
  d_law_bad_rule := def_mk X G a9 l9 e9 k9 fun _ _ _ _ _ _ us hl => match us, hl with | [_, _], _ => rfl
  d_law_bad_web := def_mk X G a10 l10 e10 k10 fun _ _ _ _ _ _ us hl => match us, hl with | [_, _], _ => rfl
  d_number_in := def_mk X G a11 l11 e11 k11 fun _ _ _ _ _ _ us hl => match us, hl with | [_], _ => rfl
  d_numbers_in := def_mk X G a12 l12 e12 k12 fun _ _ _ _ _ _ us hl => match us, hl with | [_], _ => rfl
  d_is_between := def_mk X G a13 l13 e13 k13 fun _ _ _ _ _ _ us hl => match us, hl with | [_, _, _], _ => rfl
  d_are_rooms := def_mk X G a14 l14 e14 k14 fun _ _ _ _ _ _ us hl => match us, hl with | [_], _ => rfl
  d_is_way := def_mk X G a15 l15 e15 k15 fun _ _ _ _ _ _ us hl => match us, hl with | [_], _ => rfl
  d_are_ways := def_mk X G a16 l16 e16 k16 fun _ _ _ _ _ _ us hl => match us, hl with | [_], _ => rfl
  d_is_rule := def_mk X G a17 l17 e17 k17 fun _ _ _ _ _ _ us hl => match us, hl with | [_], _ => rfl
  d_read_rule := def_mk X G a18 l18 e18 k18 fun _ _ _ _ _ _ us hl => match us, hl with | [_], _ => rfl
  d_are_homes := def_mk X G a19 l19 e19 k19 fun _ _ _ _ _ _ us hl => match us, hl with | [_, _], _ => rfl
  d_is_web := def_mk X G a20 l20 e20 k20 fun _ _ _ _ _ _ us hl => match us, hl with | [_], _ => rfl
  d_nest_in := def_mk X G a21 l21 e21 k21 fun _ _ _ _ _ _ us hl => match us, hl with | [_], _ => rfl
  d_read_web := def_mk X G a22 l22 e22 k22 fun _ _ _ _ _ _ us hl => match us, hl with | [_], _ => rfl
  d_law_asked := def_mk X G a23 l23 e23 k23 fun _ _ _ _ _ _ us hl => match us, hl with | [_, _], _ => rfl
  d_law_sign_right := def_mk X G a24 l24 e24 k24 fun _ _ _ _ _ _ us hl => match us, hl with | [_, _], _ => rfl
  d_law_sign := def_mk X G a25 l25 e25 k25 fun _ _ _ _ _ _ us hl => match us, hl with | [_, _], _ => rfl
  d_law := def_mk X G a26 l26 e26 k26 fun _ _ _ _ _ _ us hl => match us, hl with | [_], _ => rfl

section
variable {P : Program} {w : World} {K : PySem.W.Frag} {mg : Str → Option Value} {base : Heap}

abbrev n_law_mixed : List Str := ["_law_script", "_law_k", "_law_number"]
theorem sc_law_mixed : FnScope n_law_mixed ["_law_script", "_law_k"] (defScope s_law_mixed) := ⟨rfl, rfl, rfl, by decide +kernel, rfl, by decide +kernel, by decide +kernel⟩
theorem tm_law_mixed (T : Tx K mg)  (f : Addr) (cdv : Value) (A : Around) (outer : List PySem.Env) (s : Shared) (H : Hp) (E : XK) (hr : Room 0 (A.deeper (envOfC "_law_mixed" (defScope s_law_mixed) s.heap.objs.size f cdv))) :
    DSs (cxOf (L2N.CX P w) P w K mg base n_law_mixed "_law_mixed" (defScope s_law_mixed) f cdv A outer s H E) (defBody s_law_mixed) tv_law_mixed t_law_mixed :=
  (dss_cons (ds_set (i := 2) sc_law_mixed.nd do_int)
    (dss_cons (ds_if (db_cmp st_cmp od_gt (do_cb cd_len (by rfl) T.b_len b_len (da_cons (do_nm 0) da_nil)) do_int (nomark _)) (dss_one (ds_set (i := 2) sc_law_mixed.nd (do_op st_mod od_mod (do_ix hr (do_nm 0) (do_op st_mod od_mod (do_nm 1) (do_cb cd_len (by rfl) T.b_len b_len (da_cons (do_nm 0) da_nil))) (fun _ _ => rfl)) do_int))) dss_nil)
    (dss_cons (ds_set (i := 2) sc_law_mixed.nd (do_op st_mod od_mod (do_op st_add od_add (do_op st_add od_add (do_op st_add od_add (do_op st_mul od_mul (do_nm 2) do_int) (do_op st_mul od_mul (do_op st_mul od_mul (do_nm 1) (do_nm 1)) do_int)) (do_op st_mul od_mul do_int (do_nm 1))) do_int) do_int))
    (dss_one (ds_ret (do_op st_mod od_mod (do_op st_mul od_mul (do_nm 2) do_int) do_int))))))
theorem G_law_mixed (T : Tx K mg)  : Kn P w K mg base 1 "_law_mixed" s_law_mixed ["_law_script", "_law_k"] fd_law_mixed :=
  kn_of T.d_law_mixed sc_law_mixed hn_law_mixed (by decide) (tm_law_mixed T ) rd_law_mixed

abbrev n_law_cell_at : List Str := ["_law_script", "_law_k"]
theorem sc_law_cell_at : FnScope n_law_cell_at ["_law_script", "_law_k"] (defScope s_law_cell_at) := ⟨rfl, rfl, rfl, by decide +kernel, rfl, by decide +kernel, by decide +kernel⟩
theorem tm_law_cell_at (T : Tx K mg) (G_law_mixed : Kn P w K mg base 1 "_law_mixed" s_law_mixed ["_law_script", "_law_k"] fd_law_mixed) (f : Addr) (cdv : Value) (A : Around) (outer : List PySem.Env) (s : Shared) (H : Hp) (E : XK) (hr : Room 1 (A.deeper (envOfC "_law_cell_at" (defScope s_law_cell_at) s.heap.objs.size f cdv))) :
    DSs (cxOf (L2N.CX P w) P w K mg base n_law_cell_at "_law_cell_at" (defScope s_law_cell_at) f cdv A outer s H E) (defBody s_law_cell_at) tv_law_cell_at t_law_cell_at :=
  (dss_cons (ds_if (db_cmp st_cmp od_lt (do_nm 1) (do_cb cd_len (by rfl) T.b_len b_len (da_cons (do_nm 0) da_nil)) (nomark _)) (dss_one (ds_ret (do_fz (do_ix hr (do_nm 0) (do_nm 1) (fun _ _ => rfl))))) dss_nil)
    (dss_one (ds_ret (do_kn G_law_mixed hr (by decide) (by rfl) (da_cons (do_nm 0) (da_cons (do_nm 1) da_nil))))))
theorem G_law_cell_at (T : Tx K mg) (G_law_mixed : Kn P w K mg base 1 "_law_mixed" s_law_mixed ["_law_script", "_law_k"] fd_law_mixed) : Kn P w K mg base 2 "_law_cell_at" s_law_cell_at ["_law_script", "_law_k"] fd_law_cell_at :=
  kn_of T.d_law_cell_at sc_law_cell_at hn_law_cell_at (by decide) (tm_law_cell_at T G_law_mixed) rd_law_cell_at

abbrev n_law_pen : List Str := ["_law_script", "_law_k", "_law_cell"]
theorem sc_law_pen : FnScope n_law_pen ["_law_script", "_law_k"] (defScope s_law_pen) := ⟨rfl, rfl, rfl, by decide +kernel, rfl, by decide +kernel, by decide +kernel⟩
theorem tm_law_pen (T : Tx K mg) (G_law_cell_at : Kn P w K mg base 2 "_law_cell_at" s_law_cell_at ["_law_script", "_law_k"] fd_law_cell_at) (f : Addr) (cdv : Value) (A : Around) (outer : List PySem.Env) (s : Shared) (H : Hp) (E : XK) (hr : Room 2 (A.deeper (envOfC "_law_pen" (defScope s_law_pen) s.heap.objs.size f cdv))) :
    DSs (cxOf (L2N.CX P w) P w K mg base n_law_pen "_law_pen" (defScope s_law_pen) f cdv A outer s H E) (defBody s_law_pen) tv_law_pen t_law_pen :=
  (dss_cons (ds_set (i := 2) sc_law_pen.nd (do_kn G_law_cell_at hr (by decide) (by rfl) (da_cons (do_nm 0) (da_cons (do_nm 1) da_nil))))
    (dss_one (ds_ret (do_lst (da_cons (do_op st_mod od_mod (do_nm 2) do_int) (da_cons (do_op st_div od_div (do_nm 2) do_int) (da_cons (do_cb cd_len (by rfl) T.b_len b_len (da_cons (do_nm 0) da_nil)) (da_cons (do_op st_mul od_mul do_int (do_nm 1)) da_nil))))))))
theorem G_law_pen (T : Tx K mg) (G_law_cell_at : Kn P w K mg base 2 "_law_cell_at" s_law_cell_at ["_law_script", "_law_k"] fd_law_cell_at) : Kn P w K mg base 3 "_law_pen" s_law_pen ["_law_script", "_law_k"] fd_law_pen :=
  kn_of T.d_law_pen sc_law_pen hn_law_pen (by decide) (tm_law_pen T G_law_cell_at) rd_law_pen

abbrev n_law_take : List Str := ["_law_pen_here", "_law_size", "_law_digit", "_law_at", "_law_number"]
theorem sc_law_take : FnScope n_law_take ["_law_pen_here", "_law_size"] (defScope s_law_take) := ⟨rfl, rfl, rfl, by decide +kernel, rfl, by decide +kernel, by decide +kernel⟩
theorem tm_law_take (T : Tx K mg)  (f : Addr) (cdv : Value) (A : Around) (outer : List PySem.Env) (s : Shared) (H : Hp) (E : XK) (hr : Room 0 (A.deeper (envOfC "_law_take" (defScope s_law_take) s.heap.objs.size f cdv))) :
    DSs (cxOf (L2N.CX P w) P w K mg base n_law_take "_law_take" (defScope s_law_take) f cdv A outer s H E) (defBody s_law_take) tv_law_take t_law_take :=
  (dss_cons (ds_if (db_cmp st_eq (od_eq hr) (do_ix hr (do_nm 0) do_int (fun _ _ => rfl)) do_int (nomark _)) (dss_cons (ds_set (i := 2) sc_law_take.nd (do_op st_mod od_mod (do_ix hr (do_nm 0) do_int (fun _ _ => rfl)) (do_nm 1)))
    (dss_cons (ds_setL (do_op st_div od_div (do_ix hr (do_nm 0) do_int (fun _ _ => rfl)) (do_nm 1)) (do_nm 0) do_int)
    (dss_one (ds_ret (do_mv (do_nm 2)))))) dss_nil)
    (dss_cons (ds_setL (do_op st_add od_add (do_ix hr (do_nm 0) do_int (fun _ _ => rfl)) do_int) (do_nm 0) do_int)
    (dss_cons (ds_set (i := 3) sc_law_take.nd (do_fz (do_ix hr (do_nm 0) do_int (fun _ _ => rfl))))
    (dss_cons (ds_set (i := 4) sc_law_take.nd (do_op st_mul od_mul (do_op st_mod od_mod (do_ix hr (do_nm 0) do_int (fun _ _ => rfl)) do_int) do_int))
    (dss_cons (ds_set (i := 4) sc_law_take.nd (do_op st_mod od_mod (do_op st_add od_add (do_op st_add od_add (do_op st_add od_add (do_nm 4) (do_op st_mul od_mul (do_op st_mul od_mul (do_nm 3) (do_nm 3)) do_int)) (do_op st_mul od_mul do_int (do_nm 3))) do_int) do_int))
    (dss_one (ds_ret (do_op st_mod od_mod (do_op st_div od_div (do_op st_mod od_mod (do_op st_mul od_mul (do_nm 4) do_int) do_int) do_int) (do_nm 1)))))))))
theorem G_law_take (T : Tx K mg)  : Kn P w K mg base 1 "_law_take" s_law_take ["_law_pen_here", "_law_size"] fd_law_take :=
  kn_of T.d_law_take sc_law_take hn_law_take (by decide) (tm_law_take T ) rd_law_take

abbrev n_law_rule : List Str := ["_law_pen_here", "_law_many", "_law_rooms", "_law_size", "_law_turns", "_law_k"]
theorem sc_law_rule : FnScope n_law_rule ["_law_pen_here"] (defScope s_law_rule) := ⟨rfl, rfl, rfl, by decide +kernel, rfl, by decide +kernel, by decide +kernel⟩
theorem tm_law_rule (T : Tx K mg) (G_law_take : Kn P w K mg base 1 "_law_take" s_law_take ["_law_pen_here", "_law_size"] fd_law_take) (f : Addr) (cdv : Value) (A : Around) (outer : List PySem.Env) (s : Shared) (H : Hp) (E : XK) (hr : Room 1 (A.deeper (envOfC "_law_rule" (defScope s_law_rule) s.heap.objs.size f cdv))) :
    DSs (cxOf (L2N.CX P w) P w K mg base n_law_rule "_law_rule" (defScope s_law_rule) f cdv A outer s H E) (defBody s_law_rule) tv_law_rule t_law_rule :=
  (dss_cons (ds_set (i := 1) sc_law_rule.nd (do_op st_add od_add do_int (do_kn G_law_take hr (by decide) (by rfl) (da_cons (do_nm 0) (da_cons do_int da_nil)))))
    (dss_cons (ds_set (i := 2) sc_law_rule.nd (do_ct cd_tuple (by rfl) T.b_tuple b_tuple (da_cons (do_lc rfl sc_law_rule.nd (di_range (by rfl) T.b_range (da_cons (do_nm 1) da_nil)) (blkOk_by (own := [("_law_k", 5)]) (N := n_law_rule) (sc := defScope s_law_rule) (by decide +kernel)) (fun _ _ _ _ _ => (dg_nm (i := 5) sc_law_rule.nd)) (fun _ _ _ _ _ => dts_nil) (fun _ _ _ _ _ => (do_kn G_law_take hr (by decide) (by rfl) (da_cons (do_nm 0) (da_cons do_int da_nil)))) (by decide)) da_nil)))
    (dss_cons (ds_set (i := 3) sc_law_rule.nd (do_ix hr (do_lst (da_cons do_int (da_cons do_int da_nil))) (do_kn G_law_take hr (by decide) (by rfl) (da_cons (do_nm 0) (da_cons do_int da_nil))) (fun _ _ => rfl)))
    (dss_cons (ds_set (i := 4) sc_law_rule.nd (do_ct cd_tuple (by rfl) T.b_tuple b_tuple (da_cons (do_lc rfl sc_law_rule.nd (di_range (by rfl) T.b_range (da_cons (do_op st_add od_add do_int (do_kn G_law_take hr (by decide) (by rfl) (da_cons (do_nm 0) (da_cons do_int da_nil)))) da_nil)) (blkOk_by (own := [("_law_k", 5)]) (N := n_law_rule) (sc := defScope s_law_rule) (by decide +kernel)) (fun _ _ _ _ _ => (dg_nm (i := 5) sc_law_rule.nd)) (fun _ _ _ _ _ => dts_nil) (fun _ _ _ _ _ => (do_tup (da_cons (do_kn G_law_take hr (by decide) (by rfl) (da_cons (do_nm 0) (da_cons (do_nm 3) da_nil))) (da_cons (do_kn G_law_take hr (by decide) (by rfl) (da_cons (do_nm 0) (da_cons (do_nm 3) da_nil))) da_nil)))) (by decide)) da_nil)))
    (dss_one (ds_ret (do_tupM (da_cons (do_nm 2) (da_cons (do_nm 4) da_nil)))))))))
theorem G_law_rule (T : Tx K mg) (G_law_take : Kn P w K mg base 1 "_law_take" s_law_take ["_law_pen_here", "_law_size"] fd_law_take) : Kn P w K mg base 2 "_law_rule" s_law_rule ["_law_pen_here"] fd_law_rule :=
  kn_of T.d_law_rule sc_law_rule hn_law_rule (by decide) (tm_law_rule T G_law_take) rd_law_rule

abbrev n_law_web : List Str := ["_law_pen_here", "_law_limit", "_law_many", "_law_kind", "_law_rooms", "_law_count", "_law_keys", "_law_k", "_law_key"]
theorem sc_law_web : FnScope n_law_web ["_law_pen_here", "_law_limit"] (defScope s_law_web) := ⟨rfl, rfl, rfl, by decide +kernel, rfl, by decide +kernel, by decide +kernel⟩
theorem tm_law_web (T : Tx K mg) (G_law_take : Kn P w K mg base 1 "_law_take" s_law_take ["_law_pen_here", "_law_size"] fd_law_take) (f : Addr) (cdv : Value) (A : Around) (outer : List PySem.Env) (s : Shared) (H : Hp) (E : XK) (hr : Room 1 (A.deeper (envOfC "_law_web" (defScope s_law_web) s.heap.objs.size f cdv))) :
    DSs (cxOf (L2N.CX P w) P w K mg base n_law_web "_law_web" (defScope s_law_web) f cdv A outer s H E) (defBody s_law_web) tv_law_web t_law_web :=
  (dss_cons (ds_set (i := 2) sc_law_web.nd (do_op st_add od_add do_int (do_kn G_law_take hr (by decide) (by rfl) (da_cons (do_nm 0) (da_cons do_int da_nil)))))
    (dss_cons (ds_if (db_cmp st_eq (od_eq hr) (do_kn G_law_take hr (by decide) (by rfl) (da_cons (do_nm 0) (da_cons do_int da_nil))) do_int (nomark _)) (dss_one (ds_set (i := 2) sc_law_web.nd (do_op st_add od_add do_int (do_kn G_law_take hr (by decide) (by rfl) (da_cons (do_nm 0) (da_cons do_int da_nil)))))) dss_nil)
    (dss_cons (ds_set (i := 3) sc_law_web.nd (do_kn G_law_take hr (by decide) (by rfl) (da_cons (do_nm 0) (da_cons do_int da_nil))))
    (dss_cons (ds_set (i := 4) sc_law_web.nd (do_ct cd_tuple (by rfl) T.b_tuple b_tuple (da_cons (do_lc rfl sc_law_web.nd (di_range (by rfl) T.b_range (da_cons (do_nm 2) da_nil)) (blkOk_by (own := [("_law_k", 7)]) (N := n_law_web) (sc := defScope s_law_web) (by decide +kernel)) (fun _ _ _ _ _ => (dg_nm (i := 7) sc_law_web.nd)) (fun _ _ _ _ _ => dts_nil) (fun _ _ _ _ _ => (do_ix hr (do_lst (da_cons (do_kn G_law_take hr (by decide) (by rfl) (da_cons (do_nm 0) (da_cons do_int da_nil))) (da_cons do_int (da_cons (do_kn G_law_take hr (by decide) (by rfl) (da_cons (do_nm 0) (da_cons do_int da_nil))) (da_cons (do_kn G_law_take hr (by decide) (by rfl) (da_cons (do_nm 0) (da_cons do_int da_nil))) da_nil))))) (do_nm 3) (fun _ _ => rfl))) (by decide)) da_nil)))
    (dss_cons (ds_set (i := 5) sc_law_web.nd (do_kn G_law_take hr (by decide) (by rfl) (da_cons (do_nm 0) (da_cons (do_op st_add od_add (do_nm 1) do_int) da_nil))))
    (dss_cons (ds_set (i := 6) sc_law_web.nd (do_lst da_nil))
    (dss_cons (ds_for (passes_of rfl) rfl (di_range (by rfl) T.b_range (da_cons (do_nm 5) da_nil)) (dg_nm (i := 7) sc_law_web.nd) (dss_cons (ds_set (i := 8) sc_law_web.nd (do_lst (da_cons (do_kn G_law_take hr (by decide) (by rfl) (da_cons (do_nm 0) (da_cons (do_nm 2) da_nil))) (da_cons (do_kn G_law_take hr (by decide) (by rfl) (da_cons (do_nm 0) (da_cons (do_nm 2) da_nil))) da_nil))))
    (dss_cons (ds_if (db_cmp st_eq (od_eq hr) (do_kn G_law_take hr (by decide) (by rfl) (da_cons (do_nm 0) (da_cons do_int da_nil))) do_int (nomark _)) (dss_one (ds_expr (do_mut PySem.F.plainAttrs_list PySem.F.slot_list_append PySem.F.type_list_append md_append (do_nm 8) (da_cons (do_kn G_law_take hr (by decide) (by rfl) (da_cons (do_nm 0) (da_cons (do_nm 2) da_nil))) da_nil)))) dss_nil)
    (dss_one (ds_expr (do_mut PySem.F.plainAttrs_list PySem.F.slot_list_append PySem.F.type_list_append md_append (do_nm 6) (da_cons (do_ct cd_tuple (by rfl) T.b_tuple b_tuple (da_cons (do_nm 8) da_nil)) da_nil)))))))
    (dss_one (ds_ret (do_tupM (da_cons (do_nm 4) (da_cons (do_ct cd_tuple (by rfl) T.b_tuple b_tuple (da_cons (do_nm 6) da_nil)) da_nil))))))))))))
theorem G_law_web (T : Tx K mg) (G_law_take : Kn P w K mg base 1 "_law_take" s_law_take ["_law_pen_here", "_law_size"] fd_law_take) : Kn P w K mg base 2 "_law_web" s_law_web ["_law_pen_here", "_law_limit"] fd_law_web :=
  kn_of T.d_law_web sc_law_web hn_law_web (by decide) (tm_law_web T G_law_take) rd_law_web

abbrev n_numbers_shown : List Str := ["numbers", "number"]
theorem sc_numbers_shown : FnScope n_numbers_shown ["numbers"] (defScope s_numbers_shown) := ⟨rfl, rfl, rfl, by decide +kernel, rfl, by decide +kernel, by decide +kernel⟩
theorem tm_numbers_shown (T : Tx K mg)  (f : Addr) (cdv : Value) (A : Around) (outer : List PySem.Env) (s : Shared) (H : Hp) (E : XK) (hr : Room 0 (A.deeper (envOfC "numbers_shown" (defScope s_numbers_shown) s.heap.objs.size f cdv))) :
    DSs (cxOf (L2N.CX P w) P w K mg base n_numbers_shown "numbers_shown" (defScope s_numbers_shown) f cdv A outer s H E) (defBody s_numbers_shown) tv_numbers_shown t_numbers_shown :=
  (dss_one (ds_ret (do_join do_str (do_lc rfl sc_numbers_shown.nd (di_seq (do_nm 0)) (blkOk_by (own := [("number", 1)]) (N := n_numbers_shown) (sc := defScope s_numbers_shown) (by decide +kernel)) (fun _ _ _ _ _ => (dg_nm (i := 1) sc_numbers_shown.nd)) (fun _ _ _ _ _ => dts_nil) (fun _ _ _ _ _ => (do_ct cd_str (by rfl) T.b_str b_str (da_cons (do_nm 1) da_nil))) (by decide)))))
theorem G_numbers_shown (T : Tx K mg)  : Kn P w K mg base 1 "numbers_shown" s_numbers_shown ["numbers"] fd_numbers_shown :=
  kn_of T.d_numbers_shown sc_numbers_shown hn_numbers_shown (by decide) (tm_numbers_shown T ) rd_numbers_shown

abbrev n_show_rule : List Str := ["rule", "rooms", "ways", "way"]
theorem sc_show_rule : FnScope n_show_rule ["rule"] (defScope s_show_rule) := ⟨rfl, rfl, rfl, by decide +kernel, rfl, by decide +kernel, by decide +kernel⟩
theorem tm_show_rule (T : Tx K mg) (G_numbers_shown : Kn P w K mg base 1 "numbers_shown" s_numbers_shown ["numbers"] fd_numbers_shown) (f : Addr) (cdv : Value) (A : Around) (outer : List PySem.Env) (s : Shared) (H : Hp) (E : XK) (hr : Room 1 (A.deeper (envOfC "show_rule" (defScope s_show_rule) s.heap.objs.size f cdv))) :
    DSs (cxOf (L2N.CX P w) P w K mg base n_show_rule "show_rule" (defScope s_show_rule) f cdv A outer s H E) (defBody s_show_rule) tv_show_rule t_show_rule :=
  (dss_cons (ds_asg (do_fz (do_nm 0)) (dg_tup rfl (dgs_cons (dg_nm (i := 1) sc_show_rule.nd) (dgs_cons (dg_nm (i := 2) sc_show_rule.nd) dgs_nil))))
    (dss_one (ds_ret (do_join do_str (do_op st_add od_add (do_lst (da_cons (do_kn G_numbers_shown hr (by decide) (by rfl) (da_cons (do_nm 1) da_nil)) da_nil)) (do_lc rfl sc_show_rule.nd (di_seq (do_nm 2)) (blkOk_by (own := [("way", 3)]) (N := n_show_rule) (sc := defScope s_show_rule) (by decide +kernel)) (fun _ _ _ _ _ => (dg_nm (i := 3) sc_show_rule.nd)) (fun _ _ _ _ _ => dts_nil) (fun _ _ _ _ _ => (do_kn G_numbers_shown hr (by decide) (by rfl) (da_cons (do_nm 3) da_nil))) (by decide)))))))
theorem G_show_rule (T : Tx K mg) (G_numbers_shown : Kn P w K mg base 1 "numbers_shown" s_numbers_shown ["numbers"] fd_numbers_shown) : Kn P w K mg base 2 "show_rule" s_show_rule ["rule"] fd_show_rule :=
  kn_of T.d_show_rule sc_show_rule hn_show_rule (by decide) (tm_show_rule T G_numbers_shown) rd_show_rule

abbrev n_show_web : List Str := ["web", "rooms", "keys", "parts", "key", "nest"]
theorem sc_show_web : FnScope n_show_web ["web"] (defScope s_show_web) := ⟨rfl, rfl, rfl, by decide +kernel, rfl, by decide +kernel, by decide +kernel⟩
theorem tm_show_web (T : Tx K mg) (G_numbers_shown : Kn P w K mg base 1 "numbers_shown" s_numbers_shown ["numbers"] fd_numbers_shown) (f : Addr) (cdv : Value) (A : Around) (outer : List PySem.Env) (s : Shared) (H : Hp) (E : XK) (hr : Room 1 (A.deeper (envOfC "show_web" (defScope s_show_web) s.heap.objs.size f cdv))) :
    DSs (cxOf (L2N.CX P w) P w K mg base n_show_web "show_web" (defScope s_show_web) f cdv A outer s H E) (defBody s_show_web) tv_show_web t_show_web :=
  (dss_cons (ds_asg (do_fz (do_nm 0)) (dg_tup rfl (dgs_cons (dg_nm (i := 1) sc_show_web.nd) (dgs_cons (dg_nm (i := 2) sc_show_web.nd) dgs_nil))))
    (dss_cons (ds_set (i := 3) sc_show_web.nd (do_lst (da_cons (do_kn G_numbers_shown hr (by decide) (by rfl) (da_cons (do_nm 1) da_nil)) da_nil)))
    (dss_cons (ds_for (passes_of rfl) rfl (di_seq (do_nm 2)) (dg_nm (i := 4) sc_show_web.nd) (dss_one (ds_expr (do_mut PySem.F.plainAttrs_list PySem.F.slot_list_append PySem.F.type_list_append md_append (do_nm 3) (da_cons (do_join do_str (do_lc rfl sc_show_web.nd (di_seq (do_nm 4)) (blkOk_by (own := [("nest", 5)]) (N := n_show_web) (sc := defScope s_show_web) (by decide +kernel)) (fun _ _ _ _ _ => (dg_nm (i := 5) sc_show_web.nd)) (fun _ _ _ _ _ => dts_nil) (fun _ _ _ _ _ => (do_ix hr (do_globE (by rfl) T.c_LETTERS (fun _ _ => .str _)) (do_nm 5) (fun _ _ => rfl))) (by decide))) da_nil)))))
    (dss_one (ds_ret (do_join do_str (do_nm 3)))))))
theorem G_show_web (T : Tx K mg) (G_numbers_shown : Kn P w K mg base 1 "numbers_shown" s_numbers_shown ["numbers"] fd_numbers_shown) : Kn P w K mg base 2 "show_web" s_show_web ["web"] fd_show_web :=
  kn_of T.d_show_web sc_show_web hn_show_web (by decide) (tm_show_web T G_numbers_shown) rd_show_web

abbrev n_law_bad_rule : List Str := ["_law_rule_here", "_law_text", "_law_bits", "_law_first", "_law_way", "_law_rest", "_law_rooms", "_law_bad"]
theorem sc_law_bad_rule : FnScope n_law_bad_rule ["_law_rule_here", "_law_text"] (defScope s_law_bad_rule) := ⟨rfl, rfl, rfl, by decide +kernel, rfl, by decide +kernel, by decide +kernel⟩
theorem tm_law_bad_rule (T : Tx K mg)  (f : Addr) (cdv : Value) (A : Around) (outer : List PySem.Env) (s : Shared) (H : Hp) (E : XK) (hr : Room 0 (A.deeper (envOfC "_law_bad_rule" (defScope s_law_bad_rule) s.heap.objs.size f cdv))) :
    DSs (cxOf (L2N.CX P w) P w K mg base n_law_bad_rule "_law_bad_rule" (defScope s_law_bad_rule) f cdv A outer s H E) (defBody s_law_bad_rule) tv_law_bad_rule t_law_bad_rule :=
  (dss_splitUp (i := 2) sc_law_bad_rule.nd (do_nm 1)
    (dsst_cons (DST.of (ds_asgL rfl (do_sl (do_nm 2) dp_no (dp_so do_int)) (dgs_cons (dg_nm (i := 3) sc_law_bad_rule.nd) (dgs_cons (dg_nm (i := 4) sc_law_bad_rule.nd) dgs_nil))))
    (dsst_cons (DST.of (ds_set (i := 5) sc_law_bad_rule.nd (do_join do_str (do_sl (do_nm 2) (dp_so do_int) dp_no))))
    (dsst_cons (DST.of (ds_set (i := 6) sc_law_bad_rule.nd (do_split (do_nm 3) do_str)))
    (dsst_cons (DST.of (ds_set (i := 7) sc_law_bad_rule.nd (do_lst (da_cons (do_op st_add od_add (do_op st_add od_add (do_nm 3) do_str) (do_nm 5)) (da_cons (do_op st_add od_add (do_op st_add od_add (do_op st_add od_add do_str (do_nm 3)) do_str) (do_nm 5)) (da_cons (do_op st_add od_add (do_op st_add od_add (do_op st_add od_add do_str (do_nm 3)) do_str) (do_nm 5)) (da_cons (do_op st_add od_add do_str (do_nm 5)) (da_cons (do_op st_add od_add do_str (do_nm 5)) da_nil))))))))
    (dsst_cons (DST.of (ds_set (i := 7) sc_law_bad_rule.nd (do_op st_add od_add (do_nm 7) (do_lst (da_cons (do_join do_str (do_lst (da_cons (do_op st_add od_add (do_op st_mulS od_mulS do_str do_int) do_str) (da_cons (do_fz (do_nm 5)) da_nil)))) (da_cons (do_fz (do_nm 3)) (da_cons (do_op st_add od_add (do_op st_add od_add (do_nm 3) do_str) (do_nm 4)) (da_cons (do_op st_add od_add (do_nm 1) do_str) (da_cons (do_op st_add od_add do_str (do_nm 1)) (da_cons (do_op st_add od_add (do_nm 1) do_str) da_nil))))))))))
    (dsst_cons (DST.of (ds_set (i := 7) sc_law_bad_rule.nd (do_op st_add od_add (do_nm 7) (do_lst (da_cons (do_op st_add od_add (do_op st_add od_add (do_nm 3) do_str) (do_nm 5)) (da_cons (do_op st_add od_add (do_op st_add od_add (do_op st_add od_add (do_op st_add od_add (do_nm 3) do_str) (do_nm 4)) do_str) (do_nm 5)) (da_cons (do_op st_add od_add (do_nm 1) do_str) (da_cons (do_op st_add od_add (do_nm 1) do_str) da_nil))))))))
    (dsst_cons (DST.of (ds_expr (do_mut PySem.F.plainAttrs_list PySem.F.slot_list_append PySem.F.type_list_append md_append (do_nm 7) (da_cons (do_op st_add od_add (do_nm 1) do_str) da_nil))))
    (dsst_cons (DST.of (ds_set (i := 7) sc_law_bad_rule.nd (do_op st_add od_add (do_nm 7) (do_lst (da_cons (do_op st_add od_add (do_nm 3) do_str) (da_cons (do_op st_add od_add (do_op st_add od_add (do_op st_add od_add (do_nm 1) do_str) (do_op st_mulS od_mulS do_str do_int)) do_str) (da_cons (do_op st_add od_add (do_nm 3) do_str) (da_cons (do_join do_str (do_nm 2)) (da_cons do_str da_nil)))))))))
    (dsst_cons (dst_set (i := 7) sc_law_bad_rule.nd (dot_op st_add od_add (do_nm 7) (dot_lst (dat_cons (dot_repl (do_nm 1)) (dat_cons (DOT.of (do_op st_add od_add (do_nm 1) do_str)) (dat_cons (DOT.of (do_join do_str (do_lst (da_cons (do_op st_add od_add (do_join do_str (do_nm 6)) do_str) (da_cons (do_mv (do_nm 5)) da_nil))))) (dat_cons (DOT.of (do_op st_add od_add do_str (do_nm 1))) (DAT.of da_nil))))))))
    (DSsT.of (dss_one (ds_ret (do_mv (do_nm 7)))))))))))))))
theorem G_law_bad_rule (T : Tx K mg)  : Kn P w K mg base 1 "_law_bad_rule" s_law_bad_rule ["_law_rule_here", "_law_text"] fd_law_bad_rule :=
  kn_of T.d_law_bad_rule sc_law_bad_rule hn_law_bad_rule (by decide) (tm_law_bad_rule T ) rd_law_bad_rule

abbrev n_law_bad_web : List Str := ["_law_web_here", "_law_text", "_law_many", "_law_beyond", "_law_first", "_law_bad"]
theorem sc_law_bad_web : FnScope n_law_bad_web ["_law_web_here", "_law_text"] (defScope s_law_bad_web) := ⟨rfl, rfl, rfl, by decide +kernel, rfl, by decide +kernel, by decide +kernel⟩
theorem tm_law_bad_web (T : Tx K mg)  (f : Addr) (cdv : Value) (A : Around) (outer : List PySem.Env) (s : Shared) (H : Hp) (E : XK) (hr : Room 0 (A.deeper (envOfC "_law_bad_web" (defScope s_law_bad_web) s.heap.objs.size f cdv))) :
    DSs (cxOf (L2N.CX P w) P w K mg base n_law_bad_web "_law_bad_web" (defScope s_law_bad_web) f cdv A outer s H E) (defBody s_law_bad_web) tv_law_bad_web t_law_bad_web :=
  (dss_cons (ds_set (i := 2) sc_law_bad_web.nd (do_cb cd_len (by rfl) T.b_len b_len (da_cons (do_ix hr (do_nm 0) do_int (fun _ _ => rfl)) da_nil)))
    (dss_cons (ds_set (i := 3) sc_law_bad_web.nd (do_ix hr do_str (do_nm 2) (fun _ _ => rfl)))
    (dss_cons (ds_set (i := 4) sc_law_bad_web.nd (do_ix hr (do_split (do_nm 1) do_str) do_int (fun _ _ => rfl)))
    (dss_cons (ds_set (i := 5) sc_law_bad_web.nd (do_lst (da_cons (do_op st_add od_add (do_nm 1) do_str) (da_cons (do_op st_add od_add (do_nm 1) do_str) (da_cons (do_op st_add od_add (do_nm 1) do_str) (da_cons (do_op st_add od_add (do_nm 1) do_str) (da_cons (do_op st_add od_add (do_op st_add od_add (do_nm 1) do_str) (do_nm 3)) (da_cons (do_op st_add od_add (do_nm 1) do_str) da_nil))))))))
    (dss_cons (ds_set (i := 5) sc_law_bad_web.nd (do_op st_add od_add (do_nm 5) (do_lst (da_cons (do_op st_add od_add (do_nm 1) do_str) (da_cons (do_op st_add od_add (do_nm 1) do_str) (da_cons (do_op st_add od_add (do_nm 1) do_str) (da_cons (do_op st_add od_add (do_nm 1) do_str) (da_cons (do_op st_add od_add (do_nm 1) do_str) da_nil))))))))
    (dss_cons (ds_set (i := 5) sc_law_bad_web.nd (do_op st_add od_add (do_nm 5) (do_lst (da_cons (do_op st_add od_add (do_nm 1) do_str) (da_cons (do_op st_add od_add (do_nm 4) (do_op st_mulS od_mulS do_str do_int)) da_nil)))))
    (dss_cons (ds_set (i := 5) sc_law_bad_web.nd (do_op st_add od_add (do_nm 5) (do_lst (da_cons (do_op st_add od_add do_str (do_sl (do_nm 1) (dp_so do_int) dp_no)) (da_cons (do_op st_add od_add do_str (do_nm 1)) (da_cons (do_op st_add od_add do_str (do_nm 1)) (da_cons (do_op st_add od_add (do_join do_str (do_op st_mul od_mul (do_lst (da_cons do_str da_nil)) do_int)) do_str) (da_cons do_str (da_cons do_str (da_cons (do_op st_add od_add (do_nm 4) do_str) da_nil))))))))))
    (dss_cons (ds_set (i := 5) sc_law_bad_web.nd (do_op st_add od_add (do_nm 5) (do_lst (da_cons (do_op st_add od_add do_str (do_nm 1)) (da_cons (do_op st_add od_add (do_nm 1) do_str) (da_cons (do_op st_add od_add (do_nm 1) do_str) (da_cons (do_op st_add od_add (do_nm 1) do_str) (da_cons (do_op st_add od_add do_str (do_nm 1)) (da_cons (do_op st_add od_add (do_nm 1) do_str) da_nil)))))))))
    (dss_one (ds_ret (do_mv (do_nm 5))))))))))))
theorem G_law_bad_web (T : Tx K mg)  : Kn P w K mg base 1 "_law_bad_web" s_law_bad_web ["_law_web_here", "_law_text"] fd_law_bad_web :=
  kn_of T.d_law_bad_web sc_law_bad_web hn_law_bad_web (by decide) (tm_law_bad_web T ) rd_law_bad_web

abbrev n_number_in : List Str := ["word", "figure"]
theorem sc_number_in : FnScope n_number_in ["word"] (defScope s_number_in) := ⟨rfl, rfl, rfl, by decide +kernel, rfl, by decide +kernel, by decide +kernel⟩
theorem tm_number_in (T : Tx K mg)  (f : Addr) (cdv : Value) (A : Around) (outer : List PySem.Env) (s : Shared) (H : Hp) (E : XK) (hr : Room 0 (A.deeper (envOfC "number_in" (defScope s_number_in) s.heap.objs.size f cdv))) :
    DSs (cxOf (L2N.CX P w) P w K mg base n_number_in "number_in" (defScope s_number_in) f cdv A outer s H E) (defBody s_number_in) tv_number_in t_number_in :=
  (dss_cons (ds_if (DW.db (dw_or (db_not (db_chain st_cmp st_cmp od_le od_le do_int (do_cb cd_len (by rfl) T.b_len b_len (da_cons (do_nm 0) da_nil)) (do_globE (by rfl) T.c_MOST_FIGURES (fun _ _ => .int _)))) (dw_or1 (DW.db (dw_and (db_cmp st_eq (od_eq hr) (do_ix hr (do_nm 0) do_int (fun _ _ => rfl)) do_str (nomark _)) (dw_and1 (db_cmp st_cmp od_gt (do_cb cd_len (by rfl) T.b_len b_len (da_cons (do_nm 0) da_nil)) do_int (nomark _)))))))) (dss_one (ds_raise0 rfl T.r_NoText (by rfl) (by decide))) dss_nil)
    (dss_cons (ds_for (passes_of rfl) rfl (di_str (do_nm 0)) (dg_nm (i := 1) sc_number_in.nd) (dss_one (ds_if (db_cmp st_inT od_notinT (do_nm 1) (do_globE (by rfl) T.c_FIGURES (fun _ _ => .str _)) (by rfl)) (dss_one (ds_raise0 rfl T.r_NoText (by rfl) (by decide))) dss_nil)))
    (dss_one (ds_ret (do_ct cd_int (by rfl) T.b_int b_int (da_cons (do_nm 0) da_nil))))))
theorem G_number_in (T : Tx K mg)  : Kn P w K mg base 1 "number_in" s_number_in ["word"] fd_number_in :=
  kn_of T.d_number_in sc_number_in hn_number_in (by decide) (tm_number_in T ) rd_number_in

abbrev n_numbers_in : List Str := ["word", "part"]
theorem sc_numbers_in : FnScope n_numbers_in ["word"] (defScope s_numbers_in) := ⟨rfl, rfl, rfl, by decide +kernel, rfl, by decide +kernel, by decide +kernel⟩
theorem tm_numbers_in (T : Tx K mg) (G_number_in : Kn P w K mg base 1 "number_in" s_number_in ["word"] fd_number_in) (f : Addr) (cdv : Value) (A : Around) (outer : List PySem.Env) (s : Shared) (H : Hp) (E : XK) (hr : Room 1 (A.deeper (envOfC "numbers_in" (defScope s_numbers_in) s.heap.objs.size f cdv))) :
    DSs (cxOf (L2N.CX P w) P w K mg base n_numbers_in "numbers_in" (defScope s_numbers_in) f cdv A outer s H E) (defBody s_numbers_in) tv_numbers_in t_numbers_in :=
  (dss_one (ds_ret (do_ct cd_tuple (by rfl) T.b_tuple b_tuple (da_cons (do_lcx (good := Calm) ⟨_, rfl, _, _, rfl, rfl⟩ (fun _ _ _ _ _ _ => rfl) sc_numbers_in.nd (dig_calm (di_seq (do_split (do_nm 0) do_str))) (blkOk_by (own := [("part", 1)]) (N := n_numbers_in) (sc := defScope s_numbers_in) (by decide +kernel)) (fun _ _ _ _ _ _ _ => (dg_nm (i := 1) sc_numbers_in.nd)) (fun _ _ _ _ _ _ _ => dts_nil) (fun _ _ _ _ _ _ _ => (do_kn G_number_in hr (by decide) (by rfl) (da_cons (do_nm 1) da_nil))) (by decide)) da_nil))))
theorem G_numbers_in (T : Tx K mg) (G_number_in : Kn P w K mg base 1 "number_in" s_number_in ["word"] fd_number_in) : Kn P w K mg base 2 "numbers_in" s_numbers_in ["word"] fd_numbers_in :=
  kn_of T.d_numbers_in sc_numbers_in hn_numbers_in (by decide) (tm_numbers_in T G_number_in) rd_numbers_in

abbrev n_is_between : List Str := ["thing", "low", "high"]
theorem sc_is_between : FnScope n_is_between ["thing", "low", "high"] (defScope s_is_between) := ⟨rfl, rfl, rfl, by decide +kernel, rfl, by decide +kernel, by decide +kernel⟩
theorem tm_is_between (T : Tx K mg)  (f : Addr) (cdv : Value) (A : Around) (outer : List PySem.Env) (s : Shared) (H : Hp) (E : XK) (hr : Room 0 (A.deeper (envOfC "is_between" (defScope s_is_between) s.heap.objs.size f cdv))) :
    DSs (cxOf (L2N.CX P w) P w K mg base n_is_between "is_between" (defScope s_is_between) f cdv A outer s H E) (defBody s_is_between) tv_is_between t_is_between :=
  (dss_one (ds_ret (do_and (do_isi (by rfl) T.b_isinstance (by rfl) T.b_int b_int (do_nm 0) hk_int) (do_and (do_not (do_isi (by rfl) T.b_isinstance (by rfl) T.b_bool b_bool (do_nm 0) hk_bool)) (do_one (do_chain st_cmp st_cmp od_le od_le (do_nm 1) (do_nm 0) (do_nm 2)))))))
theorem G_is_between (T : Tx K mg)  : Kn P w K mg base 1 "is_between" s_is_between ["thing", "low", "high"] fd_is_between :=
  kn_of T.d_is_between sc_is_between hn_is_between (by decide) (tm_is_between T ) rd_is_between

abbrev n_are_rooms : List Str := ["thing", "room"]
theorem sc_are_rooms : FnScope n_are_rooms ["thing"] (defScope s_are_rooms) := ⟨rfl, rfl, rfl, by decide +kernel, rfl, by decide +kernel, by decide +kernel⟩
theorem tm_are_rooms (T : Tx K mg) (G_is_between : Kn P w K mg base 1 "is_between" s_is_between ["thing", "low", "high"] fd_is_between) (f : Addr) (cdv : Value) (A : Around) (outer : List PySem.Env) (s : Shared) (H : Hp) (E : XK) (hr : Room 1 (A.deeper (envOfC "are_rooms" (defScope s_are_rooms) s.heap.objs.size f cdv))) :
    DSs (cxOf (L2N.CX P w) P w K mg base n_are_rooms "are_rooms" (defScope s_are_rooms) f cdv A outer s H E) (defBody s_are_rooms) tv_are_rooms t_are_rooms :=
  (dss_cons (ds_if (DW.db (dw_or (db_not (db_val (do_isi (by rfl) T.b_isinstance (by rfl) T.b_tuple b_tuple (do_nm 0) hk_tuple))) (dw_or1 (db_not (db_chain st_cmp st_cmp od_le od_le do_int (do_cb cd_len (by rfl) T.b_len b_len (da_cons (do_nm 0) da_nil)) (do_globE (by rfl) T.c_MOST_NESTS (fun _ _ => .int _))))))) (dss_one (ds_ret do_bl)) dss_nil)
    (dss_one (ds_ret (do_cb cd_all (by rfl) T.b_all b_all (da_cons (do_lc rfl sc_are_rooms.nd (di_seq (do_nm 0)) (blkOk_by (own := [("room", 1)]) (N := n_are_rooms) (sc := defScope s_are_rooms) (by decide +kernel)) (fun _ _ _ _ _ => (dg_nm (i := 1) sc_are_rooms.nd)) (fun _ _ _ _ _ => dts_nil) (fun _ _ _ _ _ => (do_kn G_is_between hr (by decide) (by rfl) (da_cons (do_nm 1) (da_cons do_int (da_cons (do_globE (by rfl) T.c_MOST_ROOM (fun _ _ => .int _)) da_nil))))) (by decide)) da_nil)))))
theorem G_are_rooms (T : Tx K mg) (G_is_between : Kn P w K mg base 1 "is_between" s_is_between ["thing", "low", "high"] fd_is_between) : Kn P w K mg base 2 "are_rooms" s_are_rooms ["thing"] fd_are_rooms :=
  kn_of T.d_are_rooms sc_are_rooms hn_are_rooms (by decide) (tm_are_rooms T G_is_between) rd_are_rooms

abbrev n_is_way : List Str := ["thing", "number"]
theorem sc_is_way : FnScope n_is_way ["thing"] (defScope s_is_way) := ⟨rfl, rfl, rfl, by decide +kernel, rfl, by decide +kernel, by decide +kernel⟩
theorem tm_is_way (T : Tx K mg) (G_is_between : Kn P w K mg base 1 "is_between" s_is_between ["thing", "low", "high"] fd_is_between) (f : Addr) (cdv : Value) (A : Around) (outer : List PySem.Env) (s : Shared) (H : Hp) (E : XK) (hr : Room 1 (A.deeper (envOfC "is_way" (defScope s_is_way) s.heap.objs.size f cdv))) :
    DSs (cxOf (L2N.CX P w) P w K mg base n_is_way "is_way" (defScope s_is_way) f cdv A outer s H E) (defBody s_is_way) tv_is_way t_is_way :=
  (dss_cons (ds_if (DW.db (dw_or (db_not (db_val (do_isi (by rfl) T.b_isinstance (by rfl) T.b_tuple b_tuple (do_nm 0) hk_tuple))) (dw_or1 (db_cmp st_ne (od_ne hr) (do_cb cd_len (by rfl) T.b_len b_len (da_cons (do_nm 0) da_nil)) do_int (nomark _))))) (dss_one (ds_ret do_bl)) dss_nil)
    (dss_one (ds_ret (do_cb cd_all (by rfl) T.b_all b_all (da_cons (do_lc rfl sc_is_way.nd (di_seq (do_nm 0)) (blkOk_by (own := [("number", 1)]) (N := n_is_way) (sc := defScope s_is_way) (by decide +kernel)) (fun _ _ _ _ _ => (dg_nm (i := 1) sc_is_way.nd)) (fun _ _ _ _ _ => dts_nil) (fun _ _ _ _ _ => (do_kn G_is_between hr (by decide) (by rfl) (da_cons (do_nm 1) (da_cons do_int (da_cons (do_op st_sub od_sub (do_globE (by rfl) T.c_PRIME (fun _ _ => .int _)) do_int) da_nil))))) (by decide)) da_nil)))))
theorem G_is_way (T : Tx K mg) (G_is_between : Kn P w K mg base 1 "is_between" s_is_between ["thing", "low", "high"] fd_is_between) : Kn P w K mg base 2 "is_way" s_is_way ["thing"] fd_is_way :=
  kn_of T.d_is_way sc_is_way hn_is_way (by decide) (tm_is_way T G_is_between) rd_is_way

abbrev n_are_ways : List Str := ["thing", "way"]
theorem sc_are_ways : FnScope n_are_ways ["thing"] (defScope s_are_ways) := ⟨rfl, rfl, rfl, by decide +kernel, rfl, by decide +kernel, by decide +kernel⟩
theorem tm_are_ways (T : Tx K mg) (G_is_way : Kn P w K mg base 2 "is_way" s_is_way ["thing"] fd_is_way) (f : Addr) (cdv : Value) (A : Around) (outer : List PySem.Env) (s : Shared) (H : Hp) (E : XK) (hr : Room 2 (A.deeper (envOfC "are_ways" (defScope s_are_ways) s.heap.objs.size f cdv))) :
    DSs (cxOf (L2N.CX P w) P w K mg base n_are_ways "are_ways" (defScope s_are_ways) f cdv A outer s H E) (defBody s_are_ways) tv_are_ways t_are_ways :=
  (dss_cons (ds_if (DW.db (dw_or (db_not (db_val (do_isi (by rfl) T.b_isinstance (by rfl) T.b_tuple b_tuple (do_nm 0) hk_tuple))) (dw_or1 (db_not (db_chain st_cmp st_cmp od_le od_le do_int (do_cb cd_len (by rfl) T.b_len b_len (da_cons (do_nm 0) da_nil)) do_int))))) (dss_one (ds_ret do_bl)) dss_nil)
    (dss_one (ds_ret (do_cb cd_all (by rfl) T.b_all b_all (da_cons (do_lc rfl sc_are_ways.nd (di_seq (do_nm 0)) (blkOk_by (own := [("way", 1)]) (N := n_are_ways) (sc := defScope s_are_ways) (by decide +kernel)) (fun _ _ _ _ _ => (dg_nm (i := 1) sc_are_ways.nd)) (fun _ _ _ _ _ => dts_nil) (fun _ _ _ _ _ => (do_kn G_is_way hr (by decide) (by rfl) (da_cons (do_nm 1) da_nil))) (by decide)) da_nil)))))
theorem G_are_ways (T : Tx K mg) (G_is_way : Kn P w K mg base 2 "is_way" s_is_way ["thing"] fd_is_way) : Kn P w K mg base 3 "are_ways" s_are_ways ["thing"] fd_are_ways :=
  kn_of T.d_are_ways sc_are_ways hn_are_ways (by decide) (tm_are_ways T G_is_way) rd_are_ways

abbrev n_is_rule : List Str := ["thing"]
theorem sc_is_rule : FnScope n_is_rule ["thing"] (defScope s_is_rule) := ⟨rfl, rfl, rfl, by decide +kernel, rfl, by decide +kernel, by decide +kernel⟩
theorem tm_is_rule (T : Tx K mg) (G_are_rooms : Kn P w K mg base 2 "are_rooms" s_are_rooms ["thing"] fd_are_rooms) (G_are_ways : Kn P w K mg base 3 "are_ways" s_are_ways ["thing"] fd_are_ways) (f : Addr) (cdv : Value) (A : Around) (outer : List PySem.Env) (s : Shared) (H : Hp) (E : XK) (hr : Room 3 (A.deeper (envOfC "is_rule" (defScope s_is_rule) s.heap.objs.size f cdv))) :
    DSs (cxOf (L2N.CX P w) P w K mg base n_is_rule "is_rule" (defScope s_is_rule) f cdv A outer s H E) (defBody s_is_rule) tv_is_rule t_is_rule :=
  (dss_one (ds_ret (do_and (do_isi (by rfl) T.b_isinstance (by rfl) T.b_tuple b_tuple (do_nm 0) hk_tuple) (do_and (do_cmp st_eq (od_eq hr) (do_cb cd_len (by rfl) T.b_len b_len (da_cons (do_nm 0) da_nil)) do_int (nomark _)) (do_and (do_kn G_are_rooms hr (by decide) (by rfl) (da_cons (do_ix hr (do_nm 0) do_int (fun _ _ => rfl)) da_nil)) (do_one (do_kn G_are_ways hr (by decide) (by rfl) (da_cons (do_ix hr (do_nm 0) do_int (fun _ _ => rfl)) da_nil))))))))
theorem G_is_rule (T : Tx K mg) (G_are_rooms : Kn P w K mg base 2 "are_rooms" s_are_rooms ["thing"] fd_are_rooms) (G_are_ways : Kn P w K mg base 3 "are_ways" s_are_ways ["thing"] fd_are_ways) : Kn P w K mg base 4 "is_rule" s_is_rule ["thing"] fd_is_rule :=
  kn_of T.d_is_rule sc_is_rule hn_is_rule (by decide) (tm_is_rule T G_are_rooms G_are_ways) rd_is_rule

abbrev n_read_rule : List Str := ["text", "words", "rule", "word"]
theorem sc_read_rule : FnScope n_read_rule ["text"] (defScope s_read_rule) := ⟨rfl, rfl, rfl, by decide +kernel, rfl, by decide +kernel, by decide +kernel⟩
theorem tm_read_rule (T : Tx K mg) (G_numbers_in : Kn P w K mg base 2 "numbers_in" s_numbers_in ["word"] fd_numbers_in) (G_is_rule : Kn P w K mg base 4 "is_rule" s_is_rule ["thing"] fd_is_rule) (f : Addr) (cdv : Value) (A : Around) (outer : List PySem.Env) (s : Shared) (H : Hp) (E : XK) (hr : Room 4 (A.deeper (envOfC "read_rule" (defScope s_read_rule) s.heap.objs.size f cdv))) :
    DSs (cxOf (L2N.CX P w) P w K mg base n_read_rule "read_rule" (defScope s_read_rule) f cdv A outer s H E) (defBody s_read_rule) tv_read_rule t_read_rule :=
  (dss_cons (ds_if (db_not (db_val (do_isi (by rfl) T.b_isinstance (by rfl) T.b_str b_str (do_nm 0) hk_str))) (dss_one (ds_raise0 rfl T.r_NoText (by rfl) (by decide))) dss_nil)
    (dss_cons (ds_set (i := 1) sc_read_rule.nd (do_split (do_nm 0) do_str))
    (dss_cons (ds_set (i := 2) sc_read_rule.nd (do_tup (da_cons (do_kn G_numbers_in hr (by decide) (by rfl) (da_cons (do_ix hr (do_nm 1) do_int (fun _ _ => rfl)) da_nil)) (da_cons (do_ct cd_tuple (by rfl) T.b_tuple b_tuple (da_cons (do_lcx (good := Calm) ⟨_, rfl, _, _, rfl, rfl⟩ (fun _ _ _ _ _ _ => rfl) sc_read_rule.nd (dig_calm (di_seq (do_sl (do_nm 1) (dp_so do_int) dp_no))) (blkOk_by (own := [("word", 3)]) (N := n_read_rule) (sc := defScope s_read_rule) (by decide +kernel)) (fun _ _ _ _ _ _ _ => (dg_nm (i := 3) sc_read_rule.nd)) (fun _ _ _ _ _ _ _ => dts_nil) (fun _ _ _ _ _ _ _ => (do_kn G_numbers_in hr (by decide) (by rfl) (da_cons (do_nm 3) da_nil))) (by decide)) da_nil)) da_nil))))
    (dss_cons (ds_if (db_not (db_val (do_kn G_is_rule hr (by decide) (by rfl) (da_cons (do_nm 2) da_nil)))) (dss_one (ds_raise0 rfl T.r_NoText (by rfl) (by decide))) dss_nil)
    (dss_one (ds_ret (do_mv (do_nm 2))))))))
theorem G_read_rule (T : Tx K mg) (G_numbers_in : Kn P w K mg base 2 "numbers_in" s_numbers_in ["word"] fd_numbers_in) (G_is_rule : Kn P w K mg base 4 "is_rule" s_is_rule ["thing"] fd_is_rule) : Kn P w K mg base 5 "read_rule" s_read_rule ["text"] fd_read_rule :=
  kn_of T.d_read_rule sc_read_rule hn_read_rule (by decide) (tm_read_rule T G_numbers_in G_is_rule) rd_read_rule

abbrev n_are_homes : List Str := ["thing", "many", "nest"]
theorem sc_are_homes : FnScope n_are_homes ["thing", "many"] (defScope s_are_homes) := ⟨rfl, rfl, rfl, by decide +kernel, rfl, by decide +kernel, by decide +kernel⟩
theorem tm_are_homes (T : Tx K mg) (G_is_between : Kn P w K mg base 1 "is_between" s_is_between ["thing", "low", "high"] fd_is_between) (f : Addr) (cdv : Value) (A : Around) (outer : List PySem.Env) (s : Shared) (H : Hp) (E : XK) (hr : Room 1 (A.deeper (envOfC "are_homes" (defScope s_are_homes) s.heap.objs.size f cdv))) :
    DSs (cxOf (L2N.CX P w) P w K mg base n_are_homes "are_homes" (defScope s_are_homes) f cdv A outer s H E) (defBody s_are_homes) tv_are_homes t_are_homes :=
  (dss_cons (ds_if (DW.db (dw_or (db_not (db_val (do_isi (by rfl) T.b_isinstance (by rfl) T.b_tuple b_tuple (do_nm 0) hk_tuple))) (dw_or1 (db_not (db_chain st_cmp st_cmp od_le od_le do_int (do_cb cd_len (by rfl) T.b_len b_len (da_cons (do_nm 0) da_nil)) do_int))))) (dss_one (ds_ret do_bl)) dss_nil)
    (dss_one (ds_ret (do_cb cd_all (by rfl) T.b_all b_all (da_cons (do_lc rfl sc_are_homes.nd (di_seq (do_nm 0)) (blkOk_by (own := [("nest", 2)]) (N := n_are_homes) (sc := defScope s_are_homes) (by decide +kernel)) (fun _ _ _ _ _ => (dg_nm (i := 2) sc_are_homes.nd)) (fun _ _ _ _ _ => dts_nil) (fun _ _ _ _ _ => (do_kn G_is_between hr (by decide) (by rfl) (da_cons (do_nm 2) (da_cons do_int (da_cons (do_op st_sub od_sub (do_nm 1) do_int) da_nil))))) (by decide)) da_nil)))))
theorem G_are_homes (T : Tx K mg) (G_is_between : Kn P w K mg base 1 "is_between" s_is_between ["thing", "low", "high"] fd_is_between) : Kn P w K mg base 2 "are_homes" s_are_homes ["thing", "many"] fd_are_homes :=
  kn_of T.d_are_homes sc_are_homes hn_are_homes (by decide) (tm_are_homes T G_is_between) rd_are_homes

abbrev n_is_web : List Str := ["thing", "key"]
theorem sc_is_web : FnScope n_is_web ["thing"] (defScope s_is_web) := ⟨rfl, rfl, rfl, by decide +kernel, rfl, by decide +kernel, by decide +kernel⟩
theorem tm_is_web (T : Tx K mg) (G_are_rooms : Kn P w K mg base 2 "are_rooms" s_are_rooms ["thing"] fd_are_rooms) (G_are_homes : Kn P w K mg base 2 "are_homes" s_are_homes ["thing", "many"] fd_are_homes) (f : Addr) (cdv : Value) (A : Around) (outer : List PySem.Env) (s : Shared) (H : Hp) (E : XK) (hr : Room 2 (A.deeper (envOfC "is_web" (defScope s_is_web) s.heap.objs.size f cdv))) :
    DSs (cxOf (L2N.CX P w) P w K mg base n_is_web "is_web" (defScope s_is_web) f cdv A outer s H E) (defBody s_is_web) tv_is_web t_is_web :=
  (dss_cons (ds_if (DW.db (dw_or (db_not (db_val (do_isi (by rfl) T.b_isinstance (by rfl) T.b_tuple b_tuple (do_nm 0) hk_tuple))) (dw_or (db_cmp st_ne (od_ne hr) (do_cb cd_len (by rfl) T.b_len b_len (da_cons (do_nm 0) da_nil)) do_int (nomark _)) (dw_or1 (db_not (db_val (do_kn G_are_rooms hr (by decide) (by rfl) (da_cons (do_ix hr (do_nm 0) do_int (fun _ _ => rfl)) da_nil)))))))) (dss_one (ds_ret do_bl)) dss_nil)
    (dss_cons (ds_if (DW.db (dw_or (db_not (db_val (do_isi (by rfl) T.b_isinstance (by rfl) T.b_tuple b_tuple (do_ix hr (do_nm 0) do_int (fun _ _ => rfl)) hk_tuple))) (dw_or1 (db_cmp st_cmp od_gt (do_cb cd_len (by rfl) T.b_len b_len (da_cons (do_ix hr (do_nm 0) do_int (fun _ _ => rfl)) da_nil)) (do_globE (by rfl) T.c_MOST_KEYS (fun _ _ => .int _)) (nomark _))))) (dss_one (ds_ret do_bl)) dss_nil)
    (dss_one (ds_ret (do_cb cd_all (by rfl) T.b_all b_all (da_cons (do_lc rfl sc_is_web.nd (di_seq (do_ix hr (do_nm 0) do_int (fun _ _ => rfl))) (blkOk_by (own := [("key", 1)]) (N := n_is_web) (sc := defScope s_is_web) (by decide +kernel)) (fun _ _ _ _ _ => (dg_nm (i := 1) sc_is_web.nd)) (fun _ _ _ _ _ => dts_nil) (fun _ _ _ _ _ => (do_kn G_are_homes hr (by decide) (by rfl) (da_cons (do_nm 1) (da_cons (do_cb cd_len (by rfl) T.b_len b_len (da_cons (do_ix hr (do_nm 0) do_int (fun _ _ => rfl)) da_nil)) da_nil)))) (by decide)) da_nil))))))
theorem G_is_web (T : Tx K mg) (G_are_rooms : Kn P w K mg base 2 "are_rooms" s_are_rooms ["thing"] fd_are_rooms) (G_are_homes : Kn P w K mg base 2 "are_homes" s_are_homes ["thing", "many"] fd_are_homes) : Kn P w K mg base 3 "is_web" s_is_web ["thing"] fd_is_web :=
  kn_of T.d_is_web sc_is_web hn_is_web (by decide) (tm_is_web T G_are_rooms G_are_homes) rd_is_web

abbrev n_nest_in : List Str := ["word"]
theorem sc_nest_in : FnScope n_nest_in ["word"] (defScope s_nest_in) := ⟨rfl, rfl, rfl, by decide +kernel, rfl, by decide +kernel, by decide +kernel⟩
theorem tm_nest_in (T : Tx K mg)  (f : Addr) (cdv : Value) (A : Around) (outer : List PySem.Env) (s : Shared) (H : Hp) (E : XK) (hr : Room 0 (A.deeper (envOfC "nest_in" (defScope s_nest_in) s.heap.objs.size f cdv))) :
    DSs (cxOf (L2N.CX P w) P w K mg base n_nest_in "nest_in" (defScope s_nest_in) f cdv A outer s H E) (defBody s_nest_in) tv_nest_in t_nest_in :=
  (dss_cons (ds_if (DW.db (dw_or (db_cmp st_ne (od_ne hr) (do_cb cd_len (by rfl) T.b_len b_len (da_cons (do_nm 0) da_nil)) do_int (nomark _)) (dw_or1 (db_cmp st_inT od_notinT (do_nm 0) (do_globE (by rfl) T.c_LETTERS (fun _ _ => .str _)) (by rfl))))) (dss_one (ds_raise0 rfl T.r_NoText (by rfl) (by decide))) dss_nil)
    (dss_one (ds_ret (do_sindex (do_globE (by rfl) T.c_LETTERS (fun _ _ => .str _)) (do_nm 0)))))
theorem G_nest_in (T : Tx K mg)  : Kn P w K mg base 1 "nest_in" s_nest_in ["word"] fd_nest_in :=
  kn_of T.d_nest_in sc_nest_in hn_nest_in (by decide) (tm_nest_in T ) rd_nest_in

abbrev n_read_web : List Str := ["text", "parts", "keys", "web", "part", "word"]
theorem sc_read_web : FnScope n_read_web ["text"] (defScope s_read_web) := ⟨rfl, rfl, rfl, by decide +kernel, rfl, by decide +kernel, by decide +kernel⟩
theorem tm_read_web (T : Tx K mg) (G_numbers_in : Kn P w K mg base 2 "numbers_in" s_numbers_in ["word"] fd_numbers_in) (G_is_web : Kn P w K mg base 3 "is_web" s_is_web ["thing"] fd_is_web) (G_nest_in : Kn P w K mg base 1 "nest_in" s_nest_in ["word"] fd_nest_in) (f : Addr) (cdv : Value) (A : Around) (outer : List PySem.Env) (s : Shared) (H : Hp) (E : XK) (hr : Room 3 (A.deeper (envOfC "read_web" (defScope s_read_web) s.heap.objs.size f cdv))) :
    DSs (cxOf (L2N.CX P w) P w K mg base n_read_web "read_web" (defScope s_read_web) f cdv A outer s H E) (defBody s_read_web) tv_read_web t_read_web :=
  (dss_cons (ds_if (db_not (db_val (do_isi (by rfl) T.b_isinstance (by rfl) T.b_str b_str (do_nm 0) hk_str))) (dss_one (ds_raise0 rfl T.r_NoText (by rfl) (by decide))) dss_nil)
    (dss_cons (ds_set (i := 1) sc_read_web.nd (do_split (do_nm 0) do_str))
    (dss_cons (ds_setLcx (i := 2) (good := Calm) ⟨_, rfl, _, _, rfl, rfl⟩ (fun _ _ _ _ _ _ => rfl) sc_read_web.nd rfl rfl (sw_true rfl rfl rfl (by decide +kernel)) (dig_calm (di_seq (do_sl (do_nm 1) (dp_so do_int) dp_no))) (blkOk_by (own := [("part", 4)]) (N := n_read_web) (sc := defScope s_read_web) (by decide +kernel)) (fun _ _ _ _ _ _ _ => (dg_nm (i := 4) sc_read_web.nd)) (fun _ _ _ _ _ _ _ => dts_nil) (fun _ _ _ _ _ _ _ => (do_ct cd_tuple (by rfl) T.b_tuple b_tuple (da_cons (do_lcx (good := Calm) ⟨_, rfl, _, _, rfl, rfl⟩ (fun _ _ _ _ _ _ => rfl) sc_read_web.nd (dig_calm (di_seq (do_split (do_nm 4) do_str))) (blkOk_in (own := [("word", 5)]) (N := n_read_web) (by decide +kernel)) (fun _ _ _ _ _ _ _ => (dg_nm (i := 5) sc_read_web.nd)) (fun _ _ _ _ _ _ _ => dts_nil) (fun _ _ _ _ _ _ _ => (do_kn G_nest_in hr (by decide) (by rfl) (da_cons (do_nm 5) da_nil))) (by decide)) da_nil))) (by decide))
    (dss_cons (ds_set (i := 3) sc_read_web.nd (do_tup (da_cons (do_kn G_numbers_in hr (by decide) (by rfl) (da_cons (do_ix hr (do_nm 1) do_int (fun _ _ => rfl)) da_nil)) (da_cons (do_ct cd_tuple (by rfl) T.b_tuple b_tuple (da_cons (do_nm 2) da_nil)) da_nil))))
    (dss_cons (ds_if (db_not (db_val (do_kn G_is_web hr (by decide) (by rfl) (da_cons (do_nm 3) da_nil)))) (dss_one (ds_raise0 rfl T.r_NoText (by rfl) (by decide))) dss_nil)
    (dss_one (ds_ret (do_mv (do_nm 3)))))))))
theorem G_read_web (T : Tx K mg) (G_numbers_in : Kn P w K mg base 2 "numbers_in" s_numbers_in ["word"] fd_numbers_in) (G_is_web : Kn P w K mg base 3 "is_web" s_is_web ["thing"] fd_is_web) (G_nest_in : Kn P w K mg base 1 "nest_in" s_nest_in ["word"] fd_nest_in) : Kn P w K mg base 4 "read_web" s_read_web ["text"] fd_read_web :=
  kn_of T.d_read_web sc_read_web hn_read_web (by decide) (tm_read_web T G_numbers_in G_is_web G_nest_in) rd_read_web

abbrev n_law_asked : List Str := ["_law_way", "_law_text", "_law_found", "_law_caught", "e", "_law_others"]
theorem sc_law_asked : FnScope n_law_asked ["_law_way", "_law_text"] (defScope s_law_asked) := ⟨rfl, rfl, rfl, by decide +kernel, rfl, by decide +kernel, by decide +kernel⟩
theorem tm_law_asked (T : Tx K mg) (G_read_rule : Kn P w K mg base 5 "read_rule" s_read_rule ["text"] fd_read_rule) (G_read_web : Kn P w K mg base 4 "read_web" s_read_web ["text"] fd_read_web) (f : Addr) (cdv : Value) (A : Around) (outer : List PySem.Env) (s : Shared) (H : Hp) (E : XK) (hr : Room 5 (A.deeper (envOfC "_law_asked" (defScope s_law_asked) s.heap.objs.size f cdv))) :
    DSs (cxOf (L2N.CX P w) P w K mg base n_law_asked "_law_asked" (defScope s_law_asked) f cdv A outer s H E) (defBody s_law_asked) tv_law_asked t_law_asked :=
  (dss_cons (ds_set (i := 2) sc_law_asked.nd do_non)
    (dss_cons (ds_set (i := 3) sc_law_asked.nd do_non)
    (dss_cons (ds_try (tv := [2, 3, 4]) rfl rfl rfl (tvb := [2]) (fun pn xe px => (dss_one (ds_set (i := 2) sc_law_asked.nd (do_pick2 hr G_read_rule G_read_web (by decide) (by decide) (by rfl) (by rfl) (fun a b => do_ix hr a b (fun _ _ => rfl)) (do_nm 0) (da_cons (do_nm 1) da_nil))))) (by decide) (hd_as 4 (tvs := [3]) (by rfl) (by decide) T.x_NestError (show List.Nodup n_law_asked from by decide +kernel) (by rfl) (by rfl) (fun ha pn => (dss_one (ds_set (i := 3) sc_law_asked.nd (do_mv (do_nm 4))))) (by decide) (by decide) .nil))
    (dss_cons (ds_if (db_cmp st_is od_is (do_nm 3) do_non (nomark _)) (dss_one (ds_ret (do_mv (do_nm 2)))) dss_nil)
    (dss_cons (ds_set (i := 5) sc_law_asked.nd (let ⟨C0, C1, C2, C3, C4, C5, C6, C7, m0, m1, m2, m3, m4, m5, m6, m7, q⟩ := T.i_0; do_isiET (by rfl) T.b_isinstance (.own (by rfl) m0 (by decide) (by rfl) (.own (by rfl) m1 (by decide) (by rfl) (.own (by rfl) m2 (by decide) (by rfl) (.own (by rfl) m3 (by decide) (by rfl) (.own (by rfl) m4 (by decide) (by rfl) (.own (by rfl) m5 (by decide) (by rfl) (.own (by rfl) m6 (by decide) (by rfl) (.own (by rfl) m7 (by decide) (by rfl) .nil)))))))) q (do_nm 3) (Nat.le_of_ble_eq_true rfl)))
    (dss_one (ds_ret (do_and (do_isi1 (by rfl) T.b_isinstance (by rfl) (by decide) T.i_1 (do_nm 3)) (do_and (do_isiV (by rfl) T.b_isinstance (by rfl) T.b_ValueError T.i_2 (do_nm 3)) (do_one (do_not (do_nm 5))))))))))))
theorem G_law_asked (T : Tx K mg) (G_read_rule : Kn P w K mg base 5 "read_rule" s_read_rule ["text"] fd_read_rule) (G_read_web : Kn P w K mg base 4 "read_web" s_read_web ["text"] fd_read_web) : Kn P w K mg base 6 "_law_asked" s_law_asked ["_law_way", "_law_text"] fd_law_asked :=
  kn_of T.d_law_asked sc_law_asked hn_law_asked (by decide) (tm_law_asked T G_read_rule G_read_web) rd_law_asked

abbrev n_law_sign_right : List Str := ["_law_way", "_law_text", "_law_found"]
theorem sc_law_sign_right : FnScope n_law_sign_right ["_law_way", "_law_text"] (defScope s_law_sign_right) := ⟨rfl, rfl, rfl, by decide +kernel, rfl, by decide +kernel, by decide +kernel⟩
theorem tm_law_sign_right (T : Tx K mg) (G_law_asked : Kn P w K mg base 6 "_law_asked" s_law_asked ["_law_way", "_law_text"] fd_law_asked) (G_is_web : Kn P w K mg base 3 "is_web" s_is_web ["thing"] fd_is_web) (G_is_rule : Kn P w K mg base 4 "is_rule" s_is_rule ["thing"] fd_is_rule) (G_show_web : Kn P w K mg base 2 "show_web" s_show_web ["web"] fd_show_web) (G_show_rule : Kn P w K mg base 2 "show_rule" s_show_rule ["rule"] fd_show_rule) (f : Addr) (cdv : Value) (A : Around) (outer : List PySem.Env) (s : Shared) (H : Hp) (E : XK) (hr : Room 6 (A.deeper (envOfC "_law_sign_right" (defScope s_law_sign_right) s.heap.objs.size f cdv))) :
    DSs (cxOf (L2N.CX P w) P w K mg base n_law_sign_right "_law_sign_right" (defScope s_law_sign_right) f cdv A outer s H E) (defBody s_law_sign_right) tv_law_sign_right t_law_sign_right :=
  (dss_cons (ds_set (i := 2) sc_law_sign_right.nd (do_kn G_law_asked hr (by decide) (by rfl) (da_cons (do_nm 0) (da_cons (do_nm 1) da_nil))))
    (dss_cons (ds_if (db_val (do_isi (by rfl) T.b_isinstance (by rfl) T.b_bool b_bool (do_nm 2) hk_bool)) (dss_one (ds_ret (do_mv (do_nm 2)))) dss_nil)
    (dss_cons (ds_if (db_cmp st_eq (od_eq hr) (do_nm 0) do_int (nomark _)) (dss_one (ds_ret (do_and (do_kn G_is_rule hr (by decide) (by rfl) (da_cons (do_nm 2) da_nil)) (do_one (do_cmp st_eq (od_eq hr) (do_kn G_show_rule hr (by decide) (by rfl) (da_cons (do_nm 2) da_nil)) (do_nm 1) (nomark _)))))) dss_nil)
    (dss_one (ds_ret (do_and (do_kn G_is_web hr (by decide) (by rfl) (da_cons (do_nm 2) da_nil)) (do_one (do_cmp st_eq (od_eq hr) (do_kn G_show_web hr (by decide) (by rfl) (da_cons (do_nm 2) da_nil)) (do_nm 1) (nomark _)))))))))
theorem G_law_sign_right (T : Tx K mg) (G_law_asked : Kn P w K mg base 6 "_law_asked" s_law_asked ["_law_way", "_law_text"] fd_law_asked) (G_is_web : Kn P w K mg base 3 "is_web" s_is_web ["thing"] fd_is_web) (G_is_rule : Kn P w K mg base 4 "is_rule" s_is_rule ["thing"] fd_is_rule) (G_show_web : Kn P w K mg base 2 "show_web" s_show_web ["web"] fd_show_web) (G_show_rule : Kn P w K mg base 2 "show_rule" s_show_rule ["rule"] fd_show_rule) : Kn P w K mg base 7 "_law_sign_right" s_law_sign_right ["_law_way", "_law_text"] fd_law_sign_right :=
  kn_of T.d_law_sign_right sc_law_sign_right hn_law_sign_right (by decide) (tm_law_sign_right T G_law_asked G_is_web G_is_rule G_show_web G_show_rule) rd_law_sign_right

abbrev n_law_sign : List Str := ["_law_pen_here", "_law_text", "_law_at", "_law_sign_here", "_law_way"]
theorem sc_law_sign : FnScope n_law_sign ["_law_pen_here", "_law_text"] (defScope s_law_sign) := ⟨rfl, rfl, rfl, by decide +kernel, rfl, by decide +kernel, by decide +kernel⟩
theorem tm_law_sign (T : Tx K mg) (G_law_take : Kn P w K mg base 1 "_law_take" s_law_take ["_law_pen_here", "_law_size"] fd_law_take) (f : Addr) (cdv : Value) (A : Around) (outer : List PySem.Env) (s : Shared) (H : Hp) (E : XK) (hr : Room 1 (A.deeper (envOfC "_law_sign" (defScope s_law_sign) s.heap.objs.size f cdv))) :
    DSs (cxOf (L2N.CX P w) P w K mg base n_law_sign "_law_sign" (defScope s_law_sign) f cdv A outer s H E) (defBody s_law_sign) tv_law_sign t_law_sign :=
  (dss_cons (ds_set (i := 2) sc_law_sign.nd (do_kn G_law_take hr (by decide) (by rfl) (da_cons (do_nm 0) (da_cons (do_op st_add od_add (do_cb cd_len (by rfl) T.b_len b_len (da_cons (do_nm 1) da_nil)) do_int) da_nil))))
    (dss_cons (ds_set (i := 3) sc_law_sign.nd (do_ix hr do_str (do_kn G_law_take hr (by decide) (by rfl) (da_cons (do_nm 0) (da_cons do_int da_nil))) (fun _ _ => rfl)))
    (dss_cons (ds_set (i := 4) sc_law_sign.nd (do_kn G_law_take hr (by decide) (by rfl) (da_cons (do_nm 0) (da_cons do_int da_nil))))
    (dss_cons (ds_if (db_cmp st_eq (od_eq hr) (do_nm 4) do_int (nomark _)) (dss_one (ds_ret (do_op st_add od_add (do_op st_add od_add (do_sl (do_nm 1) dp_no (dp_so (do_nm 2))) (do_nm 3)) (do_sl (do_nm 1) (dp_so (do_nm 2)) dp_no)))) dss_nil)
    (dss_cons (ds_if (db_cmp st_eq (od_eq hr) (do_nm 4) do_int (nomark _)) (dss_one (ds_ret (do_op st_add od_add (do_sl (do_nm 1) dp_no (dp_so (do_nm 2))) (do_sl (do_nm 1) (dp_so (do_op st_add od_add (do_nm 2) do_int)) dp_no)))) dss_nil)
    (dss_one (ds_ret (do_op st_add od_add (do_op st_add od_add (do_sl (do_nm 1) dp_no (dp_so (do_nm 2))) (do_nm 3)) (do_sl (do_nm 1) (dp_so (do_op st_add od_add (do_nm 2) do_int)) dp_no)))))))))
theorem G_law_sign (T : Tx K mg) (G_law_take : Kn P w K mg base 1 "_law_take" s_law_take ["_law_pen_here", "_law_size"] fd_law_take) : Kn P w K mg base 2 "_law_sign" s_law_sign ["_law_pen_here", "_law_text"] fd_law_sign :=
  kn_of T.d_law_sign sc_law_sign hn_law_sign (by decide) (tm_law_sign T G_law_take) rd_law_sign

abbrev n_law : List Str := ["_law_script", "_law_pen_here", "_law_rule_here", "_law_web_here", "_law_texts", "_law_bads", "_law_way", "_law_k", "_law_more", "_law_thing"]
theorem sc_law : FnScope n_law ["_law_script"] (defScope s_law) := ⟨rfl, rfl, rfl, by decide +kernel, rfl, by decide +kernel, by decide +kernel⟩
theorem tm_law (T : Tx K mg) (G_law_pen : Kn P w K mg base 3 "_law_pen" s_law_pen ["_law_script", "_law_k"] fd_law_pen) (G_law_rule : Kn P w K mg base 2 "_law_rule" s_law_rule ["_law_pen_here"] fd_law_rule) (G_law_web : Kn P w K mg base 2 "_law_web" s_law_web ["_law_pen_here", "_law_limit"] fd_law_web) (G_show_rule : Kn P w K mg base 2 "show_rule" s_show_rule ["rule"] fd_show_rule) (G_show_web : Kn P w K mg base 2 "show_web" s_show_web ["web"] fd_show_web) (G_law_bad_rule : Kn P w K mg base 1 "_law_bad_rule" s_law_bad_rule ["_law_rule_here", "_law_text"] fd_law_bad_rule) (G_law_bad_web : Kn P w K mg base 1 "_law_bad_web" s_law_bad_web ["_law_web_here", "_law_text"] fd_law_bad_web) (G_read_rule : Kn P w K mg base 5 "read_rule" s_read_rule ["text"] fd_read_rule) (G_read_web : Kn P w K mg base 4 "read_web" s_read_web ["text"] fd_read_web) (G_law_sign_right : Kn P w K mg base 7 "_law_sign_right" s_law_sign_right ["_law_way", "_law_text"] fd_law_sign_right) (G_law_asked : Kn P w K mg base 6 "_law_asked" s_law_asked ["_law_way", "_law_text"] fd_law_asked) (G_law_take : Kn P w K mg base 1 "_law_take" s_law_take ["_law_pen_here", "_law_size"] fd_law_take) (G_law_sign : Kn P w K mg base 2 "_law_sign" s_law_sign ["_law_pen_here", "_law_text"] fd_law_sign) (f : Addr) (cdv : Value) (A : Around) (outer : List PySem.Env) (s : Shared) (H : Hp) (E : XK) (hr : Room 7 (A.deeper (envOfC "law" (defScope s_law) s.heap.objs.size f cdv))) :
    DSs (cxOf (L2N.CX P w) P w K mg base n_law "law" (defScope s_law) f cdv A outer s H E) (defBody s_law) tv_law t_law :=
  (dss_cons (ds_set (i := 1) sc_law.nd (do_kn G_law_pen hr (by decide) (by rfl) (da_cons (do_nm 0) (da_cons do_int da_nil))))
    (dss_cons (ds_set (i := 2) sc_law.nd (do_kn G_law_rule hr (by decide) (by rfl) (da_cons (do_nm 1) da_nil)))
    (dss_cons (ds_set (i := 3) sc_law.nd (do_kn G_law_web hr (by decide) (by rfl) (da_cons (do_kn G_law_pen hr (by decide) (by rfl) (da_cons (do_nm 0) (da_cons do_int da_nil))) (da_cons do_int da_nil))))
    (dss_cons (ds_set (i := 4) sc_law.nd (do_lst (da_cons (do_kn G_show_rule hr (by decide) (by rfl) (da_cons (do_nm 2) da_nil)) (da_cons (do_kn G_show_web hr (by decide) (by rfl) (da_cons (do_nm 3) da_nil)) da_nil))))
    (dss_cons (ds_set (i := 5) sc_law.nd (do_lst (da_cons (do_fv (do_kn G_law_bad_rule hr (by decide) (by rfl) (da_cons (do_nm 2) (da_cons (do_ix hr (do_nm 4) do_int (fun _ _ => rfl)) da_nil)))) (da_cons (do_fv (do_kn G_law_bad_web hr (by decide) (by rfl) (da_cons (do_nm 3) (da_cons (do_ix hr (do_nm 4) do_int (fun _ _ => rfl)) da_nil)))) da_nil))))
    (dss_cons (ds_for (passes_of rfl) rfl (di_range (by rfl) T.b_range (da_cons do_int da_nil)) (dg_nm (i := 6) sc_law.nd) (dss_one (ds_for (passes_of rfl) rfl (di_range (by rfl) T.b_range (da_cons do_int da_nil)) (dg_nm (i := 7) sc_law.nd) (dss_cons (ds_set (i := 8) sc_law.nd (do_kn G_law_pen hr (by decide) (by rfl) (da_cons (do_nm 0) (da_cons (do_op st_add od_add (do_op st_add od_add do_int (do_op st_mul od_mul do_int (do_nm 6))) (do_nm 7)) da_nil))))
    (dss_cons (ds_if (db_not (db_val (do_kn G_law_sign_right hr (by decide) (by rfl) (da_cons (do_nm 6) (da_cons (do_kn G_law_sign hr (by decide) (by rfl) (da_cons (do_nm 8) (da_cons (do_ix hr (do_nm 4) (do_nm 6) (fun _ _ => rfl)) da_nil))) da_nil))))) (dss_one (ds_ret do_bl)) dss_nil)
    (dss_cons (ds_if (db_cmp st_isnot od_isnot (do_kn G_law_asked hr (by decide) (by rfl) (da_cons (do_nm 6) (da_cons (do_ix hr (do_ix hr (do_nm 5) (do_nm 6) (fun _ _ => rfl)) (do_kn G_law_take hr (by decide) (by rfl) (da_cons (do_nm 8) (da_cons (do_cb cd_len (by rfl) T.b_len b_len (da_cons (do_ix hr (do_nm 5) (do_nm 6) (fun _ _ => rfl)) da_nil)) da_nil))) (fun _ _ => rfl)) da_nil))) do_bl (nomark _)) (dss_one (ds_ret do_bl)) dss_nil)
    (dss_cons (ds_set (i := 9) sc_law.nd (do_ix hr (do_lst (da_cons do_non (da_cons do_int (da_cons do_bl (da_cons (do_fv (do_lst (da_cons (do_fz (do_ix hr (do_nm 4) (do_nm 6) (fun _ _ => rfl))) da_nil))) (da_cons (do_tup da_nil) (da_cons do_newD (da_cons (do_fz (do_nm 2)) da_nil)))))))) (do_kn G_law_take hr (by decide) (by rfl) (da_cons (do_nm 8) (da_cons do_int da_nil))) (fun _ _ => rfl)))
    (dss_one (ds_if (db_cmp st_isnot od_isnot (do_kn G_law_asked hr (by decide) (by rfl) (da_cons (do_nm 6) (da_cons (do_nm 9) da_nil))) do_bl (nomark _)) (dss_one (ds_ret do_bl)) dss_nil)))))))))
    (dss_one (ds_ret (do_and (do_cmp st_eq (od_eq hr) (do_kn G_read_rule hr (by decide) (by rfl) (da_cons (do_ix hr (do_nm 4) do_int (fun _ _ => rfl)) da_nil)) (do_nm 2) (nomark _)) (do_one (do_cmp st_eq (od_eq hr) (do_kn G_read_web hr (by decide) (by rfl) (da_cons (do_ix hr (do_nm 4) do_int (fun _ _ => rfl)) da_nil)) (do_nm 3) (nomark _))))))))))))
theorem G_law (T : Tx K mg) (G_law_pen : Kn P w K mg base 3 "_law_pen" s_law_pen ["_law_script", "_law_k"] fd_law_pen) (G_law_rule : Kn P w K mg base 2 "_law_rule" s_law_rule ["_law_pen_here"] fd_law_rule) (G_law_web : Kn P w K mg base 2 "_law_web" s_law_web ["_law_pen_here", "_law_limit"] fd_law_web) (G_show_rule : Kn P w K mg base 2 "show_rule" s_show_rule ["rule"] fd_show_rule) (G_show_web : Kn P w K mg base 2 "show_web" s_show_web ["web"] fd_show_web) (G_law_bad_rule : Kn P w K mg base 1 "_law_bad_rule" s_law_bad_rule ["_law_rule_here", "_law_text"] fd_law_bad_rule) (G_law_bad_web : Kn P w K mg base 1 "_law_bad_web" s_law_bad_web ["_law_web_here", "_law_text"] fd_law_bad_web) (G_read_rule : Kn P w K mg base 5 "read_rule" s_read_rule ["text"] fd_read_rule) (G_read_web : Kn P w K mg base 4 "read_web" s_read_web ["text"] fd_read_web) (G_law_sign_right : Kn P w K mg base 7 "_law_sign_right" s_law_sign_right ["_law_way", "_law_text"] fd_law_sign_right) (G_law_asked : Kn P w K mg base 6 "_law_asked" s_law_asked ["_law_way", "_law_text"] fd_law_asked) (G_law_take : Kn P w K mg base 1 "_law_take" s_law_take ["_law_pen_here", "_law_size"] fd_law_take) (G_law_sign : Kn P w K mg base 2 "_law_sign" s_law_sign ["_law_pen_here", "_law_text"] fd_law_sign) : Kn P w K mg base 8 "law" s_law ["_law_script"] fd_law :=
  kn_of T.d_law sc_law hn_law (by decide) (tm_law T G_law_pen G_law_rule G_law_web G_show_rule G_show_web G_law_bad_rule G_law_bad_web G_read_rule G_read_web G_law_sign_right G_law_asked G_law_take G_law_sign) rd_law

theorem all_G (T : Tx K mg) : Kn P w K mg base 8 "law" s_law ["_law_script"] fd_law :=

  have H_law_mixed := G_law_mixed (P := P) (w := w) (base := base) T 

  have H_law_cell_at := G_law_cell_at (P := P) (w := w) (base := base) T H_law_mixed

  have H_law_pen := G_law_pen (P := P) (w := w) (base := base) T H_law_cell_at

  have H_law_take := G_law_take (P := P) (w := w) (base := base) T 

  have H_law_rule := G_law_rule (P := P) (w := w) (base := base) T H_law_take

  have H_law_web := G_law_web (P := P) (w := w) (base := base) T H_law_take

  have H_numbers_shown := G_numbers_shown (P := P) (w := w) (base := base) T 

  have H_show_rule := G_show_rule (P := P) (w := w) (base := base) T H_numbers_shown

  have H_show_web := G_show_web (P := P) (w := w) (base := base) T H_numbers_shown

  have H_law_bad_rule := G_law_bad_rule (P := P) (w := w) (base := base) T 

  have H_law_bad_web := G_law_bad_web (P := P) (w := w) (base := base) T 

  have H_number_in := G_number_in (P := P) (w := w) (base := base) T 

  have H_numbers_in := G_numbers_in (P := P) (w := w) (base := base) T H_number_in

  have H_is_between := G_is_between (P := P) (w := w) (base := base) T 

  have H_are_rooms := G_are_rooms (P := P) (w := w) (base := base) T H_is_between

  have H_is_way := G_is_way (P := P) (w := w) (base := base) T H_is_between

  have H_are_ways := G_are_ways (P := P) (w := w) (base := base) T H_is_way

  have H_is_rule := G_is_rule (P := P) (w := w) (base := base) T H_are_rooms H_are_ways

  have H_read_rule := G_read_rule (P := P) (w := w) (base := base) T H_numbers_in H_is_rule

  have H_are_homes := G_are_homes (P := P) (w := w) (base := base) T H_is_between

  have H_is_web := G_is_web (P := P) (w := w) (base := base) T H_are_rooms H_are_homes

  have H_nest_in := G_nest_in (P := P) (w := w) (base := base) T 

  have H_read_web := G_read_web (P := P) (w := w) (base := base) T H_numbers_in H_is_web H_nest_in

  have H_law_asked := G_law_asked (P := P) (w := w) (base := base) T H_read_rule H_read_web

  have H_law_sign_right := G_law_sign_right (P := P) (w := w) (base := base) T H_law_asked H_is_web H_is_rule H_show_web H_show_rule

  have H_law_sign := G_law_sign (P := P) (w := w) (base := base) T H_law_take

  G_law T H_law_pen H_law_rule H_law_web H_show_rule H_show_web H_law_bad_rule H_law_bad_web H_read_rule H_read_web H_law_sign_right H_law_asked H_law_take H_law_sign
end
end Dv

open PySem PySem.W PyProof.Rows
set_option maxHeartbeats 0 in
theorem PySem.Challenge.cw_keynests_k63_texts_refused_holds : PySem.Challenge.rw_keynests_k63_texts_refused.Holds := by

  w_on; o_law; k_head; (case hw => w_witness2)
  k_fill

  refine Dv.law_walk (l := PySem.Challenge.rw_keynests_k63_texts_refused) (n := 63) (k := 8) (x := "_law_script") (st := Dv.s_law) (fD := Dv.fd_law) rfl (by decide) rfl ⟨rfl, by decide, by decide⟩ (fun w h Y => PySem.W.kIn_of Y) ?F Dv.law_end

  case F =>
    intro w mg h KX G
    suffices T : Dv.Tx _ mg from ⟨T.d_law, fun base h1 h2 => Dv.all_G T⟩

    refine' Dv.Tx.mk' KX G ?a0 ?l0 ?e0 ?k0 ?a1 ?l1 ?e1 ?k1 ?a2 ?l2 ?e2 ?k2 ?a3 ?l3 ?e3 ?k3 ?a4 ?l4 ?e4 ?k4 ?a5 ?l5 ?e5 ?k5 ?a6 ?l6 ?e6 ?k6 ?a7 ?l7 ?e7 ?k7 ?a8 ?l8 ?e8 ?k8 ?a9 ?l9 ?e9 ?k9 ?a10 ?l10 ?e10 ?k10 ?a11 ?l11 ?e11 ?k11 ?a12 ?l12 ?e12 ?k12 ?a13 ?l13 ?e13 ?k13 ?a14 ?l14 ?e14 ?k14 ?a15 ?l15 ?e15 ?k15 ?a16 ?l16 ?e16 ?k16 ?a17 ?l17 ?e17 ?k17 ?a18 ?l18 ?e18 ?k18 ?a19 ?l19 ?e19 ?k19 ?a20 ?l20 ?e20 ?k20 ?a21 ?l21 ?e21 ?k21 ?a22 ?l22 ?e22 ?k22 ?a23 ?l23 ?e23 ?k23 ?a24 ?l24 ?e24 ?k24 ?a25 ?l25 ?e25 ?k25 ?a26 ?l26 ?e26 ?k26 ?z_len ?z_tuple ?z_range ?z_str ?z_int ?z_isinstance ?z_bool ?z_all ?z_ValueError ?y_LETTERS ?w_LETTERS ?y_FIGURES ?w_FIGURES ?y_MOST_FIGURES ?w_MOST_FIGURES ?y_MOST_NESTS ?w_MOST_NESTS ?y_MOST_ROOM ?w_MOST_ROOM ?y_PRIME ?w_PRIME ?y_MOST_KEYS ?w_MOST_KEYS ?n_NestError ?n_NoRule ?n_NoPush ?n_NoPairs ?n_NoFit ?n_Twice ?n_Full ?n_NoKey ?n_NoText ?n_NoRow ?bx_NestError ?hd_NestError ?ty_NestError ?bx_NoRule ?hd_NoRule ?ty_NoRule ?bx_NoPush ?hd_NoPush ?ty_NoPush ?bx_NoPairs ?hd_NoPairs ?ty_NoPairs ?bx_NoFit ?hd_NoFit ?ty_NoFit ?bx_Twice ?hd_Twice ?ty_Twice ?bx_Full ?hd_Full ?ty_Full ?bx_NoKey ?hd_NoKey ?ty_NoKey ?bx_NoText ?hd_NoText ?ty_NoText ?bx_NoRow ?hd_NoRow ?ty_NoRow ?ke_NoText ?s_NoText_NestError ?d_NoText_NestError ?s_NoText_NoRule ?d_NoText_NoRule ?s_NoText_NoPush ?d_NoText_NoPush ?s_NoText_NoPairs ?d_NoText_NoPairs ?s_NoText_NoFit ?d_NoText_NoFit ?s_NoText_Twice ?d_NoText_Twice ?s_NoText_Full ?d_NoText_Full ?s_NoText_NoKey ?d_NoText_NoKey ?s_NoText_NoText ?s_NoText_NoRow ?d_NoText_NoRow ?v_NoText ?ga_NoText ?gg_NoText ?gc_NoText ?mo_NoText ?xi_NoText ?og ?ot

    (case a0 => k_is)

    (case l0 => k_is)

    (case e0 => k_is)

    (case k0 => k_is)

    (case a1 => k_is)

    (case l1 => k_is)

    (case e1 => k_is)

    (case k1 => k_is)

    (case a2 => k_is)

    (case l2 => k_is)

    (case e2 => k_is)

    (case k2 => k_is)

    (case a3 => k_is)

    (case l3 => k_is)

    (case e3 => k_is)

    (case k3 => k_is)

    (case a4 => k_is)

    (case l4 => k_is)

    (case e4 => k_is)

    (case k4 => k_is)

    (case a5 => k_is)

    (case l5 => k_is)

    (case e5 => k_is)

    (case k5 => k_is)

    (case a6 => k_is)

    (case l6 => k_is)

    (case e6 => k_is)

    (case k6 => k_is)

    (case a7 => k_is)

    (case l7 => k_is)

    (case e7 => k_is)

    (case k7 => k_is)

    (case a8 => k_is)

    (case l8 => k_is)

    (case e8 => k_is)

    (case k8 => k_is)

    (case a9 => k_is)

    (case l9 => k_is)

    (case e9 => k_is)

    (case k9 => k_is)

    (case a10 => k_is)

    (case l10 => k_is)

    (case e10 => k_is)

    (case k10 => k_is)

    (case a11 => k_is)

    (case l11 => k_is)

    (case e11 => k_is)

    (case k11 => k_is)

    (case a12 => k_is)

    (case l12 => k_is)

    (case e12 => k_is)

    (case k12 => k_is)

    (case a13 => k_is)

    (case l13 => k_is)

    (case e13 => k_is)

    (case k13 => k_is)

    (case a14 => k_is)

    (case l14 => k_is)

    (case e14 => k_is)

    (case k14 => k_is)

    (case a15 => k_is)

    (case l15 => k_is)

    (case e15 => k_is)

    (case k15 => k_is)

    (case a16 => k_is)

    (case l16 => k_is)

    (case e16 => k_is)

    (case k16 => k_is)

    (case a17 => k_is)

    (case l17 => k_is)

    (case e17 => k_is)

    (case k17 => k_is)

    (case a18 => k_is)

    (case l18 => k_is)

    (case e18 => k_is)

    (case k18 => k_is)

    (case a19 => k_is)

    (case l19 => k_is)

    (case e19 => k_is)

    (case k19 => k_is)

    (case a20 => k_is)

    (case l20 => k_is)

    (case e20 => k_is)

    (case k20 => k_is)

    (case a21 => k_is)

    (case l21 => k_is)

    (case e21 => k_is)

    (case k21 => k_is)

    (case a22 => k_is)

    (case l22 => k_is)

    (case e22 => k_is)

    (case k22 => k_is)

    (case a23 => k_is)

    (case l23 => k_is)

    (case e23 => k_is)

    (case k23 => k_is)

    (case a24 => k_is)

    (case l24 => k_is)

    (case e24 => k_is)

    (case k24 => k_is)

    (case a25 => k_is)

    (case l25 => k_is)

    (case e25 => k_is)

    (case k25 => k_is)

    (case a26 => k_is)

    (case l26 => k_is)

    (case e26 => k_is)

    (case k26 => k_is)

    (case z_len => k_is)

    (case z_tuple => k_is)

    (case z_range => k_is)

    (case z_str => k_is)

    (case z_int => k_is)

    (case z_isinstance => k_is)

    (case z_bool => k_is)

    (case z_all => k_is)

    (case z_ValueError => k_is)

    (case y_LETTERS => k_is)

    (case w_LETTERS => first | rfl | exact ⟨_, rfl⟩)

    (case y_FIGURES => k_is)

    (case w_FIGURES => first | rfl | exact ⟨_, rfl⟩)

    (case y_MOST_FIGURES => k_is)

    (case w_MOST_FIGURES => first | rfl | exact ⟨_, rfl⟩)

    (case y_MOST_NESTS => k_is)

    (case w_MOST_NESTS => first | rfl | exact ⟨_, rfl⟩)

    (case y_MOST_ROOM => k_is)

    (case w_MOST_ROOM => first | rfl | exact ⟨_, rfl⟩)

    (case y_PRIME => k_is)

    (case w_PRIME => first | rfl | exact ⟨_, rfl⟩)

    (case y_MOST_KEYS => k_is)

    (case w_MOST_KEYS => first | rfl | exact ⟨_, rfl⟩)

    (case n_NestError => k_is)

    (case n_NoRule => k_is)

    (case n_NoPush => k_is)

    (case n_NoPairs => k_is)

    (case n_NoFit => k_is)

    (case n_Twice => k_is)

    (case n_Full => k_is)

    (case n_NoKey => k_is)

    (case n_NoText => k_is)

    (case n_NoRow => k_is)

    (case bx_NestError => k_is)

    (case hd_NestError => k_is)

    (case ty_NestError => k_is)

    (case bx_NoRule => k_is)

    (case hd_NoRule => k_is)

    (case ty_NoRule => k_is)

    (case bx_NoPush => k_is)

    (case hd_NoPush => k_is)

    (case ty_NoPush => k_is)

    (case bx_NoPairs => k_is)

    (case hd_NoPairs => k_is)

    (case ty_NoPairs => k_is)

    (case bx_NoFit => k_is)

    (case hd_NoFit => k_is)

    (case ty_NoFit => k_is)

    (case bx_Twice => k_is)

    (case hd_Twice => k_is)

    (case ty_Twice => k_is)

    (case bx_Full => k_is)

    (case hd_Full => k_is)

    (case ty_Full => k_is)

    (case bx_NoKey => k_is)

    (case hd_NoKey => k_is)

    (case ty_NoKey => k_is)

    (case bx_NoText => k_is)

    (case hd_NoText => k_is)

    (case ty_NoText => k_is)

    (case bx_NoRow => k_is)

    (case hd_NoRow => k_is)

    (case ty_NoRow => k_is)

    (case ke_NoText => k_is)

    (case s_NoText_NestError => k_is)

    (case d_NoText_NestError => rfl)

    (case s_NoText_NoRule => k_is)

    (case d_NoText_NoRule => rfl)

    (case s_NoText_NoPush => k_is)

    (case d_NoText_NoPush => rfl)

    (case s_NoText_NoPairs => k_is)

    (case d_NoText_NoPairs => rfl)

    (case s_NoText_NoFit => k_is)

    (case d_NoText_NoFit => rfl)

    (case s_NoText_Twice => k_is)

    (case d_NoText_Twice => rfl)

    (case s_NoText_Full => k_is)

    (case d_NoText_Full => rfl)

    (case s_NoText_NoKey => k_is)

    (case d_NoText_NoKey => rfl)

    (case s_NoText_NoText => k_is)

    (case s_NoText_NoRow => k_is)

    (case d_NoText_NoRow => rfl)

    (case v_NoText => k_is)

    (case ga_NoText => k_is)

    (case gg_NoText => k_is)

    (case gc_NoText => k_is)

    (case mo_NoText => k_is)

    (case xi_NoText => k_exc)

    (case og => k_is)

    (case ot => k_is)
