import PyProof.Rows.All
import Wide.All
import OpenK.AllK
import Wide.FinOn
import HandS.ForMost
import HandS.ForSpec
import HandS.Flow
import HandS.IsInst
import HandS.Style
import HandS.Deep
import HandS.Conv
import HandS.Dict
import HandS.DictTup
import HandS.Flt
import HandS.List
import HandS.More
import HandS.RevRange
import HandS.SetFor
import HandS.SortKw
import HandS.Strs
import HandS.TupLen
import HandS.Zip
import KE.GoesRev
import KE.KDictCopyH
import KE.SortData
import KE.SortKeyHeap
import PyProof.ListRange
import PyProof.Rows.TupDisplay
import PyProof.SeqRoads2
import PySem.Challenge.RW_forsworn_k05_cheapest_of_many
set_option Elab.async false
set_option linter.all false
set_option maxRecDepth 100000
set_option maxHeartbeats 4000000
namespace VS
open PySem PySem.Spec PyProof.Rows L2

abbrev D := PyData
abbrev Path := List Nat
inductive S where
  | d (d : D)
  | ol (ds : List D)
  | odK (kvs : List (Key × D))
  | odT (kvs : List (List Key × D))
  | ob (c : Nat) (fs : List (Str × S))
  | scr (ns : List Int)
  | os (ss : List S)
  | ot (ss : List S)
  | b (d : D)
  | bl (ds : List D)
abbrev LS := List (Option S)
inductive R (α : Type) where
  | ok (a : α) (L : LS)
  | err (c : Nat) (L : LS)
  | stuck
def R.bind {α β : Type} (r : R α) (k : α → LS → R β) : R β :=
  match r with
  | .ok a L => k a L
  | .err c L => .err c L
  | .stuck => .stuck
theorem R.bind_ok {α β : Type} (a : α) (L : LS) (k : α → LS → R β) : (R.ok a L).bind k = k a L := rfl
mutual
inductive Dq (K : PySem.W.Frag) (F : Hp) : V → D → Prop
  | non : Dq K F .non .none
  | bl (b : Bool) : Dq K F (.bl b) (.bool b)
  | int (i : Int) : Dq K F (.int i) (.int i)
  | str (x : Str) : Dq K F (.str x) (.str x)
  | lst {a : Addr} {xs : List V} {ds : List D} : F a = some (.lst xs) → DqA K F xs ds → Dq K F (.ref a) (.list ds)
  | tup {a : Addr} {xs : List V} {ds : List D} : F a = some (.tup xs) → DqA K F xs ds → Dq K F (.ref a) (.tuple ds)
inductive DqA (K : PySem.W.Frag) (F : Hp) : List V → List D → Prop
  | nil : DqA K F [] []
  | cons {v : V} {vs : List V} {d : D} {ds : List D} : Dq K F v d → DqA K F vs ds → DqA K F (v :: vs) (d :: ds)
end
section
variable {K : PySem.W.Frag} {F F' H H' : Hp}
theorem sqt_same {a : Addr} {xs : List V} (e : Same H H') (h : H a = some (.tup xs)) : SqT K H' a xs := .of (e _ _ h)
theorem sql_same {a : Addr} {xs : List V} (e : Same H H') (h : SqL K H a xs) : SqL K H' a xs := e.seq h
mutual
theorem Dq.mono (e : Same F F') : ∀ (d : D) (v : V), Dq K F v d → Dq K F' v d
  | .none, _, h => by cases h; exact .non
  | .bool _, _, h => by cases h; exact .bl _
  | .int _, _, h => by cases h; exact .int _
  | .str _, _, h => by cases h; exact .str _
  | .list ds, _, h => by
    cases h with
    | lst a b => exact .lst (e _ _ a) (DqA.mono e ds _ b)
  | .tuple ds, _, h => by
    cases h with
    | tup a b => exact .tup (e _ _ a) (DqA.mono e ds _ b)
  | .dict _, _, h => by cases h
theorem DqA.mono (e : Same F F') : ∀ (ds : List D) (vs : List V), DqA K F vs ds → DqA K F' vs ds
  | [], _, h => by cases h; exact .nil
  | d :: ds, _, h => by
    cases h with
    | cons a b => exact .cons (Dq.mono e d _ a) (DqA.mono e ds _ b)
end
mutual
theorem Dq.dp : ∀ (d : D) (v : V), Dq K F v d → Dp K F v d
  | .none, _, h => by cases h; exact .non
  | .bool _, _, h => by cases h; exact .bl _
  | .int _, _, h => by cases h; exact .int _
  | .str _, _, h => by cases h; exact .str _
  | .list ds, _, h => by
    cases h with
    | lst a b => exact .lst (.inl (.inl a)) (DqA.dp ds _ b)
  | .tuple ds, _, h => by
    cases h with
    | tup a b => exact .tup (.of a) (DqA.dp ds _ b)
  | .dict _, _, h => by cases h
theorem DqA.dp : ∀ (ds : List D) (vs : List V), DqA K F vs ds → DpAll K F vs ds
  | [], _, h => by cases h; exact .nil
  | d :: ds, _, h => by
    cases h with
    | cons a b => exact .cons (Dq.dp d _ a) (DqA.dp ds _ b)
end
theorem Dq.up {v : V} {d : D} (e : Same F F') (h : Dq K F v d) : Dq K F' v d := Dq.mono e d v h
theorem DqA.up {v : List V} {d : List D} (e : Same F F') (h : DqA K F v d) : DqA K F' v d := DqA.mono e d v h
theorem DqA.len : ∀ {vs : List V} {ds : List D}, DqA K F vs ds → vs.length = ds.length
  | _, _, .nil => rfl
  | _, _, .cons _ t => by rw [List.length_cons, List.length_cons, t.len]
theorem DqA.append : ∀ {xs ys : List V} {ds es : List D}, DqA K F xs ds → DqA K F ys es → DqA K F (xs ++ ys) (ds ++ es)
  | _, _, _, _, .nil, s => s
  | _, _, _, _, .cons r t, s => .cons r (t.append s)
theorem DqA.one {v : V} {d : D} (h : Dq K F v d) : DqA K F [v] [d] := .cons h .nil
theorem DqA.get : ∀ {vs : List V} {ds : List D} {i : Nat} {d : D}, DqA K F vs ds → ds[i]? = some d → ∃ v, vs[i]? = some v ∧ Dq K F v d
  | _, _, _, _, .nil, e => by simp at e
  | _, _, 0, _, .cons r _, e => by simp at e; subst e; exact ⟨_, rfl, r⟩
  | _, _, i + 1, d, .cons _ t, e => by
    obtain ⟨u, h1, h2⟩ := DqA.get (i := i) (d := d) t (by simpa using e)
    exact ⟨u, by simpa using h1, h2⟩
theorem DqA.set {v : V} {d : D} (r : Dq K F v d) : ∀ {vs : List V} {ds : List D} (i : Nat), DqA K F vs ds → DqA K F (vs.set i v) (ds.set i d)
  | _, _, _, .nil => .nil
  | _, _, 0, .cons _ t => .cons r t
  | _, _, i + 1, .cons q t => .cons q (DqA.set r i t)
theorem DqA.take : ∀ {vs : List V} {ds : List D} (n : Nat), DqA K F vs ds → DqA K F (vs.take n) (ds.take n)
  | _, _, 0, _ => .nil
  | _, _, _ + 1, .nil => .nil
  | _, _, n + 1, .cons r t => .cons r (DqA.take n t)
theorem DqA.drop : ∀ {vs : List V} {ds : List D} (n : Nat), DqA K F vs ds → DqA K F (vs.drop n) (ds.drop n)
  | _, _, 0, r => r
  | _, _, _ + 1, .nil => .nil
  | _, _, n + 1, .cons _ t => DqA.drop n t
theorem DqA.erase : ∀ {vs : List V} {ds : List D} (n : Nat), DqA K F vs ds → DqA K F (vs.eraseIdx n) (ds.eraseIdx n)
  | _, _, _, .nil => .nil
  | _, _, 0, .cons _ t => t
  | _, _, n + 1, .cons r t => .cons r (DqA.erase n t)
theorem DqA.replicate {v : V} {d : D} (r : Dq K F v d) : ∀ n : Nat, DqA K F (List.replicate n v) (List.replicate n d)
  | 0 => .nil
  | n + 1 => .cons r (DqA.replicate r n)
theorem DqA.ints : ∀ ns : List Int, DqA K F (ns.map V.int) (ns.map PyData.int)
  | [] => .nil
  | n :: ns => .cons (.int n) (DqA.ints ns)
def DqK {κ : Type} (K : PySem.W.Frag) (F : Hp) : List (κ × V) → List (κ × D) → Prop := Paired fun p q => p.1 = q.1 ∧ Dq K F p.2 q.2
theorem DqK.up {κ : Type} {l : List (κ × V)} {m : List (κ × D)} (e : Same F F') (h : DqK K F l m) : DqK K F' l m := Paired.mapP h fun _ _ z => ⟨z.1, z.2.up e⟩
end

mutual
inductive RS (K : PySem.W.Frag) (ca : Nat → Addr) (F H : Hp) (ow : Addr → Option Path) : Path → S → V → Prop
  | d {p : Path} {d : D} {v : V} : Dq K F v d → RS K ca F H ow p (.d d) v
  | ol {p : Path} {l : Addr} {vs : List V} {ds : List D} : H l = some (.lst vs) → ow l = some p → DqA K F vs ds → RS K ca F H ow p (.ol ds) (.ref l)
  | odK {p : Path} {l : Addr} {vs : List (Key × V)} {ds : List (Key × D)} : H l = some (.dK vs) → ow l = some p → DqK K F vs ds → RS K ca F H ow p (.odK ds) (.ref l)
  | odT {p : Path} {l : Addr} {vs : List (List Key × V)} {ds : List (List Key × D)} : H l = some (.dT vs) → ow l = some p → DqK K F vs ds → RS K ca F H ow p (.odT ds) (.ref l)
  | ob {p : Path} {a dx : Addr} {c : Nat} {vs : List (Str × V)} {fs : List (Str × S)} : H a = some (.ins (ca c) dx vs) → ow a = some p → RF K ca F H ow p 0 fs vs → RS K ca F H ow p (.ob c fs) (.ref a)
  | scr {p : Path} {a : Addr} {ns : List Int} : SqL K F a (ns.map V.int) → RS K ca F H ow p (.scr ns) (.ref a)
  | os {p : Path} {l : Addr} {vs : List V} {ss : List S} : H l = some (.lst vs) → ow l = some p → RI K ca F H ow p 0 ss vs → RS K ca F H ow p (.os ss) (.ref l)
  | ot {p : Path} {l : Addr} {vs : List V} {ss : List S} : F l = some (.tup vs) → RI K ca F H ow p 0 ss vs → RS K ca F H ow p (.ot ss) (.ref l)
inductive RI (K : PySem.W.Frag) (ca : Nat → Addr) (F H : Hp) (ow : Addr → Option Path) : Path → Nat → List S → List V → Prop
  | nil {p : Path} {i : Nat} : RI K ca F H ow p i [] []
  | cons {p : Path} {i : Nat} {s : S} {v : V} {ss : List S} {vs : List V} : RS K ca F H ow (p ++ [i]) s v → RI K ca F H ow p (i + 1) ss vs → RI K ca F H ow p i (s :: ss) (v :: vs)
inductive RF (K : PySem.W.Frag) (ca : Nat → Addr) (F H : Hp) (ow : Addr → Option Path) : Path → Nat → List (Str × S) → List (Str × V) → Prop
  | nil {p : Path} {i : Nat} : RF K ca F H ow p i [] []
  | cons {p : Path} {i : Nat} {x : Str} {s : S} {v : V} {fs : List (Str × S)} {vs : List (Str × V)} : RS K ca F H ow (p ++ [i]) s v → RF K ca F H ow p (i + 1) fs vs → RF K ca F H ow p i ((x, s) :: fs) ((x, v) :: vs)
end
section
variable {K : PySem.W.Frag} {ca : Nat → Addr} {F F' H H' : Hp} {ow ow' : Addr → Option Path}
def Keeps (H H' : Hp) (ow ow' : Addr → Option Path) (p p' : Path) : Prop := ∀ a q, ow a = some (p ++ q) → H' a = H a ∧ ow' a = some (p' ++ q)
theorem Keeps.sub {p p' : Path} (k : Keeps H H' ow ow' p p') (r : Path) : Keeps H H' ow ow' (p ++ r) (p' ++ r) := fun a q h => by
  rw [List.append_assoc] at h ⊢
  exact k a _ h
mutual
theorem RS.move (e : Same F F') : ∀ (s : S) (p p' : Path) (v : V), Keeps H H' ow ow' p p' → RS K ca F H ow p s v → RS K ca F' H' ow' p' s v
  | .d _, p, p', v, k, h => by
    cases h with
    | d a => exact .d (a.up e)
  | .ol _, p, p', v, k, h => by
    cases h with
    | ol a b c =>
      obtain ⟨x, y⟩ := k _ [] (by rw [List.append_nil]; exact b)
      rw [List.append_nil] at y
      exact .ol (x.trans a) y (c.up e)
  | .odK _, p, p', v, k, h => by
    cases h with
    | odK a b c =>
      obtain ⟨x, y⟩ := k _ [] (by rw [List.append_nil]; exact b)
      rw [List.append_nil] at y
      exact .odK (x.trans a) y (c.up e)
  | .odT _, p, p', v, k, h => by
    cases h with
    | odT a b c =>
      obtain ⟨x, y⟩ := k _ [] (by rw [List.append_nil]; exact b)
      rw [List.append_nil] at y
      exact .odT (x.trans a) y (c.up e)
  | .ob _ fs, p, p', v, k, h => by
    cases h with
    | ob a b c =>
      obtain ⟨x, y⟩ := k _ [] (by rw [List.append_nil]; exact b)
      rw [List.append_nil] at y
      exact .ob (x.trans a) y (RF.move e fs _ _ _ _ k c)
  | .scr _, p, p', v, k, h => by
    cases h with
    | scr a => exact .scr (sql_same e a)
  | .os ss, p, p', v, k, h => by
    cases h with
    | os a b c =>
      obtain ⟨x, y⟩ := k _ [] (by rw [List.append_nil]; exact b)
      rw [List.append_nil] at y
      exact .os (x.trans a) y (RI.move e ss _ _ _ _ k c)
  | .ot ss, p, p', v, k, h => by
    cases h with
    | ot a c => exact .ot (e _ _ a) (RI.move e ss _ _ _ _ k c)
  | .b _, p, p', v, k, h => by cases h
  | .bl _, p, p', v, k, h => by cases h
theorem RI.move (e : Same F F') : ∀ (ss : List S) (p p' : Path) (i : Nat) (vs : List V), Keeps H H' ow ow' p p' → RI K ca F H ow p i ss vs → RI K ca F' H' ow' p' i ss vs
  | [], p, p', i, vs, k, h => by cases h; exact .nil
  | s :: ss, p, p', i, vs, k, h => by
    cases h with
    | cons a b => exact .cons (RS.move e s _ _ _ (k.sub [i]) a) (RI.move e ss _ _ _ _ k b)
theorem RF.move (e : Same F F') : ∀ (fs : List (Str × S)) (p p' : Path) (i : Nat) (vs : List (Str × V)), Keeps H H' ow ow' p p' → RF K ca F H ow p i fs vs → RF K ca F' H' ow' p' i fs vs
  | [], p, p', i, vs, k, h => by cases h; exact .nil
  | (x, s) :: fs, p, p', i, vs, k, h => by
    cases h with
    | cons a b => exact .cons (RS.move e s _ _ _ (k.sub [i]) a) (RF.move e fs _ _ _ _ k b)
end
theorem RS.go {s : S} {p p' : Path} {v : V} (h : RS K ca F H ow p s v) (e : Same F F') (k : Keeps H H' ow ow' p p') : RS K ca F' H' ow' p' s v := RS.move e s p p' v k h

def BF (B F : Hp) : Hp := fun a => match B a with
  | some o => some o
  | none => F a
theorem BF.up {B : Hp} (e : Same F F') : Same (BF B F) (BF B F') := fun a o h => by
  unfold BF at h ⊢
  cases z : B a with
  | some u => rw [z] at h; exact h
  | none => rw [z] at h; exact e a o h
theorem BF.inH {B : Hp} (eF : Same F H) (eB : Same B H) : Same (BF B F) H := fun a o h => by
  unfold BF at h
  cases z : B a with
  | some u => rw [z] at h; rw [← Option.some.inj h]; exact eB a u z
  | none => rw [z] at h; exact eF a o h
@[reducible] def RT (K : PySem.W.Frag) (ca : Nat → Addr) (B F H : Hp) (ow : Addr → Option Path) (p : Path) (s : S) (v : V) : Prop := match s with
  | .b d => Dq K (BF B F) v d
  | .bl ds => ∃ l vs, v = .ref l ∧ BF B F l = some (.lst vs) ∧ DqA K F vs ds
  | s => RS K ca F H ow p s v
theorem RT.go {B : Hp} {s : S} {p p' : Path} {v : V} (h : RT K ca B F H ow p s v) (e : Same F F') (k : Keeps H H' ow ow' p p') : RT K ca B F' H' ow' p' s v := by
  cases s with
  | b d => exact Dq.up (BF.up e) h
  | bl ds =>
    obtain ⟨l, vs, h1, h2, h3⟩ := h
    exact ⟨l, vs, h1, BF.up e l _ h2, h3.up e⟩
  | d d => exact RS.go h e k
  | ol d => exact RS.go h e k
  | odK d => exact RS.go h e k
  | odT d => exact RS.go h e k
  | ob c d => exact RS.go h e k
  | scr d => exact RS.go h e k
  | os d => exact RS.go h e k
  | ot d => exact RS.go h e k
theorem RT.of {B : Hp} {s : S} {p : Path} {v : V} (h : RS K ca F H ow p s v) : RT K ca B F H ow p s v := by
  cases h with
  | d a => exact .d a
  | ol a b c => exact .ol a b c
  | odK a b c => exact .odK a b c
  | odT a b c => exact .odT a b c
  | ob a b c => exact .ob a b c
  | scr a => exact .scr a
  | os a b c => exact .os a b c
  | ot a c => exact .ot a c
def S.own : S → Bool
  | .b _ => false
  | .bl _ => false
  | _ => true
theorem RT.rs {B : Hp} {s : S} {p : Path} {v : V} (h : RT K ca B F H ow p s v) (hs : s.own = true) : RS K ca F H ow p s v := by
  cases s with
  | b d => cases hs
  | bl d => cases hs
  | d d => exact h
  | ol d => exact h
  | odK d => exact h
  | odT d => exact h
  | ob c d => exact h
  | scr d => exact h
  | os d => exact h
  | ot d => exact h
def kT (o : HO) : Prop := ∃ k : List Key, o = .tup (k.map kV)
def NT (x : Option HO) : Prop := x ≠ none ∧ ∀ o, x = some o → ¬ kT o
theorem NT.of {o : HO} (h : ¬ kT o) : NT (some o) := ⟨fun z => (by cases z), fun u e => by cases e; exact h⟩
theorem kT_lst {vs : List V} : ¬ kT (.lst vs) := fun ⟨_, h⟩ => by cases h
theorem kT_dK {vs : List (Key × V)} : ¬ kT (.dK vs) := fun ⟨_, h⟩ => by cases h
theorem kT_dT {vs : List (List Key × V)} : ¬ kT (.dT vs) := fun ⟨_, h⟩ => by cases h
theorem kT_ins {a b : Addr} {vs : List (Str × V)} : ¬ kT (.ins a b vs) := fun ⟨_, h⟩ => by cases h
structure Rl (K : PySem.W.Frag) (ca : Nat → Addr) (B : Hp) (pn : List (Option V)) (G F : Hp) (ow : Addr → Option Path) (σ : L2.St) (H : Hp) (L : LS) : Prop where
  exF : Same F H
  exG : Same G H
  dF : ∀ a p, ow a = some p → F a = none ∧ G a = none ∧ NT (H a)
  dG : ∀ a o, F a = some o → G a = none ∨ kT o
  len : L.length = σ.length
  sl : ∀ (i : Nat) (s : S), L[i]? = some (some s) → ∃ v, σ[i]? = some (some v) ∧ RT K ca B F H ow [i + 1] s v
  pin : ∀ (i : Nat) (v : V), pn[i]? = some (some v) → σ[i]? = some (some v)
  exB : Same B H
  dB : ∀ a p, ow a = some p → B a = none
end
end VS

namespace VS
open PySem PySem.Spec PyProof.Rows L2

structure Ct where
  X : Cx
  W : WX
  ca : Nat → Addr
  pb : List Bool
  v0 : List V
  B : Hp
def pinOf : List Bool → List V → List (Option V)
  | b :: bs, v :: vs => (if b then some v else none) :: pinOf bs vs
  | _, _ => []
theorem pinOf_mk : ∀ {bs : List Bool} {vs : List V} {i : Nat} {v : V}, (pinOf bs vs)[i]? = some (some v) → bs[i]? = some true ∧ vs[i]? = some v
  | b :: bs, u :: vs, 0, v, h => by
    have h' : (if b then some u else none) = some v := Option.some.inj h
    cases b with
    | true => exact ⟨rfl, by rw [if_pos rfl] at h'; cases h'; rfl⟩
    | false => cases h'
  | b :: bs, u :: vs, i + 1, v, h => pinOf_mk (bs := bs) (vs := vs) (i := i) h
  | [], _, _, _, h => by cases h
  | _ :: _, [], _, _, h => by cases h
theorem pinOf_at : ∀ {bs : List Bool} {vs : List V} {i : Nat} {v : V}, bs[i]? = some true → vs[i]? = some v → (pinOf bs vs)[i]? = some (some v)
  | b :: bs, u :: vs, 0, v, h, h2 => by
    have e1 : b = true := Option.some.inj h
    have e2 : u = v := Option.some.inj h2
    subst e1 e2
    rfl
  | b :: bs, u :: vs, i + 1, v, h, h2 => pinOf_at (bs := bs) (vs := vs) (i := i) h h2
  | [], _, _, _, h, _ => by cases h
  | _ :: _, [], _, _, _, h => by cases h
abbrev Ct.Rl (c : Ct) (G F : Hp) (ow : Addr → Option Path) (σ : L2.St) (H : Hp) (L : LS) : Prop := VS.Rl c.X.K c.ca c.B (pinOf c.pb c.v0) G F ow σ H L

def Post (c : Ct) (G : Hp) (n : Bool) (F H : Hp) (σ : L2.St) {α β : Type} (r : R α) (B : Hp → Hp → (Addr → Option Path) → α → β → Prop) (t : (β → Hp → Prop) → Prop) : Prop :=
  match r with
  | .ok a L => ∀ Q : β → Hp → Prop, (∀ b H' F' ow', Same F F' → (n = true → Same H H') → c.Rl G F' ow' σ H' L → B F' H' ow' a b → Q b H') → t Q
  | .err e L => (∀ H' F' ow', Same F F' → c.Rl G F' ow' σ H' L → c.W (.ref (c.ca e)) none σ H') → ∀ Q : β → Hp → Prop, t Q
  | .stuck => True
section
variable {c : Ct} {G F H : Hp} {ow : Addr → Option Path} {σ : L2.St} {L : LS} {n n1 n2 : Bool} {α β γ δ : Type}
theorem and_of {a b : Bool} (h : (a && b) = true) : a = true ∧ b = true := by
  cases a <;> cases b <;> first | exact ⟨rfl, rfl⟩ | cases h
theorem Post.bind {r : R α} {k : α → LS → R γ} {B1 : Hp → Hp → (Addr → Option Path) → α → β → Prop} {B2 : Hp → Hp → (Addr → Option Path) → γ → δ → Prop} {t1 : (β → Hp → Prop) → Prop} {t2 : β → Hp → (δ → Hp → Prop) → Prop}
    (h1 : Post c G n1 F H σ r B1 t1)
    (h2 : ∀ a L1 b H1 F1 ow1, r = .ok a L1 → Same F F1 → (n1 = true → Same H H1) → c.Rl G F1 ow1 σ H1 L1 → B1 F1 H1 ow1 a b → Post c G n2 F1 H1 σ (k a L1) B2 (t2 b H1)) :
    Post c G (n1 && n2) F H σ (r.bind k) B2 (fun Q => t1 fun b H1 => t2 b H1 Q) := by
  cases r with
  | stuck => trivial
  | err e L1 => exact fun hw Q => h1 hw _
  | ok a L1 =>
    rw [R.bind_ok]
    cases hk : k a L1 with
    | stuck => trivial
    | ok z L2 =>
      intro Q hq
      refine h1 _ fun b H1 F1 ow1 e1 s1 R1 q1 => ?_
      have h := h2 a L1 b H1 F1 ow1 rfl e1 s1 R1 q1
      rw [hk] at h
      exact h Q fun b' H2 F2 ow2 e2 s2 R2 q2 => hq b' H2 F2 ow2 (e1.trans e2) (fun hn => (s1 (and_of hn).1).trans (s2 (and_of hn).2)) R2 q2
    | err e L2 =>
      intro hw Q
      refine h1 _ fun b H1 F1 ow1 e1 s1 R1 q1 => ?_
      have h := h2 a L1 b H1 F1 ow1 rfl e1 s1 R1 q1
      rw [hk] at h
      exact h (fun H2 F2 ow2 e2 R2 => hw H2 F2 ow2 (e1.trans e2) R2) Q
theorem Post.val {a : α} {b : β} {B : Hp → Hp → (Addr → Option Path) → α → β → Prop} (Rr : c.Rl G F ow σ H L) (h : B F H ow a b) : Post c G n F H σ (.ok a L) B (fun Q => Q b H) :=
  fun _ q => q b H F ow (Same.refl F) (fun _ => Same.refl H) Rr h
theorem Post.imp {r : R α} {B : Hp → Hp → (Addr → Option Path) → α → β → Prop} {t u : (β → Hp → Prop) → Prop} (h : Post c G n F H σ r B t) (k : ∀ Q, t Q → u Q) : Post c G n F H σ r B u := by
  cases r with
  | stuck => trivial
  | ok a L1 => exact fun Q q => k Q (h Q q)
  | err e L1 => exact fun hw Q => k Q (h hw Q)
theorem Post.low {r : R α} {B : Hp → Hp → (Addr → Option Path) → α → β → Prop} {t : (β → Hp → Prop) → Prop} (h : Post c G true F H σ r B t) : Post c G n F H σ r B t := by
  cases r with
  | stuck => trivial
  | ok a L1 => exact fun Q q => h Q fun b H1 F1 ow1 e1 s1 R1 q1 => q b H1 F1 ow1 e1 (fun _ => s1 rfl) R1 q1
  | err e L1 => exact h
end

def Jdg (c : Ct) (n : Bool) {α β : Type} (g : LS → R α) (B : PySem.W.Frag → Hp → Hp → (Addr → Option Path) → α → β → Prop) (t : L2.St → Hp → (β → Hp → Prop) → Prop) : Prop :=
  ∀ G F ow σ H L, c.Rl G F ow σ H L → Post c G n F H σ (g L) (B c.X.K) (t σ H)
def BD : PySem.W.Frag → Hp → Hp → (Addr → Option Path) → D → V → Prop := fun K F _ _ d v => Dq K F v d
def BA : PySem.W.Frag → Hp → Hp → (Addr → Option Path) → List D → List V → Prop := fun K F _ _ d v => DqA K F v d
def BE (ca : Nat → Addr) : PySem.W.Frag → Hp → Hp → (Addr → Option Path) → S → V → Prop := fun K F H ow s v => RS K ca F H ow [0] s v
def BB : PySem.W.Frag → Hp → Hp → (Addr → Option Path) → Bool → Bool → Prop := fun _ _ _ _ a b => b = a
def BV : PySem.W.Frag → Hp → Hp → (Addr → Option Path) → D → V → Prop := fun K F H _ d v => Dq K F v d ∨ ∃ l vs ds, v = .ref l ∧ d = .list ds ∧ SqL K H l vs ∧ DqA K F vs ds
def JD (c : Ct) (n : Bool) (e : Expr) (g : LS → R D) : Prop := ∃ t, PE c.X e t ∧ Jdg c n g BD t
def JE (c : Ct) (n : Bool) (e : Expr) (g : LS → R S) : Prop := ∃ t, PE c.X e t ∧ Jdg c n g (BE c.ca) t
def JV (c : Ct) (n : Bool) (e : Expr) (g : LS → R D) : Prop := ∃ t, PE c.X e t ∧ Jdg c n g BV t
def JT (c : Ct) (n : Bool) (e : Expr) (g : LS → R Bool) : Prop := ∃ t, PT c.X e t ∧ Jdg c n g BB t
def JW (c : Ct) (n : Bool) (e : Expr) (g : LS → R Bool) : Prop := ∃ t, PW c.X e t ∧ Jdg c n g BB t
def JA (c : Ct) (n : Bool) (es : List Expr) (g : LS → R (List D)) : Prop := ∃ t, PA c.X es t ∧ Jdg c n g BA t

section
variable {K : PySem.W.Frag} {ca : Nat → Addr} {bh : Hp} {pn : List (Option V)} {G F H : Hp} {ow : Addr → Option Path} {σ : L2.St} {L : LS}
def offAt (ow : Addr → Option Path) (l : Addr) : Addr → Option Path := fun a => if a = l then none else ow a
theorem offAt_same (ow : Addr → Option Path) (l : Addr) : offAt ow l l = none := if_pos rfl
theorem offAt_ne {ow : Addr → Option Path} {l a : Addr} (h : a ≠ l) : offAt ow l a = ow a := if_neg h
theorem upd_same_of {l : Addr} {o : HO} (h : F l = none) : Same F (upd F l o) := fun b u e => by
  rw [upd_ne (ne_of_none e h)]
  exact e
theorem set_get {α : Type} {l : List α} {i j : Nat} {a b : α} (h : (l.set i a)[j]? = some b) : (i = j ∧ a = b) ∨ (i ≠ j ∧ l[j]? = some b) := by
  by_cases e : i = j
  · subst e
    rw [List.getElem?_set] at h
    by_cases hl : i < l.length
    · simp [hl] at h
      exact .inl ⟨rfl, h⟩
    · simp [hl] at h
  · rw [List.getElem?_set_ne e] at h
    exact .inr ⟨e, h⟩
theorem keeps_off {l : Addr} {p : Path} (h : ∀ q, ow l ≠ some (p ++ q)) : Keeps H H ow (offAt ow l) p p := fun a q e => by
  have ha : a ≠ l := fun z => by
    subst z
    exact h q e
  exact ⟨rfl, by rw [offAt_ne ha]; exact e⟩
theorem Rl.frz {l : Addr} {vs : List V} {p : Path} {L' : LS} (r : Rl K ca bh pn G F ow σ H L) (hl : H l = some (.lst vs)) (ho : ow l = some p) (hlen : L'.length = L.length)
    (hs : ∀ (j : Nat) (s : S), L'[j]? = some (some s) → (L[j]? = some (some s) ∧ ∀ q, p ≠ (j + 1) :: q) ∨ ∃ v, σ[j]? = some (some v) ∧ RS K ca (upd F l (.lst vs)) H (offAt ow l) [j + 1] s v) :
    Same F (upd F l (.lst vs)) ∧ Rl K ca bh pn G (upd F l (.lst vs)) (offAt ow l) σ H L' := by
  obtain ⟨f0, g0, h0⟩ := r.dF l p ho
  have e : Same F (upd F l (.lst vs)) := upd_same_of f0
  refine ⟨e, fun a o h => ?_, r.exG, fun a q h => ?_, fun a o h => ?_, hlen.trans r.len, fun j s h => ?_, r.pin, r.exB, fun a q h => ?_⟩
  · by_cases z : a = l
    · subst z
      rw [upd_same] at h
      cases h
      exact hl
    · rw [upd_ne z] at h
      exact r.exF a o h
  · by_cases z : a = l
    · subst z
      rw [offAt_same] at h
      cases h
    · rw [offAt_ne z] at h
      obtain ⟨x, y, w⟩ := r.dF a q h
      exact ⟨by rw [upd_ne z]; exact x, y, w⟩
  · by_cases z : a = l
    · subst z
      exact .inl g0
    · rw [upd_ne z] at h
      exact r.dG a o h
  · rcases hs j s h with ⟨h1, h2⟩ | h1
    · obtain ⟨v, q1, q2⟩ := r.sl j s h1
      exact ⟨v, q1, q2.go e (keeps_off fun q z => h2 q (by rw [ho] at z; exact Option.some.inj z))⟩
    · obtain ⟨v, q1, q2⟩ := h1
      exact ⟨v, q1, RT.of q2⟩
  · by_cases z : a = l
    · subst z
      rw [offAt_same] at h
      cases h
    · rw [offAt_ne z] at h
      exact r.dB a q h
def reroot (ow : Addr → Option Path) (i j : Nat) : Addr → Option Path := fun a => match ow a with
  | some (r :: q) => if r = i then some (j :: q) else some (r :: q)
  | x => x
theorem reroot_at {i j : Nat} {a : Addr} {q : Path} (h : ow a = some (i :: q)) : reroot ow i j a = some (j :: q) := by
  unfold reroot
  rw [h]
  exact if_pos rfl
theorem reroot_ne {i j r : Nat} {a : Addr} {q : Path} (h : ow a = some (r :: q)) (hr : r ≠ i) : reroot ow i j a = some (r :: q) := by
  unfold reroot
  rw [h]
  exact if_neg hr
theorem reroot_some {i j : Nat} {a : Addr} {p : Path} (h : reroot ow i j a = some p) : ∃ q, ow a = some q := by
  unfold reroot at h
  split at h
  · exact ⟨_, by assumption⟩
  · exact ⟨p, h⟩
theorem Rl.moved {i j : Nat} {σ' : L2.St} {L' : LS} (r : Rl K ca bh pn G F ow σ H L) (hlen : L'.length = σ'.length)
    (hs : ∀ (k : Nat) (s : S), L'[k]? = some (some s) → (L[k]? = some (some s) ∧ σ'[k]? = σ[k]? ∧ k + 1 ≠ i) ∨ ∃ v, σ'[k]? = some (some v) ∧ RS K ca F H (reroot ow i j) [k + 1] s v)
    (hp : ∀ (k : Nat) (v : V), pn[k]? = some (some v) → σ'[k]? = some (some v)) : Rl K ca bh pn G F (reroot ow i j) σ' H L' := by
  refine ⟨r.exF, r.exG, fun a q h => ?_, r.dG, hlen, fun k s h => ?_, hp, r.exB, fun a q h => ?_⟩
  · obtain ⟨q', h'⟩ := reroot_some h
    exact r.dF a q' h'
  · rcases hs k s h with ⟨h1, h2, h3⟩ | h1
    · obtain ⟨v, q1, q2⟩ := r.sl k s h1
      refine ⟨v, h2.trans q1, q2.go (Same.refl F) fun a q e => ⟨rfl, ?_⟩⟩
      exact reroot_ne (q := q) e h3
    · obtain ⟨v, q1, q2⟩ := h1
      exact ⟨v, q1, RT.of q2⟩
  · obtain ⟨q', h'⟩ := reroot_some h
    exact r.dB a q' h'
theorem keeps_reroot {i j : Nat} : Keeps H H ow (reroot ow i j) [i] [j] := fun _ _ e => ⟨rfl, reroot_at e⟩
end
end VS

namespace VS
open PySem PySem.Spec PyProof.Rows L2

section
variable {c : Ct} {n n1 n2 n3 : Bool}

def gC (d : D) : LS → R D := fun L => .ok d L
theorem jd_c {e : Expr} {v : V} {d : D} (h : PE c.X e (tC v)) (hd : ∀ K F, Dq K F v d) : JD c true e (gC d) := ⟨_, h, fun G F ow σ H L Rr => Post.val Rr (hd _ _)⟩
theorem jd_int {i j pos} : JD c true (.Constant (.int i) j pos) (gC (.int i)) := jd_c pe_int fun _ _ => .int _
theorem jd_bl {b j pos} : JD c true (.Constant (.bool b) j pos) (gC (.bool b)) := jd_c pe_bl fun _ _ => .bl _
theorem jd_non {j pos} : JD c true (.Constant .none j pos) (gC .none) := jd_c pe_non fun _ _ => .non
def gVar (i : Nat) : LS → R D := fun L => match L[i]? with
  | some (some (.d d)) => .ok d L
  | some (some (.ol ds)) => .ok (.list ds) (L.set i (some (.d (.list ds))))
  | _ => .stuck
theorem jd_var (i : Nat) {x : Str} {pos : Pos} (h : PE c.X (.Name x pos) (tVar i)) : JD c true (.Name x pos) (gVar i) := by
  refine ⟨_, h, fun G F ow σ H L Rr => ?_⟩
  unfold gVar
  cases hL : L[i]? with
  | none => trivial
  | some o =>
    cases o with
    | none => trivial
    | some s =>
      obtain ⟨v, hv, rs⟩ := Rr.sl i s hL
      cases s with
      | d d =>
        cases rs with
        | d q => exact (Post.val (b := v) Rr q).imp fun Q q => ⟨v, hv, q⟩
      | ol ds =>
        cases rs with
        | ol a b q =>
          have hlt : i < L.length := (List.getElem?_eq_some_iff.mp hL).1
          obtain ⟨e, r'⟩ := Rr.frz (L' := L.set i (some (.d (.list ds)))) a b (List.length_set ..) (fun j s' h' => by
            rcases set_get h' with ⟨rfl, hs⟩ | ⟨hj, hs⟩
            · cases Option.some.inj hs
              exact .inr ⟨_, hv, .d (.lst upd_same (q.up (upd_same_of (Rr.dF _ _ b).1)))⟩
            · exact .inl ⟨hs, fun q z => hj (by injection z with z _; omega)⟩)
          refine Post.imp (t := fun Q => Q _ H) ?_ fun Q q => ⟨_, hv, q⟩
          intro Q q'
          exact q' _ H _ _ e (fun _ => Same.refl H) r' (.lst upd_same (q.up e))
      | _ => trivial
def gMove (i : Nat) : LS → R S := fun L => match L[i]? with
  | some (some (.d d)) => .ok (.d d) L
  | some (some (.scr _)) => .stuck
  | some (some (.b _)) => .stuck
  | some (some (.bl _)) => .stuck
  | some (some s) => .ok s (L.set i none)
  | _ => .stuck
theorem je_move (i : Nat) {x : Str} {pos : Pos} (h : PE c.X (.Name x pos) (tVar i)) : JE c true (.Name x pos) (gMove i) := by
  refine ⟨_, h, fun G F ow σ H L Rr => ?_⟩
  unfold gMove
  cases hL : L[i]? with
  | none => trivial
  | some o =>
    cases o with
    | none => trivial
    | some s =>
      obtain ⟨v, hv, rs⟩ := Rr.sl i s hL
      have own : ∀ s, RS c.X.K c.ca F H ow [i + 1] s v → Post c G true F H σ (.ok s (L.set i none)) (BE c.ca c.X.K) (tVar i σ H) := fun s rs => by
        refine Post.imp (t := fun Q => Q v H) ?_ fun Q q => ⟨_, hv, q⟩
        intro Q q'
        refine q' v H F (reroot ow (i + 1) 0) (Same.refl F) (fun _ => Same.refl H) (Rr.moved ((List.length_set ..).trans Rr.len) (fun k s' h' => ?_) Rr.pin) (rs.go (Same.refl F) keeps_reroot)
        rcases set_get h' with ⟨rfl, hs⟩ | ⟨hj, hs⟩
        · cases hs
        · exact .inl ⟨hs, rfl, by omega⟩
      cases s with
      | d d => exact (Post.val (b := v) (B := BE c.ca c.X.K) Rr (by cases rs with | d q => exact .d q)).imp fun Q q => ⟨v, hv, q⟩
      | scr ns => trivial
      | b d => trivial
      | bl d => trivial
      | os ss => exact own _ rs
      | ot ss => exact own _ rs
      | ol ds => exact own _ rs
      | odK ds => exact own _ rs
      | odT ds => exact own _ rs
      | ob k fs => exact own _ rs
def gPeek (i : Nat) : LS → R D := fun L => match L[i]? with
  | some (some (.d d)) => .ok d L
  | some (some (.ol ds)) => .ok (.list ds) L
  | some (some (.scr ns)) => .ok (.list (ns.map PyData.int)) L
  | some (some (.bl ds)) => .ok (.list ds) L
  | _ => .stuck
theorem peek_bv {K : PySem.W.Frag} {ca : Nat → Addr} {B F H : Hp} {ow : Addr → Option Path} {p : Path} {s : S} {v : V} (e : Same F H) (eB : Same B H) (rs : RT K ca B F H ow p s v) :
    match s with
    | .d d => BV K F H ow d v
    | .ol ds => BV K F H ow (.list ds) v
    | .scr ns => BV K F H ow (.list (ns.map PyData.int)) v
    | .bl ds => BV K F H ow (.list ds) v
    | _ => True := by
  cases s with
  | d d => cases rs with | d q => exact .inl q
  | ol ds => cases rs with | ol a b q => exact .inr ⟨_, _, _, rfl, rfl, .of a, q⟩
  | scr ns => cases rs with | scr a => exact .inr ⟨_, _, _, rfl, rfl, sql_same e a, DqA.ints _⟩
  | bl ds =>
    obtain ⟨l, vs, h1, h2, h3⟩ := rs
    exact .inr ⟨l, vs, ds, h1, rfl, .of (BF.inH e eB l _ h2), h3⟩
  | _ => trivial
theorem jv_var (i : Nat) {x : Str} {pos : Pos} (h : PE c.X (.Name x pos) (tVar i)) : JV c true (.Name x pos) (gPeek i) := by
  refine ⟨_, h, fun G F ow σ H L Rr => ?_⟩
  unfold gPeek
  cases hL : L[i]? with
  | none => trivial
  | some o =>
    cases o with
    | none => trivial
    | some s =>
      obtain ⟨v, hv, rs⟩ := Rr.sl i s hL
      have hb := peek_bv Rr.exF Rr.exB rs
      cases s with
      | d d => exact (Post.val (b := v) Rr hb).imp fun Q q => ⟨v, hv, q⟩
      | scr ns => exact (Post.val (b := v) Rr hb).imp fun Q q => ⟨v, hv, q⟩
      | ol ds => exact (Post.val (b := v) Rr hb).imp fun Q q => ⟨v, hv, q⟩
      | bl ds => exact (Post.val (b := v) Rr hb).imp fun Q q => ⟨v, hv, q⟩
      | _ => trivial

def gD (g : LS → R D) : LS → R S := fun L => (g L).bind fun d L1 => .ok (.d d) L1
theorem je_d {e : Expr} {g : LS → R D} (h : JD c n e g) : JE c n e (gD g) := by
  obtain ⟨t, ht, hg⟩ := h
  refine ⟨t, ht, fun G F ow σ H L Rr => ?_⟩
  have := (hg G F ow σ H L Rr).bind (n2 := true) (k := fun d L1 => .ok (.d d) L1) (B2 := BE c.ca c.X.K) (t2 := fun b H1 Q => Q b H1) fun a L1 b H1 F1 ow1 _ _ _ R1 q => Post.val (a := S.d a) (B := BE c.ca c.X.K) R1 (RS.d q)
  rw [Bool.and_true] at this
  exact this
theorem jv_d {e : Expr} {g : LS → R D} (h : JD c n e g) : JV c n e g := by
  obtain ⟨t, ht, hg⟩ := h
  refine ⟨t, ht, fun G F ow σ H L Rr => ?_⟩
  have p := hg G F ow σ H L Rr
  cases hr : g L with
  | stuck => trivial
  | err e L1 => rw [hr] at p; exact p
  | ok a L1 =>
    rw [hr] at p
    exact fun Q q => p Q fun b H' F' ow' e1 s1 R1 q1 => q b H' F' ow' e1 s1 R1 (.inl q1)
def frS : S → LS → R D
  | .d d, L => .ok d L
  | .ol ds, L => .ok (.list ds) L
  | _, _ => .stuck
def gFz (g : LS → R S) : LS → R D := fun L => (g L).bind frS
theorem post_fz {G F H : Hp} {ow : Addr → Option Path} {σ : L2.St} {L : LS} {s : S} {v : V} (Rr : c.Rl G F ow σ H L) (rs : RS c.X.K c.ca F H ow [0] s v) : Post c G true F H σ (frS s L) (BD c.X.K) (fun Q => Q v H) := by
  cases s with
  | d d => exact Post.val Rr (by cases rs with | d q => exact q)
  | ol ds =>
    cases rs with
    | ol a b q =>
      obtain ⟨e, r'⟩ := Rr.frz (L' := L) a b rfl (fun j s' h' => .inl ⟨h', fun q z => by injection z with z _; omega⟩)
      intro Q q'
      exact q' _ H _ _ e (fun _ => Same.refl H) r' (.lst upd_same (q.up e))
  | _ => trivial
theorem jd_fz {e : Expr} {g : LS → R S} (h : JE c n e g) : JD c n e (gFz g) := by
  obtain ⟨t, ht, hg⟩ := h
  refine ⟨t, ht, fun G F ow σ H L Rr => ?_⟩
  have := (hg G F ow σ H L Rr).bind (n2 := true) (k := frS) (B2 := BD c.X.K) (t2 := fun b H1 Q => Q b H1) fun a L1 b H1 F1 ow1 _ _ _ R1 q => post_fz R1 q
  rw [Bool.and_true] at this
  exact this

def onAt (ow : Addr → Option Path) (l : Addr) (p : Path) : Addr → Option Path := fun a => if a = l then some p else ow a
theorem onAt_same (ow : Addr → Option Path) (l : Addr) (p : Path) : onAt ow l p l = some p := if_pos rfl
theorem onAt_ne {ow : Addr → Option Path} {l a : Addr} {p : Path} (h : a ≠ l) : onAt ow l p a = ow a := if_neg h
theorem ne_fresh {H : Hp} {a l : Addr} (h : H a ≠ none) (hl : H l = none) : a ≠ l := fun z => by
  subst z
  exact h hl
section
variable {K : PySem.W.Frag} {ca : Nat → Addr} {bh : Hp} {pn : List (Option V)} {G F H : Hp} {ow : Addr → Option Path} {σ : L2.St} {L : LS}
theorem Rl.keepsNew (r : Rl K ca bh pn G F ow σ H L) {l : Addr} {o : HO} {p q : Path} (hl : H l = none) : Keeps H (upd H l o) ow (onAt ow l p) q q := fun a w h => by
  have ha : a ≠ l := ne_fresh (r.dF a _ h).2.2.1 hl
  exact ⟨upd_ne ha, by rw [onAt_ne ha]; exact h⟩
theorem Rl.new (r : Rl K ca bh pn G F ow σ H L) {l : Addr} {o : HO} {p : Path} (hl : H l = none) (ho : ¬ kT o := by first | exact kT_lst | exact kT_dK | exact kT_dT | exact kT_ins) : Same H (upd H l o) ∧ Rl K ca bh pn G F (onAt ow l p) σ (upd H l o) L := by
  have e : Same H (upd H l o) := upd_same_of hl
  have fN : F l = none := r.exF.free hl
  have gN : G l = none := r.exG.free hl
  refine ⟨e, r.exF.trans e, r.exG.trans e, fun a q h => ?_, r.dG, r.len, fun i s h => ?_, r.pin, r.exB.trans e, fun a q h => ?_⟩
  · by_cases z : a = l
    · subst z
      exact ⟨fN, gN, by rw [upd_same]; exact .of ho⟩
    · rw [onAt_ne z] at h
      obtain ⟨x, y, w⟩ := r.dF a q h
      exact ⟨x, y, by rw [upd_ne z]; exact w⟩
  · obtain ⟨v, q1, q2⟩ := r.sl i s h
    exact ⟨v, q1, q2.go (Same.refl F) (r.keepsNew hl)⟩
  · by_cases z : a = l
    · subst z
      exact r.exB.free hl
    · rw [onAt_ne z] at h
      exact r.dB a q h
theorem Rl.newF (r : Rl K ca bh pn G F ow σ H L) {l : Addr} {o : HO} (hl : H l = none) : Same F (upd F l o) ∧ Same H (upd H l o) ∧ Rl K ca bh pn G (upd F l o) ow σ (upd H l o) L := by
  have e : Same H (upd H l o) := upd_same_of hl
  have fN : F l = none := r.exF.free hl
  have gN : G l = none := r.exG.free hl
  refine ⟨upd_same_of fN, e, fun a u h => ?_, r.exG.trans e, fun a q h => ?_, fun a u h => ?_, r.len, fun i s h => ?_, r.pin, r.exB.trans e, r.dB⟩
  · by_cases z : a = l
    · subst z
      rw [upd_same] at h ⊢
      exact h
    · rw [upd_ne z] at h ⊢
      exact r.exF a u h
  · have ha : a ≠ l := ne_fresh (r.dF a _ h).2.2.1 hl
    obtain ⟨x, y, w⟩ := r.dF a q h
    exact ⟨by rw [upd_ne ha]; exact x, y, by rw [upd_ne ha]; exact w⟩
  · by_cases z : a = l
    · subst z
      exact .inl gN
    · rw [upd_ne z] at h
      exact r.dG a u h
  · obtain ⟨v, q1, q2⟩ := r.sl i s h
    refine ⟨v, q1, q2.go (upd_same_of fN) fun a w h => ?_⟩
    exact ⟨upd_ne (ne_fresh (r.dF a _ h).2.2.1 hl), h⟩
end
theorem post_new {G F H : Hp} {ow : Addr → Option Path} {σ : L2.St} {L : LS} {vs : List V} {ds : List D} (Rr : c.Rl G F ow σ H L) (h : DqA c.X.K F vs ds) :
    Post c G true F H σ (.ok (.ol ds) L) (BE c.ca c.X.K) (fun Q => ∀ l, H l = none → Q (.ref l) (upd H l (.lst vs))) := by
  intro Q q l hl
  obtain ⟨e, r'⟩ := Rr.new (o := .lst vs) (p := [0]) hl
  exact q _ _ F _ (Same.refl F) (fun _ => e) r' (.ol upd_same (onAt_same ..) h)
theorem post_tup {G F H : Hp} {ow : Addr → Option Path} {σ : L2.St} {L : LS} {vs : List V} {ds : List D} (Rr : c.Rl G F ow σ H L) (h : DqA c.X.K F vs ds) :
    Post c G true F H σ (.ok (.tuple ds) L) (BD c.X.K) (fun Q => ∀ l, H l = none → Q (.ref l) (upd H l (.tup vs))) := by
  intro Q q l hl
  obtain ⟨e1, e, r'⟩ := Rr.newF (o := .tup vs) hl
  exact q _ _ _ ow e1 (fun _ => e) r' (.tup upd_same (h.up e1))

def gNil : LS → R (List D) := fun L => .ok [] L
def gCons (a : LS → R D) (r : LS → R (List D)) : LS → R (List D) := fun L => (a L).bind fun d L1 => (r L1).bind fun ds L2 => .ok (d :: ds) L2
theorem ja_nil : JA c true [] gNil := ⟨_, pa_nil, fun G F ow σ H L Rr => Post.val Rr .nil⟩
theorem ja_cons {e : Expr} {es : List Expr} {a : LS → R D} {r : LS → R (List D)} (h1 : JD c n1 e a) (h2 : JA c n2 es r) (hs : starEach (e :: es) c.X.env = (false, eval e c.X.env) :: starEach es c.X.env := by rfl) : JA c (n1 && n2) (e :: es) (gCons a r) := by
  obtain ⟨t1, p1, q1⟩ := h1
  obtain ⟨t2, p2, q2⟩ := h2
  refine ⟨_, pa_cons p1 p2 hs, fun G F ow σ H L Rr => ?_⟩
  refine (q1 G F ow σ H L Rr).bind fun d L1 v H1 F1 ow1 _ _ _ R1 b1 => ?_
  have := (q2 G F1 ow1 σ H1 L1 R1).bind (n2 := true) (k := fun ds L2 => .ok (d :: ds) L2) (B2 := BA c.X.K) (t2 := fun vs H2 Q => Q (v :: vs) H2) fun ds L2 vs H2 F2 ow2 _ e2 _ R2 b2 => Post.val R2 (.cons (b1.up e2) b2)
  rw [Bool.and_true] at this
  exact this
def gLst (a : LS → R (List D)) : LS → R S := fun L => (a L).bind fun ds L1 => if ds.length ≤ sizeLine then .ok (.ol ds) L1 else .stuck
def gTup (a : LS → R (List D)) : LS → R D := fun L => (a L).bind fun ds L1 => if ds.length ≤ sizeLine then .ok (.tuple ds) L1 else .stuck
theorem Post.guard {α β : Type} {G F H : Hp} {σ : L2.St} {p : Prop} [Decidable p] {r : R α} {B : Hp → Hp → (Addr → Option Path) → α → β → Prop} {t : (β → Hp → Prop) → Prop} (h : p → Post c G n F H σ r B t) : Post c G n F H σ (if p then r else .stuck) B t := by
  by_cases hp : p
  · rw [if_pos hp]
    exact h hp
  · rw [if_neg hp]
    trivial
theorem je_lst {es : List Expr} {pos : Pos} {a : LS → R (List D)} (h : JA c n es a) : JE c n (.List es pos) (gLst a) := by
  obtain ⟨t, p, q⟩ := h
  refine ⟨_, pe_lst p, fun G F ow σ H L Rr => ?_⟩
  have := (q G F ow σ H L Rr).bind (n2 := true) (k := fun ds L1 => if ds.length ≤ sizeLine then R.ok (.ol ds) L1 else .stuck) (B2 := BE c.ca c.X.K) (t2 := fun vs H1 Q => vs.length ≤ sizeLine ∧ ∀ l, H1 l = none → Q (.ref l) (upd H1 l (.lst vs)))
    fun ds L1 vs H1 F1 ow1 _ _ _ R1 b1 => Post.guard fun hz => (post_new R1 b1).imp fun Q q => ⟨by rw [DqA.len b1]; exact hz, q⟩
  rw [Bool.and_true] at this
  exact this
theorem jd_tup {es : List Expr} {k : Nat} {pos : Pos} {a : LS → R (List D)} (h : JA c n es a) : JD c n (.Tuple es k pos) (gTup a) := by
  obtain ⟨t, p, q⟩ := h
  refine ⟨_, pe_tup p, fun G F ow σ H L Rr => ?_⟩
  have := (q G F ow σ H L Rr).bind (n2 := true) (k := fun ds L1 => if ds.length ≤ sizeLine then R.ok (.tuple ds) L1 else .stuck) (B2 := BD c.X.K) (t2 := fun vs H1 Q => vs.length ≤ sizeLine ∧ ∀ l, H1 l = none → Q (.ref l) (upd H1 l (.tup vs)))
    fun ds L1 vs H1 F1 ow1 _ _ _ R1 b1 => Post.guard fun hz => (post_tup R1 b1).imp fun Q q => ⟨by rw [DqA.len b1]; exact hz, q⟩
  rw [Bool.and_true] at this
  exact this
end
end VS

namespace VS
open PySem PySem.Spec PyProof.Rows L2

section
variable {c : Ct} {n n1 n2 n3 : Bool}
theorem Post.bind1 {α β γ δ : Type} {G F H : Hp} {σ : L2.St} {r : R α} {k : α → LS → R γ} {B1 : Hp → Hp → (Addr → Option Path) → α → β → Prop} {B2 : Hp → Hp → (Addr → Option Path) → γ → δ → Prop} {t1 : (β → Hp → Prop) → Prop} {t2 : β → Hp → (δ → Hp → Prop) → Prop}
    (h1 : Post c G n F H σ r B1 t1)
    (h2 : ∀ a L1 b H1 F1 ow1, r = .ok a L1 → Same F F1 → (n = true → Same H H1) → c.Rl G F1 ow1 σ H1 L1 → B1 F1 H1 ow1 a b → Post c G true F1 H1 σ (k a L1) B2 (t2 b H1)) :
    Post c G n F H σ (r.bind k) B2 (fun Q => t1 fun b H1 => t2 b H1 Q) := by
  have h := h1.bind h2
  rw [Bool.and_true] at h
  exact h

def Leaf2 (K : PySem.W.Frag) (r : R2) (f : D → D → Option D) : Prop :=
  ∀ (F H : Hp) (x y : V) (d e z : D), Same F H → Dq K F x d → Dq K F y e → f d e = some z → ∃ v, Dq K F v z ∧ ∀ Q : VK, Q v H → r x y H Q
def Leaf2S (K : PySem.W.Frag) (r : R2) (f : D → D → Option S) : Prop :=
  ∀ (F H : Hp) (x y : V) (d e : D) (z : S), Same F H → Dq K F x d → Dq K F y e → f d e = some z →
    (∃ d v, z = .d d ∧ Dq K F v d ∧ ∀ Q : VK, Q v H → r x y H Q) ∨ ∃ ds vs, z = .ol ds ∧ DqA K F vs ds ∧ ∀ Q : VK, (∀ l, H l = none → Q (.ref l) (upd H l (.lst vs))) → r x y H Q
def ofO {α : Type} (o : Option α) (L : LS) : R α := match o with
  | some a => .ok a L
  | none => .stuck
theorem ofO_some {α : Type} (a : α) (L : LS) : ofO (some a) L = .ok a L := rfl
theorem ofO_none {α : Type} (L : LS) : (ofO none L : R α) = .stuck := rfl
def gOp {α : Type} (f : D → D → Option α) (a b : LS → R D) : LS → R α := fun L => (a L).bind fun d L1 => (b L1).bind fun e L2 => ofO (f d e) L2
theorem jdg_op {r : R2} {f : D → D → Option D} (lf : Leaf2 c.X.K r f) {ga gb : LS → R D} {ta tb : TE} (ha : Jdg c n1 ga BD ta) (hb : Jdg c n2 gb BD tb) : Jdg c (n1 && n2) (gOp f ga gb) BD (tOp r ta tb) := by
  intro G F ow σ H L Rr
  refine (ha G F ow σ H L Rr).bind fun d L1 v H1 F1 ow1 _ _ _ R1 b1 => ?_
  refine (hb G F1 ow1 σ H1 L1 R1).bind1 fun e L2 u H2 F2 ow2 _ e2 _ R2 b2 => ?_
  cases hf : f d e with
  | none => trivial
  | some z =>
    obtain ⟨w, hw, q⟩ := lf F2 H2 v u d e z R2.exF (b1.up e2) b2 hf
    exact (Post.val R2 hw).imp q
theorem jdg_opS {r : R2} {f : D → D → Option S} (lf : Leaf2S c.X.K r f) {ga gb : LS → R D} {ta tb : TE} (ha : Jdg c n1 ga BD ta) (hb : Jdg c n2 gb BD tb) : Jdg c (n1 && n2) (gOp f ga gb) (BE c.ca) (tOp r ta tb) := by
  intro G F ow σ H L Rr
  refine (ha G F ow σ H L Rr).bind fun d L1 v H1 F1 ow1 _ _ _ R1 b1 => ?_
  refine (hb G F1 ow1 σ H1 L1 R1).bind1 fun e L2 u H2 F2 ow2 _ e2 _ R2 b2 => ?_
  cases hf : f d e with
  | none => trivial
  | some z =>
    rcases lf F2 H2 v u d e z R2.exF (b1.up e2) b2 hf with ⟨d', w, rfl, hw, q⟩ | ⟨ds, vs, rfl, hw, q⟩
    · exact (Post.val (a := S.d d') (B := BE c.ca c.X.K) R2 (RS.d hw)).imp q
    · exact (post_new R2 hw).imp q
theorem Leaf2S.or {K : PySem.W.Frag} {r r' : R2} {f f' : D → D → Option S} (h : Leaf2S K r f) (h' : Leaf2S K r' f') : Leaf2S K (fun x y H Q => r x y H Q ∨ r' x y H Q) (fun d e => (f d e).orElse fun _ => f' d e) := by
  intro F H x y d e z s hx hy hf
  have hf : (f d e).orElse (fun _ => f' d e) = some z := hf
  cases h1 : f d e with
  | some w =>
    rw [h1] at hf
    rcases h F H x y d e w s hx hy h1 with ⟨a, b, p, q, k⟩ | ⟨a, b, p, q, k⟩
    · cases hf; exact .inl ⟨a, b, p, q, fun Q z => .inl (k Q z)⟩
    · cases hf; exact .inr ⟨a, b, p, q, fun Q z => .inl (k Q z)⟩
  | none =>
    rw [h1] at hf
    have h2 : f' d e = some z := hf
    rcases h' F H x y d e z s hx hy h2 with ⟨a, b, p, q, k⟩ | ⟨a, b, p, q, k⟩
    · exact .inl ⟨a, b, p, q, fun Q z => .inr (k Q z)⟩
    · exact .inr ⟨a, b, p, q, fun Q z => .inr (k Q z)⟩
def dInt2 (C : Int → Int → Bool) (g : Int → Int → D) : D → D → Option D
  | .int i, .int j => if C i j then some (g i j) else none
  | _, _ => none
theorem leaf_int {K : PySem.W.Frag} {r : R2} {C : Int → Int → Bool} {g : Int → Int → D} {gv : Int → Int → V} (hr : ∀ (i j : Int) (H : Hp) (Q : VK), C i j = true → Q (gv i j) H → r (.int i) (.int j) H Q) (hg : ∀ i j F, Dq K F (gv i j) (g i j)) : Leaf2 K r (dInt2 C g) := by
  intro F H x y d e z _ hx hy hf
  cases hx with
  | int i =>
    cases hy with
    | int j =>
      by_cases hC : C i j = true
      · have hf' : some (g i j) = some z := by
          have : dInt2 C g (.int i) (.int j) = some (g i j) := if_pos hC
          rw [this] at hf
          exact hf
        cases hf'
        exact ⟨_, hg i j F, fun Q q => hr i j H Q hC q⟩
      · have : dInt2 C g (.int i) (.int j) = none := if_neg hC
        rw [this] at hf
        cases hf
    | _ => cases hf
  | _ => cases hf
abbrev yes2 : Int → Int → Bool := fun _ _ => true
def mulOk (i j : Int) : Bool := decide ((-(2 ^ 64) < i ∧ i < 2 ^ 64) ∨ (-(2 ^ 64) < j ∧ j < 2 ^ 64))
def divOk (_ j : Int) : Bool := decide (0 < j ∧ j < 1073741824)
def modOk (_ j : Int) : Bool := decide (0 < j)
def powOk (i j : Int) : Bool := decide (0 ≤ j ∧ j ≤ 1000000 ∧ i.natAbs < 2 ^ 64)
theorem mulOk_to {i j : Int} (h : mulOk i j = true) : CMul i j := by
  have h' := of_decide_eq_true h
  exact h'
theorem divOk_to {i j : Int} (h : divOk i j = true) : CDiv i j := by
  have h' := of_decide_eq_true h
  exact h'
theorem powOk_to {i j : Int} (h : powOk i j = true) : CPow i j := by
  have h' := of_decide_eq_true h
  exact h'
def dSub : D → D → Option D := dInt2 yes2 fun i j => .int (i - j)
def dMod : D → D → Option D := dInt2 modOk fun i j => .int (i % j)
def dDiv : D → D → Option D := dInt2 divOk fun i j => .int (i / j)
def dPow : D → D → Option D := dInt2 powOk fun i j => .int (i ^ j.toNat)
def dLift (f : D → D → Option D) : D → D → Option S := fun d e => (f d e).map S.d
theorem Leaf2.lift {K : PySem.W.Frag} {r : R2} {f : D → D → Option D} (h : Leaf2 K r f) : Leaf2S K r (dLift f) := by
  intro F H x y d e z s hx hy hf
  obtain ⟨w, hw, e1⟩ := Option.map_eq_some_iff.mp hf
  obtain ⟨v, hv, q⟩ := h F H x y d e w s hx hy hw
  exact .inl ⟨w, v, e1.symm, hv, q⟩
def dAddI : D → D → Option D := dInt2 yes2 fun i j => .int (i + j)
def dAddT : D → D → Option D
  | .str x, .str y => if x.length + y.length ≤ sizeLine then some (.str (x ++ y)) else none
  | _, _ => none
def dAddL : D → D → Option S
  | .list xs, .list ys => if xs.length + ys.length ≤ sizeLine then some (.ol (xs ++ ys)) else none
  | _, _ => none
def dAdd : D → D → Option S := fun d e => (dLift dAddI d e).orElse fun _ => (dLift dAddT d e).orElse fun _ => dAddL d e
theorem dAdd_int (i j : Int) : dAdd (.int i) (.int j) = some (.d (.int (i + j))) := rfl
theorem dAdd_list (x y : List D) : dAdd (.list x) (.list y) = if x.length + y.length ≤ sizeLine then some (.ol (x ++ y)) else none := rfl
def dMulI : D → D → Option D := dInt2 mulOk fun i j => .int (i * j)
def repOk (n : Nat) (k : Int) : Bool := decide (-(2 ^ 63) ≤ k ∧ k < 2 ^ 63 ∧ n * k.toNat ≤ sizeLine)
def dMulL : D → D → Option S
  | .list xs, .int k => if repOk xs.length k then some (.ol (List.replicate k.toNat xs).flatten) else none
  | _, _ => none
def dMul : D → D → Option S := fun d e => (dLift dMulI d e).orElse fun _ => dMulL d e
theorem leaf_addI {K : PySem.W.Frag} : Leaf2 K (rI0 fun i j => .int (i + j)) dAddI := leaf_int (gv := fun i j => .int (i + j)) (fun i j H Q _ q => ⟨i, j, rfl, rfl, q⟩) fun _ _ _ => .int _
theorem leaf_addT {K : PySem.W.Frag} : Leaf2 K (fun x y H Q => ∃ i j, x = .str i ∧ y = .str j ∧ i.length + j.length ≤ sizeLine ∧ Q (.str (i ++ j)) H) dAddT := by
  intro F H x y d e z _ hx hy hf
  cases hx with
  | str a =>
    cases hy with
    | str b =>
      by_cases h : a.length + b.length ≤ sizeLine
      · have hz : some (PyData.str (a ++ b)) = some z := (if_pos h).symm.trans hf
        cases hz
        exact ⟨_, .str _, fun Q q => ⟨a, b, rfl, rfl, h, q⟩⟩
      · have hz : none = some z := (if_neg h).symm.trans hf
        cases hz
    | _ => cases hf
  | _ => cases hf
theorem leaf_addL {K : PySem.W.Frag} : Leaf2S K rCat dAddL := by
  intro F H x y d e z s hx hy hf
  cases hx with
  | lst a1 a2 =>
    cases hy with
    | lst b1 b2 =>
      rename_i l xs ds l' ys es
      by_cases h : ds.length + es.length ≤ sizeLine
      · have hz : some (S.ol (ds ++ es)) = some z := (if_pos h).symm.trans hf
        cases hz
        exact .inr ⟨_, xs ++ ys, rfl, a2.append b2, fun Q q => ⟨l, l', xs, ys, rfl, rfl, s _ _ a1, s _ _ b1, by rw [a2.len, b2.len]; exact h, q⟩⟩
      · have hz : none = some z := (if_neg h).symm.trans hf
        cases hz
    | _ => cases hf
  | _ => cases hf
theorem DqA.flat {K : PySem.W.Frag} {F : Hp} {vs : List V} {ds : List D} (h : DqA K F vs ds) : ∀ k : Nat, DqA K F (List.replicate k vs).flatten (List.replicate k ds).flatten
  | 0 => .nil
  | k + 1 => by
    rw [List.replicate_succ, List.replicate_succ, List.flatten_cons, List.flatten_cons]
    exact h.append (h.flat k)
theorem leaf_mulL {K : PySem.W.Frag} : Leaf2S K rRep dMulL := by
  intro F H x y d e z s hx hy hf
  cases hx with
  | lst a1 a2 =>
    cases hy with
    | int k =>
      rename_i l xs ds
      by_cases h : repOk ds.length k = true
      · have hz : some (S.ol (List.replicate k.toNat ds).flatten) = some z := (if_pos h).symm.trans hf
        cases hz
        obtain ⟨h1, h2, h3⟩ := of_decide_eq_true h
        exact .inr ⟨_, _, rfl, a2.flat _, fun Q q => ⟨l, k, xs, rfl, rfl, s _ _ a1, h1, h2, by rw [a2.len]; exact h3, q⟩⟩
      · have hz : none = some z := (if_neg h).symm.trans hf
        cases hz
    | _ => cases hf
  | _ => cases hf
variable {a b : Expr} {ga gb : LS → R D} {pos : Pos}
theorem je_add (ha : JD c n1 a ga) (hb : JD c n2 b gb) : JE c (n1 && n2) (.BinOp a .Add b pos) (gOp dAdd ga gb) := by
  obtain ⟨ta, p1, q1⟩ := ha
  obtain ⟨tb, p2, q2⟩ := hb
  exact ⟨_, pe_op (op_add.or (op_add_str.or op_cat)) p1 p2, jdg_opS (leaf_addI.lift.or (leaf_addT.lift.or leaf_addL)) q1 q2⟩
theorem je_mul (ha : JD c n1 a ga) (hb : JD c n2 b gb) : JE c (n1 && n2) (.BinOp a .Mult b pos) (gOp dMul ga gb) := by
  obtain ⟨ta, p1, q1⟩ := ha
  obtain ⟨tb, p2, q2⟩ := hb
  exact ⟨_, pe_op (op_mul.or op_rep) p1 p2, jdg_opS ((leaf_int (gv := fun i j => .int (i * j)) (fun i j H Q hc q => ⟨i, j, rfl, rfl, mulOk_to hc, q⟩) fun _ _ _ => .int _ : Leaf2 c.X.K (rI CMul fun i j => .int (i * j)) dMulI).lift.or leaf_mulL) q1 q2⟩
theorem jd_bin {op : Operator} {r : R2} {f : D → D → Option D} (ho : OpR c.X (binaryOp op) r) (lf : Leaf2 c.X.K r f) (ha : JD c n1 a ga) (hb : JD c n2 b gb) : JD c (n1 && n2) (.BinOp a op b pos) (gOp f ga gb) := by
  obtain ⟨ta, p1, q1⟩ := ha
  obtain ⟨tb, p2, q2⟩ := hb
  exact ⟨_, pe_op ho p1 p2, jdg_op lf q1 q2⟩
theorem jd_sub (ha : JD c n1 a ga) (hb : JD c n2 b gb) : JD c (n1 && n2) (.BinOp a .Sub b pos) (gOp dSub ga gb) :=
  jd_bin op_sub (leaf_int (gv := fun i j => .int (i - j)) (fun i j H Q _ q => ⟨i, j, rfl, rfl, q⟩) fun _ _ _ => .int _) ha hb
theorem jd_mod (ha : JD c n1 a ga) (hb : JD c n2 b gb) : JD c (n1 && n2) (.BinOp a .Mod b pos) (gOp dMod ga gb) :=
  jd_bin op_mod (leaf_int (gv := fun i j => .int (i % j)) (fun i j H Q hc q => ⟨i, j, rfl, rfl, of_decide_eq_true hc, q⟩) fun _ _ _ => .int _) ha hb
theorem jd_div (ha : JD c n1 a ga) (hb : JD c n2 b gb) : JD c (n1 && n2) (.BinOp a .FloorDiv b pos) (gOp dDiv ga gb) :=
  jd_bin op_fdiv (leaf_int (gv := fun i j => .int (i / j)) (fun i j H Q hc q => ⟨i, j, rfl, rfl, divOk_to hc, q⟩) fun _ _ _ => .int _) ha hb
theorem jd_pow (ha : JD c n1 a ga) (hb : JD c n2 b gb) : JD c (n1 && n2) (.BinOp a .Pow b pos) (gOp dPow ga gb) :=
  jd_bin op_pow (leaf_int (gv := fun i j => .int (i ^ j.toNat)) (fun i j H Q hc q => ⟨i, j, rfl, rfl, powOk_to hc, q⟩) fun _ _ _ => .int _) ha hb
def dNeg : D → Option D
  | .int i => some (.int (-i))
  | _ => none
def gUn {α : Type} (f : D → Option α) (a : LS → R D) : LS → R α := fun L => (a L).bind fun d L1 => ofO (f d) L1
theorem jd_neg (ha : JD c n a ga) : JD c n (.UnaryOp .USub a pos) (gUn dNeg ga) := by
  obtain ⟨ta, p1, q1⟩ := ha
  refine ⟨_, pe_un un_neg p1, fun G F ow σ H L Rr => (q1 G F ow σ H L Rr).bind1 fun d L1 v H1 F1 ow1 _ _ _ R1 b1 => ?_⟩
  cases b1 with
  | int i => exact (Post.val (a := PyData.int (-i)) (B := BD c.X.K) R1 (Dq.int _)).imp fun Q q => ⟨i, rfl, q⟩
  | _ => trivial

def dCmp (f : Int → Int → Bool) (g : Str → Str → Bool) : D → D → Option D
  | .int i, .int j => some (.bool (f i j))
  | .str x, .str y => some (.bool (g x y))
  | _, _ => none
def dLt : D → D → Option D := dCmp (fun i j => decide (i < j)) fun x y => decide (x.cps.toList < y.cps.toList)
def dLe : D → D → Option D := dCmp (fun i j => decide (i ≤ j)) fun x y => !decide (y.cps.toList < x.cps.toList)
def dGt : D → D → Option D := dCmp (fun i j => decide (j < i)) fun x y => decide (y.cps.toList < x.cps.toList)
def dGe : D → D → Option D := dCmp (fun i j => decide (j ≤ i)) fun x y => !decide (x.cps.toList < y.cps.toList)
theorem leaf_cmp {K : PySem.W.Frag} {f : Int → Int → Bool} {g : Str → Str → Bool} : Leaf2 K (fun x y H Q => rI0 (fun i j => .bl (f i j)) x y H Q ∨ ∃ i j, x = .str i ∧ y = .str j ∧ Q (.bl (g i j)) H) (dCmp f g) := by
  intro F H x y d e z _ hx hy hf
  cases hx with
  | int i =>
    cases hy with
    | int j =>
      cases hf
      exact ⟨_, .bl _, fun Q q => .inl ⟨i, j, rfl, rfl, q⟩⟩
    | _ => cases hf
  | str i =>
    cases hy with
    | str j =>
      cases hf
      exact ⟨_, .bl _, fun Q q => .inr ⟨i, j, rfl, rfl, q⟩⟩
    | _ => cases hf
  | _ => cases hf
def scalD : D → D → Bool
  | .none, .none => true
  | .none, .int _ => true
  | .int _, .none => true
  | .none, .bool _ => true
  | .bool _, .none => true
  | .none, .str _ => true
  | .str _, .none => true
  | .int _, .int _ => true
  | .bool _, .bool _ => true
  | .str _, .str _ => true
  | .int _, .str _ => true
  | .str _, .int _ => true
  | .bool _, .str _ => true
  | .str _, .bool _ => true
  | _, _ => false
def eqOk (d e : D) : Prop := scalD d e = true ∨ (SeqAt.shaped d = true ∧ SeqAt.shaped e = true)
instance (d e : D) : Decidable (eqOk d e) := inferInstanceAs (Decidable (_ ∨ _))
def dEq : D → D → Option D := fun d e => if eqOk d e then some (.bool (d.eqv e)) else none
def dNe : D → D → Option D := fun d e => if eqOk d e then some (.bool (!d.eqv e)) else none
theorem scal_of {K : PySem.W.Frag} {F : Hp} {x y : V} {d e : D} (hx : Dq K F x d) (hy : Dq K F y e) (h : scalD d e = true) : scal x y = true ∧ d.eqv e = decide (x = y) := by
  cases hx <;> cases hy <;> first
    | (exfalso; exact Bool.noConfusion h)
    | (refine ⟨rfl, ?_⟩; simp only [PyData.eqv]; first | (symm; simp; done) | (rw [Bool.beq_eq_decide_eq]; apply decide_eq_decide.mpr; constructor; (intro z; rw [z]); (intro z; injection z)))
def rIsB2 : R2 := fun x y H Q => rIsB x y H Q ∨ (x = .non ∧ (∃ b : Bool, y = .bl b) ∧ Q (.bl false) H)
def rNotB2 : R2 := fun x y H Q => rNotB x y H Q ∨ (x = .non ∧ (∃ b : Bool, y = .bl b) ∧ Q (.bl true) H)
theorem op_isBl2 {X : Cx} : OpR X (compareOp .Is) rIsB2 := by
  intro pins s σ H x y v u Q I rx ry h
  rcases h with h | ⟨rfl, ⟨b, rfl⟩, q⟩
  · exact op_isBl pins s σ H x y v u Q I rx ry h
  · cases rx
    cases (show u = Value.bool b from ry)
    exact wpAny_is_other rfl (fun z => nomatch z) ⟨.bl false, H, I, rfl, q⟩
theorem op_notBl2 {X : Cx} : OpR X (compareOp .IsNot) rNotB2 := by
  intro pins s σ H x y v u Q I rx ry h
  rcases h with h | ⟨rfl, ⟨b, rfl⟩, q⟩
  · exact op_notBl pins s σ H x y v u Q I rx ry h
  · cases rx
    cases (show u = Value.bool b from ry)
    exact wpAny_isNot_other rfl (fun z => nomatch z) ⟨.bl true, H, I, rfl, q⟩
def dIs : D → D → Option D
  | .bool a, .bool b => some (.bool (decide (a = b)))
  | .none, .bool _ => some (.bool false)
  | .none, .none => some (.bool true)
  | _, .none => some (.bool false)
  | _, _ => none
def dIsN : D → D → Option D
  | .bool a, .bool b => some (.bool (!decide (a = b)))
  | .none, .bool _ => some (.bool true)
  | .none, .none => some (.bool false)
  | _, .none => some (.bool true)
  | _, _ => none
theorem leaf_is {K : PySem.W.Frag} : Leaf2 K (fun x y H Q => (y = .non ∧ Q (.bl (decide (x = .non))) H) ∨ rIsB2 x y H Q) dIs := by
  intro F H x y d e z s hx hy hf
  cases hy with
  | non => cases hx <;> (cases hf; exact ⟨_, .bl _, fun Q q => .inl ⟨rfl, q⟩⟩)
  | bl b =>
    cases hx with
    | bl a =>
      cases hf
      exact ⟨_, .bl _, fun Q q => .inr (.inl ⟨a, b, rfl, rfl, q⟩)⟩
    | non =>
      cases hf
      exact ⟨_, .bl _, fun Q q => .inr (.inr ⟨rfl, ⟨b, rfl⟩, q⟩)⟩
    | _ => cases hf
  | _ => cases hx <;> cases hf
theorem leaf_isN {K : PySem.W.Frag} : Leaf2 K (fun x y H Q => (y = .non ∧ Q (.bl (!decide (x = .non))) H) ∨ rNotB2 x y H Q) dIsN := by
  intro F H x y d e z s hx hy hf
  cases hy with
  | non => cases hx <;> (cases hf; exact ⟨_, .bl _, fun Q q => .inl ⟨rfl, q⟩⟩)
  | bl b =>
    cases hx with
    | bl a =>
      cases hf
      exact ⟨_, .bl _, fun Q q => .inr (.inl ⟨a, b, rfl, rfl, q⟩)⟩
    | non =>
      cases hf
      exact ⟨_, .bl _, fun Q q => .inr (.inr ⟨rfl, ⟨b, rfl⟩, q⟩)⟩
    | _ => cases hf
  | _ => cases hx <;> cases hf
def flatD : D → Bool
  | .none => true
  | .bool _ => true
  | .int _ => true
  | .str _ => true
  | _ => false
def inOk (d : D) (ds : List D) : Prop := (flatD d = true ∧ ds.all flatD = true) ∨ (SeqAt.shaped d = true ∧ SeqAt.shaped (.list ds) = true)
instance (d : D) (ds : List D) : Decidable (inOk d ds) := inferInstanceAs (Decidable (_ ∨ _))
variable {k : Nat}
theorem room65 {A : Around} (hr : Room k A) : A.units + 65 < cLine := by have := hr.un; omega
def asB : D → LS → R Bool
  | .bool b, L => .ok b L
  | _, _ => .stuck
def gB (g : LS → R D) : LS → R Bool := fun L => (g L).bind asB
theorem jdg_B {g : LS → R D} {t : TE} (h : Jdg c n g BD t) : Jdg c n (gB g) BB (fun σ H Q => t σ H fun x H' => ∃ k, x = .bl k ∧ Q k H') := by
  intro G F ow σ H L Rr
  refine (h G F ow σ H L Rr).bind1 (t2 := fun x H' Q => ∃ k, x = .bl k ∧ Q k H') fun d L1 v H1 F1 ow1 _ _ _ R1 b1 => ?_
  cases b1 with
  | bl b => exact (Post.val (a := b) (b := b) (B := BB c.X.K) R1 rfl).imp fun Q q => ⟨b, rfl, q⟩
  | _ => trivial
theorem jt_val {e : Expr} {g : LS → R D} (h : JD c n e g) (he : ∀ whole, isTrue e c.X.env whole = (do let v ← whole; standAt e.pos; holding [v] (truthy v)) := by intro _; rfl) : JT c n e (gB g) := by
  obtain ⟨t, p, q⟩ := h
  exact ⟨_, pt_val p he, jdg_B q⟩
variable {g1 g2 : LS → R Bool} {rest : List Expr}
def gAnd (a b : LS → R Bool) : LS → R Bool := fun L => (a L).bind fun x L1 => if x = true then b L1 else .ok false L1
def gOr (a b : LS → R Bool) : LS → R Bool := fun L => (a L).bind fun x L1 => if x = true then .ok true L1 else b L1
def gNot (a : LS → R Bool) : LS → R Bool := fun L => (a L).bind fun x L1 => .ok (!x) L1
theorem jw_and1 (ha : JT c n a g1) : JW c n (.BoolOp .And [a] pos) g1 := by
  obtain ⟨t, p, q⟩ := ha
  exact ⟨_, pw_and1 p, q⟩
theorem jw_or1 (ha : JT c n a g1) : JW c n (.BoolOp .Or [a] pos) g1 := by
  obtain ⟨t, p, q⟩ := ha
  exact ⟨_, pw_or1 p, q⟩
theorem jw_and (ha : JT c n1 a g1) (hb : JW c n2 (.BoolOp .And (b :: rest) pos) g2) : JW c (n1 && n2) (.BoolOp .And (a :: b :: rest) pos) (gAnd g1 g2) := by
  obtain ⟨t, p, q⟩ := ha
  obtain ⟨t', p', q'⟩ := hb
  refine ⟨_, pw_and p p', fun G F ow σ H L Rr => (q G F ow σ H L Rr).bind (t2 := fun x H1 Q => if x = true then t' σ H1 Q else Q false H1) fun x L1 v H1 F1 ow1 _ _ _ R1 b1 => ?_⟩
  cases b1
  cases x with
  | true => exact q' G F1 ow1 σ H1 L1 R1
  | false => exact Post.val (b := false) (B := BB c.X.K) R1 rfl
theorem jw_or (ha : JT c n1 a g1) (hb : JW c n2 (.BoolOp .Or (b :: rest) pos) g2) : JW c (n1 && n2) (.BoolOp .Or (a :: b :: rest) pos) (gOr g1 g2) := by
  obtain ⟨t, p, q⟩ := ha
  obtain ⟨t', p', q'⟩ := hb
  refine ⟨_, pw_or p p', fun G F ow σ H L Rr => (q G F ow σ H L Rr).bind (t2 := fun x H1 Q => if x = true then Q true H1 else t' σ H1 Q) fun x L1 v H1 F1 ow1 _ _ _ R1 b1 => ?_⟩
  cases b1
  cases x with
  | false => exact q' G F1 ow1 σ H1 L1 R1
  | true => exact Post.val (b := true) (B := BB c.X.K) R1 rfl
theorem jt_w {e : Expr} (h : JW c n e g1) : JT c n e g1 := by
  obtain ⟨t, p, q⟩ := h
  exact ⟨_, p.pt, q⟩
theorem jt_not (h : JT c n a g1) : JT c n (.UnaryOp .Not a pos) (gNot g1) := by
  obtain ⟨t, p, q⟩ := h
  refine ⟨_, pt_not p, fun G F ow σ H L Rr => (q G F ow σ H L Rr).bind1 (t2 := fun x H1 Q => Q (!x) H1) fun x L1 v H1 F1 ow1 _ _ _ R1 b1 => ?_⟩
  cases b1
  exact Post.val (b := !x) (B := BB c.X.K) R1 rfl
def gAndV (a b : LS → R D) : LS → R D := fun L => (a L).bind fun d L1 => match d with
  | .bool x => if x = true then b L1 else .ok (.bool false) L1
  | _ => .stuck
def gOrV (a b : LS → R D) : LS → R D := fun L => (a L).bind fun d L1 => match d with
  | .bool x => if x = true then .ok (.bool true) L1 else b L1
  | _ => .stuck
def dNot : D → Option D
  | .bool b => some (.bool (!b))
  | _ => none
theorem jd_one {op} (h : JD c n a ga) : JD c n (.BoolOp op [a] pos) ga := by
  obtain ⟨t, p, q⟩ := h
  exact ⟨_, pe_one p, q⟩
theorem jd_and (ha : JD c n1 a ga) (hb : JD c n2 (.BoolOp .And (b :: rest) pos) gb) : JD c (n1 && n2) (.BoolOp .And (a :: b :: rest) pos) (gAndV ga gb) := by
  obtain ⟨t, p, q⟩ := ha
  obtain ⟨t', p', q'⟩ := hb
  refine ⟨_, pe_and p p', fun G F ow σ H L Rr => (q G F ow σ H L Rr).bind (t2 := fun x H1 Q => ∃ k, x = .bl k ∧ if k = true then t' σ H1 Q else Q (.bl false) H1) fun d L1 v H1 F1 ow1 _ _ _ R1 b1 => ?_⟩
  cases b1 with
  | bl x =>
    cases x with
    | true => exact (q' G F1 ow1 σ H1 L1 R1).imp fun Q h => ⟨true, rfl, h⟩
    | false => exact (Post.val (b := V.bl false) (B := BD c.X.K) R1 (.bl false)).imp fun Q h => ⟨false, rfl, h⟩
  | _ => trivial
theorem jd_not (h : JD c n a ga) : JD c n (.UnaryOp .Not a pos) (gUn dNot ga) := by
  obtain ⟨t, p, q⟩ := h
  refine ⟨_, pe_not p, fun G F ow σ H L Rr => (q G F ow σ H L Rr).bind1 (t2 := fun (x : V) H1 (Q : VK) => ∃ k, x = V.bl k ∧ Q (V.bl (!k)) H1) fun x L1 v H1 F1 ow1 _ _ _ R1 b1 => ?_⟩
  cases b1 with
  | bl x => exact (Post.val (a := PyData.bool (!x)) (b := V.bl (!x)) (B := BD c.X.K) R1 (.bl _)).imp fun Q h => ⟨x, rfl, h⟩
  | _ => trivial
def gIfE {α : Type} (t : LS → R Bool) (a b : LS → R α) : LS → R α := fun L => (t L).bind fun x L1 => if x = true then a L1 else b L1
end
end VS

namespace VS
open PySem PySem.Spec PyProof.Rows L2

section
variable {c : Ct} {n n1 n2 n3 : Bool} {a b : Expr} {ga gb : LS → R D} {pos : Pos}

def dIx (d e : D) : Option D := match e with
  | .int i => (match d with
    | .list xs => atI xs i
    | .tuple xs => atI xs i
    | .str s => if s.length ≤ sizeLine then (atI s.cps.toList i).map fun k => .str ⟨#[k]⟩ else none
    | _ => none)
  | _ => none
theorem DqA.at {K : PySem.W.Frag} {F : Hp} {vs : List V} {ds : List D} {i : Int} {z : D} (h : DqA K F vs ds) (e : atI ds i = some z) : ∃ v, atI vs i = some v ∧ Dq K F v z := by
  unfold atI at e ⊢
  rw [h.len]
  cases hj : ixN ds.length i with
  | none => rw [hj] at e; cases e
  | some j =>
    rw [hj] at e
    exact h.get e
theorem ix_core {K : PySem.W.Frag} {F H : Hp} {ow : Addr → Option Path} {x y : V} {d e z : D} (s : Same F H) (hx : BV K F H ow d x) (hy : Dq K F y e) (hf : dIx d e = some z) : ∃ v, Dq K F v z ∧ ∀ Q : VK, Q v H → rIx K x y H Q := by
  cases hy with
  | int i =>
    have seq : ∀ {l : Addr} {vs : List V} {ds : List D}, x = .ref l → d = .list ds → SqL K H l vs → DqA K F vs ds → ∃ v, Dq K F v z ∧ ∀ Q : VK, Q v H → rIx K x (.int i) H Q := fun {l vs ds} hl hd h1 h2 => by
      subst hl hd
      obtain ⟨v, h3, h4⟩ := h2.at (show atI ds i = some z from hf)
      exact ⟨v, h4, fun Q q => .inl ⟨l, vs, i, v, rfl, rfl, h1, h3, q⟩⟩
    rcases hx with hx | ⟨l, vs, ds, rfl, rfl, h1, h2⟩
    · cases hx with
      | lst h1 h2 => exact seq rfl rfl (.of (s _ _ h1)) h2
      | tup h1 h2 =>
        rename_i l vs ds
        obtain ⟨v, h3, h4⟩ := h2.at (show atI ds i = some z from hf)
        exact ⟨v, h4, fun Q q => .inr (.inl ⟨l, vs, i, v, rfl, rfl, sqt_same s h1, h3, q⟩)⟩
      | str w =>
        have hf : (if w.length ≤ sizeLine then (atI w.cps.toList i).map fun k => PyData.str ⟨#[k]⟩ else none) = some z := hf
        by_cases hw : w.length ≤ sizeLine
        · rw [if_pos hw] at hf
          obtain ⟨k, hk, rfl⟩ := Option.map_eq_some_iff.mp hf
          exact ⟨_, .str _, fun Q q => .inr (.inr ⟨w, i, k, rfl, rfl, hw, hk, q⟩)⟩
        · rw [if_neg hw] at hf
          cases hf
      | _ => cases hf
    · exact seq rfl rfl h1 h2
  | _ => cases hf
theorem leaf_ix {K : PySem.W.Frag} : Leaf2 K (rIx K) dIx := fun F H x y d e z s hx hy hf => ix_core (ow := fun _ => none) s (.inl hx) hy hf
theorem jd_ix (ha : JD c n1 a ga) (hb : JD c n2 b gb) (hs : PlainIx b := by exact fun _ _ => rfl) : JD c (n1 && n2) (.Subscript a b pos) (gOp dIx ga gb) := by
  obtain ⟨ta, p1, q1⟩ := ha
  obtain ⟨tb, p2, q2⟩ := hb
  exact ⟨_, pe_ix ix_seq p1 p2 hs, jdg_op leaf_ix q1 q2⟩
theorem BV.up {K : PySem.W.Frag} {F F' H H' : Hp} {ow ow' : Addr → Option Path} {d : D} {v : V} (h : BV K F H ow d v) (e : Same F F') (e2 : Same H H') : BV K F' H' ow' d v := by
  rcases h with h | ⟨l, vs, ds, h1, h2, h3, h4⟩
  · exact .inl (h.up e)
  · exact .inr ⟨l, vs, ds, h1, h2, sql_same e2 h3, h4.up e⟩
def gIxP (i : Nat) (gb : LS → R D) : LS → R D := fun L => match L[i]? with
  | some (some _) => (gb L).bind fun e L1 => (gPeek i L1).bind fun d L2 => ofO (dIx d e) L2
  | _ => .stuck
theorem peek_at {G F H : Hp} {ow : Addr → Option Path} {σ : L2.St} {L L' : LS} {i : Nat} {d : D} {v : V} (Rr : c.Rl G F ow σ H L) (hv : σ[i]? = some (some v)) (h : gPeek i L = .ok d L') : L' = L ∧ BV c.X.K F H ow d v := by
  unfold gPeek at h
  cases hL : L[i]? with
  | none => rw [hL] at h; cases h
  | some o =>
    rw [hL] at h
    cases o with
    | none => cases h
    | some s =>
      obtain ⟨u, hu, rs⟩ := Rr.sl i s hL
      rw [hv] at hu
      cases hu
      have hb := peek_bv Rr.exF Rr.exB rs
      cases s <;> cases h <;> exact ⟨rfl, hb⟩
theorem jd_ixP (i : Nat) {x : Str} {p : Pos} (ha : PE c.X (.Name x p) (tVar i)) (hb : JD c n b gb) (hs : PlainIx b := by exact fun _ _ => rfl) : JD c n (.Subscript (.Name x p) b pos) (gIxP i gb) := by
  obtain ⟨tb, p2, q2⟩ := hb
  refine ⟨_, pe_ix ix_seq ha p2 hs, fun G F ow σ H L Rr => ?_⟩
  unfold gIxP
  cases hL : L[i]? with
  | none => trivial
  | some o =>
    cases o with
    | none => trivial
    | some s =>
      obtain ⟨v, hv, rs⟩ := Rr.sl i s hL
      refine ((q2 G F ow σ H L Rr).bind1 (t2 := fun y H2 Q => rIx c.X.K v y H2 Q) fun e L1 u H1 F1 ow1 _ _ _ R1 b1 => ?_).imp fun Q q => ⟨v, hv, q⟩
      cases hp : gPeek i L1 with
      | stuck => trivial
      | err k L2 =>
        exfalso
        unfold gPeek at hp
        split at hp <;> cases hp
      | ok d L2 =>
        obtain ⟨rfl, hb⟩ := peek_at R1 hv hp
        rw [R.bind_ok]
        cases hf : dIx d e with
        | none => trivial
        | some z =>
          obtain ⟨w, hw, q⟩ := ix_core R1.exF hb b1 hf
          exact (Post.val R1 hw).imp q

def cutD (xs : List D) (lo hi : Option Int) : List D := (xs.drop (HT.sIx xs.length 0 lo)).take (HT.sIx xs.length xs.length hi - HT.sIx xs.length 0 lo)
theorem DqA.cut {K : PySem.W.Frag} {F : Hp} {vs : List V} {ds : List D} (h : DqA K F vs ds) (lo hi : Option Int) : DqA K F (cutV vs lo hi) (cutD ds lo hi) := by
  unfold cutV cutD
  rw [h.len]
  exact (h.drop _).take _
def dSl (d : D) (lo hi : Option Int) : Option S := match d with
  | .list xs => some (.ol (cutD xs lo hi))
  | .str s => if s.length ≤ sizeLine then some (.d (.str (cutS s lo hi))) else none
  | .tuple xs => if HT.sIx xs.length 0 lo = 0 ∧ HT.sIx xs.length xs.length hi = xs.length then none else some (.d (.tuple (cutD xs lo hi)))
  | _ => none
def BO : PySem.W.Frag → Hp → Hp → (Addr → Option Path) → Option Int → Option Int → Prop := fun _ _ _ _ x y => y = x
def JO (c : Ct) (n : Bool) (e : Option Expr) (g : LS → R (Option Int)) : Prop := ∃ t, PO c.X e t ∧ Jdg c n g BO t
def gNo : LS → R (Option Int) := fun L => .ok none L
def asI : D → LS → R (Option Int)
  | .int i, L => .ok (some i) L
  | _, _ => .stuck
def gSo (g : LS → R D) : LS → R (Option Int) := fun L => (g L).bind asI
theorem jo_no : JO c true none gNo := ⟨_, po_none, fun G F ow σ H L Rr => Post.val (B := BO c.X.K) Rr rfl⟩
theorem jo_so (h : JD c n a ga) : JO c n (some a) (gSo ga) := by
  obtain ⟨t, p, q⟩ := h
  refine ⟨_, po_some p, fun G F ow σ H L Rr => (q G F ow σ H L Rr).bind1 (t2 := fun (x : V) H1 (Q : Option Int → Hp → Prop) => ∃ i, x = V.int i ∧ Q (some i) H1) fun d L1 v H1 F1 ow1 _ _ _ R1 b1 => ?_⟩
  cases b1 with
  | int i => exact (Post.val (a := some i) (b := some i) (B := BO c.X.K) R1 rfl).imp fun Q q => ⟨i, rfl, q⟩
  | _ => trivial
def rSlAny (K : PySem.W.Frag) : V → Option Int → Option Int → Hp → VK → Prop := fun x lo hi H Q => rSlL K x lo hi H Q ∨ rSlS x lo hi H Q ∨ rSlT K x lo hi H Q
theorem sl_core {G F H : Hp} {ow : Addr → Option Path} {σ : L2.St} {L : LS} {d : D} {v : V} {lo hi : Option Int} (Rr : c.Rl G F ow σ H L) (hb : BV c.X.K F H ow d v) : Post c G true F H σ (ofO (dSl d lo hi) L) (BE c.ca c.X.K) (rSlAny c.X.K v lo hi H) := by
  have seq : ∀ {l : Addr} {vs : List V} {ds : List D}, v = .ref l → d = .list ds → SqL c.X.K H l vs → DqA c.X.K F vs ds → Post c G true F H σ (ofO (dSl d lo hi) L) (BE c.ca c.X.K) (rSlAny c.X.K v lo hi H) := fun {l vs ds} e1 e2 h1 h2 => by
    subst e1 e2
    exact (post_new Rr (h2.cut lo hi)).imp fun Q q => .inl ⟨l, vs, rfl, h1, q⟩
  rcases hb with hb | ⟨l, vs, ds, rfl, rfl, h1, h2⟩
  · cases hb with
    | lst h1 h2 => exact seq rfl rfl (.of (Rr.exF _ _ h1)) h2
    | str w =>
      show Post c G true F H σ (ofO (if w.length ≤ sizeLine then some (S.d (.str (cutS w lo hi))) else none) L) _ _
      by_cases hw : w.length ≤ sizeLine
      · rw [if_pos hw]
        exact (Post.val (a := S.d (.str (cutS w lo hi))) (B := BE c.ca c.X.K) Rr (RS.d (.str _))).imp fun Q q => .inr (.inl ⟨w, rfl, hw, q⟩)
      · rw [if_neg hw]
        trivial
    | tup h1 h2 =>
      rename_i l vs ds
      show Post c G true F H σ (ofO (if HT.sIx ds.length 0 lo = 0 ∧ HT.sIx ds.length ds.length hi = ds.length then none else some (S.d (.tuple (cutD ds lo hi)))) L) _ _
      by_cases hw : HT.sIx ds.length 0 lo = 0 ∧ HT.sIx ds.length ds.length hi = ds.length
      · rw [if_pos hw]
        trivial
      · rw [if_neg hw]
        intro Q q
        refine .inr (.inr ⟨l, vs, rfl, sqt_same Rr.exF h1, by rw [h2.len]; exact hw, fun p hp => ?_⟩)
        obtain ⟨e1, e, r'⟩ := Rr.newF (o := .tup (cutV vs lo hi)) hp
        exact q _ _ _ ow e1 (fun _ => e) r' (.d (.tup upd_same ((h2.cut lo hi).up e1)))
    | _ => trivial
  · exact seq rfl rfl h1 h2
def gSl (ga : LS → R D) (lo hi : LS → R (Option Int)) : LS → R S := fun L => (ga L).bind fun d L1 => (lo L1).bind fun l L2 => (hi L2).bind fun u L3 => ofO (dSl d l u) L3
variable {lo hi : Option Expr} {gl gh : LS → R (Option Int)} {p2 : Pos}
theorem je_slV (ha : JV c n1 a ga) (hl : JO c true lo gl) (hh : JO c true hi gh) : JE c n1 (.Subscript a (.Slice lo hi none p2) pos) (gSl ga gl gh) := by
  obtain ⟨ta, pa, qa⟩ := ha
  obtain ⟨tl, pl, ql⟩ := hl
  obtain ⟨th, ph, qh⟩ := hh
  refine ⟨_, pe_slice (sl_list.or (sl_str.or sl_tup)) pa pl ph, fun G F ow σ H L Rr => ?_⟩
  refine (qa G F ow σ H L Rr).bind1 (t2 := fun v H1 Q => tl σ H1 fun l H2 => th σ H2 fun u H3 => rSlAny c.X.K v l u H3 Q) fun d L1 v H1 F1 ow1 _ _ _ R1 b1 => ?_
  refine (ql G F1 ow1 σ H1 L1 R1).bind1 (t2 := fun l H2 Q => th σ H2 fun u H3 => rSlAny c.X.K v l u H3 Q) fun l L2 l' H2 F2 ow2 _ e2 s2 R2 b2 => ?_
  refine (qh G F2 ow2 σ H2 L2 R2).bind1 (t2 := fun u H3 Q => rSlAny c.X.K v l' u H3 Q) fun u L3 u' H3 F3 ow3 _ e3 s3 R3 b3 => ?_
  cases b2
  cases b3
  exact sl_core R3 (BV.up (BV.up (ow' := ow2) b1 e2 (s2 rfl)) e3 (s3 rfl))

def dLen : D → Option D
  | .list xs => some (.int xs.length)
  | .tuple xs => some (.int xs.length)
  | .str s => if s.length ≤ sizeLine then some (.int s.length) else none
  | _ => none
theorem jdg_call1 {α : Type} {ga : LS → R D} {B : PySem.W.Frag → Hp → Hp → (Addr → Option Path) → α → V → Prop} {r : List V → Hp → VK → Prop} {f : D → Option α} {ta : TE} (ha : Jdg c n ga BV ta)
    (lf : ∀ {G F H : Hp} {ow : Addr → Option Path} {σ : L2.St} {L : LS} {d : D} {v : V}, c.Rl G F ow σ H L → BV c.X.K F H ow d v → Post c G true F H σ (ofO (f d) L) (B c.X.K) (r [v] H)) : Jdg c n (gUn f ga) B (tCB r (tCons ta tNil)) :=
  fun G F ow σ H L Rr => (ha G F ow σ H L Rr).bind1 (t2 := fun v H1 Q => r [v] H1 Q) fun d L1 v H1 F1 ow1 _ _ _ R1 b1 => lf R1 b1
theorem jd_call1 {id : String} {x : Str} {p : Pos} {r : List V → Hp → VK → Prop} {f : D → Option D} (hc : CallR c.X (.builtin id) r) (hg : Gl c.X x) (hm : c.X.mg x = none) (hv : bootBuiltins x = some (.builtin id)) (ha : JV c n a ga)
    (lf : ∀ {G F H : Hp} {ow : Addr → Option Path} {σ : L2.St} {L : LS} {d : D} {v : V}, c.Rl G F ow σ H L → BV c.X.K F H ow d v → Post c G true F H σ (ofO (f d) L) (BD c.X.K) (r [v] H))
    (hn : x ≠ "__name__" := by decide) (hdb : (x == ("__debug__" : Str)) = false := by decide) (hs : starEach [a] c.X.env = (false, eval a c.X.env) :: starEach [] c.X.env := by rfl) (hpl : (backTo pos (starEach [] c.X.env)).any (·.1) = false := by rfl) :
    JD c n (.Call (.Name x p) [a] [] pos) (gUn f ga) := by
  obtain ⟨ta, pa, qa⟩ := ha
  exact ⟨_, pe_callB hc hg hm hv (pa_cons pa pa_nil hs) hn hdb hs hpl, jdg_call1 qa lf⟩
theorem je_callTy1 {T : String} {x : Str} {p : Pos} {r : List V → Hp → VK → Prop} {f : D → Option S} (hc : CallR c.X (.type T) r) (hg : Gl c.X x) (hm : c.X.mg x = none) (hv : bootBuiltins x = some (.type T)) (ha : JV c n a ga)
    (lf : ∀ {G F H : Hp} {ow : Addr → Option Path} {σ : L2.St} {L : LS} {d : D} {v : V}, c.Rl G F ow σ H L → BV c.X.K F H ow d v → Post c G true F H σ (ofO (f d) L) (BE c.ca c.X.K) (r [v] H))
    (hn : x ≠ "__name__" := by decide) (hdb : (x == ("__debug__" : Str)) = false := by decide) (hs : starEach [a] c.X.env = (false, eval a c.X.env) :: starEach [] c.X.env := by rfl) (hpl : (backTo pos (starEach [] c.X.env)).any (·.1) = false := by rfl) :
    JE c n (.Call (.Name x p) [a] [] pos) (gUn f ga) := by
  obtain ⟨ta, pa, qa⟩ := ha
  exact ⟨_, pe_callTy hc hg hm hv (pa_cons pa pa_nil hs) hn hdb hs hpl, jdg_call1 qa lf⟩
theorem len_core {G F H : Hp} {ow : Addr → Option Path} {σ : L2.St} {L : LS} {d : D} {v : V} (Rr : c.Rl G F ow σ H L) (hb : BV c.X.K F H ow d v) :
    Post c G true F H σ (ofO (dLen d) L) (BD c.X.K) (fun Q => ∃ (x : V) (m : Nat), [v] = [x] ∧ LenV c.X.K x H m ∧ Q (.int m) H) := by
  have fin : ∀ {m : Nat}, LenV c.X.K v H m → Post c G true F H σ (.ok (.int m) L) (BD c.X.K) (fun Q => ∃ (x : V) (m : Nat), [v] = [x] ∧ LenV c.X.K x H m ∧ Q (.int m) H) := fun {m} h =>
    (Post.val (a := PyData.int m) (b := V.int m) (B := BD c.X.K) Rr (.int _)).imp fun Q q => ⟨v, m, rfl, h, q⟩
  rcases hb with hb | ⟨l, vs, ds, rfl, rfl, h1, h2⟩
  · cases hb with
    | lst h1 h2 =>
      have := fin (.inl ⟨_, .of (Rr.exF _ _ h1), rfl⟩)
      rw [h2.len] at this
      exact this
    | tup h1 h2 =>
      have := fin (.inr ⟨_, sqt_same Rr.exF h1, rfl⟩)
      rw [h2.len] at this
      exact this
    | str w =>
      show Post c G true F H σ (ofO (if w.length ≤ sizeLine then some (PyData.int w.length) else none) L) _ _
      by_cases hw : w.length ≤ sizeLine
      · rw [if_pos hw]
        exact fin (m := w.length) ⟨hw, rfl⟩
      · rw [if_neg hw]
        trivial
    | _ => trivial
  · have := fin (.inl ⟨_, h1, rfl⟩)
    rw [h2.len] at this
    exact this
theorem jd_len {p : Pos} (hg : Gl c.X "len") (hm : c.X.mg "len" = none) (ha : JV c n a ga) (hs : starEach [a] c.X.env = (false, eval a c.X.env) :: starEach [] c.X.env := by rfl) : JD c n (.Call (.Name "len" p) [a] [] pos) (gUn dLen ga) :=
  jd_call1 call_len hg hm PySem.boot_len ha (fun Rr hb => len_core Rr hb) (by decide) (by decide) hs rfl
def dList : D → Option S
  | .list xs => some (.ol xs)
  | .tuple xs => some (.ol xs)
  | _ => none
theorem list_core {G F H : Hp} {ow : Addr → Option Path} {σ : L2.St} {L : LS} {d : D} {v : V} (Rr : c.Rl G F ow σ H L) (hb : BV c.X.K F H ow d v) :
    Post c G true F H σ (ofO (dList d) L) (BE c.ca c.X.K) (fun Q => ∃ p ys, [v] = [V.ref p] ∧ (SqL c.X.K H p ys ∨ SqT c.X.K H p ys) ∧ ∀ l, H l = none → Q (.ref l) (upd H l (.lst ys))) := by
  rcases hb with hb | ⟨l, vs, ds, rfl, rfl, h1, h2⟩
  · cases hb with
    | lst h1 h2 => exact (post_new Rr h2).imp fun Q q => ⟨_, _, rfl, .inl (.of (Rr.exF _ _ h1)), q⟩
    | tup h1 h2 => exact (post_new Rr h2).imp fun Q q => ⟨_, _, rfl, .inr (sqt_same Rr.exF h1), q⟩
    | _ => trivial
  · exact (post_new Rr h2).imp fun Q q => ⟨_, _, rfl, .inl h1, q⟩
theorem je_list {p : Pos} (hg : Gl c.X "list") (hm : c.X.mg "list" = none) (ha : JV c n a ga) (hs : starEach [a] c.X.env = (false, eval a c.X.env) :: starEach [] c.X.env := by rfl) : JE c n (.Call (.Name "list" p) [a] [] pos) (gUn dList ga) :=
  je_callTy1 call_list_of hg hm (by decide +kernel) ha (fun Rr hb => list_core Rr hb) (by decide) (by decide) hs rfl
def dTy : D → String
  | .none => "NoneType"
  | .bool _ => "bool"
  | .int _ => "int"
  | .str _ => "str"
  | .list _ => "list"
  | .tuple _ => "tuple"
  | .dict _ => "dict"
def isTy (T : String) (d : D) : Option D := (kitB (dTy d) T).map .bool
def gIsi (T : String) (ga : LS → R D) : LS → R D := gUn (isTy T) ga
theorem ty_of {K : PySem.W.Frag} {F H : Hp} {ow : Addr → Option Path} {d : D} {v : V} (s : Same F H) (hb : BV K F H ow d v) : TyX K H v (.type (dTy d)) := by
  have lst : ∀ {l : Addr} {vs : List V}, SqL K H l vs → TyX K H (.ref l) (.type "list") := fun {l vs} h => by
    rcases h with (h | ⟨o, h⟩) | ⟨o, its, m, h, hc, _⟩
    · exact .base (.lst h)
    · exact .base (.frz h)
    · exact .kList h hc
  rcases hb with hb | ⟨l, vs, ds, rfl, rfl, h1, h2⟩
  · cases hb with
    | non => exact .base .non
    | bl b => exact .base (.bl b)
    | int b => exact .base (.int b)
    | str b => exact .base (.str b)
    | lst h1 h2 => exact lst (.of (s _ _ h1))
    | tup h1 h2 =>
      rcases sqt_same s h1 with (h | ⟨o, h⟩) | ⟨o, its, m, h, hc, _⟩
      · exact .base (.tup h)
      · exact .fTuple h
      · exact .kTuple h hc
  · exact lst h1
theorem jd_isi {T : String} {t : Str} {p p3 : Pos} (hg : Gl c.X "isinstance") (hm : c.X.mg "isinstance" = none) (hgT : Gl c.X t) (hmT : c.X.mg t = none) (hvT : bootBuiltins t = some (.type T)) (ha : JV c n a ga) (hnT : t ≠ "__name__" := by decide) (hdT : (t == ("__debug__" : Str)) = false := by decide)
    (hs : starEach [a, .Name t p3] c.X.env = (false, eval a c.X.env) :: starEach [.Name t p3] c.X.env := by rfl) (hs2 : starEach [.Name t p3] c.X.env = (false, eval (.Name t p3) c.X.env) :: starEach [] c.X.env := by rfl) (hpl : (backTo pos (starEach [.Name t p3] c.X.env)).any (·.1) = false := by rfl) :
    JD c n (.Call (.Name "isinstance" p) [a, .Name t p3] [] pos) (gIsi T ga) := by
  obtain ⟨ta, pa, qa⟩ := ha
  refine ⟨_, pe_callB call_isi hg hm (by decide +kernel) (pa_cons pa (pa_cons (pe_bltn (v := .ty T) hgT hmT hvT rfl hnT hdT) pa_nil hs2) hs) (by decide) (by decide) hs hpl, fun G F ow σ H L Rr => ?_⟩
  refine (qa G F ow σ H L Rr).bind1 (t2 := fun v H1 Q => rIsi c.X.K [v, .ty T] H1 Q) fun d L1 v H1 F1 ow1 _ _ _ R1 b1 => ?_
  unfold isTy
  cases hk : kitB (dTy d) T with
  | none => trivial
  | some b => exact (Post.val (a := PyData.bool b) (b := V.bl b) (B := BD c.X.K) R1 (.bl _)).imp fun Q q => ⟨v, .ty T, _, _, b, rfl, .ty T, ty_of R1.exF b1, kit_ty hk, q⟩
def strsOf : List D → Option (List Str)
  | [] => some []
  | .str x :: r => (strsOf r).map (x :: ·)
  | _ :: _ => none
def joinOk (a : Str) (ys : List Str) : Bool := decide ((ys.map (·.length)).sum + ys.length * a.length ≤ 16777216)
def dJoin (d e : D) : Option D := match d, e with
  | .str a, .list ds => (strsOf ds).bind fun ys => if joinOk a ys then some (.str (Txt.join a ys)) else none
  | _, _ => none
def gTxt (k : Str → LS → R D) : D → LS → R D
  | .str a, L => k a L
  | _, _ => .stuck
def gJoin (ga gb : LS → R D) : LS → R D := fun L => (ga L).bind (gTxt fun a L1 => (gb L1).bind fun e L2 => ofO (dJoin (.str a) e) L2)
end
end VS

namespace VS
open PySem PySem.Spec PyProof.Rows L2

inductive O where
  | nx
  | rt (s : S)
  | bk
  | ct
def Fit (c : Ct) (G F : Hp) (r : R O) (E : Ends) : Prop := match r with
  | .ok .nx L => ∀ σ' H' F' ow', Same F F' → c.Rl G F' ow' σ' H' L → E.nx σ' H'
  | .ok .bk L => ∀ σ' H' F' ow', Same F F' → c.Rl G F' ow' σ' H' L → E.bk σ' H'
  | .ok .ct L => ∀ σ' H' F' ow', Same F F' → c.Rl G F' ow' σ' H' L → E.ct σ' H'
  | .ok (.rt s) L => ∀ v σ' H' F' ow', Same F F' → c.Rl G F' ow' σ' H' L → RS c.X.K c.ca F' H' ow' [0] s v → E.rt v H'
  | .err e L => ∀ σ' H' F' ow', Same F F' → c.Rl G F' ow' σ' H' L → c.W (.ref (c.ca e)) none σ' H'
  | .stuck => False
theorem Fit.up {c : Ct} {G F F1 : Hp} {r : R O} {E : Ends} (e : Same F F1) (h : Fit c G F r E) : Fit c G F1 r E := by
  cases r with
  | stuck => exact h
  | err k L => exact fun σ' H' F' ow' e' => h σ' H' F' ow' (e.trans e')
  | ok o L => cases o with
    | nx => exact fun σ' H' F' ow' e' => h σ' H' F' ow' (e.trans e')
    | bk => exact fun σ' H' F' ow' e' => h σ' H' F' ow' (e.trans e')
    | ct => exact fun σ' H' F' ow' e' => h σ' H' F' ow' (e.trans e')
    | rt s => exact fun v σ' H' F' ow' e' => h v σ' H' F' ow' (e.trans e')
def JdgS (c : Ct) (g : LS → R O) (t : TS) : Prop := ∀ G F ow σ H L, c.Rl G F ow σ H L → ∀ E : Ends, Fit c G F (g L) E → t E σ H
def JS (c : Ct) (s : Stmt) (g : LS → R O) : Prop := ∃ t, PS c.X s t ∧ JdgS c g t
def JB (c : Ct) (s : List Stmt) (g : LS → R O) : Prop := ∃ t, PSs c.X s t ∧ JdgS c g t
def Ct.free (c : Ct) (i : Nat) : Prop := c.pb[i]? ≠ some true

section
variable {c : Ct} {n n1 n2 n3 : Bool} {a b : Expr} {ga gb : LS → R D} {pos : Pos} {st : Stmt} {rest : List Stmt} {g g1 g2 : LS → R O}
def gNext : LS → R O := fun L => .ok .nx L
def gSeq (g1 g2 : LS → R O) : LS → R O := fun L => match g1 L with
  | .ok .nx L1 => g2 L1
  | r => r
theorem jb_nil : JB c [] gNext := ⟨_, pss_nil, fun G F ow σ H L Rr E h => h σ H F ow (Same.refl F) Rr⟩
theorem jb_cons (h1 : JS c st g1) (h2 : JB c rest g2) : JB c (st :: rest) (gSeq g1 g2) := by
  obtain ⟨t, p, q⟩ := h1
  obtain ⟨t', p', q'⟩ := h2
  refine ⟨_, pss_cons p p', fun G F ow σ H L Rr E h => ?_⟩
  refine q G F ow σ H L Rr { E with nx := t' E } ?_
  unfold gSeq at h
  cases hr : g1 L with
  | stuck => rw [hr] at h; exact h
  | err k L1 => rw [hr] at h; exact h
  | ok o L1 =>
    rw [hr] at h
    cases o with
    | nx => exact fun σ' H' F' ow' e R' => q' G F' ow' σ' H' L1 R' E (Fit.up e h)
    | bk => exact h
    | ct => exact h
    | rt s => exact h
theorem jb_one (h1 : JS c st g1) : JB c [st] g1 := by
  obtain ⟨t, p, q⟩ := h1
  exact ⟨_, pss_one p, q⟩
theorem js_continue : JS c (.Continue pos) (fun L => .ok .ct L) := ⟨_, ps_continue, fun G F ow σ H L Rr E h => h σ H F ow (Same.refl F) Rr⟩
theorem Post.use {α β : Type} {G F H : Hp} {σ : L2.St} {r : R α} {k : α → LS → R O} {B : Hp → Hp → (Addr → Option Path) → α → β → Prop} {t : (β → Hp → Prop) → Prop} {E : Ends} {Q : β → Hp → Prop}
    (h : Post c G n F H σ r B t) (f : Fit c G F (r.bind k) E)
    (hq : ∀ a L1 b H1 F1 ow1, r = .ok a L1 → Same F F1 → c.Rl G F1 ow1 σ H1 L1 → B F1 H1 ow1 a b → Fit c G F1 (k a L1) E → Q b H1) : t Q := by
  cases r with
  | stuck => exact f.elim
  | err e L1 => exact h (fun H' F' ow' e' R' => f σ H' F' ow' e' R') Q
  | ok a L1 => exact h Q fun b H1 F1 ow1 e1 _ R1 b1 => hq a L1 b H1 F1 ow1 rfl e1 R1 b1 (Fit.up e1 f)
def gDrop {α : Type} (g : LS → R α) : LS → R O := fun L => (g L).bind fun _ L1 => .ok .nx L1
theorem js_expr {g : LS → R S} (h : JE c n a g) (hs : swapsWith a none pos.line c.X.env = pure false := by rfl) : JS c (.Expr a pos) (gDrop g) := by
  obtain ⟨t, p, q⟩ := h
  refine ⟨_, ps_expr p hs, fun G F ow σ H L Rr E f => ?_⟩
  exact (q G F ow σ H L Rr).use f fun s L1 v H1 F1 ow1 _ _ R1 _ f1 => f1 σ H1 F1 ow1 (Same.refl F1) R1
def gRet (g : LS → R S) : LS → R O := fun L => (g L).bind fun s L1 => .ok (.rt s) L1
theorem js_ret {g : LS → R S} (h : JE c n a g) : JS c (.Return (some a) pos) (gRet g) := by
  obtain ⟨t, p, q⟩ := h
  refine ⟨_, ps_ret p, fun G F ow σ H L Rr E f => ?_⟩
  exact (q G F ow σ H L Rr).use f fun s L1 v H1 F1 ow1 _ _ R1 b1 f1 => f1 v σ H1 F1 ow1 (Same.refl F1) R1 b1
def gRetN : LS → R O := fun L => .ok (.rt (.d .none)) L
def gIf (t : LS → R Bool) (x y : LS → R O) : LS → R O := fun L => (t L).bind fun b L1 => if b = true then x L1 else y L1
theorem js_if {e : Expr} {xs ys : List Stmt} {t : LS → R Bool} (ht : JT c n e t) (hx : JB c xs g1) (hy : JB c ys g2) : JS c (.If e xs ys pos) (gIf t g1 g2) := by
  obtain ⟨t0, p0, q0⟩ := ht
  obtain ⟨t1, p1, q1⟩ := hx
  obtain ⟨t2, p2, q2⟩ := hy
  refine ⟨_, ps_if p0 p1 p2, fun G F ow σ H L Rr E f => ?_⟩
  refine (q0 G F ow σ H L Rr).use f fun b L1 b' H1 F1 ow1 _ _ R1 b1 f1 => ?_
  cases b1
  cases b with
  | true => exact q1 G F1 ow1 σ H1 L1 R1 E f1
  | false => exact q2 G F1 ow1 σ H1 L1 R1 E f1

section
variable {G F H : Hp} {ow : Addr → Option Path} {σ : L2.St} {L : LS}
theorem pin_set {i : Nat} {v : Option V} (Rr : c.Rl G F ow σ H L) (hp : c.free i) : ∀ (k : Nat) (u : V), (pinOf c.pb c.v0)[k]? = some (some u) → (σ.set i v)[k]? = some (some u) := fun k u h => by
  have hk : i ≠ k := fun z => by
    subst z
    exact hp (pinOf_mk h).1
  rw [List.getElem?_set_ne hk]
  exact Rr.pin k u h
theorem Rl.store {i : Nat} {s : S} {v : V} (Rr : c.Rl G F ow σ H L) (rs : RS c.X.K c.ca F H ow [0] s v) (hp : c.free i) : c.Rl G F (reroot ow 0 (i + 1)) (σ.set i (some v)) H (L.set i (some s)) := by
  refine Rr.moved (by rw [List.length_set, List.length_set]; exact Rr.len) (fun k s' h => ?_) (pin_set Rr hp)
  have hlt : k < σ.length := by
    have := (List.getElem?_eq_some_iff.mp h).1
    rw [List.length_set] at this
    rw [← Rr.len]
    exact this
  rcases set_get h with ⟨rfl, hs⟩ | ⟨hk, hs⟩
  · cases Option.some.inj hs
    exact .inr ⟨v, by rw [List.getElem?_set]; simp [hlt], rs.go (Same.refl F) keeps_reroot⟩
  · exact .inl ⟨hs, List.getElem?_set_ne hk, by omega⟩
theorem Rl.storeD {i : Nat} {d : D} {v : V} (Rr : c.Rl G F ow σ H L) (q : Dq c.X.K F v d) (hp : c.free i) : c.Rl G F ow (σ.set i (some v)) H (L.set i (some (.d d))) := by
  refine ⟨Rr.exF, Rr.exG, Rr.dF, Rr.dG, by rw [List.length_set, List.length_set]; exact Rr.len, fun k s' h => ?_, pin_set Rr hp, Rr.exB, Rr.dB⟩
  have hlt : k < σ.length := by
    have := (List.getElem?_eq_some_iff.mp h).1
    rw [List.length_set] at this
    rw [← Rr.len]
    exact this
  rcases set_get h with ⟨rfl, hs⟩ | ⟨hk, hs⟩
  · cases Option.some.inj hs
    exact ⟨v, by rw [List.getElem?_set]; simp [hlt], RT.of (.d q)⟩
  · obtain ⟨u, h1, h2⟩ := Rr.sl k s' hs
    exact ⟨u, (List.getElem?_set_ne hk).trans h1, h2⟩
theorem Rl.put {i : Nat} {l : Addr} {o : HO} {q : Path} {s : S} (Rr : c.Rl G F ow σ H L) (ho : ow l = some ((i + 1) :: q)) (new : ∃ v, σ[i]? = some (some v) ∧ RS c.X.K c.ca F (upd H l o) ow [i + 1] s v) (hk : ¬ kT o := by first | exact kT_lst | exact kT_dK | exact kT_dT | exact kT_ins) : c.Rl G F ow σ (upd H l o) (L.set i (some s)) := by
  obtain ⟨f0, g0, h0⟩ := Rr.dF l _ ho
  refine ⟨fun a u h => ?_, fun a u h => ?_, fun a p h => ?_, Rr.dG, by rw [List.length_set]; exact Rr.len, fun k s' h => ?_, Rr.pin, fun a u h => ?_, Rr.dB⟩
  · rw [upd_ne (ne_of_none h f0)]
    exact Rr.exF a u h
  · rw [upd_ne (ne_of_none h g0)]
    exact Rr.exG a u h
  · obtain ⟨x, y, z⟩ := Rr.dF a p h
    refine ⟨x, y, ?_⟩
    by_cases e : a = l
    · subst e
      rw [upd_same]
      exact .of hk
    · rw [upd_ne e]
      exact z
  · rcases set_get h with ⟨rfl, hs⟩ | ⟨hk, hs⟩
    · cases Option.some.inj hs
      obtain ⟨v, w1, w2⟩ := new
      exact ⟨v, w1, RT.of w2⟩
    · obtain ⟨u, h1, h2⟩ := Rr.sl k s' hs
      refine ⟨u, h1, h2.go (Same.refl F) fun a w e => ⟨upd_ne fun z => ?_, e⟩⟩
      subst z
      rw [ho] at e
      injection e with e
      injection e with e _
      omega
  · rw [upd_ne (ne_of_none h (Rr.dB l _ ho))]
    exact Rr.exB a u h
end
def gAsg (i : Nat) (g : LS → R S) : LS → R O := fun L => (g L).bind fun s L1 => .ok .nx (L1.set i (some s))
theorem jdgS_asg {i : Nat} {g : LS → R S} {t : TE} (hp : c.free i) (q : Jdg c n g (BE c.ca) t) : JdgS c (gAsg i g) (tAsg t (L2.gName i)) := fun G F ow σ H L Rr E f =>
  (q G F ow σ H L Rr).use f fun s L1 v H1 F1 ow1 _ _ R1 b1 f1 => f1 _ H1 F1 _ (Same.refl F1) (Rl.store R1 b1 hp)
theorem js_set (i : Nat) {x : Str} {g : LS → R S} {pos' : Pos} (hN : c.X.N.Nodup) (hi : c.X.N[i]? = some x) (hx : Loc c.X.env.scope x) (hp : c.free i) (h : JE c n a g) (hs : swapsWith a (some (.Name x pos')) pos.line c.X.env = pure false := by rfl)
    (hf : c.X.fn x = true ∨ c.X.env.scope.names.lookup x = some .local := by first | exact .inl rfl | exact .inr rfl | assumption) : JS c (.Assign [.Name x pos'] a pos) (gAsg i g) := by
  obtain ⟨t, p, q⟩ := h
  exact ⟨_, ps_set hN hi hx p hs hf, jdgS_asg hp q⟩

def OutOf (ws : List Nat) (σ σ' : L2.St) : Prop := σ'.length = σ.length ∧ ∀ k, k ∉ ws → σ'[k]? = σ[k]?
def JG (c : Ct) (tg : Expr) (ws : List Nat) (f : D → LS → Option LS) : Prop := ∃ t, PG c.X tg t ∧ ∀ G F ow σ H L d v L', c.Rl G F ow σ H L → Dq c.X.K F v d → f d L = some L' → ∀ Q : L2.St → Hp → Prop, (∀ σ', OutOf ws σ σ' → c.Rl G F ow σ' H L' → Q σ' H) → t v σ H Q
def JGs (c : Ct) (tgs : List Expr) (ws : List Nat) (f : List D → LS → Option LS) : Prop := ∃ t, PGs c.X tgs t ∧ ∀ G F ow σ H L ds vs L', c.Rl G F ow σ H L → DqA c.X.K F vs ds → f ds L = some L' → ∀ Q : L2.St → Hp → Prop, (∀ σ', OutOf ws σ σ' → c.Rl G F ow σ' H L' → Q σ' H) → t vs σ H Q
def fName (i : Nat) : D → LS → Option LS := fun d L => some (L.set i (some (.d d)))
theorem jg_name (i : Nat) {x : Str} (hp : c.free i) (h : PG c.X (.Name x pos) (L2.gName i)) : JG c (.Name x pos) [i] (fName i) :=
  ⟨_, h, fun G F ow σ H L d v L' Rr q e Q k => by
    cases e
    refine k _ ⟨List.length_set .., fun k hk => List.getElem?_set_ne fun z => hk ?_⟩ (Rl.storeD Rr q hp)
    rw [z]
    exact List.mem_singleton.mpr rfl⟩
def fNil : List D → LS → Option LS
  | [], L => some L
  | _ :: _, _ => none
def fCons (f : D → LS → Option LS) (r : List D → LS → Option LS) : List D → LS → Option LS
  | d :: ds, L => (f d L).bind (r ds)
  | [], _ => none
theorem jgs_nil : JGs c [] [] fNil := ⟨_, pgs_nil, fun G F ow σ H L ds vs L' Rr q e Q k => by
  cases q with
  | nil =>
    cases e
    exact ⟨rfl, k σ ⟨rfl, fun _ _ => rfl⟩ Rr⟩
  | cons _ _ => cases e⟩
theorem jgs_cons {e : Expr} {es : List Expr} {ws vs : List Nat} {f : D → LS → Option LS} {r : List D → LS → Option LS} (h1 : JG c e ws f) (h2 : JGs c es vs r) (hs : (assignEach (e :: es) c.X.env).map (·.2) = assign e c.X.env :: (assignEach es c.X.env).map (·.2) := by rfl) : JGs c (e :: es) (ws ++ vs) (fCons f r) := by
  obtain ⟨t, p, q⟩ := h1
  obtain ⟨t', p', q'⟩ := h2
  refine ⟨_, pgs_cons p p' hs, fun G F ow σ H L ds vs L' Rr hd e Q k => ?_⟩
  cases hd with
  | nil => cases e
  | cons h1 h2 =>
    obtain ⟨L1, e1, e2⟩ := Option.bind_eq_some_iff.mp e
    refine ⟨_, _, rfl, q G F ow σ H L _ _ L1 Rr h1 e1 _ fun σ' o1 R' => q' G F ow σ' H L1 _ _ L' R' h2 e2 Q fun σ2 o2 R2 => k σ2 ⟨o2.1.trans o1.1, fun k hk => ?_⟩ R2⟩
    rw [List.mem_append, not_or] at hk
    exact (o2.2 k hk.2).trans (o1.2 k hk.1)
def fTup (m : Nat) (f : List D → LS → Option LS) : D → LS → Option LS
  | .tuple ds, L => if ds.length = m then f ds L else none
  | _, _ => none
theorem jg_tup {es : List Expr} {k m : Nat} {ws : List Nat} {f : List D → LS → Option LS} (hc : c.X.calm = true) (h : JGs c es ws f) (hm : (assignEach es c.X.env).length = m := by rfl) (hst : (assignEach es c.X.env).findIdx? (·.1) = none := by rfl) : JG c (.Tuple es k pos) ws (fTup m f) := by
  obtain ⟨t, p, q⟩ := h
  refine ⟨_, pg_tup hc p hm hst, fun G F ow σ H L d v L' Rr hd e Q k => ?_⟩
  cases hd with
  | tup h1 h2 =>
    rename_i l vs ds
    have e : (if ds.length = m then f ds L else none) = some L' := e
    by_cases hl : ds.length = m
    · rw [if_pos hl] at e
      exact ⟨l, vs, rfl, sqt_same Rr.exF h1, h2.len.trans hl, q G F ow σ H L ds vs L' Rr h2 e Q k⟩
    · rw [if_neg hl] at e
      cases e
  | _ => cases e
def gAsgT (f : D → LS → Option LS) (g : LS → R D) : LS → R O := fun L => (g L).bind fun d L1 => match f d L1 with
  | some L2 => .ok .nx L2
  | none => .stuck
def gOwnL (i : Nat) (k : List D → LS → R S) : LS → R S := fun L => match L[i]? with
  | some (some (.ol ds)) => k ds L
  | _ => .stuck
theorem ownL_at {G F H : Hp} {ow : Addr → Option Path} {σ : L2.St} {L : LS} {i : Nat} {ds : List D} (Rr : c.Rl G F ow σ H L) (h : L[i]? = some (some (.ol ds))) :
    ∃ l vs, σ[i]? = some (some (.ref l)) ∧ H l = some (.lst vs) ∧ ow l = some [i + 1] ∧ DqA c.X.K F vs ds := by
  obtain ⟨v, hv, rs⟩ := Rr.sl i _ h
  cases rs with
  | ol a b q => exact ⟨_, _, hv, a, b, q⟩
theorem Rl.putL {G F H : Hp} {ow : Addr → Option Path} {σ : L2.St} {L : LS} {i : Nat} {l : Addr} {vs : List V} {ds : List D} (Rr : c.Rl G F ow σ H L) (hv : σ[i]? = some (some (.ref l))) (ho : ow l = some [i + 1]) (q : DqA c.X.K F vs ds) :
    c.Rl G F ow σ (upd H l (.lst vs)) (L.set i (some (.ol ds))) := Rl.put Rr ho ⟨_, hv, .ol upd_same ho q⟩
def gApp (i : Nat) (g : LS → R D) : LS → R S := gOwnL i fun _ L => (g L).bind fun d L1 => gOwnL i (fun ds L2 => if ds.length < sizeLine then .ok (.d .none) (L2.set i (some (.ol (ds ++ [d])))) else .stuck) L1
theorem je_append (i : Nat) {x : Str} {p apos : Pos} (h : PE c.X (.Name x p) (tVar i)) (ha : JD c n a ga)
    (hbase : attributeBase (.Name x p) "append" c.X.env (eval (.Name x p) c.X.env) = eval (.Name x p) c.X.env := by rfl)
    (hfew : ((backTo pos (starEach [a] c.X.env)).all (fun x => !x.1) && (backToKw pos (keywordEach [] c.X.env)).all (fun x => x.1.isSome) && decide ([a].length + ([] : List Keyword).length + (if ([] : List Keyword).isEmpty then 0 else 1) < 30)) = true := by rfl)
    (hline : (apos.endLine == pos.line) = true := by rfl) (hs : starEach [a] c.X.env = (false, eval a c.X.env) :: starEach [] c.X.env := by rfl) (hplain : (backTo pos (starEach [] c.X.env)).any (·.1) = false := by rfl) :
    JE c false (.Call (.Attribute (.Name x p) "append" apos) [a] [] pos) (gApp i ga) := by
  obtain ⟨ta, pa, qa⟩ := ha
  refine ⟨_, pe_bm PySem.F.plainAttrs_list PySem.F.slot_list_append PySem.F.type_list_append mt_append h (pa_cons pa pa_nil hs) hbase hfew hline hs hplain, fun G F ow σ H L Rr => ?_⟩
  unfold gApp gOwnL
  cases hL : L[i]? with
  | none => trivial
  | some o =>
    cases o with
    | none => trivial
    | some s =>
      cases s with
      | ol ds0 =>
        obtain ⟨l, vs0, hv, h0, _, _⟩ := ownL_at Rr hL
        have key := (qa G F ow σ H L Rr).bind (n2 := false) (k := fun d L1 => gOwnL i (fun ds L2 => if ds.length < sizeLine then R.ok (S.d .none) (L2.set i (some (.ol (ds ++ [d])))) else .stuck) L1) (B2 := BE c.ca c.X.K) (t2 := fun y H1 Q => rAppend (.ref l) [y] H1 Q)
          fun d L1 v H1 F1 ow1 _ _ _ R1 b1 => by
            unfold gOwnL
            cases hL1 : L1[i]? with
            | none => trivial
            | some o =>
              cases o with
              | none => trivial
              | some s =>
                cases s with
                | ol ds =>
                  obtain ⟨l', vs, hv', h1, h2, h3⟩ := ownL_at R1 hL1
                  rw [hv] at hv'
                  cases hv'
                  refine Post.guard fun hz => ?_
                  intro Q q
                  exact ⟨l, vs, v, rfl, rfl, h1, by rw [h3.len]; exact hz, q _ _ F1 ow1 (Same.refl F1) (fun z => nomatch z) (Rl.putL R1 hv h2 (h3.append (.one b1))) (.d .non)⟩
                | _ => trivial
        rw [Bool.and_false] at key
        exact key.imp fun Q q => ⟨_, hv, .inl ⟨rfl, _, .of h0⟩, q⟩
      | _ => trivial
def setAt (i : Nat) (d : D) : D → LS → R O
  | .int k, L => (match L[i]? with
    | some (some (.ol ds)) => (match ixN ds.length k with
      | some j => .ok .nx (L.set i (some (.ol (ds.set j d))))
      | none => .stuck)
    | _ => .stuck)
  | _, _ => .stuck
def gSetIx (i : Nat) (gk g : LS → R D) : LS → R O := fun L => (g L).bind fun d L1 => match L1[i]? with
  | some (some _) => (gk L1).bind (setAt i d)
  | _ => .stuck
theorem js_setIx (i : Nat) {x : Str} {k : Expr} {gk : LS → R D} {p p3 : Pos} (h : PE c.X (.Name x p) (tVar i)) (hk : JD c n1 k gk) (ha : JD c n2 a ga)
    (hb : ∀ v, assign (.Subscript (.Name x p) k p3) c.X.env v = (do
      let ov ← holding [v] (eval (.Name x p) c.X.env)
      let iv ← holding [v, ov] (eval k c.X.env)
      standAt p3
      holding [v, ov, iv] (setItem ov iv v)
      release [v, ov, iv] []) := by intro _; rfl)
    (hs : swapsWithSole [.Subscript (.Name x p) k p3] a pos.line c.X.env = pure false := by rfl) (hw : swappedStores [.Subscript (.Name x p) k p3] a c.X.env = pure none := by rfl) (h1 : (assignEach [.Subscript (.Name x p) k p3] c.X.env).map (·.2) = [assign (.Subscript (.Name x p) k p3) c.X.env] := by rfl) :
    JS c (.Assign [.Subscript (.Name x p) k p3] a pos) (gSetIx i gk ga) := by
  obtain ⟨ta, pa, qa⟩ := ha
  obtain ⟨tk, pk, qk⟩ := hk
  refine ⟨_, ps_asg pa (pg_sub h pk set_list hb) hs hw h1, fun G F ow σ H L Rr E ft => ?_⟩
  refine (qa G F ow σ H L Rr).use ft fun d L1 v H1 F1 ow1 _ _ R1 b1 f1 => ?_
  cases hL : L1[i]? with
  | none => rw [hL] at f1; exact f1.elim
  | some o =>
    rw [hL] at f1
    cases o with
    | none => exact f1.elim
    | some s =>
      obtain ⟨u, hu, _⟩ := R1.sl i s hL
      refine ⟨u, hu, ?_⟩
      refine (qk G F1 ow1 σ H1 L1 R1).use f1 fun e L2 w H2 F2 ow2 _ e2 R2 b2 f2 => ?_
      cases b2 with
      | int m =>
        have f2 : Fit c G F2 (match L2[i]? with
          | some (some (.ol ds)) => (match ixN ds.length m with
            | some j => R.ok .nx (L2.set i (some (.ol (ds.set j d))))
            | none => .stuck)
          | _ => .stuck) E := f2
        cases hL2 : L2[i]? with
        | none => rw [hL2] at f2; exact f2.elim
        | some o =>
          rw [hL2] at f2
          cases o with
          | none => exact f2.elim
          | some s =>
            cases s with
            | ol ds =>
              obtain ⟨l, vs, hv', h1', h2, h3⟩ := ownL_at R2 hL2
              rw [hu] at hv'
              cases hv'
              dsimp only at f2
              cases hj : ixN ds.length m with
              | none => rw [hj] at f2; exact f2.elim
              | some j =>
                rw [hj] at f2
                exact ⟨l, vs, m, j, rfl, rfl, h1', by rw [h3.len]; exact hj, f2 _ _ F2 ow2 (Same.refl F2) (Rl.putL R2 hu h2 (h3.set (b1.up e2) j))⟩
            | _ => exact f2.elim
      | _ => exact f2.elim

def ItOk (K : PySem.W.Frag) (B F : Hp) (ds : List D) (J : It) : Prop := ∀ (i : Nat) (H : Hp), Same F H → Same B H → (ds.length ≤ i → J.stop i H) ∧ ∀ d, ds[i]? = some d → J.go i H ∧ ∀ x H', J.yld i H x H' →
  (H' = H ∧ Dq K F x d) ∨ ∃ p vs es, d = .tuple es ∧ x = .ref p ∧ H p = none ∧ H' = upd H p (.tup vs) ∧ DqA K F vs es
theorem ItOk.up {K : PySem.W.Frag} {B F F' : Hp} {ds : List D} {J : It} (e : Same F F') (h : ItOk K B F ds J) : ItOk K B F' ds J := fun i H s sb => by
  obtain ⟨h1, h2⟩ := h i H (e.trans s) sb
  refine ⟨h1, fun d hd => ?_⟩
  obtain ⟨h3, h4⟩ := h2 d hd
  refine ⟨h3, fun x H' y => ?_⟩
  rcases h4 x H' y with ⟨a, b⟩ | ⟨p, vs, es, a, b, c, d, q⟩
  · exact .inl ⟨a, b.up e⟩
  · exact .inr ⟨p, vs, es, a, b, c, d, q.up e⟩
def BI (B : Hp) : PySem.W.Frag → Hp → Hp → (Addr → Option Path) → List D → It → Prop := fun K F _ _ ds J => ItOk K B F ds J
def JI (c : Ct) (n : Bool) (tg iter : Expr) (g : LS → R (List D)) : Prop := ∃ wi, PI c.X tg iter wi ∧ Jdg c n g (BI c.B) wi
def asL : D → LS → R (List D)
  | .list ds, L => .ok ds L
  | _, _ => .stuck
def asT : D → LS → R (List D)
  | .tuple ds, L => .ok ds L
  | _, _ => .stuck
variable {tg : Expr}
def intsD (lo : Int) (m : Nat) : List D := (List.range m).map fun i => PyData.int (lo + (i : Nat))
theorem intsD_len (lo : Int) (m : Nat) : (intsD lo m).length = m := by
  unfold intsD
  rw [List.length_map, List.length_range]
theorem itr_ok {K : PySem.W.Frag} {B F : Hp} {lo : Int} {m : Nat} : ItOk K B F (intsD lo m) (Itr lo m) := fun i H s _ => by
  rw [intsD_len]
  refine ⟨fun h => h, fun d hd => ?_⟩
  have hi : i < m := by
    have := (List.getElem?_eq_some_iff.mp hd).1
    rw [intsD_len] at this
    exact this
  unfold intsD at hd
  rw [List.getElem?_map, List.getElem?_range hi] at hd
  cases hd
  exact ⟨hi, fun x H' ⟨e1, e2⟩ => .inl ⟨e1, by rw [e2]; exact .int _⟩⟩
def rng1 : List D → LS → R (List D)
  | [.int j], L => if -(2 ^ 62) ≤ j ∧ j < 2 ^ 62 then .ok (intsD 0 j.toNat) L else .stuck
  | _, _ => .stuck
theorem ji_range1 {gs : LS → R (List D)} {p : Pos} (hg : Gl c.X "range") (hm : c.X.mg "range" = none) (h : JA c n [a] gs) (hs : starEach [a] c.X.env = [(false, eval a c.X.env)] := by rfl) : JI c n tg (.Call (.Name "range" p) [a] [] pos) (fun L => (gs L).bind rng1) := by
  obtain ⟨t, pa, q⟩ := h
  refine ⟨_, pi_range1 hg hm pa hs, fun G F ow σ H L Rr => (q G F ow σ H L Rr).bind1 (t2 := fun vs H1 Q => ∃ j : Int, vs = [V.int j] ∧ -(2 ^ 62) ≤ j ∧ j < 2 ^ 62 ∧ Q (Itr 0 j.toNat) H1) fun ds L1 vs H1 F1 ow1 _ _ _ R1 b1 => ?_⟩
  cases b1 with
  | nil => trivial
  | cons x y =>
    cases y with
    | cons _ _ => cases x <;> trivial
    | nil =>
      cases x with
      | int j => exact Post.guard fun hj => (Post.val (a := intsD 0 j.toNat) (b := Itr 0 j.toNat) (B := BI c.B c.X.K) R1 itr_ok).imp fun Q q => ⟨j, rfl, hj.1, hj.2, q⟩
      | _ => trivial
def forGo (f : D → LS → Option LS) (g : LS → R O) : List D → LS → R O
  | [], L => .ok .nx L
  | d :: ds, L => match f d L with
    | none => .stuck
    | some L1 => match g L1 with
      | .ok .nx L2 => forGo f g ds L2
      | .ok .ct L2 => forGo f g ds L2
      | .ok .bk L2 => .ok .nx L2
      | r => r
def gFor (gi : LS → R (List D)) (f : D → LS → Option LS) (g : LS → R O) : LS → R O := fun L => (gi L).bind fun ds L1 => forGo f g ds L1
theorem js_for {ws : List Nat} {iter : Expr} {body : List Stmt} {gi : LS → R (List D)} {f : D → LS → Option LS} (hp : PassesOwn (model c.X.prog c.X.w) c.X.A c.X.env c.X.xe) (hc : c.X.calm = true) (hi : JI c n tg iter gi) (hg : JG c tg ws f) (hb : JB c body g)
    (hs : ∀ x, foldedSetIterable iter c.X.env x = pure x := by intro _; rfl) : JS c (.For tg iter body [] pos) (gFor gi f g) := by
  obtain ⟨wi, p1, q1⟩ := hi
  obtain ⟨tt, p2, q2⟩ := hg
  obtain ⟨tb, p3, q3⟩ := hb
  refine ⟨_, ps_for hp hc p1 p2 p3 hs, fun G F ow σ H L Rr E ft => ?_⟩
  refine (q1 G F ow σ H L Rr).use ft fun ds L1 J H1 F1 ow1 _ _ R1 b1 f1 => ?_
  refine ⟨fun i m σ H => m = ds.length - i ∧ i ≤ ds.length ∧ ∃ F' ow' L', Same F1 F' ∧ c.Rl G F' ow' σ H L' ∧ Fit c G F' (forGo f g (ds.drop i) L') E, ⟨ds.length, rfl, Nat.zero_le _, F1, ow1, L1, Same.refl F1, R1, f1⟩, fun i m σ2 H2 hW => ?_⟩
  obtain ⟨rfl, hi, F2, ow2, L2, e2, R2, f2⟩ := hW
  obtain ⟨k1, k2⟩ := (ItOk.up e2 b1) i H2 R2.exF R2.exB
  by_cases hlt : i < ds.length
  · have hd : ds[i]? = some ds[i] := List.getElem?_eq_getElem hlt
    obtain ⟨k3, k4⟩ := k2 _ hd
    rw [List.drop_eq_getElem_cons hlt] at f2
    refine .inr ⟨k3, fun σ' H' => ∃ F' ow' L', Same F1 F' ∧ c.Rl G F' ow' σ' H' L' ∧ Fit c G F' (forGo f g (ds.drop (i + 1)) L') E, fun σ' H' ⟨F', ow', L', w1, w2, w3⟩ => ⟨ds.length - (i + 1), by omega, rfl, hlt, F', ow', L', w1, w2, w3⟩, fun x H' y => ?_⟩
    have step : ∀ {F3 : Hp} {H3 : Hp}, Same F2 F3 → c.Rl G F3 ow2 σ2 H3 L2 → Dq c.X.K F3 x ds[i] → tt x σ2 H3 fun σ4 H4 => tb { nx := fun σ' H' => ∃ F' ow' L', Same F1 F' ∧ c.Rl G F' ow' σ' H' L' ∧ Fit c G F' (forGo f g (ds.drop (i + 1)) L') E, rt := E.rt, bk := E.nx, ct := fun σ' H' => ∃ F' ow' L', Same F1 F' ∧ c.Rl G F' ow' σ' H' L' ∧ Fit c G F' (forGo f g (ds.drop (i + 1)) L') E } σ4 H4 := fun {F3 H3} e3 R3 hx => by
      have f3 : Fit c G F3 (forGo f g (ds[i] :: ds.drop (i + 1)) L2) E := Fit.up e3 f2
      unfold forGo at f3
      cases hf : f ds[i] L2 with
      | none => rw [hf] at f3; exact f3.elim
      | some L3 =>
        rw [hf] at f3
        refine q2 G F3 ow2 σ2 H3 L2 _ x L3 R3 hx hf _ fun σ4 _ R4 => ?_
        refine q3 G F3 ow2 σ4 H3 L3 R4 _ ?_
        dsimp only at f3
        cases hr : g L3 with
        | stuck => rw [hr] at f3; exact f3.elim
        | err k L4 => rw [hr] at f3; exact f3
        | ok o L4 =>
          rw [hr] at f3
          cases o with
          | nx => exact fun σ' H' F' ow' e' R' => ⟨F', ow', L4, (e2.trans e3).trans e', R', Fit.up e' f3⟩
          | ct => exact fun σ' H' F' ow' e' R' => ⟨F', ow', L4, (e2.trans e3).trans e', R', Fit.up e' f3⟩
          | bk => exact f3
          | rt s => exact f3
    rcases k4 x H' y with ⟨rfl, hx⟩ | ⟨p, vs, es, he, rfl, hp', rfl, hq⟩
    · exact step (Same.refl F2) R2 hx
    · obtain ⟨w1, w2, w3⟩ := R2.newF (o := .tup vs) hp'
      rw [he] at step
      exact step w1 w3 (.tup upd_same (hq.up w1))
  · have hl : ds.length ≤ i := Nat.le_of_not_lt hlt
    rw [List.drop_eq_nil_of_le hl] at f2
    exact .inl ⟨k1 hl, f2 σ2 H2 F2 ow2 (Same.refl F2) R2⟩
end
end VS

namespace VS
open PySem PySem.Spec PyProof.Rows L2

def maskL : List Bool → LS → LS
  | b :: bs, o :: L => (if b then o else none) :: maskL bs L
  | _ :: bs, [] => none :: maskL bs []
  | [], _ => []
def endOf (md : List Bool) : R O → R S
  | .ok .nx L => .ok (.d .none) (maskL md L)
  | .ok (.rt s) L => .ok s (maskL md L)
  | .ok _ _ => .stuck
  | .err e L => .err e (maskL md L)
  | .stuck => .stuck
def runDef (md : List Bool) (N : Nat) (g : LS → R O) : LS → R S := fun ss => endOf md (g (ss ++ List.replicate (N - ss.length) none))
def VSp (K : PySem.W.Frag) (ca : Nat → Addr) (md : List Bool) (m : LS → R S) : Sp := fun vs H Q E => ∃ B G F ow ss, ss.length = md.length ∧ Rl K ca B [] G F ow (vs.map some) H ss ∧ match m ss with
  | .ok s L => ∀ v H' F' ow', Same F F' → Rl K ca B [] G F' ow' (vs.map some) H' L → RS K ca F' H' ow' [0] s v → Q v H'
  | .err e L => ∀ H' F' ow', Same F F' → Rl K ca B [] G F' ow' (vs.map some) H' L → E (.ref (ca e)) none H'
  | .stuck => False
theorem VSp.len {K : PySem.W.Frag} {ca : Nat → Addr} {md : List Bool} {m : LS → R S} {vs : List V} {H : Hp} {Q : VK} {E : XK} (h : VSp K ca md m vs H Q E) : vs.length = md.length := by
  obtain ⟨B, G, F, ow, ss, h1, h2, _⟩ := h
  have := h2.len
  rw [List.length_map] at this
  omega
theorem maskL_get : ∀ {md : List Bool} {L : LS} {i : Nat} {s : S}, (maskL md L)[i]? = some (some s) → md[i]? = some true ∧ L[i]? = some (some s)
  | b :: bs, o :: L, 0, s, h => by
    have h' : (if b then o else none) = some s := Option.some.inj h
    cases b with
    | true => exact ⟨rfl, congrArg some h'⟩
    | false => cases h'
  | b :: bs, o :: L, i + 1, s, h => maskL_get (md := bs) (L := L) (i := i) h
  | b :: bs, [], 0, s, h => by cases h
  | b :: bs, [], i + 1, s, h => by
    have := (maskL_get (md := bs) (L := []) (i := i) (s := s) h).2
    cases this
  | [], _, _, _, h => by cases h
theorem maskL_len : ∀ (md : List Bool) (L : LS), (maskL md L).length = md.length
  | [], L => by cases L <;> rfl
  | b :: bs, [] => by
    show (maskL bs []).length + 1 = _
    rw [maskL_len bs []] <;> rfl
  | b :: bs, o :: L => by
    show (maskL bs L).length + 1 = _
    rw [maskL_len bs L] <;> rfl
section
variable {P : Program} {w : World} {K : PySem.W.Frag} {mg : Str → Option Value} {base : Heap} {ca : Nat → Addr}
abbrev ctOf (P : Program) (w : World) (K : PySem.W.Frag) (mg : Str → Option Value) (base : Heap) (ca : Nat → Addr) (N : List Str) (qual : Str) (sc : Scope) (f : Addr) (cdv : Value) (A : Around) (outer : List Env) (s : Shared) (H : Hp) (E : XK) (md : List Bool) (vs : List V) (B : Hp := fun _ => none) : Ct :=
  ⟨cxOf (L2.CX P w) P w K mg base N qual sc f cdv A outer s H E, fun cls d _ H => E cls d H, ca, md, vs, B⟩
theorem vf_of {x qual : Str} {st : Stmt} {f : Addr} {fd : FuncData} {N ps : List Str} {k : Nat} {md : List Bool} {g : LS → R O} (F : Fun K x qual st f fd) (S : FnScope N ps (defScope st)) (hmd : md.length = ps.length) (hN : ps.length ≤ N.length)
    (hb : ∀ (cdv : Value) (A : Around) (outer : List Env) (s : Shared) (H : Hp) (E : XK) (vs : List V), Room k (A.deeper (envOfC qual (defScope st) s.heap.objs.size f cdv)) → ∀ B : Hp, JB (ctOf P w K mg base ca N qual (defScope st) f cdv A outer s H E md vs B) (defBody st) g) :
    FnOk P w K mg base (L2.CX P w) (k + 1) f fd ps (VSp K ca md (runDef md N.length g)) := by
  refine F.okX S (fun vs H Q E h => h.len.trans hmd) (fun cdv A outer s H vs Q E hr h => ?_)
  have hlen : vs.length = md.length := h.len
  obtain ⟨B, G, F0, ow, ss, h1, h2, h3⟩ := h
  obtain ⟨t, ht, hq⟩ := hb cdv A outer s H E vs hr B
  refine ⟨t, ht, ?_⟩
  have hlv : ss.length = vs.length := by
    have := h2.len
    rw [List.length_map] at this
    exact this
  have pinv : ∀ (i : Nat) (v : V), (pinOf md vs)[i]? = some (some v) → (vs.map some)[i]? = some (some v) := fun i v h => by
    rw [List.getElem?_map, (pinOf_mk h).2]
    rfl
  have R0 : Rl K ca B (pinOf md vs) G F0 ow (L2.start N vs) H (ss ++ List.replicate (N.length - ss.length) none) := by
    refine ⟨h2.exF, h2.exG, h2.dF, h2.dG, ?_, fun i s0 hi => ?_, fun i v hi => ?_, h2.exB, h2.dB⟩
    · unfold L2.start
      rw [List.length_append, List.length_append, List.length_replicate, List.length_replicate, List.length_map, hlv]
    · have hlt : i < ss.length := by
        by_cases z : i < ss.length
        · exact z
        · rw [List.getElem?_append_right (Nat.le_of_not_lt z), List.getElem?_replicate] at hi
          split at hi <;> cases hi
      rw [List.getElem?_append_left hlt] at hi
      obtain ⟨v, q1, q2⟩ := h2.sl i s0 hi
      refine ⟨v, ?_, q2⟩
      unfold L2.start
      rw [List.getElem?_append_left (by rw [List.length_map]; omega)]
      exact q1
    · have q := pinv i v hi
      unfold L2.start
      rw [List.getElem?_append_left (List.getElem?_eq_some_iff.mp q).1]
      exact q
  have back : ∀ {σ' : L2.St} {H' F' : Hp} {ow' : Addr → Option Path} {L : LS}, Rl K ca B (pinOf md vs) G F' ow' σ' H' L → Rl K ca B [] G F' ow' (vs.map some) H' (maskL md L) := fun {σ' H' F' ow' L} r => by
    refine ⟨r.exF, r.exG, r.dF, r.dG, ?_, fun i s0 hi => ?_, (fun i v hi => nomatch hi), r.exB, r.dB⟩
    · rw [maskL_len, List.length_map, hlen]
    · obtain ⟨m1, m2⟩ := maskL_get hi
      obtain ⟨v, q1, q2⟩ := r.sl i s0 m2
      have hlt : i < vs.length := by
        have := (List.getElem?_eq_some_iff.mp m1).1
        omega
      have hpin := r.pin i vs[i] (pinOf_at m1 (List.getElem?_eq_getElem hlt))
      rw [hpin] at q1
      cases q1
      exact ⟨_, by rw [List.getElem?_map, List.getElem?_eq_getElem hlt]; rfl, q2⟩
  refine hq G F0 ow (L2.start N vs) H _ R0 _ ?_
  unfold runDef at h3
  cases hr : g (ss ++ List.replicate (N.length - ss.length) none) with
  | stuck => rw [hr] at h3; exact h3
  | err e L =>
    rw [hr] at h3
    exact fun σ' H' F' ow' e' R' => h3 H' F' ow' e' (back R')
  | ok o L =>
    rw [hr] at h3
    cases o with
    | nx => exact fun σ' H' F' ow' e' R' => h3 .non H' F' ow' e' (back R') (.d .non)
    | rt s0 => exact fun v σ' H' F' ow' e' R' rs => h3 v H' F' ow' e' (back R') rs
    | bk => exact h3.elim
    | ct => exact h3.elim
end
end VS

namespace VS
open PySem PySem.Spec PyProof.Rows L2

inductive Ar where
  | d (g : LS → R D)
  | r (i : Nat)
inductive Av where
  | d (d : D)
  | r (i : Nat)
def evArgs : List Ar → LS → R (List Av)
  | [], L => .ok [] L
  | .d g :: as, L => (g L).bind fun d L1 => (evArgs as L1).bind fun xs L2 => .ok (.d d :: xs) L2
  | .r i :: as, L => match L[i]? with
    | some (some _) => (evArgs as L).bind fun xs L2 => .ok (.r i :: xs) L2
    | _ => .stuck
def AvOk (K : PySem.W.Frag) (σ : L2.St) (F : Hp) : List Av → List V → Prop := Paired fun x v => match x with
  | .d d => Dq K F v d
  | .r i => σ[i]? = some (some v)
theorem AvOk.up {K : PySem.W.Frag} {σ : L2.St} {F F' : Hp} {xs : List Av} {vs : List V} (e : Same F F') (h : AvOk K σ F xs vs) : AvOk K σ F' xs vs := Paired.mapP h fun x v z => by
  cases x with
  | d d => exact Dq.up e z
  | r i => exact z
def allD : List Ar → Bool
  | [] => true
  | .d _ :: as => allD as
  | .r _ :: _ => false
def refs : List Av → List Nat
  | [] => []
  | .d _ :: xs => refs xs
  | .r i :: xs => i :: refs xs
def JAr (c : Ct) (n : Bool) (es : List Expr) (as : List Ar) : Prop := ∃ t, PA c.X es t ∧ ∀ G F ow σ H L, c.Rl G F ow σ H L → Post c G n F H σ (evArgs as L) (fun F' _ _ xs vs => AvOk c.X.K σ F' xs vs ∧ (allD as = true → refs xs = [])) (t σ H)
section
variable {c : Ct} {n n1 n2 n3 : Bool} {a b : Expr} {ga gb : LS → R D} {pos : Pos} {es : List Expr} {as : List Ar}
theorem jar_nil : JAr c true [] [] := ⟨_, pa_nil, fun G F ow σ H L Rr => Post.val Rr ⟨.nil, fun _ => rfl⟩⟩
theorem jar_d (h1 : JD c n1 a ga) (h2 : JAr c n2 es as) (hs : starEach (a :: es) c.X.env = (false, eval a c.X.env) :: starEach es c.X.env := by rfl) : JAr c (n1 && n2) (a :: es) (.d ga :: as) := by
  obtain ⟨t1, p1, q1⟩ := h1
  obtain ⟨t2, p2, q2⟩ := h2
  refine ⟨_, pa_cons p1 p2 hs, fun G F ow σ H L Rr => ?_⟩
  refine (q1 G F ow σ H L Rr).bind fun d L1 v H1 F1 ow1 _ _ _ R1 b1 => ?_
  exact (q2 G F1 ow1 σ H1 L1 R1).bind1 (t2 := fun vs H2 Q => Q (v :: vs) H2) fun xs L2 vs H2 F2 ow2 _ e2 _ R2 b2 => Post.val R2 ⟨.cons (Dq.up e2 b1) b2.1, fun h => b2.2 h⟩
theorem jar_r (i : Nat) {x : Str} {p : Pos} (h1 : PE c.X (.Name x p) (tVar i)) (h2 : JAr c n es as) (hs : starEach (.Name x p :: es) c.X.env = (false, eval (.Name x p) c.X.env) :: starEach es c.X.env := by rfl) : JAr c n (.Name x p :: es) (.r i :: as) := by
  obtain ⟨t2, p2, q2⟩ := h2
  refine ⟨_, pa_cons h1 p2 hs, fun G F ow σ H L Rr => ?_⟩
  unfold evArgs
  cases hL : L[i]? with
  | none => trivial
  | some o =>
    cases o with
    | none => trivial
    | some s =>
      obtain ⟨v, hv, _⟩ := Rr.sl i s hL
      exact ((q2 G F ow σ H L Rr).bind1 (t2 := fun vs H2 Q => Q (v :: vs) H2) fun xs L2 vs H2 F2 ow2 _ e2 _ R2 b2 => Post.val (B := fun F' _ _ xs vs => AvOk c.X.K σ F' xs vs ∧ (allD (.r i :: as) = true → refs xs = [])) R2 ⟨.cons hv b2.1, fun h => nomatch h⟩).imp fun Q q => ⟨v, hv, q⟩

def slotOf (L : LS) : Av → Option S
  | .d d => some (.d d)
  | .r i => (L[i]?).join
def putBack : List Av → LS → LS → LS
  | .r i :: xs, o :: ss, L => putBack xs ss (L.set i o)
  | .d _ :: xs, _ :: ss, L => putBack xs ss L
  | _, _, L => L
def callAt (m : LS → R S) (xs : List Av) (L : LS) : R S := match m (xs.map (slotOf L)) with
  | .ok s ss => .ok s (putBack xs ss L)
  | .err e ss => .err e (putBack xs ss L)
  | .stuck => .stuck
def gCall (m : LS → R S) (as : List Ar) : LS → R S := fun L => (evArgs as L).bind fun xs L1 => if (refs xs).Nodup then callAt m xs L1 else .stuck
def posR : List Av → Nat → Option Nat
  | [], _ => none
  | .r k :: xs, i => if k = i then some 0 else (posR xs i).map (· + 1)
  | .d _ :: xs, i => (posR xs i).map (· + 1)
theorem posR_at : ∀ {xs : List Av} {i j : Nat}, posR xs i = some j → xs[j]? = some (Av.r i)
  | .r k :: xs, i, j, h => by
    have h : (if k = i then some 0 else (posR xs i).map (· + 1)) = some j := h
    by_cases hk : k = i
    · rw [if_pos hk] at h
      cases h
      rw [hk]
      rfl
    · rw [if_neg hk] at h
      obtain ⟨l, h1, rfl⟩ := Option.map_eq_some_iff.mp h
      exact posR_at (xs := xs) h1
  | .d _ :: xs, i, j, h => by
    obtain ⟨l, h1, rfl⟩ := Option.map_eq_some_iff.mp (show (posR xs i).map (· + 1) = some j from h)
    exact posR_at (xs := xs) h1
  | [], _, _, h => by cases h
theorem mem_refs : ∀ {xs : List Av} {i j : Nat}, xs[j]? = some (.r i) → i ∈ refs xs
  | .r k :: xs, i, 0, h => by
    cases h
    exact List.mem_cons_self
  | .r k :: xs, i, j + 1, h => List.mem_cons_of_mem _ (mem_refs (xs := xs) h)
  | .d _ :: xs, i, 0, h => by cases h
  | .d _ :: xs, i, j + 1, h => mem_refs (xs := xs) (j := j) h
  | [], _, _, h => by cases h
theorem posR_of : ∀ {xs : List Av} {i j : Nat}, (refs xs).Nodup → xs[j]? = some (.r i) → posR xs i = some j
  | .r k :: xs, i, 0, _, h => by
    cases h
    exact if_pos rfl
  | .r k :: xs, i, j + 1, nd, h => by
    have h' : xs[j]? = some (.r i) := h
    have hk : k ≠ i := fun z => by
      subst z
      exact (List.nodup_cons.mp nd).1 (mem_refs h')
    show (if k = i then some 0 else (posR xs i).map (· + 1)) = _
    rw [if_neg hk, posR_of (List.nodup_cons.mp nd).2 h']
    rfl
  | .d _ :: xs, i, 0, _, h => by cases h
  | .d _ :: xs, i, j + 1, nd, h => by
    show (posR xs i).map (· + 1) = _
    rw [posR_of (xs := xs) nd (show xs[j]? = some (.r i) from h)]
    rfl
  | [], _, _, _, h => by cases h
theorem putBack_len : ∀ (xs : List Av) (ss L : LS), (putBack xs ss L).length = L.length
  | .r i :: xs, o :: ss, L => by
    show (putBack xs ss (L.set i o)).length = _
    rw [putBack_len xs ss, List.length_set]
  | .d _ :: xs, o :: ss, L => putBack_len xs ss L
  | [], _, L => rfl
  | .r _ :: _, [], L => rfl
  | .d _ :: _, [], L => rfl
theorem putBack_get : ∀ {xs : List Av} {ss L : LS} {k : Nat} {s : S}, (putBack xs ss L)[k]? = some (some s) → (∃ j : Nat, xs[j]? = some (Av.r k) ∧ ss[j]? = some (some s)) ∨ (L[k]? = some (some s) ∧ (ss.length = xs.length → k ∉ refs xs))
  | .r i :: xs, o :: ss, L, k, s, h => by
    have h : (putBack xs ss (L.set i o))[k]? = some (some s) := h
    rcases putBack_get h with ⟨j, h1, h2⟩ | ⟨h1, h2⟩
    · exact .inl ⟨j + 1, h1, h2⟩
    · rcases set_get h1 with ⟨rfl, h3⟩ | ⟨hk, h3⟩
      · exact .inl ⟨0, rfl, congrArg some h3⟩
      · refine .inr ⟨h3, fun hl hm => ?_⟩
        rcases List.mem_cons.mp hm with z | z
        · exact hk z.symm
        · exact h2 (by simpa using hl) z
  | .d _ :: xs, o :: ss, L, k, s, h => by
    have h : (putBack xs ss L)[k]? = some (some s) := h
    rcases putBack_get h with ⟨j, h1, h2⟩ | ⟨h1, h2⟩
    · exact .inl ⟨j + 1, h1, h2⟩
    · exact .inr ⟨h1, fun hl hm => h2 (by simpa using hl) hm⟩
  | [], ss, L, k, s, h => .inr ⟨h, fun _ hm => by cases hm⟩
  | .r _ :: _, [], L, k, s, h => .inr ⟨h, fun hl => by simp at hl⟩
  | .d _ :: _, [], L, k, s, h => .inr ⟨h, fun hl => by simp at hl⟩
section
variable {G F H : Hp} {ow : Addr → Option Path} {σ : L2.St} {L : LS} {xs : List Av} {vs : List V}
def owIn (ow : Addr → Option Path) (xs : List Av) : Addr → Option Path := fun a => match ow a with
  | some ((r + 1) :: q) => (posR xs r).map fun j => (j + 1) :: q
  | _ => none
def gIn (G F H : Hp) (oc : Addr → Option Path) : Hp := fun a => if (oc a).isSome then none else if (F a).isSome then none else H a
def owOut (ow oc oc' : Addr → Option Path) (xs : List Av) : Addr → Option Path := fun a => match oc' a with
  | some (0 :: q) => some (0 :: q)
  | some ((j + 1) :: q) => (match xs[j]? with
    | some (.r i) => some ((i + 1) :: q)
    | _ => none)
  | some [] => none
  | none => if (oc a).isSome then none else ow a
theorem owIn_some {a : Addr} {p : Path} (h : owIn ow xs a = some p) : ∃ r q j, ow a = some ((r + 1) :: q) ∧ posR xs r = some j ∧ p = (j + 1) :: q := by
  unfold owIn at h
  split at h
  · rename_i r q e
    obtain ⟨j, h1, h2⟩ := Option.map_eq_some_iff.mp h
    exact ⟨r, q, j, e, h1, h2.symm⟩
  · cases h
theorem owIn_at {a : Addr} {r j : Nat} {q : Path} (h : ow a = some ((r + 1) :: q)) (hp : posR xs r = some j) : owIn ow xs a = some ((j + 1) :: q) := by
  unfold owIn
  rw [h]
  show (posR xs r).map _ = _
  rw [hp]
  rfl
theorem owIn_no {a : Addr} {r : Nat} {q : Path} (h : ow a = some ((r + 1) :: q)) (hp : posR xs r = none) : owIn ow xs a = none := by
  unfold owIn
  rw [h]
  show (posR xs r).map _ = _
  rw [hp]
  rfl
theorem gIn_some {a : Addr} {o : HO} {oc : Addr → Option Path} (h : gIn G F H oc a = some o) : oc a = none ∧ F a = none ∧ H a = some o := by
  unfold gIn at h
  split at h
  · cases h
  · split at h
    · cases h
    · rename_i h1 h2
      refine ⟨?_, ?_, h⟩
      · cases e : oc a with
        | none => rfl
        | some p => rw [e] at h1; exact absurd rfl h1
      · cases e : F a with
        | none => rfl
        | some p => rw [e] at h2; exact absurd rfl h2
theorem gIn_at {a : Addr} {oc : Addr → Option Path} (h1 : oc a = none) (h2 : F a = none) : gIn G F H oc a = H a := by
  unfold gIn
  rw [h1, h2]
  rfl
theorem AvOk.get {K : PySem.W.Frag} : ∀ {xs : List Av} {vs : List V} {j : Nat} {x : Av}, AvOk K σ F xs vs → xs[j]? = some x → ∃ v, vs[j]? = some v ∧ match x with
    | .d d => Dq K F v d
    | .r i => σ[i]? = some (some v)
  | _, _, _, _, .nil, h => by cases h
  | _, _, 0, x, .cons r _, h => by
    cases h
    exact ⟨_, rfl, r⟩
  | _ :: xs, _ :: vs, j + 1, x, .cons _ t, h => AvOk.get (xs := xs) (vs := vs) (j := j) (x := x) t h
theorem Rl.callIn (Rr : c.Rl G F ow σ H L) (av : AvOk c.X.K σ F xs vs) (nd : (refs xs).Nodup) : Rl c.X.K c.ca c.B [] (gIn G F H (owIn ow xs)) F (owIn ow xs) (vs.map some) H (xs.map (slotOf L)) := by
  refine ⟨Rr.exF, fun a o h => (gIn_some h).2.2, fun a p h => ?_, fun a o h => .inl ?_, ?_, fun j s h => ?_, (fun i v h => nomatch h), Rr.exB, fun a p h => ?_⟩
  · obtain ⟨r, q, j, h1, h2, h3⟩ := owIn_some h
    obtain ⟨x, y, z⟩ := Rr.dF a _ h1
    refine ⟨x, ?_, z⟩
    unfold gIn
    rw [h]
    rfl
  · unfold gIn
    split
    · rfl
    · rw [h] <;> rfl
  · rw [List.length_map, List.length_map]
    exact Paired.length av
  · rw [List.getElem?_map] at h
    obtain ⟨x, hx, hs⟩ := Option.map_eq_some_iff.mp h
    obtain ⟨v, hv, q⟩ := AvOk.get (j := j) (x := x) av hx
    refine ⟨v, by rw [List.getElem?_map, hv]; rfl, ?_⟩
    cases x with
    | d d =>
      cases hs
      exact RT.of (.d q)
    | r i =>
      have hs' : (L[i]?).join = some s := hs
      have hL : L[i]? = some (some s) := by
        cases e : L[i]? with
        | none => rw [e] at hs'; cases hs'
        | some o => rw [e] at hs'; exact congrArg some hs'
      obtain ⟨u, hu, rs⟩ := Rr.sl i s hL
      have q' : σ[i]? = some (some v) := q
      rw [hu] at q'
      cases q'
      exact rs.go (Same.refl F) fun a w e => ⟨rfl, owIn_at e (posR_of nd hx)⟩
  · obtain ⟨r, q, j, h1, h2, h3⟩ := owIn_some h
    exact Rr.dB a _ h1
theorem Rl.callOut {F' H' : Hp} {oc' : Addr → Option Path} {ss : LS} (Rr : c.Rl G F ow σ H L) (av : AvOk c.X.K σ F xs vs) (nd : (refs xs).Nodup) (e : Same F F')
    (r' : Rl c.X.K c.ca c.B [] (gIn G F H (owIn ow xs)) F' oc' (vs.map some) H' ss) : c.Rl G F' (owOut ow (owIn ow xs) oc' xs) σ H' (putBack xs ss L) ∧ (refs xs = [] → Same H H') ∧
      ∀ {s : S} {v : V}, RS c.X.K c.ca F' H' oc' [0] s v → RS c.X.K c.ca F' H' (owOut ow (owIn ow xs) oc' xs) [0] s v := by
  have hlen : ss.length = xs.length := by
    have := r'.len
    rw [List.length_map] at this
    rw [this]
    exact (Paired.length av).symm
  have free : ∀ {a : Addr} {p : Path}, oc' a = some p → gIn G F H (owIn ow xs) a = none := fun {a p} h => (r'.dF a p h).2.1
  have gN : ∀ {a : Addr} {o : HO}, G a = some o → owIn ow xs a = none := fun {a o} h => by
    cases z : owIn ow xs a with
    | none => rfl
    | some p =>
      obtain ⟨r, q, j, w1, _, _⟩ := owIn_some z
      have := (Rr.dF a _ w1).2.1
      rw [h] at this
      cases this
  have gG : ∀ {a : Addr} {o : HO}, G a = some o → F a = none → gIn G F H (owIn ow xs) a = some o := fun {a o} h h1 => by
    rw [gIn_at (gN h) h1]
    exact Rr.exG a o h
  have gP : ∀ {a : Addr} {o : HO}, G a = some o → H' a = some o := fun {a o} h => by
    cases z : F a with
    | none => exact r'.exG a o (gG h z)
    | some u =>
      have h1 := Rr.exF a u z
      rw [Rr.exG a o h] at h1
      rw [h1]
      exact r'.exF a u (e a u z)
  have out_none : ∀ {a : Addr} {p : Path}, owOut ow (owIn ow xs) oc' xs a = some p → (∃ q, oc' a = some q) ∨ (oc' a = none ∧ owIn ow xs a = none ∧ ow a = some p) := fun {a p} h => by
    cases z : oc' a with
    | some q => exact .inl ⟨q, rfl⟩
    | none =>
      unfold owOut at h
      rw [z] at h
      have h : (if (owIn ow xs a).isSome = true then none else ow a) = some p := h
      split at h
      · cases h
      · rename_i h1
        refine .inr ⟨rfl, ?_, h⟩
        cases y : owIn ow xs a with
        | none => rfl
        | some w => rw [y] at h1; exact absurd rfl h1
  -- what was not handed in stays
  have stay : ∀ {a : Addr} {p : Path}, ow a = some p → owIn ow xs a = none → H' a = H a ∧ owOut ow (owIn ow xs) oc' xs a = some p ∧ oc' a = none ∧ F' a = none := fun {a p} h hn => by
    obtain ⟨x, y, z⟩ := Rr.dF a p h
    have hg : gIn G F H (owIn ow xs) a = H a := gIn_at hn x
    cases hH : H a with
    | none => exact absurd hH z.1
    | some o =>
      rw [hH] at hg
      have h1 : oc' a = none := by
        cases w : oc' a with
        | none => rfl
        | some q =>
          have := free w
          rw [hg] at this
          cases this
      refine ⟨r'.exG a o hg, ?_, h1, ?_⟩
      · unfold owOut
        rw [h1, hn]
        exact h
      · cases w : F' a with
        | none => rfl
        | some u =>
          have hu : H' a = some u := r'.exF a u w
          rw [r'.exG a o hg] at hu
          cases hu
          rcases r'.dG a o w with this | this
          · rw [hg] at this
            cases this
          · exact absurd this (z.2 o hH)
  refine ⟨⟨r'.exF, fun a o h => gP h, fun a p h => ?_, fun a o h => ?_, by rw [putBack_len]; exact Rr.len, fun k s h => ?_, Rr.pin, r'.exB, fun a p h => ?_⟩, fun hr a o h => ?_, fun {s v} h => ?_⟩
  · rcases out_none h with ⟨q, h1⟩ | ⟨h1, h2, h3⟩
    · obtain ⟨x, y, z⟩ := r'.dF a q h1
      refine ⟨x, ?_, z⟩
      cases w : G a with
      | none => rfl
      | some o =>
        cases zf : F a with
        | none =>
          have := gG w zf
          rw [y] at this
          cases this
        | some u =>
          have := e a u zf
          rw [x] at this
          cases this
    · obtain ⟨x, y, z⟩ := Rr.dF a p h3
      obtain ⟨w1, w2, w3, w4⟩ := stay h3 h2
      exact ⟨w4, y, by rw [w1]; exact z⟩
  · rcases r'.dG a o h with this | this
    · cases w : G a with
      | none => exact .inl rfl
      | some u =>
        cases zf : F a with
        | none =>
          have q := gG w zf
          rw [this] at q
          cases q
        | some t =>
          have q := e a t zf
          rw [h] at q
          cases q
          rcases Rr.dG a o zf with z | z
          · rw [w] at z
            cases z
          · exact .inr z
    · exact .inr this
  · rcases putBack_get h with ⟨j, h1, h2⟩ | ⟨h1, h2⟩
    · obtain ⟨v, hv, rs⟩ := r'.sl j s h2
      obtain ⟨u, hu, q⟩ := AvOk.get (j := j) (x := .r k) av h1
      rw [List.getElem?_map, hu] at hv
      cases hv
      refine ⟨v, q, rs.go (Same.refl F') fun a w e => ⟨rfl, ?_⟩⟩
      unfold owOut
      rw [e]
      show (match xs[j]? with
        | some (.r i) => some ((i + 1) :: w)
        | _ => none) = _
      rw [h1]
      rfl
    · obtain ⟨v, hv, rs⟩ := Rr.sl k s h1
      have hk := h2 hlen
      have hp : posR xs k = none := by
        cases z : posR xs k with
        | none => rfl
        | some j => exact absurd (mem_refs (posR_at z)) hk
      refine ⟨v, hv, rs.go e fun a w z => ?_⟩
      obtain ⟨w1, w2, _, _⟩ := stay z (owIn_no z hp)
      exact ⟨w1, w2⟩
  · rcases out_none h with ⟨q, h1⟩ | ⟨h1, h2, h3⟩
    · exact r'.dB a q h1
    · exact Rr.dB a p h3
  · cases w : F a with
    | some u =>
      have := Rr.exF a u w
      rw [h] at this
      cases this
      exact r'.exF a o (e a o w)
    | none =>
      have hn : owIn ow xs a = none := by
        cases z : owIn ow xs a with
        | none => rfl
        | some p =>
          obtain ⟨r, q, j, _, w2, _⟩ := owIn_some z
          have := mem_refs (posR_at w2)
          rw [hr] at this
          cases this
      refine r'.exG a o ?_
      rw [gIn_at hn w]
      exact h
  · refine h.go (Same.refl F') fun a w z => ⟨rfl, ?_⟩
    unfold owOut
    rw [z]
    rfl
end
theorem je_call {k : Nat} {f : Addr} {fd : FuncData} {ps : List Str} {md : List Bool} {m : LS → R S} {x : Str} {p : Pos} {e : Expr} (F : FnOk c.X.prog c.X.w c.X.K c.X.mg c.X.base (L2.CX c.X.prog c.X.w) k f fd ps (VSp c.X.K c.ca md m)) (hr : Room k c.X.A) (tk : Takes c.X c.W)
    (hg : Gl c.X x) (hm : c.X.mg x = some (.ref f)) (hk : PySem.W.keepIn c.X.K (.ref f) = true) (hb : Binds c.X.K fd ps []) (ha : JAr c n (e :: es) as) (hl : as.length = md.length := by rfl)
    (hdb : (x == ("__debug__" : Str)) = false := by decide) (he : starEach (e :: es) c.X.env = (false, eval e c.X.env) :: starEach es c.X.env := by rfl) (hpl : (backTo pos (starEach es c.X.env)).any (·.1) = false := by rfl) :
    JE c (n && allD as) (.Call (.Name x p) (e :: es) [] pos) (gCall m as) := by
  obtain ⟨t, pa, qa⟩ := ha
  refine ⟨_, pe_callS F hr hg hm hk hb (fun σ => passAt tk σ) pa hdb he hpl, fun G F0 ow σ H L Rr => ?_⟩
  refine (qa G F0 ow σ H L Rr).bind (t2 := fun vs H1 Q => VSp c.X.K c.ca md m vs H1 Q (WE c.W σ)) fun xs L1 vs H1 F1 ow1 hev e1 _ R1 b1 => ?_
  obtain ⟨av, hn⟩ := b1
  refine Post.guard fun nd => ?_
  have hxl : xs.length = md.length := by
    rw [← hl]
    clear hl hn av R1 Rr
    have ev : ∀ (as : List Ar) (L L1 : LS) (xs : List Av), evArgs as L = .ok xs L1 → xs.length = as.length := by
      intro as
      induction as with
      | nil =>
        intro L L1 xs h
        cases h
        rfl
      | cons a as ih =>
        intro L L1 xs h
        cases a with
        | d g =>
          have h : ((g L).bind fun d L1 => (evArgs as L1).bind fun xs L2 => .ok (.d d :: xs) L2) = .ok xs L1 := h
          cases hg : g L with
          | stuck => rw [hg] at h; cases h
          | err k L2 => rw [hg] at h; cases h
          | ok d L2 =>
            rw [hg, R.bind_ok] at h
            cases hg2 : evArgs as L2 with
            | stuck => rw [hg2] at h; cases h
            | err k L3 => rw [hg2] at h; cases h
            | ok ys L3 =>
              have := ih L2 L3 ys hg2
              rw [hg2, R.bind_ok] at h
              cases h
              simp [this]
        | r i =>
          unfold evArgs at h
          split at h
          · cases hg2 : evArgs as L with
            | stuck => rw [hg2] at h; cases h
            | err k L3 => rw [hg2] at h; cases h
            | ok ys L3 =>
              have := ih L L3 ys hg2
              rw [hg2, R.bind_ok] at h
              cases h
              simp [this]
          · cases h
    exact ev as L L1 xs hev
  have rin := R1.callIn av nd
  unfold callAt
  cases hm' : m (xs.map (slotOf L1)) with
  | stuck => trivial
  | ok s ss =>
    intro Q q
    refine ⟨c.B, _, F1, _, xs.map (slotOf L1), by rw [List.length_map]; exact hxl, rin, ?_⟩
    rw [hm']
    intro v H' F' ow' e' r' rs
    obtain ⟨w1, w2, w3⟩ := R1.callOut av nd e' r'
    exact q v H' F' _ e' (fun h => w2 (hn h)) w1 (w3 rs)
  | err er ss =>
    intro hw Q
    refine ⟨c.B, _, F1, _, xs.map (slotOf L1), by rw [List.length_map]; exact hxl, rin, ?_⟩
    rw [hm']
    intro H' F' ow' e' r'
    obtain ⟨w1, w2, w3⟩ := R1.callOut av nd e' r'
    exact hw H' F' _ e' w1
end
end VS

namespace VS
open PySem PySem.Spec PyProof.Rows L2

def wipeL (L : LS) : List Nat → LS
  | [] => L
  | v :: vs => (wipeL L vs).set v none
theorem wipeL_len (L : LS) : ∀ vs : List Nat, (wipeL L vs).length = L.length
  | [] => rfl
  | v :: vs => by
    show ((wipeL L vs).set v none).length = _
    rw [List.length_set, wipeL_len L vs]
theorem wipeL_some {L : LS} {i : Nat} {x : S} : ∀ {vs : List Nat}, (wipeL L vs)[i]? = some (some x) → L[i]? = some (some x) ∧ i ∉ vs
  | [], h => ⟨h, by simp⟩
  | v :: vs, h => by
    rcases set_get (show ((wipeL L vs).set v none)[i]? = some (some x) from h) with ⟨_, h1⟩ | ⟨h1, h2⟩
    · cases h1
    · obtain ⟨h3, h4⟩ := wipeL_some h2
      exact ⟨h3, by simp only [List.mem_cons, not_or]; exact ⟨fun e => h1 e.symm, h4⟩⟩
theorem wipe_out' {σ : L2.St} {i : Nat} : ∀ {vs : List Nat}, i ∉ vs → (wipe σ vs)[i]? = σ[i]?
  | [], _ => rfl
  | v :: vs, h => by
    simp only [List.mem_cons, not_or] at h
    show ((wipe σ vs).set v none)[i]? = _
    rw [List.getElem?_set_ne (fun e => h.1 e.symm), wipe_out' h.2]
theorem wipe_in {σ : L2.St} {i : Nat} : ∀ {vs : List Nat}, i ∈ vs → i < σ.length → (wipe σ vs)[i]? = some none
  | v :: vs, h, hl => by
    show ((wipe σ vs).set v none)[i]? = _
    by_cases e : v = i
    · subst e
      rw [List.getElem?_set_self (by rw [wipe_length]; exact hl)]
    · rw [List.getElem?_set_ne e]
      rcases List.mem_cons.mp h with z | z
      · exact absurd z.symm e
      · exact wipe_in z hl
theorem wipe_same {σ σ' : L2.St} {vs ws : List Nat} (o : OutOf ws (wipe σ vs) σ') (hw : ∀ k ∈ ws, k ∈ vs) : wipe σ' vs = wipe σ vs := by
  have hl : σ'.length = σ.length := by rw [o.1, wipe_length]
  apply List.ext_getElem?
  intro k
  by_cases hk : k ∈ vs
  · by_cases hlt : k < σ.length
    · rw [wipe_in hk (by omega), wipe_in hk hlt]
    · rw [List.getElem?_eq_none (by rw [wipe_length]; omega), List.getElem?_eq_none (by rw [wipe_length]; omega)]
  · rw [wipe_out' hk, o.2 k fun z => hk (hw k z)]
def lcGo (vs : List Nat) (f : D → LS → Option LS) (gt : LS → R Bool) (ge : LS → R D) : List D → List D → LS → R S
  | [], acc, L => .ok (.ol acc) L
  | d :: ds, acc, L => match f d L with
    | none => .stuck
    | some L1 => match gt L1 with
      | .ok b L2 => if b = true then (match ge L2 with
          | .ok y L3 => if acc.length < sizeLine then lcGo vs f gt ge ds (acc ++ [y]) (wipeL L3 vs) else .stuck
          | _ => .stuck) else lcGo vs f gt ge ds acc (wipeL L2 vs)
      | _ => .stuck
theorem lcGo_err {vs : List Nat} {f : D → LS → Option LS} {gt : LS → R Bool} {ge : LS → R D} {k : Nat} {L' : LS} : ∀ (ds acc : List D) (L : LS), lcGo vs f gt ge ds acc L ≠ .err k L'
  | [], acc, L, h => by cases h
  | d :: ds, acc, L, h => by
    unfold lcGo at h
    split at h
    · cases h
    · split at h
      · split at h
        · split at h
          · split at h
            · exact lcGo_err ds _ _ h
            · cases h
          · cases h
        · exact lcGo_err ds _ _ h
      · cases h
def gLc (vs : List Nat) (gi : LS → R (List D)) (f : D → LS → Option LS) (gt : LS → R Bool) (ge : LS → R D) : LS → R S := fun L => (gi L).bind fun ds L1 => lcGo vs f gt ge ds [] (wipeL L1 vs)
structure Bk where
  s : Shared
  H : Hp
  C : Addr
  cl : List (Str × Addr)
  fp : List Addr
abbrev Ct.low (c : Ct) : Ct := { c with W := fun _ _ _ _ => False }
abbrev Ct.blk (c : Ct) (scope : Scope) (b : Bk) : Ct := { c with X := c.X.blk b.s b.H scope (compEnvC scope b.cl b.C c.X.env) b.fp, W := fun _ _ _ _ => False }
def JTs (c : Ct) (n : Bool) (ifs : List Expr) (g : LS → R Bool) : Prop := ∃ t, PTs c.X ifs t ∧ Jdg c n g BB t
section
variable {c : Ct} {n n1 n2 n3 : Bool} {scope : Scope}
def gYes : LS → R Bool := fun L => .ok true L
theorem jts_one {e : Expr} {g : LS → R Bool} (h : JT c n e g) : JTs c n [e] g := by
  obtain ⟨t, p, q⟩ := h
  exact ⟨_, pts_one p, q⟩
theorem jdg_all {α β : Type} {g : LS → R α} {B : PySem.W.Frag → Hp → Hp → (Addr → Option Path) → α → β → Prop} (T : Bk → L2.St → Hp → (β → Hp → Prop) → Prop) (h : ∀ b, Jdg c.low n g B (T b)) : Jdg c.low n g B (fun σ H Q => ∀ b, T b σ H Q) := by
  intro G F ow σ H L Rr
  have k := fun b => h b G F ow σ H L Rr
  cases hr : g L with
  | stuck => trivial
  | ok a L1 =>
    intro Q q b
    have := k b
    rw [hr] at this
    exact this Q q
  | err e L1 =>
    intro hw Q b
    have := k b
    rw [hr] at this
    exact this hw Q
theorem unif_D {e : Expr} {g : LS → R D} (h : ∀ b, JD (c.blk scope b) n e g) : ∃ t, (∀ b, PE (c.blk scope b).X e t) ∧ Jdg c.low n g BD t := by
  refine ⟨fun σ H Q => ∀ b, Classical.choose (h b) σ H Q, fun b => ⟨fun pins s σ H Q I hw => (Classical.choose_spec (h b)).1.run pins s σ H Q I (hw b)⟩, ?_⟩
  exact jdg_all _ fun b => (Classical.choose_spec (h b)).2
theorem unif_T {e : List Expr} {g : LS → R Bool} (h : ∀ b, JTs (c.blk scope b) n e g) : ∃ t, (∀ b, PTs (c.blk scope b).X e t) ∧ Jdg c.low n g BB t := by
  refine ⟨fun σ H Q => ∀ b, Classical.choose (h b) σ H Q, fun b => ⟨fun pins s σ H Q I hw => (Classical.choose_spec (h b)).1.run pins s σ H Q I (hw b)⟩, ?_⟩
  exact jdg_all _ fun b => (Classical.choose_spec (h b)).2
theorem unif_G {tg : Expr} {ws : List Nat} {f : D → LS → Option LS} (h : ∀ b, JG (c.blk scope b) tg ws f) : ∃ t, (∀ b, PG (c.blk scope b).X tg t) ∧
    ∀ G F ow σ H L d v L', c.Rl G F ow σ H L → Dq c.X.K F v d → f d L = some L' → ∀ Q : L2.St → Hp → Prop, (∀ σ', OutOf ws σ σ' → c.Rl G F ow σ' H L' → Q σ' H) → t v σ H Q := by
  refine ⟨fun v σ H Q => ∀ b, Classical.choose (h b) v σ H Q, fun b => ⟨fun pins s σ H v u Q I r hw => (Classical.choose_spec (h b)).1.run pins s σ H v u Q I r (hw b)⟩, ?_⟩
  exact fun G F ow σ H L d v L' Rr q e Q k b => (Classical.choose_spec (h b)).2 G F ow σ H L d v L' Rr q e Q k
section
variable {K : PySem.W.Frag} {ca : Nat → Addr} {bh : Hp} {pn : List (Option V)} {G F H : Hp} {ow : Addr → Option Path} {σ : L2.St} {L : LS} {vs : List Nat} {l : Addr} {o o' : HO}
theorem Rl.wipe (r : Rl K ca bh pn G F ow σ H L) (hp : ∀ (k : Nat) (v : V), pn[k]? = some (some v) → k ∉ vs) : Rl K ca bh pn G F ow (L2.wipe σ vs) H (wipeL L vs) :=
  ⟨r.exF, r.exG, r.dF, r.dG, by rw [wipeL_len, wipe_length]; exact r.len, fun i s h => by
    obtain ⟨h1, h2⟩ := wipeL_some h
    obtain ⟨v, q1, q2⟩ := r.sl i s h1
    exact ⟨v, (wipe_out' h2).trans q1, q2⟩, fun i v h => (wipe_out' (hp i v h)).trans (r.pin i v h), r.exB, r.dB⟩
theorem Rl.aside (r : Rl K ca bh pn G F ow σ H L) (hl : H l = none) : Rl K ca bh pn (upd G l o) F ow σ (upd H l o) L := by
  have e : Same H (upd H l o) := upd_same_of hl
  have fN : F l = none := r.exF.free hl
  refine ⟨r.exF.trans e, fun a u h => ?_, fun a q h => ?_, fun a u h => ?_, r.len, fun i s h => ?_, r.pin, r.exB.trans e, r.dB⟩
  · by_cases z : a = l
    · subst z
      rw [upd_same] at h ⊢
      exact h
    · rw [upd_ne z] at h ⊢
      exact r.exG a u h
  · obtain ⟨x, y, w⟩ := r.dF a q h
    have ha : a ≠ l := ne_fresh w.1 hl
    exact ⟨x, by rw [upd_ne ha]; exact y, by rw [upd_ne ha]; exact w⟩
  · rw [upd_ne (ne_of_none h fN)]
    exact r.dG a u h
  · obtain ⟨v, q1, q2⟩ := r.sl i s h
    exact ⟨v, q1, q2.go (Same.refl F) fun a w h => ⟨upd_ne (ne_fresh (r.dF a _ h).2.2.1 hl), h⟩⟩
theorem upd_at {a : Addr} {u : HO} (h : upd G l o a = none) : a ≠ l := fun z => by
  subst z
  rw [upd_same] at h
  cases h
theorem Rl.asideSet (r : Rl K ca bh pn (upd G l o) F ow σ H L) (hb : bh l = none) (ho : ¬ kT o := by exact kT_lst) : Rl K ca bh pn (upd G l o') F ow σ (upd H l o') L := by
  have fN : F l = none := by
    cases z : F l with
    | none => rfl
    | some u =>
      rcases r.dG l u z with this | this
      · rw [upd_same] at this
        cases this
      · have h1 := r.exF l u z
        rw [r.exG l o upd_same] at h1
        cases h1
        exact absurd this ho
  refine ⟨fun a u h => ?_, fun a u h => ?_, fun a q h => ?_, fun a u h => ?_, r.len, fun i s h => ?_, r.pin, fun a u h => ?_, r.dB⟩
  · rw [upd_ne (ne_of_none h fN)]
    exact r.exF a u h
  · by_cases z : a = l
    · subst z
      rw [upd_same] at h ⊢
      exact h
    · rw [upd_ne z] at h ⊢
      exact r.exG a u (by rw [upd_ne z]; exact h)
  · obtain ⟨x, y, w⟩ := r.dF a q h
    have ha : a ≠ l := upd_at (u := o) y
    rw [upd_ne ha] at y ⊢
    exact ⟨x, y, by rw [upd_ne ha]; exact w⟩
  · have ha : a ≠ l := ne_of_none h fN
    have := r.dG a u h
    rw [upd_ne ha] at this ⊢
    exact this
  · obtain ⟨v, q1, q2⟩ := r.sl i s h
    refine ⟨v, q1, q2.go (Same.refl F) fun a w h => ⟨upd_ne ?_, h⟩⟩
    exact upd_at (u := o) (r.dF a _ h).2.1
  · rw [upd_ne (ne_of_none h hb)]
    exact r.exB a u h
theorem Rl.asideOut {σ' : L2.St} (r : Rl K ca bh pn (upd G l o) F ow σ H L) (hG : G l = none) (hb : bh l = none) (hlen : σ'.length = σ.length) (hs : ∀ (k : Nat) (s : S), L[k]? = some (some s) → σ'[k]? = σ[k]?)
    (hp : ∀ (k : Nat) (v : V), pn[k]? = some (some v) → σ'[k]? = some (some v)) (ho : ¬ kT o := by exact kT_lst) : Rl K ca bh pn G F (onAt ow l [0]) σ' H L := by
  have hl : H l = some o := r.exG l o upd_same
  have fN : F l = none := by
    cases z : F l with
    | none => rfl
    | some u =>
      rcases r.dG l u z with this | this
      · rw [upd_same] at this
        cases this
      · have h1 := r.exF l u z
        rw [r.exG l o upd_same] at h1
        cases h1
        exact absurd this ho
  refine ⟨r.exF, fun a u h => ?_, fun a q h => ?_, fun a u h => ?_, r.len.trans hlen.symm, fun i s h => ?_, hp, r.exB, fun a q h => ?_⟩
  · have ha : a ≠ l := ne_of_none h hG
    exact r.exG a u (by rw [upd_ne ha]; exact h)
  · by_cases z : a = l
    · subst z
      exact ⟨fN, hG, by rw [hl]; exact .of ho⟩
    · rw [onAt_ne z] at h
      obtain ⟨x, y, w⟩ := r.dF a q h
      rw [upd_ne z] at y
      exact ⟨x, y, w⟩
  · have ha : a ≠ l := ne_of_none h fN
    have := r.dG a u h
    rw [upd_ne ha] at this
    exact this
  · obtain ⟨v, q1, q2⟩ := r.sl i s h
    refine ⟨v, (hs i s h).trans q1, q2.go (Same.refl F) fun a w h => ⟨rfl, ?_⟩⟩
    have ha : a ≠ l := upd_at (u := o) (r.dF a _ h).2.1
    rw [onAt_ne ha]
    exact h
  · by_cases z : a = l
    · subst z
      exact hb
    · rw [onAt_ne z] at h
      exact r.dB a q h
end
theorem jdg_lc {gi : LS → R (List D)} {f : D → LS → Option LS} {gt : LS → R Bool} {ge : LS → R D} {wi : TI} {g : TG} {tt : TT} {te : TE} {vs ws : List Nat} (hi : Jdg c n1 gi (BI c.B) wi)
    (hg : ∀ G F ow σ H L d v L', c.Rl G F ow σ H L → Dq c.X.K F v d → f d L = some L' → ∀ Q : L2.St → Hp → Prop, (∀ σ', OutOf ws σ σ' → c.Rl G F ow σ' H L' → Q σ' H) → g v σ H Q) (hws : ∀ k ∈ ws, k ∈ vs) (hp : ∀ k ∈ vs, c.free k)
    (ht : Jdg c.low n2 gt BB tt) (he : Jdg c.low n3 ge BD te) : Jdg c (n1 && (n2 && n3)) (gLc vs gi f gt ge) (BE c.ca) (tLc wi g tt te vs) := by
  have hpn : ∀ (k : Nat) (v : V), (pinOf c.pb c.v0)[k]? = some (some v) → k ∉ vs := fun k v h hk => hp k hk (pinOf_mk h).1
  intro G F0 ow σ H0 L0 Rr
  refine (hi G F0 ow σ H0 L0 Rr).bind (t2 := fun J H1 (Q : VK) => ∀ D, H1 D = none → ∃ W : Nat → Nat → Hp → Prop, (∃ m, W 0 m (upd H1 D (.lst []))) ∧ ∀ i m H, W i m H →
    (J.stop i H ∧ Q (V.ref D) H) ∨ (J.go i H ∧ ∃ Nx : Hp → Prop, (∀ H', Nx H' → ∃ m', m' < m ∧ W (i + 1) m' H') ∧ ∀ x H', J.yld i H x H' → g x (L2.wipe σ vs) H' fun σ2 H2 => L2.wipe σ2 vs = L2.wipe σ vs ∧ tt σ2 H2 fun b H3 =>
      if b = true then te σ2 H3 fun y H4 => ∃ acc, H4 D = some (.lst acc) ∧ acc.length < sizeLine ∧ Nx (upd H4 D (.lst (acc ++ [y]))) else Nx H3)) fun ds L1 J H1 F1 ow1 _ e1 s1 R1 b1 => ?_
  cases hr : lcGo vs f gt ge ds [] (wipeL L1 vs) with
  | stuck => trivial
  | err k L2 => exact absurd hr (lcGo_err ds [] _)
  | ok s Lf =>
    intro Q q D hD
    have gD : G D = none := R1.exG.free hD
    have hB : c.B D = none := R1.exB.free hD
    refine ⟨fun i m H => m = ds.length - i ∧ i ≤ ds.length ∧ ∃ F' ow' L' acc da, Same F1 F' ∧ ((n2 && n3) = true → Same H1 H) ∧ c.Rl (upd G D (.lst acc)) F' ow' (L2.wipe σ vs) H L' ∧ DqA c.X.K F' acc da ∧ lcGo vs f gt ge (ds.drop i) da L' = .ok s Lf ∧ ∀ (k : Nat) (s' : S), L'[k]? = some (some s') → k ∉ vs,
      ⟨ds.length, rfl, Nat.zero_le _, F1, ow1, wipeL L1 vs, [], [], Same.refl F1, fun _ => upd_same_of hD, (R1.wipe hpn).aside hD, .nil, hr, fun k s' h => (wipeL_some h).2⟩, ?_⟩
    rintro i m H ⟨rfl, hi', F2, ow2, LB, acc, da, e2, s2, R2, hacc, hgo, hno⟩
    obtain ⟨k1, k2⟩ := (ItOk.up e2 b1) i H R2.exF R2.exB
    by_cases hlt : i < ds.length
    · obtain ⟨k3, k4⟩ := k2 _ (List.getElem?_eq_getElem hlt)
      rw [List.drop_eq_getElem_cons hlt] at hgo
      refine .inr ⟨k3, fun H' => ∃ F' ow' L' acc da, Same F1 F' ∧ ((n2 && n3) = true → Same H1 H') ∧ c.Rl (upd G D (.lst acc)) F' ow' (L2.wipe σ vs) H' L' ∧ DqA c.X.K F' acc da ∧ lcGo vs f gt ge (ds.drop (i + 1)) da L' = .ok s Lf ∧ ∀ (k : Nat) (s' : S), L'[k]? = some (some s') → k ∉ vs,
        fun H' w => ⟨ds.length - (i + 1), by omega, rfl, hlt, w⟩, fun x H' y => ?_⟩
      have step : ∀ {F3 H3 : Hp}, Same F2 F3 → Same H H3 → c.Rl (upd G D (.lst acc)) F3 ow2 (L2.wipe σ vs) H3 LB → Dq c.X.K F3 x ds[i] → g x (L2.wipe σ vs) H3 fun σ2 H2 => L2.wipe σ2 vs = L2.wipe σ vs ∧ tt σ2 H2 fun b H3 =>
          if b = true then te σ2 H3 fun y H4 => ∃ acc, H4 D = some (.lst acc) ∧ acc.length < sizeLine ∧ ∃ F' ow' L' acc' da, Same F1 F' ∧ ((n2 && n3) = true → Same H1 (upd H4 D (.lst (acc ++ [y])))) ∧ c.Rl (upd G D (.lst acc')) F' ow' (L2.wipe σ vs) (upd H4 D (.lst (acc ++ [y]))) L' ∧ DqA c.X.K F' acc' da ∧ lcGo vs f gt ge (ds.drop (i + 1)) da L' = .ok s Lf ∧ ∀ (k : Nat) (s' : S), L'[k]? = some (some s') → k ∉ vs
          else ∃ F' ow' L' acc da, Same F1 F' ∧ ((n2 && n3) = true → Same H1 H3) ∧ c.Rl (upd G D (.lst acc)) F' ow' (L2.wipe σ vs) H3 L' ∧ DqA c.X.K F' acc da ∧ lcGo vs f gt ge (ds.drop (i + 1)) da L' = .ok s Lf ∧ ∀ (k : Nat) (s' : S), L'[k]? = some (some s') → k ∉ vs := fun {F3 H3} e3 s3 R3 hx => by
        unfold lcGo at hgo
        cases hf : f ds[i] LB with
        | none => rw [hf] at hgo; cases hgo
        | some L3 =>
          rw [hf] at hgo
          refine hg _ F3 ow2 _ H3 LB _ x L3 R3 hx hf _ fun σ2 o2 R4 => ⟨wipe_same o2 hws, ?_⟩
          have wp := wipe_same o2 hws
          have hgo : (match gt L3 with
            | .ok b L2 => if b = true then (match ge L2 with
                | .ok y L3 => if da.length < sizeLine then lcGo vs f gt ge (ds.drop (i + 1)) (da ++ [y]) (wipeL L3 vs) else .stuck
                | _ => .stuck) else lcGo vs f gt ge (ds.drop (i + 1)) da (wipeL L2 vs)
            | _ => .stuck) = R.ok s Lf := hgo
          have pt := ht _ F3 ow2 σ2 H3 L3 R4
          cases hgt : gt L3 with
          | stuck => rw [hgt] at hgo; cases hgo
          | err k L5 => rw [hgt] at hgo; cases hgo
          | ok b L5 =>
            rw [hgt] at hgo pt
            refine pt _ fun b' H5 F5 ow5 e5 s5 R5 q5 => ?_
            have q5 : b' = b := q5
            subst q5
            cases b' with
            | false =>
              refine ⟨F5, ow5, wipeL L5 vs, acc, da, (e2.trans e3).trans e5, fun h => ((s2 h).trans s3).trans (s5 (and_of h).1), ?_, (hacc.up e3).up e5, hgo, fun k s' h => (wipeL_some h).2⟩
              have := R5.wipe (vs := vs) hpn
              rw [wp] at this
              exact this
            | true =>
              have hgo : (match ge L5 with
                | .ok y L3 => if da.length < sizeLine then lcGo vs f gt ge (ds.drop (i + 1)) (da ++ [y]) (wipeL L3 vs) else .stuck
                | _ => .stuck) = R.ok s Lf := hgo
              have pe := he _ F5 ow5 σ2 H5 L5 R5
              cases hge : ge L5 with
              | stuck => rw [hge] at hgo; cases hgo
              | err k L6 => rw [hge] at hgo; cases hgo
              | ok y L6 =>
                rw [hge] at hgo pe
                refine pe _ fun v H6 F6 ow6 e6 s6 R6 q6 => ?_
                have hgo : (if da.length < sizeLine then lcGo vs f gt ge (ds.drop (i + 1)) (da ++ [y]) (wipeL L6 vs) else .stuck) = R.ok s Lf := hgo
                by_cases hz : da.length < sizeLine
                · rw [if_pos hz] at hgo
                  have hH : H6 D = some (.lst acc) := R6.exG D _ upd_same
                  have hacc6 := (((hacc.up e3).up e5).up e6)
                  refine ⟨acc, hH, by rw [hacc.len]; exact hz, F6, ow6, wipeL L6 vs, acc ++ [v], da ++ [y], ((e2.trans e3).trans e5).trans e6, fun h => ?_, ?_, hacc6.append (.one q6), hgo, fun k s' h => (wipeL_some h).2⟩
                  · have := (((s2 h).trans s3).trans (s5 (and_of h).1)).trans (s6 (and_of h).2)
                    intro a u ha
                    rw [upd_ne (ne_of_none ha hD)]
                    exact this a u ha
                  · have := (R6.wipe (vs := vs) hpn).asideSet (o' := .lst (acc ++ [v])) hB
                    rw [wp] at this
                    exact this
                · rw [if_neg hz] at hgo
                  cases hgo
      rcases k4 x H' y with ⟨rfl, hx⟩ | ⟨p, ts, es, he', rfl, hp', rfl, hq⟩
      · exact step (Same.refl F2) (Same.refl _) R2 hx
      · obtain ⟨w1, w2, w3⟩ := R2.newF (o := .tup ts) hp'
        rw [he'] at step
        exact step w1 w2 w3 (.tup upd_same (hq.up w1))
    · have hl : ds.length ≤ i := Nat.le_of_not_lt hlt
      rw [List.drop_eq_nil_of_le hl] at hgo
      cases hgo
      refine .inl ⟨k1 hl, q _ H F2 _ e2 s2 (R2.asideOut (σ' := σ) gD hB (wipe_length σ vs).symm (fun k s' h => (wipe_out' (hno k s' h)).symm) fun k v h => ?_) (.ol (R2.exG D _ upd_same) (onAt_same ..) hacc)⟩
      rw [← wipe_out' (σ := σ) (hpn k v h)]
      exact R2.pin k v h
variable {elt tg iter : Expr} {ifs : List Expr} {own : List (Str × Nat)} {pos spos : Pos} {gi : LS → R (List D)} {f : D → LS → Option LS} {gt : LS → R Bool} {ge : LS → R D} {ws : List Nat}
theorem je_lc (hc : c.X.calm = true) (hN : c.X.N.Nodup) (hi : JI c n1 tg iter gi) (ok : BlkOk c.X.N c.X.env.scope scope own) (hg : ∀ b, JG (c.blk scope b) tg ws f) (hws : ∀ k ∈ ws, k ∈ own.map (·.2)) (hp : ∀ k ∈ own.map (·.2), c.free k)
    (ht : ∀ b, JTs (c.blk scope b) n2 ifs gt) (he : ∀ b, JD (c.blk scope b) n3 elt ge) (hs : ∀ x, foldedSetIterable iter c.X.env x = pure x := by intro _; rfl) : JE c (n1 && (n2 && n3)) (.ListComp elt [⟨tg, iter, ifs, 0⟩] scope pos) (gLc (own.map (·.2)) gi f gt ge) := by
  obtain ⟨wi, p1, q1⟩ := hi
  obtain ⟨tg', p2, q2⟩ := unif_G hg
  obtain ⟨tt, p3, q3⟩ := unif_T ht
  obtain ⟨te, p4, q4⟩ := unif_D he
  exact ⟨_, pe_lc hc hN p1 ok (fun s H C cl fp => p2 ⟨s, H, C, cl, fp⟩) (fun s H C cl fp => p3 ⟨s, H, C, cl, fp⟩) (fun s H C cl fp => p4 ⟨s, H, C, cl, fp⟩) hs, jdg_lc q1 q2 hws hp q3 q4⟩
end

section
variable {c : Ct} {pos : Pos}
end
end VS

namespace VS
open PySem PySem.Spec PyProof.Rows L2

theorem BV.dp {K : PySem.W.Frag} {F H : Hp} {ow : Addr → Option Path} {d : D} {v : V} (s : Same F H) (h : BV K F H ow d v) : Dp K H v d := by
  rcases h with h | ⟨l, vs, ds, rfl, rfl, h1, h2⟩
  · exact (h.up s).dp
  · exact .lst h1 (DqA.dp ds vs (h2.up s))
def Leaf2V (K : PySem.W.Frag) (r : R2) (f : D → D → Option D) : Prop :=
  ∀ (F H : Hp) (ow : Addr → Option Path) (x y : V) (d e z : D), Same F H → BV K F H ow d x → BV K F H ow e y → f d e = some z → ∃ v, Dq K F v z ∧ ∀ Q : VK, Q v H → r x y H Q
theorem Leaf2.view {K : PySem.W.Frag} {r : R2} {f : D → D → Option D} (h : Leaf2 K r f) (h1 : ∀ ds e, f (.list ds) e = none) (h2 : ∀ d es, f d (.list es) = none) : Leaf2V K r f := by
  intro F H ow x y d e z s hx hy hf
  rcases hx with hx | ⟨l, vs, ds, rfl, rfl, _, _⟩
  · rcases hy with hy | ⟨l, vs, ds, rfl, rfl, _, _⟩
    · exact h F H x y d e z s hx hy hf
    · rw [h2] at hf
      cases hf
  · rw [h1] at hf
    cases hf
theorem scal_flat {d e : D} (h : scalD d e = true) : (∀ ds, d ≠ .list ds) ∧ ∀ ds, e ≠ .list ds := by
  refine ⟨fun ds z => ?_, fun ds z => ?_⟩
  · subst z
    cases e <;> cases h
  · subst z
    cases d <;> cases h
theorem leafV_eq {K : PySem.W.Frag} : Leaf2V K (fun x y H Q => rEq x y H Q ∨ rEqD K x y H Q) dEq := by
  intro F H ow x y d e z s hx hy hf
  unfold dEq at hf
  by_cases h : eqOk d e
  · rw [if_pos h] at hf
    cases hf
    rcases h with h | h
    · obtain ⟨n1, n2⟩ := scal_flat h
      rcases hx with hx | ⟨l, vs, ds, _, e1, _⟩
      · rcases hy with hy | ⟨l, vs, ds, _, e1, _⟩
        · obtain ⟨h1, h2⟩ := scal_of hx hy h
          rw [h2]
          exact ⟨_, .bl _, fun Q q => .inl ⟨h1, q⟩⟩
        · exact absurd e1 (n2 ds)
      · exact absurd e1 (n1 ds)
    · exact ⟨_, .bl _, fun Q q => .inr ⟨d, e, hx.dp s, hy.dp s, h.1, h.2, q⟩⟩
  · rw [if_neg h] at hf
    cases hf
theorem leafV_ne {K : PySem.W.Frag} : Leaf2V K (fun x y H Q => rNe x y H Q ∨ rNeD K x y H Q) dNe := by
  intro F H ow x y d e z s hx hy hf
  unfold dNe at hf
  by_cases h : eqOk d e
  · rw [if_pos h] at hf
    cases hf
    rcases h with h | h
    · obtain ⟨n1, n2⟩ := scal_flat h
      rcases hx with hx | ⟨l, vs, ds, _, e1, _⟩
      · rcases hy with hy | ⟨l, vs, ds, _, e1, _⟩
        · obtain ⟨h1, h2⟩ := scal_of hx hy h
          rw [h2]
          exact ⟨_, .bl _, fun Q q => .inl ⟨h1, q⟩⟩
        · exact absurd e1 (n2 ds)
      · exact absurd e1 (n1 ds)
    · exact ⟨_, .bl _, fun Q q => .inr ⟨d, e, hx.dp s, hy.dp s, h.1, h.2, q⟩⟩
  · rw [if_neg h] at hf
    cases hf
theorem leafV_is {K : PySem.W.Frag} : Leaf2V K (fun x y H Q => (y = .non ∧ Q (.bl (decide (x = .non))) H) ∨ rIsB2 x y H Q) dIs := by
  intro F H ow x y d e z s hx hy hf
  rcases hx with hx | ⟨l, vs, ds, rfl, rfl, _, _⟩
  · rcases hy with hy | ⟨l, vs, ds, rfl, rfl, _, _⟩
    · exact leaf_is F H x y d e z s hx hy hf
    · cases d <;> cases hf
  · rcases hy with hy | ⟨l, vs, ds, rfl, rfl, _, _⟩
    · cases hy <;> cases hf
      exact ⟨_, .bl _, fun Q q => .inl ⟨rfl, q⟩⟩
    · cases hf
theorem leafV_isN {K : PySem.W.Frag} : Leaf2V K (fun x y H Q => (y = .non ∧ Q (.bl (!decide (x = .non))) H) ∨ rNotB2 x y H Q) dIsN := by
  intro F H ow x y d e z s hx hy hf
  rcases hx with hx | ⟨l, vs, ds, rfl, rfl, _, _⟩
  · rcases hy with hy | ⟨l, vs, ds, rfl, rfl, _, _⟩
    · exact leaf_isN F H x y d e z s hx hy hf
    · cases d <;> cases hf
  · rcases hy with hy | ⟨l, vs, ds, rfl, rfl, _, _⟩
    · cases hy <;> cases hf
      exact ⟨_, .bl _, fun Q q => .inl ⟨rfl, q⟩⟩
    · cases hf
section
variable {c : Ct} {n n1 n2 n3 : Bool} {a b : Expr} {ga gb : LS → R D} {pos : Pos} {k : Nat}
def CmpV (c : Ct) (op : CmpOp) (f : D → D → Option D) : Prop := ∃ r : R2, OpR c.X (compareOp op) r ∧ Leaf2V c.X.K r f
theorem dCmp_l {f : Int → Int → Bool} {g : Str → Str → Bool} (ds : List D) (e : D) : dCmp f g (.list ds) e = none := by cases e <;> rfl
theorem dCmp_r {f : Int → Int → Bool} {g : Str → Str → Bool} (d : D) (es : List D) : dCmp f g d (.list es) = none := by cases d <;> rfl
theorem cv_lt : CmpV c .Lt dLt := ⟨_, op_lt.or op_lt_str, leaf_cmp.view dCmp_l dCmp_r⟩
theorem cv_le : CmpV c .LtE dLe := ⟨_, op_le.or op_le_str, leaf_cmp.view dCmp_l dCmp_r⟩
theorem cv_gt : CmpV c .Gt dGt := ⟨_, op_gt.or op_gt_str, leaf_cmp.view dCmp_l dCmp_r⟩
theorem cv_ge : CmpV c .GtE dGe := ⟨_, op_ge.or op_ge_str, leaf_cmp.view dCmp_l dCmp_r⟩
theorem cv_eq (hr : Room k c.X.A) : CmpV c .Eq dEq := ⟨_, op_eq.or (op_eqD hr.units), leafV_eq⟩
theorem cv_ne (hr : Room k c.X.A) : CmpV c .NotEq dNe := ⟨_, op_ne.or (op_neD hr.units), leafV_ne⟩
theorem cv_is : CmpV c .Is dIs := ⟨_, op_isN.or op_isBl2, leafV_is⟩
theorem cv_isN : CmpV c .IsNot dIsN := ⟨_, op_notN.or op_notBl2, leafV_isN⟩
theorem jdg_cmpN {r : R2} {f : D → D → Option D} (lf : Leaf2V c.X.K r f) {ta tb : TE} (ha : Jdg c n1 ga BV ta) (hb : Jdg c true gb BV tb) : Jdg c n1 (gOp f ga gb) BD (tOp r ta tb) := by
  intro G F ow σ H L Rr
  refine (ha G F ow σ H L Rr).bind1 (t2 := fun v H1 Q => tb σ H1 fun y H2 => r v y H2 Q) fun d L1 v H1 F1 ow1 _ _ _ R1 b1 => ?_
  refine (hb G F1 ow1 σ H1 L1 R1).bind1 (t2 := fun y H2 Q => r v y H2 Q) fun e L2 u H2 F2 ow2 _ e2 s2 R2 b2 => ?_
  cases hf : f d e with
  | none => trivial
  | some z =>
    obtain ⟨w, hw, q⟩ := lf F2 H2 ow2 v u d e z R2.exF (BV.up (ow' := ow2) b1 e2 (s2 rfl)) b2 hf
    exact (Post.val R2 hw).imp q
theorem jdg_cmpD {r : R2} {f : D → D → Option D} (lf : Leaf2V c.X.K r f) {ta tb : TE} (ha : Jdg c n1 ga BD ta) (hb : Jdg c n2 gb BV tb) : Jdg c (n1 && n2) (gOp f ga gb) BD (tOp r ta tb) := by
  intro G F ow σ H L Rr
  refine (ha G F ow σ H L Rr).bind fun d L1 v H1 F1 ow1 _ _ _ R1 b1 => ?_
  refine (hb G F1 ow1 σ H1 L1 R1).bind1 fun e L2 u H2 F2 ow2 _ e2 _ R2 b2 => ?_
  cases hf : f d e with
  | none => trivial
  | some z =>
    obtain ⟨w, hw, q⟩ := lf F2 H2 ow2 v u d e z R2.exF (.inl (b1.up e2)) b2 hf
    exact (Post.val R2 hw).imp q
variable {op : CmpOp} {f : D → D → Option D}
theorem jd_cmpN (h : CmpV c op f) (ha : JV c n1 a ga) (hb : JV c true b gb) (hm : behindInMarks op b = false) : JD c n1 (.Compare a [op] [b] pos) (gOp f ga gb) := by
  obtain ⟨ta, p1, q1⟩ := ha
  obtain ⟨tb, p2, q2⟩ := hb
  obtain ⟨r, h1, h2⟩ := h
  exact ⟨_, pe_cmpR h1 p1 p2 hm, jdg_cmpN h2 q1 q2⟩
theorem jt_cmpN (h : CmpV c op f) (ha : JV c n1 a ga) (hb : JV c true b gb) (hm : behindInMarks op b = false) : JT c n1 (.Compare a [op] [b] pos) (gB (gOp f ga gb)) := by
  obtain ⟨ta, p1, q1⟩ := ha
  obtain ⟨tb, p2, q2⟩ := hb
  obtain ⟨r, h1, h2⟩ := h
  exact ⟨_, pt_cmpR h1 p1 p2 hm, jdg_B (jdg_cmpN h2 q1 q2)⟩
theorem jd_cmpD (h : CmpV c op f) (ha : JD c n1 a ga) (hb : JV c n2 b gb) (hm : behindInMarks op b = false) : JD c (n1 && n2) (.Compare a [op] [b] pos) (gOp f ga gb) := by
  obtain ⟨ta, p1, q1⟩ := ha
  obtain ⟨tb, p2, q2⟩ := hb
  obtain ⟨r, h1, h2⟩ := h
  exact ⟨_, pe_cmpR h1 p1 p2 hm, jdg_cmpD h2 q1 q2⟩
theorem PI_or {X : Cx} {tg e : Expr} {w1 w2 : TI} (h1 : PI X tg e w1) (h2 : PI X tg e w2) : PI X tg e (fun σ H R => w1 σ H R ∨ w2 σ H R) := ⟨fun pins s σ H R I h => by
  rcases h with h | h
  · exact h1.run pins s σ H R I h
  · exact h2.run pins s σ H R I h⟩
def signs (x : Str) : List D := x.cps.toList.map fun k => PyData.str ⟨#[k]⟩
def asItems : D → LS → R (List D)
  | .list ds, L => .ok ds L
  | .tuple ds, L => .ok ds L
  | .str x, L => .ok (signs x) L
  | _, _ => .stuck
variable {tg : Expr}
theorem its_ok {K : PySem.W.Frag} {B F : Hp} {x : Str} : ItOk K B F (signs x) (Its x) := fun i H s _ => by
  unfold signs
  rw [List.length_map, Array.length_toList]
  refine ⟨fun h => h, fun d hd => ?_⟩
  have hi : i < x.cps.size := by
    have := (List.getElem?_eq_some_iff.mp hd).1
    rw [List.length_map, Array.length_toList] at this
    exact this
  refine ⟨hi, fun v H' ⟨e1, k, hk, e2⟩ => .inl ⟨e1, ?_⟩⟩
  subst e2
  rw [List.getElem?_map, Array.getElem?_toList, hk] at hd
  cases hd
  exact .str _
theorem jdg_itl {t : TE} (q : Jdg c n ga BD t) : Jdg c n (fun L => (ga L).bind asL) (BI c.B) (iList c.X.K t) := fun G F ow σ H L Rr =>
  (q G F ow σ H L Rr).bind1 (t2 := fun v H1 Q => ∃ a, v = V.ref a ∧ (∃ xs, SqL c.X.K H1 a xs) ∧ Q (Itl c.X.K a) H1) fun d L1 v H1 F1 ow1 _ _ _ R1 b1 => by
    cases b1 with
    | @lst l vs ds h1 h2 =>
      refine (Post.val (a := ds) (b := Itl c.X.K l) (B := BI c.B c.X.K) R1 fun i H s _ => ⟨fun hi => ⟨vs, .of (s _ _ h1), by rw [h2.len]; exact hi⟩, fun d hd => ?_⟩).imp fun Q q => ⟨l, rfl, ⟨vs, .of (R1.exF _ _ h1)⟩, q⟩
      obtain ⟨v, h3, h4⟩ := h2.get hd
      exact ⟨⟨vs, v, .of (s _ _ h1), h3⟩, fun x H' ⟨e1, e2⟩ => .inl ⟨e1, by
        have := e2 vs (.of (s _ _ h1))
        rw [h3] at this
        cases this
        exact h4⟩⟩
    | _ => trivial
theorem jdg_itt {t : TE} (q : Jdg c n ga BD t) : Jdg c n (fun L => (ga L).bind asT) (BI c.B) (iTup c.X.K t) := fun G F ow σ H L Rr =>
  (q G F ow σ H L Rr).bind1 (t2 := fun v H1 Q => ∃ a, v = V.ref a ∧ (∃ xs, SqT c.X.K H1 a xs) ∧ Q (Itt c.X.K a) H1) fun d L1 v H1 F1 ow1 _ _ _ R1 b1 => by
    cases b1 with
    | @tup l vs ds h1 h2 =>
      refine (Post.val (a := ds) (b := Itt c.X.K l) (B := BI c.B c.X.K) R1 fun i H s _ => ⟨fun hi => ⟨vs, sqt_same s h1, by rw [h2.len]; exact hi⟩, fun d hd => ?_⟩).imp fun Q q => ⟨l, rfl, ⟨vs, sqt_same R1.exF h1⟩, q⟩
      obtain ⟨v, h3, h4⟩ := h2.get hd
      exact ⟨⟨vs, v, sqt_same s h1, h3⟩, fun x H' ⟨e1, e2⟩ => .inl ⟨e1, by
        have := e2 vs (sqt_same s h1)
        rw [h3] at this
        cases this
        exact h4⟩⟩
    | _ => trivial
def asX : D → LS → R (List D)
  | .str x, L => .ok (signs x) L
  | _, _ => .stuck
theorem jdg_its {t : TE} (q : Jdg c n ga BD t) : Jdg c n (fun L => (ga L).bind asX) (BI c.B) (iStr t) := fun G F ow σ H L Rr =>
  (q G F ow σ H L Rr).bind1 (t2 := fun v H1 Q => ∃ x, v = V.str x ∧ Q (Its x) H1) fun d L1 v H1 F1 ow1 _ _ _ R1 b1 => by
    cases b1 with
    | str x => exact (Post.val (a := signs x) (b := Its x) (B := BI c.B c.X.K) R1 its_ok).imp fun Q q => ⟨x, rfl, q⟩
    | _ => trivial
theorem ji_any (h : JD c n a ga) : JI c n tg a (fun L => (ga L).bind asItems) := by
  obtain ⟨t, p, q⟩ := h
  refine ⟨fun σ H R => iList c.X.K t σ H R ∨ iTup c.X.K t σ H R ∨ iStr t σ H R, PI_or (pi_list p) (PI_or (pi_tup p) (pi_str p)), fun G F ow σ H L Rr => ?_⟩
  have h1 := jdg_itl q G F ow σ H L Rr
  have h2 := jdg_itt q G F ow σ H L Rr
  have h3 := jdg_its q G F ow σ H L Rr
  show Post c G n F H σ ((ga L).bind asItems) _ _
  dsimp only at h1 h2 h3
  cases hr : ga L with
  | stuck => trivial
  | err e L1 =>
    rw [hr] at h1
    exact Post.imp h1 fun Q z => .inl z
  | ok d L1 =>
    rw [hr] at h1 h2 h3
    cases d with
    | list ds => exact Post.imp h1 fun Q z => .inl z
    | tuple ds => exact Post.imp h2 fun Q z => .inr (.inl z)
    | str x => exact Post.imp h3 fun Q z => .inr (.inr z)
    | _ => trivial
end
end VS

namespace VS
open PySem PySem.Spec PyProof.Rows L2

structure Dx (P : Program) (w : World) (K : PySem.W.Frag) (mg : Str → Option Value) (base : Heap) (ca : Nat → Addr) (x : Str) (k : Nat) (ps : List Str) (md : List Bool) (m : LS → R S) : Prop where
  ex : ∃ f fd, FnOk P w K mg base (L2.CX P w) k f fd ps (VSp K ca md m) ∧ mg x = some (.ref f) ∧ PySem.W.keepIn K (.ref f) = true ∧ Binds K fd ps []
theorem dx_of {P : Program} {w : World} {K : PySem.W.Frag} {mg : Str → Option Value} {base : Heap} {ca : Nat → Addr} {x : Str} {k : Nat} {ps : List Str} {md : List Bool} {m : LS → R S} {f : Addr} {fd : FuncData}
    (h : FnOk P w K mg base (L2.CX P w) k f fd ps (VSp K ca md m)) (hg : mg x = some (.ref f)) (hk : PySem.W.keepIn K (.ref f) = true) (hb : Binds K fd ps []) : Dx P w K mg base ca x k ps md m := ⟨f, fd, h, hg, hk, hb⟩
section
variable {c : Ct} {n : Bool} {pos : Pos} {es : List Expr} {as : List Ar}
theorem je_dx {x : Str} {k j : Nat} {ps : List Str} {md : List Bool} {m : LS → R S} {p : Pos} {e : Expr} (D : Dx c.X.prog c.X.w c.X.K c.X.mg c.X.base c.ca x k ps md m) (hr : Room j c.X.A) (hk : k ≤ j) (tk : Takes c.X c.W) (hg : Gl c.X x) (ha : JAr c n (e :: es) as) (hl : as.length = md.length := by rfl)
    (hdb : (x == ("__debug__" : Str)) = false := by decide) (he : starEach (e :: es) c.X.env = (false, eval e c.X.env) :: starEach es c.X.env := by rfl) (hpl : (backTo pos (starEach es c.X.env)).any (·.1) = false := by rfl) :
    JE c (n && allD as) (.Call (.Name x p) (e :: es) [] pos) (gCall m as) := by
  obtain ⟨f, fd, h1, h2, h3, h4⟩ := D.ex
  exact je_call h1 (hr.mono hk) tk hg h2 h3 h4 ha hl hdb he hpl
end
theorem law_sp {K : PySem.W.Frag} {ca : Nat → Addr} {m : LS → R S} {H : Hp} {a : Addr} {ns : List Int} (hS : SqL K H a (ns.map V.int)) {L : LS} (h : m [some (.scr ns)] = .ok (.d (.bool true)) L) :
    VSp K ca [true] m [.ref a] H (fun v _ => v = .bl true) (fun _ _ _ => False) := by
  refine ⟨fun _ => none, fun _ => none, H, fun _ => none, [some (.scr ns)], rfl, ⟨Same.refl H, (fun _ _ h => nomatch h), (fun _ _ h => nomatch h), (fun _ _ _ => .inl rfl), rfl, fun i s hi => ?_, (fun i v hi => nomatch hi), (fun _ _ h => nomatch h), (fun _ _ h => nomatch h)⟩, ?_⟩
  · cases i with
    | zero =>
      cases hi
      exact ⟨.ref a, rfl, RT.of (.scr hS)⟩
    | succ i => cases hi
  · rw [h]
    intro v H' F' ow' _ _ rs
    cases rs with
    | d q => cases q; rfl
theorem cx_false {P : Program} {w : World} (H : Hp) (s : Shared) (e : Value) (s' : Shared) : L2.CX P w [] H s (fun _ _ _ => False) e s' → False := fun h => by
  obtain ⟨_, _, _, _, _, _, _, _, _, _, _, _, z⟩ := h
  exact z
end VS

namespace VS
open PySem PySem.Spec PyProof.Rows L2
section
variable {α : Type} {L L1 L2 : LS} {i : Nat}
def seqK (r : R O) (g : LS → R O) : R O := match r with
  | .ok .nx L1 => g L1
  | r => r
theorem ev_seq (g1 g2 : LS → R O) (L : LS) : gSeq g1 g2 L = seqK (g1 L) g2 := rfl
theorem seqK_nx (L : LS) (g : LS → R O) : seqK (.ok .nx L) g = g L := rfl
theorem seqK_rt (s : S) (L : LS) (g : LS → R O) : seqK (.ok (.rt s) L) g = .ok (.rt s) L := rfl
theorem seqK_bk (L : LS) (g : LS → R O) : seqK (.ok .bk L) g = .ok .bk L := rfl
theorem seqK_ct (L : LS) (g : LS → R O) : seqK (.ok .ct L) g = .ok .ct L := rfl
theorem seqK_err (e : Nat) (L : LS) (g : LS → R O) : seqK (.err e L) g = .err e L := rfl
theorem ev_next (L : LS) : gNext L = .ok .nx L := rfl
def ifK (r : R Bool) (x y : LS → R O) : R O := r.bind fun b L1 => if b = true then x L1 else y L1
theorem ev_if (t : LS → R Bool) (x y : LS → R O) (L : LS) : gIf t x y L = ifK (t L) x y := rfl
theorem ifK_ok (b : Bool) (L : LS) (x y : LS → R O) : ifK (.ok b L) x y = if b = true then x L else y L := rfl
theorem ifK_err (e : Nat) (L : LS) (x y : LS → R O) : ifK (.err e L) x y = .err e L := rfl
def asgK (i : Nat) (r : R S) : R O := r.bind fun s L1 => .ok .nx (L1.set i (some s))
theorem ev_asg (i : Nat) (g : LS → R S) (L : LS) : gAsg i g L = asgK i (g L) := rfl
theorem asgK_ok (i : Nat) (s : S) (L : LS) : asgK i (.ok s L) = .ok .nx (L.set i (some s)) := rfl
theorem asgK_err (i e : Nat) (L : LS) : asgK i (.err e L) = .err e L := rfl
def retK (r : R S) : R O := r.bind fun s L1 => .ok (.rt s) L1
theorem ev_ret (g : LS → R S) (L : LS) : gRet g L = retK (g L) := rfl
theorem retK_ok (s : S) (L : LS) : retK (.ok s L) = .ok (.rt s) L := rfl
theorem retK_err (e : Nat) (L : LS) : retK (.err e L) = .err e L := rfl
theorem ev_retN (L : LS) : gRetN L = .ok (.rt (.d .none)) L := rfl
def dropK (r : R α) : R O := r.bind fun _ L1 => .ok .nx L1
theorem ev_drop (g : LS → R α) (L : LS) : gDrop g L = dropK (g L) := rfl
theorem dropK_ok (a : α) (L : LS) : dropK (.ok a L) = .ok .nx L := rfl
theorem dropK_err (e : Nat) (L : LS) : dropK (.err e L : R α) = .err e L := rfl
theorem ev_c (d : D) (L : LS) : gC d L = .ok d L := rfl
def dK (r : R D) : R S := r.bind fun d L1 => .ok (.d d) L1
theorem ev_d (g : LS → R D) (L : LS) : gD g L = dK (g L) := rfl
theorem dK_ok (d : D) (L : LS) : dK (.ok d L) = .ok (.d d) L := rfl
theorem dK_err (e : Nat) (L : LS) : dK (.err e L) = .err e L := rfl
def fzK (r : R S) : R D := r.bind frS
theorem ev_fz (g : LS → R S) (L : LS) : gFz g L = fzK (g L) := rfl
theorem fzK_d (d : D) (L : LS) : fzK (.ok (.d d) L) = .ok d L := rfl
theorem fzK_l (ds : List D) (L : LS) : fzK (.ok (.ol ds) L) = .ok (.list ds) L := rfl
theorem fzK_err (e : Nat) (L : LS) : fzK (.err e L) = .err e L := rfl
def opK1 (f : D → D → Option α) (b : LS → R D) (r : R D) : R α := r.bind fun d L1 => (b L1).bind fun e L2 => ofO (f d e) L2
def opK2 (f : D → D → Option α) (d : D) (r : R D) : R α := r.bind fun e L2 => ofO (f d e) L2
theorem ev_op (f : D → D → Option α) (a b : LS → R D) (L : LS) : gOp f a b L = opK1 f b (a L) := rfl
theorem opK1_ok (f : D → D → Option α) (b : LS → R D) (d : D) (L : LS) : opK1 f b (.ok d L) = opK2 f d (b L) := rfl
theorem opK1_err (f : D → D → Option α) (b : LS → R D) (e : Nat) (L : LS) : opK1 f b (.err e L) = .err e L := rfl
theorem opK2_ok (f : D → D → Option α) (d e : D) (L : LS) : opK2 f d (.ok e L) = ofO (f d e) L := rfl
theorem opK2_err (f : D → D → Option α) (d : D) (e : Nat) (L : LS) : opK2 f d (.err e L) = .err e L := rfl
def unK (f : D → Option α) (r : R D) : R α := r.bind fun d L1 => ofO (f d) L1
theorem ev_un (f : D → Option α) (a : LS → R D) (L : LS) : gUn f a L = unK f (a L) := rfl
theorem unK_ok (f : D → Option α) (d : D) (L : LS) : unK f (.ok d L) = ofO (f d) L := rfl
theorem unK_err (f : D → Option α) (e : Nat) (L : LS) : unK f (.err e L) = .err e L := rfl
theorem ev_isi (T : String) (a : LS → R D) (L : LS) : gIsi T a L = unK (isTy T) (a L) := rfl
def bK (r : R D) : R Bool := r.bind asB
theorem ev_b (g : LS → R D) (L : LS) : gB g L = bK (g L) := rfl
theorem bK_ok (b : Bool) (L : LS) : bK (.ok (.bool b) L) = .ok b L := rfl
theorem bK_err (e : Nat) (L : LS) : bK (.err e L) = .err e L := rfl
def andK (r : R Bool) (b : LS → R Bool) : R Bool := r.bind fun x L1 => if x = true then b L1 else .ok false L1
def orK (r : R Bool) (b : LS → R Bool) : R Bool := r.bind fun x L1 => if x = true then .ok true L1 else b L1
def notK (r : R Bool) : R Bool := r.bind fun x L1 => .ok (!x) L1
theorem ev_and (a b : LS → R Bool) (L : LS) : gAnd a b L = andK (a L) b := rfl
theorem andK_ok (x : Bool) (b : LS → R Bool) (L : LS) : andK (.ok x L) b = if x = true then b L else .ok false L := rfl
theorem andK_err (e : Nat) (b : LS → R Bool) (L : LS) : andK (.err e L) b = .err e L := rfl
theorem ev_or (a b : LS → R Bool) (L : LS) : gOr a b L = orK (a L) b := rfl
theorem orK_ok (x : Bool) (b : LS → R Bool) (L : LS) : orK (.ok x L) b = if x = true then .ok true L else b L := rfl
theorem orK_err (e : Nat) (b : LS → R Bool) (L : LS) : orK (.err e L) b = .err e L := rfl
theorem ev_not (a : LS → R Bool) (L : LS) : gNot a L = notK (a L) := rfl
theorem notK_ok (x : Bool) (L : LS) : notK (.ok x L) = .ok (!x) L := rfl
def andVK (r : R D) (b : LS → R D) : R D := r.bind fun d L1 => match d with
  | .bool x => if x = true then b L1 else .ok (.bool false) L1
  | _ => .stuck
def orVK (r : R D) (b : LS → R D) : R D := r.bind fun d L1 => match d with
  | .bool x => if x = true then .ok (.bool true) L1 else b L1
  | _ => .stuck
theorem ev_andV (a b : LS → R D) (L : LS) : gAndV a b L = andVK (a L) b := rfl
theorem andVK_ok (x : Bool) (b : LS → R D) (L : LS) : andVK (.ok (.bool x) L) b = if x = true then b L else .ok (.bool false) L := rfl
theorem ev_orV (a b : LS → R D) (L : LS) : gOrV a b L = orVK (a L) b := rfl
theorem orVK_ok (x : Bool) (b : LS → R D) (L : LS) : orVK (.ok (.bool x) L) b = if x = true then .ok (.bool true) L else b L := rfl
def ifEK (r : R Bool) (a b : LS → R α) : R α := r.bind fun x L1 => if x = true then a L1 else b L1
theorem ev_ifE (t : LS → R Bool) (a b : LS → R α) (L : LS) : gIfE t a b L = ifEK (t L) a b := rfl
theorem ifEK_ok (x : Bool) (a b : LS → R α) (L : LS) : ifEK (.ok x L) a b = if x = true then a L else b L := rfl
def consK1 (r : LS → R (List D)) (x : R D) : R (List D) := x.bind fun d L1 => (r L1).bind fun ds L2 => .ok (d :: ds) L2
def consK2 (d : D) (r : R (List D)) : R (List D) := r.bind fun ds L2 => .ok (d :: ds) L2
theorem ev_nil (L : LS) : gNil L = .ok [] L := rfl
theorem ev_cons (a : LS → R D) (r : LS → R (List D)) (L : LS) : gCons a r L = consK1 r (a L) := rfl
theorem consK1_ok (r : LS → R (List D)) (d : D) (L : LS) : consK1 r (.ok d L) = consK2 d (r L) := rfl
theorem consK1_err (r : LS → R (List D)) (e : Nat) (L : LS) : consK1 r (.err e L) = .err e L := rfl
theorem consK2_ok (d : D) (ds : List D) (L : LS) : consK2 d (.ok ds L) = .ok (d :: ds) L := rfl
theorem consK2_err (d : D) (e : Nat) (L : LS) : consK2 d (.err e L) = .err e L := rfl
def lstK (r : R (List D)) : R S := r.bind fun ds L1 => if ds.length ≤ sizeLine then .ok (.ol ds) L1 else .stuck
def tupK (r : R (List D)) : R D := r.bind fun ds L1 => if ds.length ≤ sizeLine then .ok (.tuple ds) L1 else .stuck
theorem ev_lst (a : LS → R (List D)) (L : LS) : gLst a L = lstK (a L) := rfl
theorem lstK_ok (ds : List D) (L : LS) : lstK (.ok ds L) = if ds.length ≤ sizeLine then .ok (.ol ds) L else .stuck := rfl
theorem ev_tup (a : LS → R (List D)) (L : LS) : gTup a L = tupK (a L) := rfl
theorem tupK_ok (ds : List D) (L : LS) : tupK (.ok ds L) = if ds.length ≤ sizeLine then .ok (.tuple ds) L else .stuck := rfl
theorem small_len {n : Nat} (h : n ≤ 1000000) : n ≤ sizeLine := by rw [PySem.sizeLine_eq]; omega
def varK (i : Nat) (o : Option (Option S)) (L : LS) : R D := match o with
  | some (some (.d d)) => .ok d L
  | some (some (.ol ds)) => .ok (.list ds) (L.set i (some (.d (.list ds))))
  | _ => .stuck
theorem ev_var (i : Nat) (L : LS) : gVar i L = varK i L[i]? L := rfl
theorem varK_d (i : Nat) (d : D) (L : LS) : varK i (some (some (.d d))) L = .ok d L := rfl
theorem varK_l (i : Nat) (ds : List D) (L : LS) : varK i (some (some (.ol ds))) L = .ok (.list ds) (L.set i (some (.d (.list ds)))) := rfl
def peekK (o : Option (Option S)) (L : LS) : R D := match o with
  | some (some (.d d)) => .ok d L
  | some (some (.ol ds)) => .ok (.list ds) L
  | some (some (.scr ns)) => .ok (.list (ns.map PyData.int)) L
  | some (some (.bl ds)) => .ok (.list ds) L
  | _ => .stuck
theorem ev_peek (i : Nat) (L : LS) : gPeek i L = peekK L[i]? L := rfl
theorem peekK_d (d : D) (L : LS) : peekK (some (some (.d d))) L = .ok d L := rfl
theorem peekK_l (ds : List D) (L : LS) : peekK (some (some (.ol ds))) L = .ok (.list ds) L := rfl
theorem peekK_s (ns : List Int) (L : LS) : peekK (some (some (.scr ns))) L = .ok (.list (ns.map PyData.int)) L := rfl
def moveK (i : Nat) (o : Option (Option S)) (L : LS) : R S := match o with
  | some (some (.d d)) => .ok (.d d) L
  | some (some (.scr _)) => .stuck
  | some (some (.b _)) => .stuck
  | some (some (.bl _)) => .stuck
  | some (some s) => .ok s (L.set i none)
  | _ => .stuck
theorem ev_move (i : Nat) (L : LS) : gMove i L = moveK i L[i]? L := rfl
theorem moveK_d (i : Nat) (d : D) (L : LS) : moveK i (some (some (.d d))) L = .ok (.d d) L := rfl
theorem moveK_l (i : Nat) (ds : List D) (L : LS) : moveK i (some (some (.ol ds))) L = .ok (.ol ds) (L.set i none) := rfl
def ixK (i : Nat) (o : Option (Option S)) (b : LS → R D) (L : LS) : R D := match o with
  | some (some _) => (b L).bind fun e L1 => (gPeek i L1).bind fun d L2 => ofO (dIx d e) L2
  | _ => .stuck
def ixK1 (i : Nat) (r : R D) : R D := r.bind fun e L1 => (gPeek i L1).bind fun d L2 => ofO (dIx d e) L2
def ixK2 (e : D) (r : R D) : R D := r.bind fun d L2 => ofO (dIx d e) L2
theorem ev_ixP (i : Nat) (b : LS → R D) (L : LS) : gIxP i b L = ixK i L[i]? b L := rfl
theorem ixK_ok (i : Nat) (s : S) (b : LS → R D) (L : LS) : ixK i (some (some s)) b L = ixK1 i (b L) := rfl
theorem ixK1_ok (i : Nat) (e : D) (L : LS) : ixK1 i (.ok e L) = ixK2 e (gPeek i L) := rfl
theorem ixK1_err (i e : Nat) (L : LS) : ixK1 i (.err e L) = .err e L := rfl
theorem ixK2_ok (e d : D) (L : LS) : ixK2 e (.ok d L) = ofO (dIx d e) L := rfl
theorem atI_nat' (xs : List D) (k : Nat) : atI xs (k : Int) = xs[k]? := by
  unfold atI ixN
  rw [if_pos (Int.natCast_nonneg k)]
  by_cases h : k < xs.length
  · rw [if_pos (by omega)]
    rfl
  · rw [if_neg (by omega), List.getElem?_eq_none (by omega)]
    rfl
theorem dIx_nat (xs : List D) (k : Nat) : dIx (.list xs) (.int (k : Int)) = xs[k]? := atI_nat' xs k
theorem dIx_natT (xs : List D) (k : Nat) : dIx (.tuple xs) (.int (k : Int)) = xs[k]? := atI_nat' xs k
theorem dIx_l0 (xs : List D) : dIx (.list xs) (.int 0) = xs[0]? := dIx_nat xs 0
theorem dIx_l1 (xs : List D) : dIx (.list xs) (.int 1) = xs[1]? := dIx_nat xs 1
theorem dIx_l2 (xs : List D) : dIx (.list xs) (.int 2) = xs[2]? := dIx_nat xs 2
theorem dIx_l3 (xs : List D) : dIx (.list xs) (.int 3) = xs[3]? := dIx_nat xs 3
theorem dIx_l4 (xs : List D) : dIx (.list xs) (.int 4) = xs[4]? := dIx_nat xs 4
theorem dIx_t0 (xs : List D) : dIx (.tuple xs) (.int 0) = xs[0]? := dIx_natT xs 0
theorem dIx_t1 (xs : List D) : dIx (.tuple xs) (.int 1) = xs[1]? := dIx_natT xs 1
theorem dIx_t2 (xs : List D) : dIx (.tuple xs) (.int 2) = xs[2]? := dIx_natT xs 2
theorem dIx_t3 (xs : List D) : dIx (.tuple xs) (.int 3) = xs[3]? := dIx_natT xs 3
def setK0 (i : Nat) (gk : LS → R D) (r : R D) : R O := r.bind fun d L1 => match L1[i]? with
  | some (some _) => (gk L1).bind (setAt i d)
  | _ => .stuck
def setK1 (i : Nat) (gk : LS → R D) (d : D) (o : Option (Option S)) (L : LS) : R O := match o with
  | some (some _) => (gk L).bind (setAt i d)
  | _ => .stuck
def setK2 (i : Nat) (d : D) (r : R D) : R O := r.bind (setAt i d)
def setK3 (i : Nat) (d : D) (k : Int) (o : Option (Option S)) (L : LS) : R O := match o with
  | some (some (.ol ds)) => (match ixN ds.length k with
    | some j => .ok .nx (L.set i (some (.ol (ds.set j d))))
    | none => .stuck)
  | _ => .stuck
theorem ev_setIx (i : Nat) (gk g : LS → R D) (L : LS) : gSetIx i gk g L = setK0 i gk (g L) := rfl
theorem setK0_ok (i : Nat) (gk : LS → R D) (d : D) (L : LS) : setK0 i gk (.ok d L) = setK1 i gk d L[i]? L := rfl
theorem setK0_err (i : Nat) (gk : LS → R D) (e : Nat) (L : LS) : setK0 i gk (.err e L) = .err e L := rfl
theorem setK1_ok (i : Nat) (gk : LS → R D) (d : D) (s : S) (L : LS) : setK1 i gk d (some (some s)) L = setK2 i d (gk L) := rfl
theorem setK2_ok (i : Nat) (d : D) (k : Int) (L : LS) : setK2 i d (.ok (.int k) L) = setK3 i d k L[i]? L := rfl
theorem setK3_nat (i : Nat) (d : D) (k : Nat) (ds : List D) (L : LS) : setK3 i d (k : Int) (some (some (.ol ds))) L = if k < ds.length then .ok .nx (L.set i (some (.ol (ds.set k d)))) else .stuck := by
  unfold setK3 ixN
  dsimp only
  rw [if_pos (Int.natCast_nonneg k)]
  by_cases h : k < ds.length
  · rw [if_pos (by omega), if_pos h]
    rfl
  · rw [if_neg (by omega), if_neg h]
theorem setK3_0 (i : Nat) (d : D) (ds : List D) (L : LS) : setK3 i d 0 (some (some (.ol ds))) L = if 0 < ds.length then .ok .nx (L.set i (some (.ol (ds.set 0 d)))) else .stuck := setK3_nat i d 0 ds L
theorem setK3_1 (i : Nat) (d : D) (ds : List D) (L : LS) : setK3 i d 1 (some (some (.ol ds))) L = if 1 < ds.length then .ok .nx (L.set i (some (.ol (ds.set 1 d)))) else .stuck := setK3_nat i d 1 ds L
theorem setK3_2 (i : Nat) (d : D) (ds : List D) (L : LS) : setK3 i d 2 (some (some (.ol ds))) L = if 2 < ds.length then .ok .nx (L.set i (some (.ol (ds.set 2 d)))) else .stuck := setK3_nat i d 2 ds L
theorem setK3_3 (i : Nat) (d : D) (ds : List D) (L : LS) : setK3 i d 3 (some (some (.ol ds))) L = if 3 < ds.length then .ok .nx (L.set i (some (.ol (ds.set 3 d)))) else .stuck := setK3_nat i d 3 ds L
theorem setK3_4 (i : Nat) (d : D) (ds : List D) (L : LS) : setK3 i d 4 (some (some (.ol ds))) L = if 4 < ds.length then .ok .nx (L.set i (some (.ol (ds.set 4 d)))) else .stuck := setK3_nat i d 4 ds L
def slK1 (lo hi : LS → R (Option Int)) (r : R D) : R S := r.bind fun d L1 => (lo L1).bind fun l L2 => (hi L2).bind fun u L3 => ofO (dSl d l u) L3
def slK2 (d : D) (hi : LS → R (Option Int)) (r : R (Option Int)) : R S := r.bind fun l L2 => (hi L2).bind fun u L3 => ofO (dSl d l u) L3
def slK3 (d : D) (l : Option Int) (r : R (Option Int)) : R S := r.bind fun u L3 => ofO (dSl d l u) L3
theorem ev_sl (a : LS → R D) (lo hi : LS → R (Option Int)) (L : LS) : gSl a lo hi L = slK1 lo hi (a L) := rfl
theorem slK1_ok (lo hi : LS → R (Option Int)) (d : D) (L : LS) : slK1 lo hi (.ok d L) = slK2 d hi (lo L) := rfl
theorem slK2_ok (d : D) (hi : LS → R (Option Int)) (l : Option Int) (L : LS) : slK2 d hi (.ok l L) = slK3 d l (hi L) := rfl
theorem slK3_ok (d : D) (l u : Option Int) (L : LS) : slK3 d l (.ok u L) = ofO (dSl d l u) L := rfl
theorem ev_no (L : LS) : gNo L = .ok none L := rfl
def soK (r : R D) : R (Option Int) := r.bind asI
theorem ev_so (g : LS → R D) (L : LS) : gSo g L = soK (g L) := rfl
theorem soK_ok (i : Int) (L : LS) : soK (.ok (.int i) L) = .ok (some i) L := rfl
theorem soK_err (e : Nat) (L : LS) : soK (.err e L) = .err e L := rfl
def joinK1 (gb : LS → R D) (r : R D) : R D := r.bind (gTxt fun a L1 => (gb L1).bind fun e L2 => ofO (dJoin (.str a) e) L2)
def joinK2 (a : Str) (r : R D) : R D := r.bind fun e L2 => ofO (dJoin (.str a) e) L2
theorem ev_join (ga gb : LS → R D) (L : LS) : gJoin ga gb L = joinK1 gb (ga L) := rfl
theorem joinK1_ok (gb : LS → R D) (a : Str) (L : LS) : joinK1 gb (.ok (.str a) L) = joinK2 a (gb L) := rfl
theorem joinK2_ok (a : Str) (e : D) (L : LS) : joinK2 a (.ok e L) = ofO (dJoin (.str a) e) L := rfl
def appK1 (i : Nat) (g : LS → R D) (o : Option (Option S)) (L : LS) : R S := match o with
  | some (some (.ol _)) => (g L).bind fun d L1 => gOwnL i (fun ds L2 => if ds.length < sizeLine then .ok (.d .none) (L2.set i (some (.ol (ds ++ [d])))) else .stuck) L1
  | _ => .stuck
def appK2 (i : Nat) (r : R D) : R S := r.bind fun d L1 => gOwnL i (fun ds L2 => if ds.length < sizeLine then .ok (.d .none) (L2.set i (some (.ol (ds ++ [d])))) else .stuck) L1
def appK3 (i : Nat) (d : D) (o : Option (Option S)) (L : LS) : R S := match o with
  | some (some (.ol ds)) => if ds.length < sizeLine then .ok (.d .none) (L.set i (some (.ol (ds ++ [d])))) else .stuck
  | _ => .stuck
theorem ev_app (i : Nat) (g : LS → R D) (L : LS) : gApp i g L = appK1 i g L[i]? L := rfl
theorem appK1_ok (i : Nat) (g : LS → R D) (ds : List D) (L : LS) : appK1 i g (some (some (.ol ds))) L = appK2 i (g L) := rfl
theorem appK2_ok (i : Nat) (d : D) (L : LS) : appK2 i (.ok d L) = appK3 i d L[i]? L := rfl
theorem appK2_err (i e : Nat) (L : LS) : appK2 i (.err e L) = .err e L := rfl
theorem appK3_ok (i : Nat) (d : D) (ds : List D) (L : LS) : appK3 i d (some (some (.ol ds))) L = if ds.length < sizeLine then .ok (.d .none) (L.set i (some (.ol (ds ++ [d])))) else .stuck := rfl
def eaK1 (as : List Ar) (r : R D) : R (List Av) := r.bind fun d L1 => (evArgs as L1).bind fun xs L2 => .ok (.d d :: xs) L2
def eaK2 (x : Av) (r : R (List Av)) : R (List Av) := r.bind fun xs L2 => .ok (x :: xs) L2
def eaK3 (i : Nat) (o : Option (Option S)) (as : List Ar) (L : LS) : R (List Av) := match o with
  | some (some _) => (evArgs as L).bind fun xs L2 => .ok (.r i :: xs) L2
  | _ => .stuck
theorem ev_a0 (L : LS) : evArgs [] L = .ok [] L := rfl
theorem ev_aD (g : LS → R D) (as : List Ar) (L : LS) : evArgs (.d g :: as) L = eaK1 as (g L) := rfl
theorem ev_aR (i : Nat) (as : List Ar) (L : LS) : evArgs (.r i :: as) L = eaK3 i L[i]? as L := rfl
theorem eaK1_ok (as : List Ar) (d : D) (L : LS) : eaK1 as (.ok d L) = eaK2 (.d d) (evArgs as L) := rfl
theorem eaK1_err (as : List Ar) (e : Nat) (L : LS) : eaK1 as (.err e L) = .err e L := rfl
theorem eaK3_ok (i : Nat) (s : S) (as : List Ar) (L : LS) : eaK3 i (some (some s)) as L = eaK2 (.r i) (evArgs as L) := rfl
theorem eaK2_ok (x : Av) (xs : List Av) (L : LS) : eaK2 x (.ok xs L) = .ok (x :: xs) L := rfl
theorem eaK2_err (x : Av) (e : Nat) (L : LS) : eaK2 x (.err e L) = .err e L := rfl
def callK (m : LS → R S) (r : R (List Av)) : R S := r.bind fun xs L1 => if (refs xs).Nodup then callAt m xs L1 else .stuck
def backK (xs : List Av) (L : LS) (r : R S) : R S := match r with
  | .ok s ss => .ok s (putBack xs ss L)
  | .err e ss => .err e (putBack xs ss L)
  | .stuck => .stuck
theorem ev_call (m : LS → R S) (as : List Ar) (L : LS) : gCall m as L = callK m (evArgs as L) := rfl
theorem callK_d1 (m : LS → R S) (d : D) (L : LS) : callK m (.ok [.d d] L) = backK [.d d] L (m [some (.d d)]) := rfl
theorem callK_gen (m : LS → R S) (xs : List Av) (L : LS) (h : (refs xs).Nodup) : callK m (.ok xs L) = backK xs L (m (xs.map (slotOf L))) := if_pos h
theorem callK_d2 (m : LS → R S) (d0 d1 : D) (L : LS) : callK m (.ok [.d d0, .d d1] L) = backK [.d d0, .d d1] L (m [some (.d d0), some (.d d1)]) := rfl
theorem callK_d3 (m : LS → R S) (d0 d1 d2 : D) (L : LS) : callK m (.ok [.d d0, .d d1, .d d2] L) = backK [.d d0, .d d1, .d d2] L (m [some (.d d0), some (.d d1), some (.d d2)]) := rfl
theorem callK_d4 (m : LS → R S) (d0 d1 d2 d3 : D) (L : LS) : callK m (.ok [.d d0, .d d1, .d d2, .d d3] L) = backK [.d d0, .d d1, .d d2, .d d3] L (m [some (.d d0), some (.d d1), some (.d d2), some (.d d3)]) := rfl
theorem callK_d5 (m : LS → R S) (d0 d1 d2 d3 d4 : D) (L : LS) : callK m (.ok [.d d0, .d d1, .d d2, .d d3, .d d4] L) = backK [.d d0, .d d1, .d d2, .d d3, .d d4] L (m [some (.d d0), some (.d d1), some (.d d2), some (.d d3), some (.d d4)]) := rfl
theorem callK_d6 (m : LS → R S) (d0 d1 d2 d3 d4 d5 : D) (L : LS) : callK m (.ok [.d d0, .d d1, .d d2, .d d3, .d d4, .d d5] L) = backK [.d d0, .d d1, .d d2, .d d3, .d d4, .d d5] L (m [some (.d d0), some (.d d1), some (.d d2), some (.d d3), some (.d d4), some (.d d5)]) := rfl
theorem callK_d7 (m : LS → R S) (d0 d1 d2 d3 d4 d5 d6 : D) (L : LS) : callK m (.ok [.d d0, .d d1, .d d2, .d d3, .d d4, .d d5, .d d6] L) = backK [.d d0, .d d1, .d d2, .d d3, .d d4, .d d5, .d d6] L (m [some (.d d0), some (.d d1), some (.d d2), some (.d d3), some (.d d4), some (.d d5), some (.d d6)]) := rfl
theorem callK_d8 (m : LS → R S) (d0 d1 d2 d3 d4 d5 d6 d7 : D) (L : LS) : callK m (.ok [.d d0, .d d1, .d d2, .d d3, .d d4, .d d5, .d d6, .d d7] L) = backK [.d d0, .d d1, .d d2, .d d3, .d d4, .d d5, .d d6, .d d7] L (m [some (.d d0), some (.d d1), some (.d d2), some (.d d3), some (.d d4), some (.d d5), some (.d d6), some (.d d7)]) := rfl
theorem callK_r0 (m : LS → R S) (i : Nat)  (L : LS) : callK m (.ok [.r i] L) = backK [.r i] L (m [(L[i]?).join]) := callK_gen m _ L (List.nodup_cons.mpr ⟨List.not_mem_nil, List.nodup_nil⟩)
theorem callK_r1 (m : LS → R S) (i : Nat) (d0 : D) (L : LS) : callK m (.ok [.r i, .d d0] L) = backK [.r i, .d d0] L (m [(L[i]?).join, some (.d d0)]) := callK_gen m _ L (List.nodup_cons.mpr ⟨List.not_mem_nil, List.nodup_nil⟩)
theorem callK_r2 (m : LS → R S) (i : Nat) (d0 d1 : D) (L : LS) : callK m (.ok [.r i, .d d0, .d d1] L) = backK [.r i, .d d0, .d d1] L (m [(L[i]?).join, some (.d d0), some (.d d1)]) := callK_gen m _ L (List.nodup_cons.mpr ⟨List.not_mem_nil, List.nodup_nil⟩)
theorem callK_r3 (m : LS → R S) (i : Nat) (d0 d1 d2 : D) (L : LS) : callK m (.ok [.r i, .d d0, .d d1, .d d2] L) = backK [.r i, .d d0, .d d1, .d d2] L (m [(L[i]?).join, some (.d d0), some (.d d1), some (.d d2)]) := callK_gen m _ L (List.nodup_cons.mpr ⟨List.not_mem_nil, List.nodup_nil⟩)
theorem callK_r4 (m : LS → R S) (i : Nat) (d0 d1 d2 d3 : D) (L : LS) : callK m (.ok [.r i, .d d0, .d d1, .d d2, .d d3] L) = backK [.r i, .d d0, .d d1, .d d2, .d d3] L (m [(L[i]?).join, some (.d d0), some (.d d1), some (.d d2), some (.d d3)]) := callK_gen m _ L (List.nodup_cons.mpr ⟨List.not_mem_nil, List.nodup_nil⟩)
theorem callK_r5 (m : LS → R S) (i : Nat) (d0 d1 d2 d3 d4 : D) (L : LS) : callK m (.ok [.r i, .d d0, .d d1, .d d2, .d d3, .d d4] L) = backK [.r i, .d d0, .d d1, .d d2, .d d3, .d d4] L (m [(L[i]?).join, some (.d d0), some (.d d1), some (.d d2), some (.d d3), some (.d d4)]) := callK_gen m _ L (List.nodup_cons.mpr ⟨List.not_mem_nil, List.nodup_nil⟩)
theorem callK_r6 (m : LS → R S) (i : Nat) (d0 d1 d2 d3 d4 d5 : D) (L : LS) : callK m (.ok [.r i, .d d0, .d d1, .d d2, .d d3, .d d4, .d d5] L) = backK [.r i, .d d0, .d d1, .d d2, .d d3, .d d4, .d d5] L (m [(L[i]?).join, some (.d d0), some (.d d1), some (.d d2), some (.d d3), some (.d d4), some (.d d5)]) := callK_gen m _ L (List.nodup_cons.mpr ⟨List.not_mem_nil, List.nodup_nil⟩)
theorem callK_r7 (m : LS → R S) (i : Nat) (d0 d1 d2 d3 d4 d5 d6 : D) (L : LS) : callK m (.ok [.r i, .d d0, .d d1, .d d2, .d d3, .d d4, .d d5, .d d6] L) = backK [.r i, .d d0, .d d1, .d d2, .d d3, .d d4, .d d5, .d d6] L (m [(L[i]?).join, some (.d d0), some (.d d1), some (.d d2), some (.d d3), some (.d d4), some (.d d5), some (.d d6)]) := callK_gen m _ L (List.nodup_cons.mpr ⟨List.not_mem_nil, List.nodup_nil⟩)
theorem callK_err (m : LS → R S) (e : Nat) (L : LS) : callK m (.err e L) = .err e L := rfl
theorem backK_ok (xs : List Av) (L : LS) (s : S) (ss : LS) : backK xs L (.ok s ss) = .ok s (putBack xs ss L) := rfl
theorem backK_err (xs : List Av) (L : LS) (e : Nat) (ss : LS) : backK xs L (.err e ss) = .err e (putBack xs ss L) := rfl
theorem slotOf_d (L : LS) (d : D) : slotOf L (.d d) = some (.d d) := rfl
theorem slotOf_r (L : LS) (i : Nat) : slotOf L (.r i) = (L[i]?).join := rfl
theorem putBack_d (xs : List Av) (d : D) (o : Option S) (ss L : LS) : putBack (.d d :: xs) (o :: ss) L = putBack xs ss L := rfl
theorem putBack_r (xs : List Av) (i : Nat) (o : Option S) (ss L : LS) : putBack (.r i :: xs) (o :: ss) L = putBack xs ss (L.set i o) := rfl
theorem putBack_nil (ss L : LS) : putBack [] ss L = L := rfl
theorem refs_nil : refs [] = [] := rfl
theorem refs_d (d : D) (xs : List Av) : refs (.d d :: xs) = refs xs := rfl
theorem refs_r (i : Nat) (xs : List Av) : refs (.r i :: xs) = i :: refs xs := rfl
theorem ev_run (md : List Bool) (N : Nat) (g : LS → R O) (ss : LS) : runDef md N g ss = endOf md (g (ss ++ List.replicate (N - ss.length) none)) := rfl
theorem endOf_nx (md : List Bool) (L : LS) : endOf md (.ok .nx L) = .ok (.d .none) (maskL md L) := rfl
theorem endOf_rt (md : List Bool) (s : S) (L : LS) : endOf md (.ok (.rt s) L) = .ok s (maskL md L) := rfl
theorem endOf_err (md : List Bool) (e : Nat) (L : LS) : endOf md (.err e L) = .err e (maskL md L) := rfl
theorem maskL_t (bs : List Bool) (o : Option S) (L : LS) : maskL (true :: bs) (o :: L) = o :: maskL bs L := rfl
theorem maskL_f (bs : List Bool) (o : Option S) (L : LS) : maskL (false :: bs) (o :: L) = none :: maskL bs L := rfl
theorem maskL_nil (L : LS) : maskL [] L = [] := by cases L <;> rfl
def forK (f : D → LS → Option LS) (g : LS → R O) (r : R (List D)) : R O := r.bind fun ds L1 => forGo f g ds L1
theorem ev_for (gi : LS → R (List D)) (f : D → LS → Option LS) (g : LS → R O) (L : LS) : gFor gi f g L = forK f g (gi L) := rfl
theorem forK_ok (f : D → LS → Option LS) (g : LS → R O) (ds : List D) (L : LS) : forK f g (.ok ds L) = forGo f g ds L := rfl
def turnK (f : D → LS → Option LS) (g : LS → R O) (ds : List D) (r : R O) : R O := match r with
  | .ok .nx L2 => forGo f g ds L2
  | .ok .ct L2 => forGo f g ds L2
  | .ok .bk L2 => .ok .nx L2
  | r => r
theorem forGo_nil (f : D → LS → Option LS) (g : LS → R O) (L : LS) : forGo f g [] L = .ok .nx L := rfl
theorem forGo_cons (f : D → LS → Option LS) (g : LS → R O) (d : D) (ds : List D) {L L1 : LS} (h : f d L = some L1) : forGo f g (d :: ds) L = turnK f g ds (g L1) := by
  show (match f d L with
    | none => R.stuck
    | some L1 => turnK f g ds (g L1)) = _
  rw [h]
theorem turnK_nx (f : D → LS → Option LS) (g : LS → R O) (ds : List D) (L : LS) : turnK f g ds (.ok .nx L) = forGo f g ds L := rfl
theorem turnK_ct (f : D → LS → Option LS) (g : LS → R O) (ds : List D) (L : LS) : turnK f g ds (.ok .ct L) = forGo f g ds L := rfl
theorem turnK_bk (f : D → LS → Option LS) (g : LS → R O) (ds : List D) (L : LS) : turnK f g ds (.ok .bk L) = .ok .nx L := rfl
theorem turnK_rt (f : D → LS → Option LS) (g : LS → R O) (ds : List D) (s : S) (L : LS) : turnK f g ds (.ok (.rt s) L) = .ok (.rt s) L := rfl
theorem turnK_err (f : D → LS → Option LS) (g : LS → R O) (ds : List D) (e : Nat) (L : LS) : turnK f g ds (.err e L) = .err e L := rfl
theorem bind_ok {β : Type} (a : α) (L : LS) (k : α → LS → R β) : (R.ok a L).bind k = k a L := rfl
theorem asItems_l (ds : List D) (L : LS) : asItems (.list ds) L = .ok ds L := rfl
theorem asItems_t (ds : List D) (L : LS) : asItems (.tuple ds) L = .ok ds L := rfl
theorem asItems_s (x : Str) (L : LS) : asItems (.str x) L = .ok (signs x) L := rfl
theorem ev_name (i : Nat) (d : D) (L : LS) : fName i d L = some (L.set i (some (.d d))) := rfl
theorem ev_fnil (L : LS) : fNil [] L = some L := rfl
theorem ev_fcons (f : D → LS → Option LS) (r : List D → LS → Option LS) (d : D) (ds : List D) (L : LS) : fCons f r (d :: ds) L = (f d L).bind (r ds) := rfl
theorem ev_ftup (m : Nat) (f : List D → LS → Option LS) (ds : List D) (L : LS) : fTup m f (.tuple ds) L = if ds.length = m then f ds L else none := rfl
theorem some_bind {β : Type} (a : α) (k : α → Option β) : (some a).bind k = k a := rfl
def asgTK (f : D → LS → Option LS) (r : R D) : R O := r.bind fun d L1 => match f d L1 with
  | some L2 => .ok .nx L2
  | none => .stuck
def asgTK2 (o : Option LS) : R O := match o with
  | some L2 => .ok .nx L2
  | none => .stuck
theorem ev_asgT (f : D → LS → Option LS) (g : LS → R D) (L : LS) : gAsgT f g L = asgTK f (g L) := rfl
theorem asgTK_ok (f : D → LS → Option LS) (d : D) (L : LS) : asgTK f (.ok d L) = asgTK2 (f d L) := rfl
theorem asgTK2_ok (L : LS) : asgTK2 (some L) = .ok .nx L := rfl
def lcK (vs : List Nat) (f : D → LS → Option LS) (gt : LS → R Bool) (ge : LS → R D) (r : R (List D)) : R S := r.bind fun ds L1 => lcGo vs f gt ge ds [] (wipeL L1 vs)
theorem ev_lc (vs : List Nat) (gi : LS → R (List D)) (f : D → LS → Option LS) (gt : LS → R Bool) (ge : LS → R D) (L : LS) : gLc vs gi f gt ge L = lcK vs f gt ge (gi L) := rfl
theorem lcK_ok (vs : List Nat) (f : D → LS → Option LS) (gt : LS → R Bool) (ge : LS → R D) (ds : List D) (L : LS) : lcK vs f gt ge (.ok ds L) = lcGo vs f gt ge ds [] (wipeL L vs) := rfl
theorem wipeL_nil (L : LS) : wipeL L [] = L := rfl
theorem wipeL_cons (L : LS) (v : Nat) (vs : List Nat) : wipeL L (v :: vs) = (wipeL L vs).set v none := rfl
theorem ev_yes (L : LS) : gYes L = .ok true L := rfl
theorem lcGo_nil (vs : List Nat) (f : D → LS → Option LS) (gt : LS → R Bool) (ge : LS → R D) (acc : List D) (L : LS) : lcGo vs f gt ge [] acc L = .ok (.ol acc) L := rfl
theorem dLt_i (i j : Int) : dLt (.int i) (.int j) = some (.bool (decide (i < j))) := rfl
theorem dLe_i (i j : Int) : dLe (.int i) (.int j) = some (.bool (decide (i ≤ j))) := rfl
theorem dGt_i (i j : Int) : dGt (.int i) (.int j) = some (.bool (decide (j < i))) := rfl
theorem dGe_i (i j : Int) : dGe (.int i) (.int j) = some (.bool (decide (j ≤ i))) := rfl
theorem eqv_int (i j : Int) : PyData.eqv (.int i) (.int j) = decide (i = j) := by
  simp only [PyData.eqv]
  exact Bool.beq_eq_decide_eq i j
theorem eqv_str (i j : Str) : PyData.eqv (.str i) (.str j) = decide (i = j) := by
  simp only [PyData.eqv]
  exact Bool.beq_eq_decide_eq i j
theorem eqv_bool (i j : Bool) : PyData.eqv (.bool i) (.bool j) = decide (i = j) := by
  simp only [PyData.eqv]
  exact Bool.beq_eq_decide_eq i j
theorem dEq_i (i j : Int) : dEq (.int i) (.int j) = some (.bool (decide (i = j))) := by
  unfold dEq
  rw [if_pos (.inl rfl), eqv_int]
theorem dEq_s (i j : Str) : dEq (.str i) (.str j) = some (.bool (decide (i = j))) := by
  unfold dEq
  rw [if_pos (.inl rfl), eqv_str]
theorem dEq_b (i j : Bool) : dEq (.bool i) (.bool j) = some (.bool (decide (i = j))) := by
  unfold dEq
  rw [if_pos (.inl rfl), eqv_bool]
theorem dNe_i (i j : Int) : dNe (.int i) (.int j) = some (.bool (!decide (i = j))) := by
  unfold dNe
  rw [if_pos (.inl rfl), eqv_int]
theorem dNe_s (i j : Str) : dNe (.str i) (.str j) = some (.bool (!decide (i = j))) := by
  unfold dNe
  rw [if_pos (.inl rfl), eqv_str]
theorem dIs_b (i j : Bool) : dIs (.bool i) (.bool j) = some (.bool (decide (i = j))) := rfl
theorem dSub_i (i j : Int) : dSub (.int i) (.int j) = some (.int (i - j)) := rfl
theorem dMod_ok {i j : Int} (h : 0 < j) : dMod (.int i) (.int j) = some (.int (i % j)) := if_pos (decide_eq_true h)
theorem dDiv_ok {i j : Int} (h : 0 < j) (h2 : j < 1073741824) : dDiv (.int i) (.int j) = some (.int (i / j)) := if_pos (decide_eq_true ⟨h, h2⟩)
theorem dMul_ok {i j : Int} (h : -(2 ^ 64) < i) (h2 : i < 2 ^ 64) : dMul (.int i) (.int j) = some (.d (.int (i * j))) := by
  have e : dMulI (.int i) (.int j) = some (.int (i * j)) := if_pos (decide_eq_true (.inl ⟨h, h2⟩))
  show (((dMulI (.int i) (.int j)).map S.d).orElse _) = _
  rw [e]
  rfl
theorem dPow_ok {i j : Int} (h : 0 ≤ j ∧ j ≤ 1000000 ∧ i.natAbs < 2 ^ 64) : dPow (.int i) (.int j) = some (.int (i ^ j.toNat)) := if_pos (decide_eq_true h)
theorem dLen_l (xs : List D) : dLen (.list xs) = some (.int xs.length) := rfl
theorem dLen_t (xs : List D) : dLen (.tuple xs) = some (.int xs.length) := rfl
theorem dList_l (xs : List D) : dList (.list xs) = some (.ol xs) := rfl
theorem dList_t (xs : List D) : dList (.tuple xs) = some (.ol xs) := rfl
theorem dSl_l (xs : List D) (lo hi : Option Int) : dSl (.list xs) lo hi = some (.ol (cutD xs lo hi)) := rfl
theorem dNot_b (b : Bool) : dNot (.bool b) = some (.bool (!b)) := rfl
end
end VS

namespace VS
open PySem PySem.Spec PyProof.Rows L2
theorem dx_stuck {P : Program} {w : World} {K : PySem.W.Frag} {mg : Str → Option Value} {base : Heap} {ca : Nat → Addr} {x : Str} {k : Nat} {ps : List Str} {md : List Bool} {f : Addr} {fd : FuncData}
    (hg : mg x = some (.ref f)) (hk : PySem.W.keepIn K (.ref f) = true) (hb : Binds K fd ps []) : Dx P w K mg base ca x k ps md (fun _ => .stuck) :=
  ⟨f, fd, ⟨fun vs H Q E h => by obtain ⟨_, _, _, _, _, _, _, z⟩ := h; exact z.elim, fun A outer s H args us vs Q E _ _ _ _ h => by obtain ⟨_, _, _, _, _, _, _, z⟩ := h; exact z.elim⟩, hg, hk, hb⟩
def intsOf : List D → Option (List Int)
  | [] => some []
  | .int i :: ds => (intsOf ds).map (i :: ·)
  | _ :: _ => none
theorem ints_of {K : PySem.W.Frag} {F : Hp} : ∀ {ds : List D} {vs : List V} {ns : List Int}, DqA K F vs ds → intsOf ds = some ns → vs = ns.map V.int
  | [], _, _, .nil, h => by cases h; rfl
  | .int i :: ds, _, ns, .cons (.int _) r, h => by
    have h : (intsOf ds).map (i :: ·) = some ns := h
    cases e : intsOf ds with
    | none => rw [e] at h; cases h
    | some ms =>
      rw [e] at h
      cases h
      rw [ints_of r e]
      rfl
section
variable {c : Ct} {n n1 n2 : Bool} {a b e : Expr} {es : List Expr} {ga gb : LS → R D} {gs : LS → R (List D)} {pos p : Pos}
theorem bv_list {G F H : Hp} {ow : Addr → Option Path} {σ : L2.St} {L : LS} {ds : List D} {v : V} (Rr : c.Rl G F ow σ H L) (hb : BV c.X.K F H ow (.list ds) v) : ∃ l vs, v = .ref l ∧ SqL c.X.K H l vs ∧ DqA c.X.K F vs ds := by
  rcases hb with hb | ⟨l, vs, ds', rfl, e, h1, h2⟩
  · cases hb with
    | lst h1 h2 => exact ⟨_, _, rfl, .of (Rr.exF _ _ h1), h2⟩
  · cases e
    exact ⟨l, vs, rfl, h1, h2⟩
def srt (ns : List Int) : List Int := ns.mergeSort
def gA {α : Type} (f : List D → Option α) (gs : LS → R (List D)) : LS → R α := fun L => (gs L).bind fun ds L1 => ofO (f ds) L1
theorem jd_callA {id : String} {x : Str} {r : List V → Hp → VK → Prop} {f : List D → Option D} (hc : CallR c.X (.builtin id) r) (hg : Gl c.X x) (hm : c.X.mg x = none) (hv : bootBuiltins x = some (.builtin id)) (ha : JA c n (e :: es) gs)
    (lf : ∀ (F H : Hp) (vs : List V) (ds : List D) (z : D), Same F H → DqA c.X.K F vs ds → f ds = some z → ∃ v, Dq c.X.K F v z ∧ ∀ Q : VK, Q v H → r vs H Q)
    (hn : x ≠ "__name__" := by decide) (hdb : (x == ("__debug__" : Str)) = false := by decide) (hs : starEach (e :: es) c.X.env = (false, eval e c.X.env) :: starEach es c.X.env := by rfl) (hpl : (backTo pos (starEach es c.X.env)).any (·.1) = false := by rfl) :
    JD c n (.Call (.Name x p) (e :: es) [] pos) (gA f gs) := by
  obtain ⟨ta, pa, qa⟩ := ha
  refine ⟨_, pe_callB hc hg hm hv pa hn hdb hs hpl, fun G F ow σ H L Rr => (qa G F ow σ H L Rr).bind1 (t2 := fun vs H1 Q => r vs H1 Q) fun ds L1 vs H1 F1 ow1 _ _ _ R1 b1 => ?_⟩
  cases hf : f ds with
  | none => trivial
  | some z =>
    obtain ⟨v, hv, q⟩ := lf F1 H1 vs ds z R1.exF b1 hf
    exact (Post.val R1 hv).imp q
def dMin : List D → Option D
  | [.int i, .int j] => some (.int (if j < i then j else i))
  | _ => none
def dMax : List D → Option D
  | [.int i, .int j] => some (.int (if j > i then j else i))
  | _ => none
theorem jd_max (hc : c.X.calm = true) (hg : Gl c.X "max") (hm : c.X.mg "max" = none) (ha : JA c n [a, b] gs) (hs : starEach [a, b] c.X.env = (false, eval a c.X.env) :: starEach [b] c.X.env := by rfl) (hpl : (backTo pos (starEach [b] c.X.env)).any (·.1) = false := by rfl) :
    JD c n (.Call (.Name "max" p) [a, b] [] pos) (gA dMax gs) :=
  jd_callA (call_max2 hc) hg hm (by decide +kernel) ha (fun F H vs ds z s h hf => by
    match ds, vs, h, hf with
    | [.int i, .int j], _, .cons (.int _) (.cons (.int _) .nil), hf =>
      cases hf
      exact ⟨_, .int _, fun Q q => ⟨i, j, rfl, q⟩⟩) (by decide) (by decide) hs hpl
def gOwnD (i : Nat) (k : List D → LS → R D) : LS → R D := fun L => match L[i]? with
  | some (some (.ol ds)) => k ds L
  | _ => .stuck
def popK (i : Nat) (k : Int) (L : LS) : R D := match L[i]? with
  | some (some (.ol ds)) => if -(2 ^ 63) ≤ k ∧ k < 2 ^ 63 then (match seqIndex? k ds.length with
    | some j => (match ds[j]? with
      | some d => .ok d (L.set i (some (.ol (ds.eraseIdx j))))
      | none => .stuck)
    | none => .stuck) else .stuck
  | _ => .stuck
def popAt (i : Nat) : D → LS → R D
  | .int k, L => popK i k L
  | _, _ => .stuck
def gPopAt (i : Nat) (g : LS → R D) : LS → R D := gOwnD i fun _ L => (g L).bind (popAt i)
def zipD : List D → List D → List D := fun xs ys => (xs.zip ys).map fun z => .tuple [z.1, z.2]
def asZip : List D → LS → R (List D)
  | [.list xs, .list ys], L => .ok (zipD xs ys) L
  | [.tuple xs, .tuple ys], L => .ok (zipD xs ys) L
  | _, _ => .stuck
theorem zipD_len (xs ys : List D) : (zipD xs ys).length = min xs.length ys.length := by unfold zipD; rw [List.length_map, List.length_zip]
theorem zipD_get {xs ys : List D} {i : Nat} {d : D} (h : (zipD xs ys)[i]? = some d) : ∃ x y, xs[i]? = some x ∧ ys[i]? = some y ∧ d = .tuple [x, y] := by
  unfold zipD at h
  rw [List.getElem?_map] at h
  cases e : (xs.zip ys)[i]? with
  | none => rw [e] at h; cases h
  | some z =>
    rw [e] at h
    obtain ⟨h1, h2⟩ := List.getElem?_zip_eq_some.mp e
    exact ⟨z.1, z.2, h1, h2, (Option.some.inj h).symm⟩
theorem zipL_post {G H1 F1 : Hp} {ow1 : Addr → Option Path} {σ : L2.St} {L1 : LS} {xs ys : List D} {vs : List V} (R1 : c.Rl G F1 ow1 σ H1 L1) (b1 : DqA c.X.K F1 vs [.list xs, .list ys]) :
    Post c G true F1 H1 σ (.ok (zipD xs ys) L1) (BI c.B c.X.K) (fun Q => ∃ a b xs ys, vs = [.ref a, .ref b] ∧ ((SqL c.X.K H1 a xs ∧ SqL c.X.K H1 b ys ∧ Q (Itz c.X.K a b) H1) ∨ (SqT c.X.K H1 a xs ∧ SqT c.X.K H1 b ys ∧ Q (RZ.ItzT c.X.K a b) H1))) := by
  match vs, b1 with
  | _, .cons (@Dq.lst _ _ l us _ h1 h2) (.cons (@Dq.lst _ _ m ws _ h3 h4) .nil) =>
    refine (Post.val (a := zipD xs ys) (b := Itz c.X.K l m) (B := BI c.B c.X.K) R1 fun i H s _ => ⟨fun hi => ⟨us, ws, .of (s _ _ h1), .of (s _ _ h3), ?_⟩, fun d hd => ?_⟩).imp fun Q q => ⟨l, m, us, ws, rfl, .inl ⟨.of (R1.exF _ _ h1), .of (R1.exF _ _ h3), q⟩⟩
    · rw [zipD_len] at hi
      rw [h2.len, h4.len]
      omega
    · obtain ⟨x, y, hx, hy, rfl⟩ := zipD_get hd
      obtain ⟨u, hu, ru⟩ := h2.get hx
      obtain ⟨z, hz, rz⟩ := h4.get hy
      refine ⟨⟨us, ws, u, z, .of (s _ _ h1), .of (s _ _ h3), hu, hz⟩, fun x' H' ⟨T, x1, y1, e1, e2, e3, e4, e5⟩ => .inr ⟨T, [x1, y1], [x, y], rfl, e1, e2, e3, ?_⟩⟩
      have f1 := e4 us (.of (s _ _ h1))
      have f2 := e5 ws (.of (s _ _ h3))
      rw [hu] at f1
      rw [hz] at f2
      cases f1
      cases f2
      exact .cons ru (.cons rz .nil)
theorem zipT_post {G H1 F1 : Hp} {ow1 : Addr → Option Path} {σ : L2.St} {L1 : LS} {xs ys : List D} {vs : List V} (R1 : c.Rl G F1 ow1 σ H1 L1) (b1 : DqA c.X.K F1 vs [.tuple xs, .tuple ys]) :
    Post c G true F1 H1 σ (.ok (zipD xs ys) L1) (BI c.B c.X.K) (fun Q => ∃ a b xs ys, vs = [.ref a, .ref b] ∧ ((SqL c.X.K H1 a xs ∧ SqL c.X.K H1 b ys ∧ Q (Itz c.X.K a b) H1) ∨ (SqT c.X.K H1 a xs ∧ SqT c.X.K H1 b ys ∧ Q (RZ.ItzT c.X.K a b) H1))) := by
  match vs, b1 with
  | _, .cons (@Dq.tup _ _ l us _ h1 h2) (.cons (@Dq.tup _ _ m ws _ h3 h4) .nil) =>
    refine (Post.val (a := zipD xs ys) (b := RZ.ItzT c.X.K l m) (B := BI c.B c.X.K) R1 fun i H s _ => ⟨fun hi => ⟨us, ws, sqt_same s h1, sqt_same s h3, ?_⟩, fun d hd => ?_⟩).imp fun Q q => ⟨l, m, us, ws, rfl, .inr ⟨sqt_same R1.exF h1, sqt_same R1.exF h3, q⟩⟩
    · rw [zipD_len] at hi
      rw [h2.len, h4.len]
      omega
    · obtain ⟨x, y, hx, hy, rfl⟩ := zipD_get hd
      obtain ⟨u, hu, ru⟩ := h2.get hx
      obtain ⟨z, hz, rz⟩ := h4.get hy
      refine ⟨⟨us, ws, u, z, sqt_same s h1, sqt_same s h3, hu, hz⟩, fun x' H' ⟨T, x1, y1, e1, e2, e3, e4, e5⟩ => .inr ⟨T, [x1, y1], [x, y], rfl, e1, e2, e3, ?_⟩⟩
      have f1 := e4 us (sqt_same s h1)
      have f2 := e5 ws (sqt_same s h3)
      rw [hu] at f1
      rw [hz] at f2
      cases f1
      cases f2
      exact .cons ru (.cons rz .nil)
theorem ji_zip {tpos : Pos} {elts : List Expr} {kk : Nat} (hg : Gl c.X "zip") (hm : c.X.mg "zip" = none) (h : JA c n [a, b] gs)
    (hs : starEach [a, b] c.X.env = (false, eval a c.X.env) :: starEach [b] c.X.env := by rfl) (hpl : (backTo pos (starEach [b] c.X.env)).any (·.1) = false := by rfl) :
    JI c n (.Tuple elts kk tpos) (.Call (.Name "zip" p) [a, b] [] pos) (fun L => (gs L).bind asZip) := by
  obtain ⟨t, q, k⟩ := h
  refine ⟨_, RZ.pi_zipA hg hm q hs hpl, fun G F ow σ H L Rr => (k G F ow σ H L Rr).bind1 (t2 := fun vs H1 Q => ∃ a b xs ys, vs = [.ref a, .ref b] ∧ ((SqL c.X.K H1 a xs ∧ SqL c.X.K H1 b ys ∧ Q (Itz c.X.K a b) H1) ∨ (SqT c.X.K H1 a xs ∧ SqT c.X.K H1 b ys ∧ Q (RZ.ItzT c.X.K a b) H1))) fun ds L1 vs H1 F1 ow1 _ _ _ R1 b1 => ?_⟩
  show Post c G true F1 H1 σ (asZip ds L1) _ _
  unfold asZip
  split
  · exact zipL_post R1 b1
  · exact zipT_post R1 b1
  · trivial
end
end VS

namespace VS
open PySem PySem.Spec PyProof.Rows L2
structure KeyAt1 (P : Program) (w : World) (K : PySem.W.Frag) (mg : Str → Option Value) (x : Str) : Prop where
  ex : ∃ f, mg x = some (.ref f) ∧ ∀ (A : Around) (s : Shared) (t : Addr) (items : Array Value) (y : Value), A.depth < recursionLimit → K.In s.heap → s.heap.NoLimit → IsTup s.heap t items → items[1]? = some y →
    wpAny (model P w) A (call (.ref f) [.ref t]) (fun v s2 => v = y ∧ ∃ h' tk, s2 = { s with heap := h', toks := tk } ∧ ∀ b o, s.heap.get? b = some o → h'.get? b = some o) (fun _ _ => False) s
section
variable {c : Ct} {n n1 n2 : Bool} {a b e : Expr} {es : List Expr} {ga gb : LS → R D} {gs : LS → R (List D)} {pos p p2 : Pos}
end
end VS

namespace VS
open PySem PySem.Spec PyProof.Rows L2
section
variable {b : Bool} {i : Int} {s : Str} {xs : List D}
theorem ty_n_bool : isTy "bool" .none = some (.bool false) := by
  show (kitB "NoneType" "bool").map PyData.bool = _
  rw [show kitB "NoneType" "bool" = some false from by decide +kernel]
  rfl
theorem ty_n_int : isTy "int" .none = some (.bool false) := by
  show (kitB "NoneType" "int").map PyData.bool = _
  rw [show kitB "NoneType" "int" = some false from by decide +kernel]
  rfl
theorem ty_n_str : isTy "str" .none = some (.bool false) := by
  show (kitB "NoneType" "str").map PyData.bool = _
  rw [show kitB "NoneType" "str" = some false from by decide +kernel]
  rfl
theorem ty_n_list : isTy "list" .none = some (.bool false) := by
  show (kitB "NoneType" "list").map PyData.bool = _
  rw [show kitB "NoneType" "list" = some false from by decide +kernel]
  rfl
theorem ty_n_tuple : isTy "tuple" .none = some (.bool false) := by
  show (kitB "NoneType" "tuple").map PyData.bool = _
  rw [show kitB "NoneType" "tuple" = some false from by decide +kernel]
  rfl
theorem ty_b_bool : isTy "bool" (.bool b) = some (.bool true) := by
  show (kitB "bool" "bool").map PyData.bool = _
  rw [show kitB "bool" "bool" = some true from by decide +kernel]
  rfl
theorem ty_b_int : isTy "int" (.bool b) = some (.bool true) := by
  show (kitB "bool" "int").map PyData.bool = _
  rw [show kitB "bool" "int" = some true from by decide +kernel]
  rfl
theorem ty_b_str : isTy "str" (.bool b) = some (.bool false) := by
  show (kitB "bool" "str").map PyData.bool = _
  rw [show kitB "bool" "str" = some false from by decide +kernel]
  rfl
theorem ty_b_list : isTy "list" (.bool b) = some (.bool false) := by
  show (kitB "bool" "list").map PyData.bool = _
  rw [show kitB "bool" "list" = some false from by decide +kernel]
  rfl
theorem ty_b_tuple : isTy "tuple" (.bool b) = some (.bool false) := by
  show (kitB "bool" "tuple").map PyData.bool = _
  rw [show kitB "bool" "tuple" = some false from by decide +kernel]
  rfl
theorem ty_i_bool : isTy "bool" (.int i) = some (.bool false) := by
  show (kitB "int" "bool").map PyData.bool = _
  rw [show kitB "int" "bool" = some false from by decide +kernel]
  rfl
theorem ty_i_int : isTy "int" (.int i) = some (.bool true) := by
  show (kitB "int" "int").map PyData.bool = _
  rw [show kitB "int" "int" = some true from by decide +kernel]
  rfl
theorem ty_i_str : isTy "str" (.int i) = some (.bool false) := by
  show (kitB "int" "str").map PyData.bool = _
  rw [show kitB "int" "str" = some false from by decide +kernel]
  rfl
theorem ty_i_list : isTy "list" (.int i) = some (.bool false) := by
  show (kitB "int" "list").map PyData.bool = _
  rw [show kitB "int" "list" = some false from by decide +kernel]
  rfl
theorem ty_i_tuple : isTy "tuple" (.int i) = some (.bool false) := by
  show (kitB "int" "tuple").map PyData.bool = _
  rw [show kitB "int" "tuple" = some false from by decide +kernel]
  rfl
theorem ty_s_bool : isTy "bool" (.str s) = some (.bool false) := by
  show (kitB "str" "bool").map PyData.bool = _
  rw [show kitB "str" "bool" = some false from by decide +kernel]
  rfl
theorem ty_s_int : isTy "int" (.str s) = some (.bool false) := by
  show (kitB "str" "int").map PyData.bool = _
  rw [show kitB "str" "int" = some false from by decide +kernel]
  rfl
theorem ty_s_str : isTy "str" (.str s) = some (.bool true) := by
  show (kitB "str" "str").map PyData.bool = _
  rw [show kitB "str" "str" = some true from by decide +kernel]
  rfl
theorem ty_s_list : isTy "list" (.str s) = some (.bool false) := by
  show (kitB "str" "list").map PyData.bool = _
  rw [show kitB "str" "list" = some false from by decide +kernel]
  rfl
theorem ty_s_tuple : isTy "tuple" (.str s) = some (.bool false) := by
  show (kitB "str" "tuple").map PyData.bool = _
  rw [show kitB "str" "tuple" = some false from by decide +kernel]
  rfl
theorem ty_l_bool : isTy "bool" (.list xs) = some (.bool false) := by
  show (kitB "list" "bool").map PyData.bool = _
  rw [show kitB "list" "bool" = some false from by decide +kernel]
  rfl
theorem ty_l_int : isTy "int" (.list xs) = some (.bool false) := by
  show (kitB "list" "int").map PyData.bool = _
  rw [show kitB "list" "int" = some false from by decide +kernel]
  rfl
theorem ty_l_str : isTy "str" (.list xs) = some (.bool false) := by
  show (kitB "list" "str").map PyData.bool = _
  rw [show kitB "list" "str" = some false from by decide +kernel]
  rfl
theorem ty_l_list : isTy "list" (.list xs) = some (.bool true) := by
  show (kitB "list" "list").map PyData.bool = _
  rw [show kitB "list" "list" = some true from by decide +kernel]
  rfl
theorem ty_l_tuple : isTy "tuple" (.list xs) = some (.bool false) := by
  show (kitB "list" "tuple").map PyData.bool = _
  rw [show kitB "list" "tuple" = some false from by decide +kernel]
  rfl
theorem ty_t_bool : isTy "bool" (.tuple xs) = some (.bool false) := by
  show (kitB "tuple" "bool").map PyData.bool = _
  rw [show kitB "tuple" "bool" = some false from by decide +kernel]
  rfl
theorem ty_t_int : isTy "int" (.tuple xs) = some (.bool false) := by
  show (kitB "tuple" "int").map PyData.bool = _
  rw [show kitB "tuple" "int" = some false from by decide +kernel]
  rfl
theorem ty_t_str : isTy "str" (.tuple xs) = some (.bool false) := by
  show (kitB "tuple" "str").map PyData.bool = _
  rw [show kitB "tuple" "str" = some false from by decide +kernel]
  rfl
theorem ty_t_list : isTy "list" (.tuple xs) = some (.bool false) := by
  show (kitB "tuple" "list").map PyData.bool = _
  rw [show kitB "tuple" "list" = some false from by decide +kernel]
  rfl
theorem ty_t_tuple : isTy "tuple" (.tuple xs) = some (.bool true) := by
  show (kitB "tuple" "tuple").map PyData.bool = _
  rw [show kitB "tuple" "tuple" = some true from by decide +kernel]
  rfl
end
theorem dIs_nn : dIs .none .none = some (.bool true) := rfl
theorem dIs_in (i : Int) : dIs (.int i) .none = some (.bool false) := rfl
theorem dIs_bn (i : Bool) : dIs (.bool i) .none = some (.bool false) := rfl
theorem dIs_sn (i : Str) : dIs (.str i) .none = some (.bool false) := rfl
theorem dIs_ln (i : List D) : dIs (.list i) .none = some (.bool false) := rfl
theorem dIs_tn (i : List D) : dIs (.tuple i) .none = some (.bool false) := rfl
theorem dNe_b (i j : Bool) : dNe (.bool i) (.bool j) = some (.bool (!decide (i = j))) := by
  unfold dNe
  rw [if_pos (.inl rfl), eqv_bool]
def aK {α : Type} (f : List D → Option α) (r : R (List D)) : R α := r.bind fun ds L1 => ofO (f ds) L1
theorem ev_A {α : Type} (f : List D → Option α) (gs : LS → R (List D)) (L : LS) : gA f gs L = aK f (gs L) := rfl
theorem aK_ok {α : Type} (f : List D → Option α) (ds : List D) (L : LS) : aK f (.ok ds L) = ofO (f ds) L := rfl
theorem aK_err {α : Type} (f : List D → Option α) (e : Nat) (L : LS) : aK f (.err e L) = .err e L := rfl
theorem dMin_ok (i j : Int) : dMin [.int i, .int j] = some (.int (min i j)) := by
  show some (PyData.int (if j < i then j else i)) = _
  congr 2
  by_cases h : j < i
  · rw [if_pos h]; omega
  · rw [if_neg h]; omega
theorem dMax_ok (i j : Int) : dMax [.int i, .int j] = some (.int (max i j)) := by
  show some (PyData.int (if j > i then j else i)) = _
  congr 2
  by_cases h : j > i
  · rw [if_pos h]; omega
  · rw [if_neg h]; omega
theorem asZip_l (xs ys : List D) (L : LS) : asZip [.list xs, .list ys] L = .ok (zipD xs ys) L := rfl
theorem asZip_t (xs ys : List D) (L : LS) : asZip [.tuple xs, .tuple ys] L = .ok (zipD xs ys) L := rfl
def popK1 (i : Nat) (o : Option (Option S)) (g : LS → R D) (L : LS) : R D := match o with
  | some (some (.ol _)) => (g L).bind (popAt i)
  | _ => .stuck
theorem ev_pop (i : Nat) (g : LS → R D) (L : LS) : gPopAt i g L = popK1 i L[i]? g L := by
  unfold gPopAt gOwnD popK1
  cases L[i]? with
  | none => rfl
  | some o => cases o with
    | none => rfl
    | some s => cases s <;> rfl
def popK2 (i : Nat) (r : R D) : R D := r.bind (popAt i)
theorem popK1_ok (i : Nat) (ds : List D) (g : LS → R D) (L : LS) : popK1 i (some (some (.ol ds))) g L = popK2 i (g L) := rfl
end VS

namespace VS
open PySem PySem.Spec PyProof.Rows L2
def dCountS (k : Str) (ys : List Str) : Nat := ys.countP fun y => y.cps.toList == k.cps.toList
def dCount : D → D → Option D
  | .list ds, .str k => (strsOf ds).map fun ys => .int (dCountS k ys : Nat)
  | _, _ => none
def cntL (gb : LS → R D) : D → LS → R D
  | .list ds, L1 => (gb L1).bind fun e L2 => ofO (dCount (.list ds) e) L2
  | _, _ => .stuck
def gCount (ga gb : LS → R D) : LS → R D := fun L => (ga L).bind (cntL gb)
def cntK1 (gb : LS → R D) (r : R D) : R D := r.bind (cntL gb)
def cntK2 (ds : List D) (r : R D) : R D := r.bind fun e L2 => ofO (dCount (.list ds) e) L2
theorem ev_cnt (ga gb : LS → R D) (L : LS) : gCount ga gb L = cntK1 gb (ga L) := rfl
theorem cntK1_ok (gb : LS → R D) (ds : List D) (L : LS) : cntK1 gb (.ok (.list ds) L) = cntK2 ds (gb L) := rfl
theorem cntK2_ok (ds : List D) (e : D) (L : LS) : cntK2 ds (.ok e L) = ofO (dCount (.list ds) e) L := rfl
section
variable {c : Ct} {n n1 n2 : Bool} {a b e : Expr} {es : List Expr} {ga gb : LS → R D} {gs : LS → R (List D)} {pos p p2 apos : Pos}
end
end VS

namespace VS
open PySem PySem.Spec PyProof.Rows L2
def evs := And.intro @ev_seq (And.intro @seqK_nx (And.intro @seqK_rt (And.intro @seqK_bk (And.intro @seqK_ct (And.intro @seqK_err (And.intro @ev_next (And.intro @ev_if (And.intro @ifK_ok (And.intro @ifK_err (And.intro @ev_asg (And.intro @asgK_ok (And.intro @asgK_err (And.intro @ev_ret (And.intro @retK_ok (And.intro @retK_err (And.intro @ev_retN (And.intro @ev_drop (And.intro @dropK_ok (And.intro @dropK_err (And.intro @ev_c (And.intro @ev_d (And.intro @dK_ok (And.intro @dK_err (And.intro @ev_fz (And.intro @fzK_d (And.intro @fzK_l (And.intro @fzK_err (And.intro @ev_op (And.intro @opK1_ok (And.intro @opK1_err (And.intro @opK2_ok (And.intro @opK2_err (And.intro @ev_un (And.intro @unK_ok (And.intro @unK_err (And.intro @ev_isi (And.intro @ev_b (And.intro @bK_ok (And.intro @bK_err (And.intro @ev_and (And.intro @andK_ok (And.intro @andK_err (And.intro @ev_or (And.intro @orK_ok (And.intro @orK_err (And.intro @ev_not (And.intro @notK_ok (And.intro @ev_andV (And.intro @andVK_ok (And.intro @ev_orV (And.intro @orVK_ok (And.intro @ev_ifE (And.intro @ifEK_ok (And.intro @ev_nil (And.intro @ev_cons (And.intro @consK1_ok (And.intro @consK1_err (And.intro @consK2_ok (And.intro @consK2_err (And.intro @ev_lst (And.intro @lstK_ok (And.intro @ev_tup (And.intro @tupK_ok (And.intro @ev_var (And.intro @varK_d (And.intro @varK_l (And.intro @ev_peek (And.intro @peekK_d (And.intro @peekK_l (And.intro @peekK_s (And.intro @ev_move (And.intro @moveK_d (And.intro @moveK_l (And.intro @ev_ixP (And.intro @ixK_ok (And.intro @ixK1_ok (And.intro @ixK1_err (And.intro @ixK2_ok (And.intro @dIx_nat (And.intro @dIx_natT (And.intro @dIx_l0 (And.intro @dIx_l1 (And.intro @dIx_l2 (And.intro @dIx_l3 (And.intro @dIx_l4 (And.intro @dIx_t0 (And.intro @dIx_t1 (And.intro @dIx_t2 (And.intro @dIx_t3 (And.intro @ev_setIx (And.intro @setK0_ok (And.intro @setK0_err (And.intro @setK1_ok (And.intro @setK2_ok (And.intro @setK3_0 (And.intro @setK3_1 (And.intro @setK3_2 (And.intro @setK3_3 (And.intro @setK3_4 (And.intro @ev_sl (And.intro @slK1_ok (And.intro @slK2_ok (And.intro @slK3_ok (And.intro @ev_no (And.intro @ev_so (And.intro @soK_ok (And.intro @soK_err (And.intro @ev_join (And.intro @joinK1_ok (And.intro @joinK2_ok (And.intro @ev_app (And.intro @appK1_ok (And.intro @appK2_ok (And.intro @appK2_err (And.intro @appK3_ok (And.intro @ev_a0 (And.intro @ev_aD (And.intro @ev_aR (And.intro @eaK1_ok (And.intro @eaK1_err (And.intro @eaK3_ok (And.intro @eaK2_ok (And.intro @eaK2_err (And.intro @ev_call (And.intro @callK_d1 (And.intro @callK_d2 (And.intro @callK_d3 (And.intro @callK_d4 (And.intro @callK_d5 (And.intro @callK_d6 (And.intro @callK_d7 (And.intro @callK_d8 (And.intro @callK_r0 (And.intro @callK_r1 (And.intro @callK_r2 (And.intro @callK_r3 (And.intro @callK_r4 (And.intro @callK_r5 (And.intro @callK_r6 (And.intro @callK_r7 (And.intro @callK_err (And.intro @backK_ok (And.intro @backK_err (And.intro @slotOf_d (And.intro @slotOf_r (And.intro @putBack_d (And.intro @putBack_r (And.intro @putBack_nil (And.intro @refs_nil (And.intro @refs_d (And.intro @refs_r (And.intro @ev_run (And.intro @endOf_nx (And.intro @endOf_rt (And.intro @endOf_err (And.intro @maskL_t (And.intro @maskL_f (And.intro @maskL_nil (And.intro @ev_for (And.intro @forK_ok (And.intro @forGo_nil (And.intro @turnK_nx (And.intro @turnK_ct (And.intro @turnK_bk (And.intro @turnK_rt (And.intro @turnK_err (And.intro @bind_ok (And.intro @asItems_l (And.intro @asItems_t (And.intro @asItems_s (And.intro @ev_name (And.intro @ev_fnil (And.intro @ev_fcons (And.intro @ev_ftup (And.intro @some_bind (And.intro @ev_asgT (And.intro @asgTK_ok (And.intro @asgTK2_ok (And.intro @ev_lc (And.intro @lcK_ok (And.intro @wipeL_nil (And.intro @wipeL_cons (And.intro @ev_yes (And.intro @lcGo_nil (And.intro @dLt_i (And.intro @dLe_i (And.intro @dGt_i (And.intro @dGe_i (And.intro @dEq_i (And.intro @dEq_s (And.intro @dEq_b (And.intro @dNe_i (And.intro @dNe_s (And.intro @dIs_b (And.intro @dSub_i (And.intro @dLen_l (And.intro @dLen_t (And.intro @dList_l (And.intro @dList_t (And.intro @dSl_l (And.intro @dNot_b (And.intro @ty_n_bool (And.intro @ty_n_int (And.intro @ty_n_str (And.intro @ty_n_list (And.intro @ty_n_tuple (And.intro @ty_b_bool (And.intro @ty_b_int (And.intro @ty_b_str (And.intro @ty_b_list (And.intro @ty_b_tuple (And.intro @ty_i_bool (And.intro @ty_i_int (And.intro @ty_i_str (And.intro @ty_i_list (And.intro @ty_i_tuple (And.intro @ty_s_bool (And.intro @ty_s_int (And.intro @ty_s_str (And.intro @ty_s_list (And.intro @ty_s_tuple (And.intro @ty_l_bool (And.intro @ty_l_int (And.intro @ty_l_str (And.intro @ty_l_list (And.intro @ty_l_tuple (And.intro @ty_t_bool (And.intro @ty_t_int (And.intro @ty_t_str (And.intro @ty_t_list (And.intro @ty_t_tuple (And.intro @dIs_nn (And.intro @dIs_in (And.intro @dIs_bn (And.intro @dIs_sn (And.intro @dIs_ln (And.intro @dIs_tn (And.intro @dNe_b (And.intro @ev_A (And.intro @aK_ok (And.intro @aK_err (And.intro @dMin_ok (And.intro @dMax_ok (And.intro @asZip_l (And.intro @asZip_t (And.intro @ev_pop (And.intro @popK1_ok (And.intro @ev_cnt (And.intro @cntK1_ok (And.intro @cntK2_ok (And.intro @dAdd_int (And.intro @ofO_some (And.intro @ofO_none (And.intro @List.getElem?_cons_zero.{0} (And.intro @List.getElem?_cons_succ.{0} (And.intro @List.set_cons_zero.{0} (And.intro @List.set_cons_succ.{0} (And.intro @List.length_cons.{0} (And.intro @List.length_nil.{0} (And.intro @List.cons_append.{0} (And.intro @List.nil_append.{0} (And.intro @List.replicate_succ.{0} (And.intro @List.replicate_zero.{0} (And.intro @List.map_cons.{0,0} (And.intro @List.map_nil.{0,0} (And.intro @Option.join_some.{0} (And.intro @List.append_nil.{0} (And.intro @if_true.{1} (And.intro @if_false.{1} (And.intro @decide_true (And.intro @decide_false (And.intro @Bool.false_eq_true (And.intro @Bool.not_true (@Bool.not_false))))))))))))))))))))))))))))))))))))))))))))))))))))))))))))))))))))))))))))))))))))))))))))))))))))))))))))))))))))))))))))))))))))))))))))))))))))))))))))))))))))))))))))))))))))))))))))))))))))))))))))))))))))))))))))))))))))))))))))))))))))))))))))))))))))))))))))))))))
end VS

namespace VS
open PySem PySem.Spec PyProof.Rows L2
def keyD : D → Option Key
  | .int i => some (.inl i)
  | .str x => some (.inr x)
  | _ => none
def keysL : List D → Option (List Key)
  | [] => some []
  | d :: ds => (keyD d).bind fun k => (keysL ds).map (k :: ·)
def keysD : D → Option (List Key)
  | .tuple ds => keysL ds
  | _ => none
theorem keyD_of {K : PySem.W.Frag} {F : Hp} {v : V} {d : D} {k : Key} (h : Dq K F v d) (e : keyD d = some k) : v = kV k := by
  cases h <;> cases e <;> rfl
theorem keysL_of {K : PySem.W.Frag} {F : Hp} : ∀ {ds : List D} {vs : List V} {ks : List Key}, DqA K F vs ds → keysL ds = some ks → vs = ks.map kV
  | [], _, _, .nil, h => by cases h; rfl
  | d :: ds, _, ks, .cons a b, h => by
    have h : (keyD d).bind (fun k => (keysL ds).map (k :: ·)) = some ks := h
    cases e1 : keyD d with
    | none => rw [e1] at h; cases h
    | some k =>
      rw [e1] at h
      have h : (keysL ds).map (k :: ·) = some ks := h
      cases e2 : keysL ds with
      | none => rw [e2] at h; cases h
      | some ms =>
        rw [e2] at h
        cases h
        rw [keyD_of a e1, keysL_of b e2]
        rfl
def OptOk (K : PySem.W.Frag) (F : Hp) (o : Option V) (r : Option D) : Prop := match r with
  | some z => ∃ v, o = some v ∧ Dq K F v z
  | none => o = none
section
variable {κ : Type} [DecidableEq κ]
def valK (kvs : List (κ × D)) (k : κ) : Option D := (kvs.find? fun kv => decide (kv.1 = k)).map (·.2)
def putD (kvs : List (κ × D)) (k : κ) (d : D) : List (κ × D) := if (kvs.any fun kv => decide (kv.1 = k)) = true then kvs.map (fun kv => if kv.1 = k then (kv.1, d) else kv) else kvs ++ [(k, d)]
theorem DqK.val {K : PySem.W.Frag} {F : Hp} : ∀ {vs : List (κ × V)} {ds : List (κ × D)} (k : κ), DqK K F vs ds → OptOk K F (valV vs k) (valK ds k)
  | [], [], k, .nil => rfl
  | p :: vs, q :: ds, k, .cons h r => by
    have ih := DqK.val k r
    unfold valK valV at *
    by_cases hk : q.1 = k
    · rw [List.find?_cons_of_pos (l := vs) (by simp [h.1, hk]), List.find?_cons_of_pos (l := ds) (by simp [hk])]
      exact ⟨_, rfl, h.2⟩
    · rw [List.find?_cons_of_neg (l := vs) (by simp [h.1, hk]), List.find?_cons_of_neg (l := ds) (by simp [hk])]
      exact ih
theorem DqK.any {K : PySem.W.Frag} {F : Hp} (k : κ) : ∀ {vs : List (κ × V)} {ds : List (κ × D)}, DqK K F vs ds → (vs.any fun kv => decide (kv.1 = k)) = (ds.any fun kv => decide (kv.1 = k))
  | [], [], .nil => rfl
  | p :: vs, q :: ds, .cons h r => by
    rw [List.any_cons, List.any_cons, DqK.any k r, h.1]
theorem DqK.mapk {K : PySem.W.Frag} {F : Hp} (k : κ) {v : V} {d : D} (hv : Dq K F v d) : ∀ {vs : List (κ × V)} {ds : List (κ × D)}, DqK K F vs ds → DqK K F (vs.map fun kv => if kv.1 = k then (kv.1, v) else kv) (ds.map fun kv => if kv.1 = k then (kv.1, d) else kv)
  | [], [], .nil => .nil
  | p :: vs, q :: ds, .cons h r => by
    refine .cons ?_ (DqK.mapk k hv r)
    show (if p.1 = k then (p.1, v) else p).1 = (if q.1 = k then (q.1, d) else q).1 ∧ Dq K F (if p.1 = k then (p.1, v) else p).2 (if q.1 = k then (q.1, d) else q).2
    by_cases hk : q.1 = k
    · rw [if_pos hk, if_pos (h.1.trans hk)]
      exact ⟨h.1, hv⟩
    · rw [if_neg hk, if_neg (fun z => hk (h.1.symm.trans z))]
      exact h
theorem DqK.snoc {K : PySem.W.Frag} {F : Hp} {k : κ} {v : V} {d : D} (hv : Dq K F v d) : ∀ {vs : List (κ × V)} {ds : List (κ × D)}, DqK K F vs ds → DqK K F (vs ++ [(k, v)]) (ds ++ [(k, d)])
  | [], [], .nil => .cons ⟨rfl, hv⟩ .nil
  | p :: vs, q :: ds, .cons h r => .cons h (DqK.snoc hv r)
theorem DqK.put {K : PySem.W.Frag} {F : Hp} {vs : List (κ × V)} {ds : List (κ × D)} (k : κ) {v : V} {d : D} (h : DqK K F vs ds) (hv : Dq K F v d) : DqK K F (putK vs k v) (putD ds k d) := by
  unfold putK putD
  rw [DqK.any k h]
  split
  · exact DqK.mapk k hv h
  · exact DqK.snoc hv h
theorem DqK.len {K : PySem.W.Frag} {F : Hp} : ∀ {vs : List (κ × V)} {ds : List (κ × D)}, DqK K F vs ds → vs.length = ds.length
  | [], [], .nil => rfl
  | p :: vs, q :: ds, .cons h r => congrArg (· + 1) (DqK.len r)
end
def dictAt (s : Option (Option S)) (d : D) : Option (Option D) := match s with
  | some (some (.odT kvs)) => (keysD d).map (valK kvs)
  | some (some (.odK kvs)) => (keyD d).map (valK kvs)
  | _ => none
def dictPut (s : Option (Option S)) (d e : D) : Option S := match s with
  | some (some (.odT kvs)) => if kvs.length < sizeLine then (keysD d).map fun k => .odT (putD kvs k e) else none
  | some (some (.odK kvs)) => if kvs.length < sizeLine then (keyD d).map fun k => .odK (putD kvs k e) else none
  | _ => none
section
variable {c : Ct} {n n1 n2 : Bool} {a b e : Expr} {ga gb : LS → R D} {pos p : Pos}
theorem dict_get {G F H : Hp} {ow : Addr → Option Path} {σ : L2.St} {L : LS} {i : Nat} {d : D} {y : V} {r : Option D} (Rr : c.Rl G F ow σ H L) (hd : Dq c.X.K F y d) (h : dictAt L[i]? d = some r) :
    ∃ l o, σ[i]? = some (some (.ref l)) ∧ DGet H l y o ∧ OptOk c.X.K F o r := by
  unfold dictAt at h
  split at h
  · rename_i kvs hL
    obtain ⟨v, hv, rs⟩ := Rr.sl i _ hL
    obtain ⟨ks, hk, rfl⟩ := Option.map_eq_some_iff.mp h
    cases rs with
    | odT h1 h2 h3 =>
      rename_i l vs
      unfold keysD at hk
      split at hk
      · rename_i ds
        cases hd with
        | tup t1 t2 =>
          rename_i b xs
          have ex := keysL_of t2 hk
          subst ex
          exact ⟨l, valV vs ks, hv, DGet.t h1 (Rr.exF _ _ t1), DqK.val ks h3⟩
      · cases hk
  · rename_i kvs hL
    obtain ⟨v, hv, rs⟩ := Rr.sl i _ hL
    obtain ⟨k, hk, rfl⟩ := Option.map_eq_some_iff.mp h
    cases rs with
    | odK h1 h2 h3 =>
      rename_i l vs
      have ey := keyD_of hd hk
      subst ey
      exact ⟨l, valV vs k, hv, DGet.k h1, DqK.val k h3⟩
  · cases h
theorem dict_put {G F H : Hp} {ow : Addr → Option Path} {σ : L2.St} {L : LS} {i : Nat} {d e : D} {y v : V} {s : S} (Rr : c.Rl G F ow σ H L) (hd : Dq c.X.K F y d) (he : Dq c.X.K F v e) (h : dictPut L[i]? d e = some s) :
    ∃ l H', σ[i]? = some (some (.ref l)) ∧ DPut H l y v H' ∧ c.Rl G F ow σ H' (L.set i (some s)) := by
  unfold dictPut at h
  split at h
  · rename_i kvs hL
    obtain ⟨u, hv, rs⟩ := Rr.sl i _ hL
    split at h
    · rename_i hlen
      obtain ⟨ks, hk, rfl⟩ := Option.map_eq_some_iff.mp h
      cases rs with
      | odT h1 h2 h3 =>
        rename_i l vs
        unfold keysD at hk
        split at hk
        · rename_i ds
          cases hd with
          | tup t1 t2 =>
            rename_i b xs
            have ex := keysL_of t2 hk
            subst ex
            exact ⟨l, _, hv, DPut.t h1 (Rr.exF _ _ t1) (by rw [DqK.len h3]; exact hlen), Rl.put Rr h2 ⟨_, hv, .odT upd_same h2 (DqK.put ks h3 he)⟩⟩
        · cases hk
    · cases h
  · rename_i kvs hL
    obtain ⟨u, hv, rs⟩ := Rr.sl i _ hL
    split at h
    · rename_i hlen
      obtain ⟨k, hk, rfl⟩ := Option.map_eq_some_iff.mp h
      cases rs with
      | odK h1 h2 h3 =>
        rename_i l vs
        have ey := keyD_of hd hk
        subst ey
        exact ⟨l, _, hv, DPut.k h1 (by rw [DqK.len h3]; exact hlen), Rl.put Rr h2 ⟨_, hv, .odK upd_same h2 (DqK.put k h3 he)⟩⟩
    · cases h
  · cases h
def dinK (ng : Bool) (i : Nat) (d : D) (L : LS) : R D := match dictAt L[i]? d with
  | some r => .ok (.bool (if ng then !r.isSome else r.isSome)) L
  | none => .stuck
def gDIn (ng : Bool) (i : Nat) (g : LS → R D) : LS → R D := fun L => (g L).bind (dinK ng i)
theorem optOk_some {K : PySem.W.Frag} {F : Hp} {o : Option V} {r : Option D} (h : OptOk K F o r) : o.isSome = r.isSome := by
  cases r with
  | none =>
    have h : o = none := h
    rw [h]
    rfl
  | some z =>
    obtain ⟨v, rfl, _⟩ := h
    rfl
def gDGet (i : Nat) (g : LS → R D) : LS → R D := fun L => match L[i]? with
  | some (some _) => (g L).bind fun d L1 => (match dictAt L1[i]? d with
    | some (some z) => .ok z L1
    | _ => .stuck)
  | _ => .stuck
theorem jd_dget {k : Nat} (i : Nat) {x : Str} (hr : Room k c.X.A) (h : PE c.X (.Name x p) (tVar i)) (ha : JD c n a ga) (hs : NoSl a := by exact fun _ _ => rfl) : JD c n (.Subscript (.Name x p) a pos) (gDGet i ga) := by
  obtain ⟨ta, pa, qa⟩ := ha
  refine ⟨_, pe_dget (by have := hr.un; omega) h pa hs, fun G F ow σ H L Rr => ?_⟩
  unfold gDGet
  cases hL : L[i]? with
  | none => trivial
  | some o =>
    cases o with
    | none => trivial
    | some s =>
      obtain ⟨u, hu, _⟩ := Rr.sl i s hL
      have key := (qa G F ow σ H L Rr).bind1 (k := fun d L1 => (match dictAt L1[i]? d with
        | some (some z) => R.ok z L1
        | _ => .stuck)) (B2 := BD c.X.K) (t2 := fun y H1 Q => ∃ a v, u = .ref a ∧ DGet H1 a y (some v) ∧ Q v H1) fun d L1 y H1 F1 ow1 _ _ _ R1 b1 => by
          cases hr : dictAt L1[i]? d with
          | none => trivial
          | some r =>
            cases r with
            | none => trivial
            | some z =>
              obtain ⟨l, o, h1, h2, v, rfl, h3⟩ := dict_get R1 b1 hr
              rw [hu] at h1
              cases h1
              exact (Post.val R1 h3).imp fun Q q => ⟨l, v, rfl, h2, q⟩
      exact key.imp fun Q q => ⟨u, hu, q⟩
def gDPut (i : Nat) (gk g : LS → R D) : LS → R O := fun L => (g L).bind fun e L1 => match L1[i]? with
  | some (some _) => (gk L1).bind fun d L2 => (match dictPut L2[i]? d e with
    | some s => .ok .nx (L2.set i (some s))
    | none => .stuck)
  | _ => .stuck
theorem js_dput {k : Nat} (i : Nat) {x : Str} {p3 : Pos} (hr : Room k c.X.A) (h : PE c.X (.Name x p) (tVar i)) (hk : JD c n1 b gb) (ha : JD c n2 a ga)
    (hs : swapsWith a (some (.Subscript (.Name x p) b p3)) pos.line c.X.env = pure false := by rfl) : JS c (.Assign [.Subscript (.Name x p) b p3] a pos) (gDPut i gb ga) := by
  obtain ⟨ta, pa, qa⟩ := ha
  obtain ⟨tb, pb, qb⟩ := hk
  refine ⟨_, ps_dput (by have := hr.un; omega) h pb pa hs, fun G F ow σ H L Rr E ft => ?_⟩
  refine (qa G F ow σ H L Rr).use ft fun e L1 v H1 F1 ow1 _ _ R1 b1 f1 => ?_
  cases hL : L1[i]? with
  | none => rw [hL] at f1; exact f1.elim
  | some o =>
    rw [hL] at f1
    cases o with
    | none => exact f1.elim
    | some s =>
      obtain ⟨u, hu, _⟩ := R1.sl i s hL
      refine ⟨u, hu, ?_⟩
      refine (qb G F1 ow1 σ H1 L1 R1).use f1 fun d L2 y H2 F2 ow2 _ e2 R2 b2 f2 => ?_
      cases hd : dictPut L2[i]? d e with
      | none => rw [hd] at f2; exact f2.elim
      | some s2 =>
        rw [hd] at f2
        obtain ⟨l, H3, h1, h2, R3⟩ := dict_put R2 b2 (b1.up e2) hd
        rw [hu] at h1
        cases h1
        exact ⟨l, H3, rfl, h2, f2 σ H3 F2 ow2 (Same.refl F2) R3⟩
end
end VS

namespace VS
open PySem PySem.Spec PyProof.Rows L2
section
variable {c : Ct} {n n1 n2 n3 : Bool} {a b : Expr} {ga gb : LS → R D} {ge : LS → R S} {pos : Pos} {es : List Expr} {as : List Ar}
theorem Rl.snoc {G F H : Hp} {ow : Addr → Option Path} {σ : L2.St} {L : LS} {s : S} {v : V} (Rr : c.Rl G F ow σ H L) (rs : RS c.X.K c.ca F H ow [0] s v) : c.Rl G F (reroot ow 0 (L.length + 1)) (σ ++ [some v]) H (L ++ [some s]) := by
  have hl := Rr.len
  refine Rl.moved Rr (by rw [List.length_append, List.length_append, hl]; rfl) (fun k s' h => ?_) fun k u h => ?_
  · by_cases hk : k < L.length
    · rw [List.getElem?_append_left hk] at h
      refine .inl ⟨h, ?_, Nat.succ_ne_zero k⟩
      rw [List.getElem?_append_left (by omega)]
    · have hk2 : k = L.length := by
        have := (List.getElem?_eq_some_iff.mp h).1
        rw [List.length_append] at this
        simp at this
        omega
      subst hk2
      rw [List.getElem?_append_right (Nat.le_refl _), Nat.sub_self] at h
      cases h
      refine .inr ⟨v, ?_, rs.go (Same.refl F) keeps_reroot⟩
      rw [hl, List.getElem?_append_right (Nat.le_refl _), Nat.sub_self]
      rfl
  · have := Rr.pin k u h
    have hk := (List.getElem?_eq_some_iff.mp this).1
    rw [List.getElem?_append_left hk]
    exact this
theorem AvOk.snoc {K : PySem.W.Frag} {σ : L2.St} {F : Hp} {v : V} {k : Nat} (hk : k = σ.length) : ∀ {xs : List Av} {us : List V}, AvOk K σ F xs us → AvOk K (σ ++ [some v]) F (xs ++ [.r k]) (us ++ [v])
  | [], [], .nil => .cons (by
    show (σ ++ [some v])[k]? = some (some v)
    rw [hk, List.getElem?_append_right (Nat.le_refl _), Nat.sub_self]
    rfl) .nil
  | .d d :: xs, u :: us, .cons h r => .cons h (AvOk.snoc hk r)
  | .r i :: xs, u :: us, .cons h r => .cons (by
    have h : σ[i]? = some (some u) := h
    show (σ ++ [some v])[i]? = some (some u)
    rw [List.getElem?_append_left (List.getElem?_eq_some_iff.mp h).1]
    exact h) (AvOk.snoc hk r)
end
end VS

namespace VS
open PySem PySem.Spec PyProof.Rows L2
section
variable {c : Ct} {n : Bool} {a : Expr} {ga : LS → R D} {pos p : Pos}
theorem jt_dnin {k : Nat} (i : Nat) {x : Str} (hr : Room k c.X.A) (h : PE c.X (.Name x p) (tVar i)) (ha : JD c n a ga) (hm : behindInMarks .NotIn (.Name x p) = false := by rfl) : JT c n (.Compare a [.NotIn] [.Name x p] pos) (gB (gDIn true i ga)) := by
  obtain ⟨ta, pa, qa⟩ := ha
  refine ⟨_, pt_cmp (pc_dnotin (by have := hr.un; omega) pa h) hm, jdg_B fun G F ow σ H L Rr => ?_⟩
  refine (qa G F ow σ H L Rr).bind1 (k := dinK true i) (B2 := BD c.X.K) (t2 := fun y H1 Q => tVar i σ H1 fun x H2 => ∃ a o, x = .ref a ∧ DGet H2 a y o ∧ Q (V.bl (!o.isSome)) H2) fun d L1 y H1 F1 ow1 _ _ _ R1 b1 => ?_
  unfold dinK
  cases hr : dictAt L1[i]? d with
  | none => trivial
  | some r =>
    obtain ⟨l, o, h1, h2, h3⟩ := dict_get R1 b1 hr
    have ho := optOk_some h3
    exact (Post.val (a := PyData.bool (!r.isSome)) (b := V.bl (!o.isSome)) (B := BD c.X.K) R1 (by rw [ho]; exact Dq.bl _)).imp fun Q q => ⟨_, h1, l, o, rfl, h2, q⟩
end
end VS

namespace VS
open PySem PySem.Spec PyProof.Rows L2
section
variable {c : Ct} {n n1 n2 n3 : Bool} {a b : Expr} {ga gb : LS → R D} {ge : LS → R S} {pos : Pos} {es : List Expr} {as : List Ar}
end
end VS

namespace VS
open PySem PySem.Spec PyProof.Rows L2
def enD : Nat → List D → List D
  | _, [] => []
  | i, d :: ds => .tuple [.int (i : Nat), d] :: enD (i + 1) ds
theorem enD_len : ∀ (ds : List D) (i : Nat), (enD i ds).length = ds.length
  | [], _ => rfl
  | d :: ds, i => by
    show (enD (i + 1) ds).length + 1 = ds.length + 1
    rw [enD_len ds (i + 1)]
theorem enD_get : ∀ {ds : List D} {i j : Nat} {d : D}, (enD i ds)[j]? = some d → ∃ x, ds[j]? = some x ∧ d = .tuple [.int ((i + j : Nat) : Int), x]
  | [], i, j, d, h => by cases h
  | e :: ds, i, 0, d, h => ⟨e, rfl, (Option.some.inj h).symm⟩
  | e :: ds, i, j + 1, d, h => by
    obtain ⟨x, h1, h2⟩ := enD_get (ds := ds) (i := i + 1) (j := j) h
    refine ⟨x, h1, ?_⟩
    rw [h2]
    have : i + 1 + j = i + (j + 1) := by omega
    rw [this]
section
variable {c : Ct} {n : Bool} {a : Expr} {gs : LS → R (List D)} {p pos : Pos}
end
end VS

namespace VS
open PySem PySem.Spec PyProof.Rows L2
def BP : PySem.W.Frag → Hp → Hp → (Addr → Option Path) → D → V → Prop := fun K F H ow d v => Dq K F v d ∨ ∃ l vs ds, v = .ref l ∧ d = .list ds ∧ H l = some (.lst vs) ∧ DqA K F vs ds
def BPs : PySem.W.Frag → Hp → Hp → (Addr → Option Path) → List D → List V → Prop := fun K F H ow ds vs => Paired (fun d v => BP K F H ow d v) ds vs
def JP (c : Ct) (n : Bool) (e : Expr) (g : LS → R D) : Prop := ∃ t, PE c.X e t ∧ Jdg c n g BP t
def JPs (c : Ct) (n : Bool) (es : List Expr) (g : LS → R (List D)) : Prop := ∃ t, PA c.X es t ∧ Jdg c n g BPs t
def scal : D → Bool
  | .none => true
  | .bool _ => true
  | .int _ => true
  | .str _ => true
  | _ => false
theorem scal_dq {K : PySem.W.Frag} {F F' : Hp} {d : D} {v : V} (h : scal d = true) (q : Dq K F v d) : Dq K F' v d := by
  cases q with
  | non => exact .non
  | bl b => exact .bl b
  | int i => exact .int i
  | str x => exact .str x
  | lst _ _ => cases h
  | tup _ _ => cases h
def lookAt (m : LS → R S) (ds : List D) (L : LS) : R S := match m (ds.map fun d => some (.d d)) with
  | .ok (.d z) _ => if scal z = true then .ok (.d z) L else .stuck
  | .ok _ _ => .stuck
  | .err e _ => .err e L
  | .stuck => .stuck
def gLook (m : LS → R S) (k : Nat) (gs : LS → R (List D)) : LS → R S := fun L => (gs L).bind fun ds L1 => if ds.length = k then lookAt m ds L1 else .stuck
section
variable {c : Ct} {n n1 n2 n3 : Bool} {a b : Expr} {ga gb : LS → R D} {gs : LS → R (List D)} {ge : LS → R S} {pos : Pos} {es : List Expr}
def gPk (i : Nat) : LS → R D := fun L => match L[i]? with
  | some (some (.d d)) => .ok d L
  | some (some (.ol ds)) => .ok (.list ds) L
  | _ => .stuck
theorem jp_var (i : Nat) {x : Str} {pos : Pos} (h : PE c.X (.Name x pos) (tVar i)) : JP c true (.Name x pos) (gPk i) := by
  refine ⟨_, h, fun G F ow σ H L Rr => ?_⟩
  unfold gPk
  cases hL : L[i]? with
  | none => trivial
  | some o =>
    cases o with
    | none => trivial
    | some s =>
      obtain ⟨v, hv, rs⟩ := Rr.sl i s hL
      cases s with
      | d d =>
        cases rs with
        | d q => exact (Post.val (b := v) (B := BP c.X.K) Rr (.inl q)).imp fun Q q => ⟨v, hv, q⟩
      | ol ds =>
        cases rs with
        | ol a b q => exact (Post.val (b := _) (B := BP c.X.K) Rr (.inr ⟨_, _, _, rfl, rfl, a, q⟩)).imp fun Q q => ⟨_, hv, q⟩
      | _ => trivial
theorem jps_nil : JPs c true [] gNil := ⟨_, pa_nil, fun G F ow σ H L Rr => Post.val (B := BPs c.X.K) Rr .nil⟩
theorem jps_cons (h1 : JP c n1 a ga) (h2 : JPs c true es gs) (hs : starEach (a :: es) c.X.env = (false, eval a c.X.env) :: starEach es c.X.env := by rfl) : JPs c n1 (a :: es) (gCons ga gs) := by
  obtain ⟨t1, p1, q1⟩ := h1
  obtain ⟨t2, p2, q2⟩ := h2
  refine ⟨_, pa_cons p1 p2 hs, fun G F ow σ H L Rr => ?_⟩
  have key := (q1 G F ow σ H L Rr).bind (n2 := true) (B2 := BPs c.X.K) (k := fun d L1 => (gs L1).bind fun ds L2 => .ok (d :: ds) L2) (t2 := fun v H1 Q => t2 σ H1 fun vs H2 => Q (v :: vs) H2) fun d L1 v H1 F1 ow1 _ _ _ R1 b1 => ?_
  · rw [Bool.and_true] at key
    exact key
  · -- what is owned at its place stays: told by the same heap, the same owners
    have p2' := q2 G F1 ow1 σ H1 L1 R1
    cases hg : gs L1 with
    | stuck => trivial
    | err e L2 => rw [hg] at p2'; exact fun hw Q => p2' hw _
    | ok ds L2 =>
      rw [hg] at p2'
      intro Q q
      refine p2' _ fun vs H2 F2 ow2 e2 s2 R2 b2 => ?_
      refine q (v :: vs) H2 F2 ow2 e2 s2 R2 (.cons ?_ b2)
      rcases b1 with z | ⟨l, us, ds', rfl, rfl, h1, h3⟩
      · exact .inl (z.up e2)
      · exact .inr ⟨l, us, ds', rfl, rfl, s2 rfl l _ h1, h3.up e2⟩
def adrs : List V → List Addr
  | [] => []
  | .ref a :: vs => a :: adrs vs
  | _ :: vs => adrs vs
open Classical in
def frzA (F H : Hp) (as : List Addr) : Hp := fun a => match F a with
  | some o => some o
  | none => if a ∈ as then H a else none
theorem frzA_same {F H : Hp} {as : List Addr} : Same F (frzA F H as) := fun a o h => by
  unfold frzA
  rw [h]
theorem frzA_in {F H : Hp} {as : List Addr} (e : Same F H) : Same (frzA F H as) H := fun a o h => by
  unfold frzA at h
  cases z : F a with
  | some u => rw [z] at h; rw [← h]; exact e a u z
  | none =>
    rw [z] at h
    have h : (if a ∈ as then H a else none) = some o := h
    split at h
    · exact h
    · cases h
theorem frzA_at {F H : Hp} {as : List Addr} {l : Addr} {o : HO} (e : Same F H) (hm : l ∈ as) (h : H l = some o) : frzA F H as l = some o := by
  unfold frzA
  cases z : F l with
  | some u =>
    have := e l u z
    rw [h] at this
    exact this.symm
  | none => exact (if_pos hm).trans h
theorem bps_dq {K : PySem.W.Frag} {F H : Hp} {ow : Addr → Option Path} (e : Same F H) : ∀ {ds : List D} {vs : List V} {as : List Addr}, (∀ a ∈ adrs vs, a ∈ as) → BPs K F H ow ds vs → Paired (fun d v => Dq K (frzA F H as) v d) ds vs
  | _, _, _, _, .nil => .nil
  | _, v :: vs, as, hs, .cons b t => by
    have ht : ∀ a ∈ adrs vs, a ∈ as := fun a h => hs a (by
      cases v with
      | ref x => exact List.mem_cons_of_mem _ h
      | _ => exact h)
    refine .cons ?_ (bps_dq e ht t)
    rcases b with z | ⟨l, us, ds', rfl, rfl, h1, h2⟩
    · exact z.up frzA_same
    · exact .lst (frzA_at e (hs l List.mem_cons_self) h1) (h2.up frzA_same)
theorem paired_get {α β : Type} {R : α → β → Prop} : ∀ {l : List α} {m : List β} {i : Nat} {a : α}, Paired R l m → l[i]? = some a → ∃ b, m[i]? = some b ∧ R a b
  | _, _, _, _, .nil, h => by cases h
  | _, _, 0, _, .cons r _, h => by cases h; exact ⟨_, rfl, r⟩
  | _ :: l, _ :: m, i + 1, a, .cons _ t, h => paired_get (l := l) (m := m) (i := i) t h
theorem Rl.more {K : PySem.W.Frag} {ca : Nat → Addr} {bh : Hp} {pn : List (Option V)} {G F H H' : Hp} {ow : Addr → Option Path} {σ : L2.St} {L : LS} (r : Rl K ca bh pn G F ow σ H L) (s : Same H H') : Rl K ca bh pn G F ow σ H' L := by
  refine ⟨r.exF.trans s, r.exG.trans s, fun a p h => ?_, r.dG, r.len, fun i s0 h => ?_, r.pin, r.exB.trans s, r.dB⟩
  · obtain ⟨x, y, z⟩ := r.dF a p h
    refine ⟨x, y, ?_⟩
    cases q : H a with
    | none => exact absurd q z.1
    | some o => rw [s a o q, ← q]; exact z
  · obtain ⟨v, q1, q2⟩ := r.sl i s0 h
    refine ⟨v, q1, q2.go (Same.refl F) fun a w h => ⟨?_, h⟩⟩
    obtain ⟨x, y, z⟩ := r.dF a _ h
    cases q : H a with
    | none => exact absurd q z.1
    | some o => rw [s a o q]
theorem je_look {x : Str} {k j : Nat} {ps : List Str} {md : List Bool} {m : LS → R S} {p : Pos} {e : Expr} (D : Dx c.X.prog c.X.w c.X.K c.X.mg c.X.base c.ca x k ps md m) (hr : Room j c.X.A) (hk : k ≤ j) (tk : Takes c.X c.W) (hg : Gl c.X x) (ha : JPs c n (e :: es) gs)
    (hdb : (x == ("__debug__" : Str)) = false := by decide) (he : starEach (e :: es) c.X.env = (false, eval e c.X.env) :: starEach es c.X.env := by rfl) (hpl : (backTo pos (starEach es c.X.env)).any (·.1) = false := by rfl) :
    JE c n (.Call (.Name x p) (e :: es) [] pos) (gLook m md.length gs) := by
  obtain ⟨f, fd, h1, h2, h3, h4⟩ := D.ex
  obtain ⟨t, pa, qa⟩ := ha
  refine ⟨_, pe_callS h1 (hr.mono hk) hg h2 h3 h4 (fun σ => passAt tk σ) pa hdb he hpl, fun G F0 ow σ H L Rr => ?_⟩
  have key := (qa G F0 ow σ H L Rr).bind (n2 := true) (B2 := BE c.ca c.X.K) (k := fun ds L1 => if ds.length = md.length then lookAt m ds L1 else .stuck) (t2 := fun vs H1 Q => VSp c.X.K c.ca md m vs H1 Q (WE c.W σ)) fun ds L1 vs H1 F1 ow1 hev e1 _ R1 b1 => ?_
  · rw [Bool.and_true] at key
    exact key
  · refine Post.guard fun hl => ?_
    have hp := bps_dq R1.exF (as := adrs vs) (fun a h => h) b1
    have hlv : ds.length = vs.length := Paired.length b1
    -- what the def sees
    have rin : Rl c.X.K c.ca (fun _ => none) [] (fun a => if (frzA F1 H1 (adrs vs) a).isSome then none else H1 a) (frzA F1 H1 (adrs vs)) (fun _ => none) (vs.map some) H1 (ds.map fun d => some (.d d)) := by
      refine ⟨frzA_in R1.exF, fun a o h => ?_, (fun a p h => nomatch h), fun a o h => ?_, ?_, fun i s h => ?_, (fun i v h => nomatch h), (fun _ _ h => nomatch h), (fun _ _ h => nomatch h)⟩
      · split at h
        · cases h
        · exact h
      · exact .inl (by rw [h] <;> rfl)
      · rw [List.length_map, List.length_map, hlv]
      · rw [List.getElem?_map] at h
        obtain ⟨d, hd, hs⟩ := Option.map_eq_some_iff.mp h
        cases hs
        obtain ⟨v, hv, q⟩ := paired_get (i := i) hp hd
        exact ⟨v, by rw [List.getElem?_map, hv] <;> rfl, RT.of (.d q)⟩
    have back : ∀ {H' F' : Hp} {ow' : Addr → Option Path} {ss : LS}, Same (frzA F1 H1 (adrs vs)) F' → Rl c.X.K c.ca (fun _ => none) [] (fun a => if (frzA F1 H1 (adrs vs) a).isSome then none else H1 a) F' ow' (vs.map some) H' ss → Same H1 H' := fun {H' F' ow' ss} e' r' a o h => by
      cases z : frzA F1 H1 (adrs vs) a with
      | some u =>
        have h2 := frzA_in R1.exF a u z
        rw [h] at h2
        cases h2
        exact r'.exF a o (e' a o z)
      | none =>
        refine r'.exG a o ?_
        show (if (frzA F1 H1 (adrs vs) a).isSome then none else H1 a) = some o
        rw [z]
        exact h
    unfold lookAt
    cases hm' : m (ds.map fun d => some (.d d)) with
    | stuck => trivial
    | err er ss =>
      intro hw Q
      refine ⟨fun _ => none, _, frzA F1 H1 (adrs vs), _, _, by rw [List.length_map]; exact hl, rin, ?_⟩
      rw [hm']
      intro H' F' ow' e' r'
      exact hw H' F1 ow1 (Same.refl F1) (R1.more (back e' r'))
    | ok s ss =>
      cases s with
      | d z =>
        refine Post.guard fun hz => ?_
        intro Q q
        refine ⟨fun _ => none, _, frzA F1 H1 (adrs vs), _, _, by rw [List.length_map]; exact hl, rin, ?_⟩
        rw [hm']
        intro v H' F' ow' e' r' rs
        have s' := back e' r'
        refine q v H' F1 ow1 (Same.refl F1) (fun _ => s') (R1.more s') ?_
        cases rs with
        | d w => exact .d (scal_dq hz w)
      | _ => trivial
end
end VS

namespace VS
open PySem PySem.Spec PyProof.Rows L2
open PySem.W (EachIs AllAlike Sortable dataLe)
def isTup1 : D → Bool
  | .tuple (_ :: _) => true
  | _ => false
def noTup : D → Bool
  | .none => false
  | .tuple _ => false
  | _ => true
def sortOk (ds : List D) : Bool := (ds.all fun d => ds.all fun e => PySem.W.alike d e) && ((ds.all isTup1 || ds.all noTup) && ((ds.all fun d => decide (d.depth ≤ 60)) && decide (ds.length ≤ sizeLine)))
def srtD (ds : List D) : List D := ds.mergeSort (dataLe false id)
theorem sortOk_of {ds : List D} (h : sortOk ds = true) : AllAlike ds ∧ Sortable ds ∧ (∀ d ∈ ds, d.depth ≤ 60) ∧ ds.length ≤ sizeLine := by
  unfold sortOk at h
  simp only [Bool.and_eq_true, Bool.or_eq_true, List.all_eq_true, decide_eq_true_eq] at h
  obtain ⟨h1, h2, h3, h4⟩ := h
  refine ⟨fun d hd e he => h1 d hd e he, ?_, h3, h4⟩
  rcases h2 with h2 | h2
  · refine .inl fun d hd => ?_
    have := h2 d hd
    cases d with
    | tuple xs =>
      cases xs with
      | nil => cases this
      | cons x r => exact ⟨x, r, rfl⟩
    | _ => cases this
  · refine .inr fun d hd => ?_
    have := h2 d hd
    cases d with
    | tuple xs => cases this
    | none => cases this
    | _ => exact ⟨fun z => (by cases z), fun xs z => by cases z⟩
theorem each_of {α β γ : Type} {R : α → γ → Prop} {P : α → β → Prop} : ∀ {xs : List α} {us : List γ} {ds : List β}, Paired R xs us → Paired P xs ds → EachIs (fun u d => ∃ x, R x u ∧ P x d) us ds
  | _, _, _, .nil, .nil => .nil
  | _, _, _, .cons a r, .cons b t => .cons ⟨_, a, b⟩ (each_of r t)
theorem of_each {α β γ : Type} {R : α → γ → Prop} {P : α → β → Prop} : ∀ {us : List γ} {ds : List β}, EachIs (fun u d => ∃ x, R x u ∧ P x d) us ds → ∃ xs : List α, Paired R xs us ∧ Paired P xs ds
  | _, _, .nil => ⟨[], .nil, .nil⟩
  | _, _, .cons ⟨x, a, b⟩ t => by
    obtain ⟨xs, h1, h2⟩ := of_each t
    exact ⟨x :: xs, .cons a h1, .cons b h2⟩
def dSortedG : D → Option S
  | .list ds => if sortOk ds = true then some (.ol (srtD ds)) else none
  | _ => none
section
variable {c : Ct} {n : Bool} {a : Expr} {ga : LS → R D} {p pos : Pos} {k : Nat}
end
end VS

namespace VS
open PySem PySem.Spec PyProof.Rows L2
open PySem.W (EachIs AllAlike Sortable dataLe)
mutual
theorem reads_in {h : Heap} : ∀ {v : Value} {d : PyData} {as : List Addr}, Reads h v d as → ∀ a ∈ as, ∃ o, h.get? a = some o
  | _, _, _, .none, a, ha => by cases ha
  | _, _, _, .bool b, a, ha => by cases ha
  | _, _, _, .int i t, a, ha => by cases ha
  | _, _, _, .str x t, a, ha => by cases ha
  | _, _, _, .list h1 h2 h3 h4, a, ha => by
    rcases List.mem_cons.mp ha with rfl | ha
    · exact ⟨_, h1⟩
    · exact readsAll_in h4 a ha
  | _, _, _, .tuple h1 h2 h3 h4, a, ha => readsAll_in h4 a ha
  | _, _, _, .dict h1 h2 h3 h4 h5, a, ha => by
    rcases List.mem_append.mp ha with ha | ha
    · rcases List.mem_cons.mp ha with rfl | ha
      · exact ⟨_, h1⟩
      · exact readsAll_in h4 a ha
    · exact readsAll_in h5 a ha
theorem readsAll_in {h : Heap} : ∀ {vs : List Value} {ds : List PyData} {as : List Addr}, ReadsAll h vs ds as → ∀ a ∈ as, ∃ o, h.get? a = some o
  | _, _, _, .nil, a, ha => by cases ha
  | _, _, _, .cons h1 h2, a, ha => by
    rcases List.mem_append.mp ha with ha | ha
    · exact reads_in h1 a ha
    · exact readsAll_in h2 a ha
end
def kD : Key → D
  | .inl i => .int i
  | .inr x => .str x
theorem kV_kD {K : PySem.W.Frag} {F : Hp} : ∀ k : Key, Dq K F (kV k) (kD k)
  | .inl i => .int i
  | .inr x => .str x
theorem kVs_kD {K : PySem.W.Frag} {F : Hp} : ∀ ks : List Key, DqA K F (ks.map kV) (ks.map kD)
  | [] => .nil
  | k :: ks => .cons (kV_kD k) (kVs_kD ks)
theorem sort_tail {X : Cx} {pins : List (Addr × Obj)} {σ : L2.St} {H : Hp} {s : Shared} (I : Inv X pins σ H s) (hu : X.A.units + 65 < cLine) {us : List Value} {xs : List V} {ds : List D} {P : V → D → Prop} {Q : VK} {QQ : Value → Shared → Prop} {E : Value → Shared → Prop} (rv : Vals xs us) (hP : Paired P xs ds) (hD : DpAll X.K H xs ds)
    (hal : AllAlike ds) (hk : Sortable ds) (hdp : ∀ d ∈ ds, d.depth ≤ 60) (hL : ds.length ≤ sizeLine) (q : ∀ (ys : List V) (p : Addr), Paired P ys (srtD ds) → H p = none → Q (.ref p) (upd H p (.lst ys)))
    (fin : ∀ (u : Value) (s' : Shared), (∃ y H', Inv X pins σ H' s' ∧ RelV y u ∧ Q y H') → QQ u s') :
    wpAny (model X.prog X.w) X.A.in1 (call (.builtin "list.sort") [.ref s.heap.objs.size]) (fun _ s' => QQ (.ref s.heap.objs.size) s') E { s with heap := s.heap.push (seqObj "list" us.toArray 0) } := by
  have e := each_of rv hP
  obtain ⟨as, hr⟩ := Dp.readsAll I ds xs us hD rv
  have hlen : us.length = ds.length := by rw [← Paired.length rv, Paired.length hP]
  have hoL : (s.heap.push (seqObj "list" us.toArray 0)).get? s.heap.objs.size = some (seqObj "list" us.toArray 0) := Heap.get?_push_size _ rfl
  have er : EachIs (fun v b => ∃ as, Reads (s.heap.push (seqObj "list" us.toArray 0)) v (id b) as ∧ s.heap.objs.size ∉ as) us ds := by
    have er0 : EachIs (fun v b => ∃ as, Reads s.heap v (id b) as) us ds := PySem.W.readsAll_each id (bs := ds) (by rw [List.map_id]; exact hr)
    refine er0.mono fun v b ⟨as, r⟩ => ⟨as, Reads.keeps (fun b o q => Heap.get?_push_of_some _ q) r, fun hm => ?_⟩
    obtain ⟨o, ho⟩ := reads_in r _ hm
    exact Nat.lt_irrefl _ (Heap.lt_size ho)
  refine PySem.W.list_sort_data (s := { s with heap := s.heap.push (seqObj "list" us.toArray 0) }) (vs := us) (bs := ds) (enc := id) hoL e er (by rw [List.map_id]; exact hal) (by rw [List.map_id]; exact hk) hL (fun b hb => ?_) fun out ho he => ?_
  · have := hdp b hb
    show X.A.units + 1 + 1 + b.depth < cLine
    omega
  · obtain ⟨ys, h1, h2⟩ := of_each he
    obtain ⟨e', he'⟩ := PyProof.Rows.sortedHeap_at (vs := us) (out := out.toArray) hoL
    have hyl : ys.length ≤ sizeLine := by
      rw [Paired.length h1, ho]
      exact hL
    refine fin _ _ ⟨.ref s.heap.objs.size, upd H s.heap.objs.size (.lst ys), I.laid (t' := s.toks) (fun b u e => ?_) (Nat.le_refl _) ⟨hyl, out, e', h1, he'⟩, rfl, q ys _ h2 (I.hok.fresh (Nat.le_refl _))⟩
    have hb : b < s.heap.objs.size := Heap.lt_size e
    rw [PyProof.Rows.sortedHeap_old (Nat.ne_of_lt hb) (by rw [size_push']; exact Nat.lt_succ_of_lt hb)]
    exact Heap.get?_push_of_some _ e
def KeyAt (H : Hp) (y : V) (d : D) : Prop := ∃ (b : Addr) (k : List Key), y = .ref b ∧ H b = some (.tup (k.map kV)) ∧ d = .tuple (k.map kD)
def keysT (kvs : List (List Key × V)) : List D := kvs.map fun p => .tuple (p.1.map kD)
theorem cr_sortedDT {X : Cx} (hc : X.calm = true) (hu : X.A.units + 65 < cLine) : CallR X (.builtin "sorted") (fun xs H Q => ∃ d kvs, xs = [V.ref d] ∧ Rd H d (.dT kvs) ∧ sortOk (keysT kvs) = true ∧ ∀ (ys : List V) (p : Addr), Paired (KeyAt H) ys (srtD (keysT kvs)) → H p = none → Q (.ref p) (upd H p (.lst ys))) := by
  intro pins s σ H xs us Q I r h
  obtain ⟨d, kvs, rfl, hd, hok, q⟩ := h
  obtain ⟨k1, k2, k3, k4⟩ := sortOk_of hok
  obtain ⟨u, rfl, rx⟩ := r.one
  cases rx
  obtain ⟨z, hs, ks, pr, o, es, ep, ho, hx, hdt, he, hn⟩ := (show ObjOk X.prog X.w H s.heap d (.dT kvs) from hd.ok I.hok)
  have l1 : es.size = ks.length := size_of_entries he
  have l2 : kvs.length = ks.length := Paired.length pr
  refine Calls.call_function_entry PyProof.Rows.kind_sorted PyProof.Rows.plain_sorted PyProof.Rows.entry_sorted (PyProof.Rows.args_sorted1 _) ?_
  unfold Builtin.«sorted»
  refine wpAny_bind (m := checkCount "sorted" 1 1 _) (wpAny_pure ?_)
  refine wpAny_bind (PySem.W.kdu_collect (A := X.A.in1) (kdl_raw hs hx hdt) (I.ok.hd hc) ho (by omega) fun h' tk acc' kp it => ?_)
  have ea : acc'.toList = ks.map fun x => Value.ref x.2.1 := by
    have hl : acc'.toList.length = ks.length := by rw [Array.length_toList, it.1]; exact l1
    apply List.ext_getElem?
    intro j
    rw [List.getElem?_map]
    cases hj : acc'.toList[j]? with
    | none =>
      have h1 := List.getElem?_eq_none_iff.mp hj
      rw [List.getElem?_eq_none (by omega)]
      all_goals rfl
    | some v =>
      obtain ⟨en, hen, hv⟩ := it.2 j v (by rw [← Array.getElem?_toList]; exact hj)
      have qe := entry_at he j
      rw [hen] at qe
      cases hb : ks[j]? with
      | none =>
        rw [hb] at qe
        exact nomatch (show some en = none from qe)
      | some b =>
        rw [hb] at qe
        have e2 : en = entryOfKey (tupleKind (mixKind X.prog X.w)) b := Option.some.inj qe
        rw [hv, e2]
        all_goals rfl
  have eb : acc'.toList = (ks.map fun x => x.2.1).map Value.ref := by rw [ea, List.map_map]; all_goals rfl
  have rv : Vals ((ks.map fun x => x.2.1).map V.ref) acc'.toList := by rw [eb]; exact vals_refs _
  have I1 : Inv X pins σ H { s with heap := h', toks := tk } := I.kept kp
  have hKA : Paired (KeyAt H) ((ks.map fun x => x.2.1).map V.ref) (keysT kvs) := by
    have := isKeys_of pr
    have go : ∀ {kvs : List (List Key × V)} {bs : List Addr}, IsKeys H kvs bs → Paired (KeyAt H) (bs.map V.ref) (keysT kvs) := by
      intro kvs bs h
      unfold IsKeys at h
      induction h with
      | nil => exact .nil
      | cons a t ih => exact .cons ⟨_, _, rfl, a, rfl⟩ ih
    exact go this
  have hDA : DpAll X.K H ((ks.map fun x => x.2.1).map V.ref) (keysT kvs) := by
    have go : ∀ {ys : List V} {ds : List D}, Paired (KeyAt H) ys ds → DpAll X.K H ys ds := by
      intro ys ds h
      induction h with
      | nil => exact .nil
      | cons a t ih =>
        obtain ⟨b, k, rfl, h1, rfl⟩ := a
        exact .cons (.tup (.of h1) (DqA.dp (F := H) _ _ (kVs_kD k))) ih
    exact go hKA
  have hsz : acc'.toList.length ≤ sizeLine := by
    rw [ea, List.length_map]
    omega
  refine wpAny_bind (wpAny_newList ?_ hsz)
  refine wpAny_bind (wpAny_holding (wpAny_mono (sort_tail (s := { s with heap := h', toks := tk }) (Q := Q) (QQ := fun u s' => ∃ y H', Inv X pins σ H' s' ∧ RelV y u ∧ Q y H') I1 hu rv hKA hDA k1 k2 k3 k4 q fun u s' h => h) (fun _ s' x => ?_) fun _ _ e => e))
  refine wpAny_pure ⟨_, rfl, ?_⟩
  obtain ⟨y, H', a1, a2, a3⟩ := x
  exact ⟨y, H', a1, a2, a3⟩
end VS
namespace VS
open PySem PySem.Spec PyProof.Rows L2
open PySem.W (EachIs AllAlike Sortable dataLe)
def keysK {α : Type} (kvs : List (Key × α)) : List D := kvs.map fun p => kD p.1
theorem keysK_paired {K : PySem.W.Frag} {H : Hp} : ∀ (ks : List Key), Paired (fun v d => ∃ k : Key, v = kV k ∧ d = kD k) (ks.map kV) (ks.map kD)
  | [] => .nil
  | k :: ks => .cons ⟨k, rfl, rfl⟩ (keysK_paired (K := K) (H := H) ks)
theorem cr_sortedDK {X : Cx} (hc : X.calm = true) (hu : X.A.units + 65 < cLine) : CallR X (.builtin "sorted") (fun xs H Q => ∃ (a : Addr) (kvs : List (Key × V)), xs = [V.ref a] ∧ Rd H a (.dK kvs) ∧ sortOk (keysK kvs) = true ∧ ∀ (ys : List V) (p : Addr), Paired (fun v d => ∃ k : Key, v = kV k ∧ d = kD k) ys (srtD (keysK kvs)) → H p = none → Q (.ref p) (upd H p (.lst ys))) := by
  intro pins s σ H xs us Q I r q
  obtain ⟨a, kvs, ex, hd, hok, q⟩ := q
  subst ex
  obtain ⟨k1, k2, k3, k4⟩ := sortOk_of hok
  obtain ⟨u, eu, rx⟩ := vals1 r
  subst eu
  cases rx
  obtain ⟨z, lo, vs, rel, dd⟩ := dk_rd I.hok hd
  obtain ⟨ep, hat⟩ := dd.dictAt
  have ek : (kvs.map fun kv => kV kv.1) = vs.map fun p => kV p.1 := by
    have e := congrArg (List.map kV) rel.keys
    rw [List.map_map, List.map_map] at e
    exact e
  refine Calls.call_function_entry PyProof.Rows.kind_sorted PyProof.Rows.plain_sorted PyProof.Rows.entry_sorted (PyProof.Rows.args_sorted1 _) ?_
  unfold Builtin.«sorted»
  refine wpAny_bind (m := checkCount "sorted" 1 1 _) (wpAny_pure ?_)
  refine wpAny_bind (PySem.W.kdu_collect (A := X.A.in1) (PySem.W.kdl_dict (knd := mixKind X.prog X.w) (kvs := vs) (ep := ep) lo) (I.ok.hd hc) hat (by rw [← rel.length]; exact z) fun h' tk acc hk hacc => ?_)
  have hv : Vals (vs.map fun p => kV p.1) acc.toList := keys_at (by rw [Array.length_toList]; exact hacc.1) fun j v e => hacc.2 j v (by rw [← Array.getElem?_toList]; exact e)
  rw [← ek] at hv
  have I1 : Inv X pins σ H { s with heap := h', toks := tk } := I.kept hk
  have hP : Paired (fun v d => ∃ k : Key, v = kV k ∧ d = kD k) (kvs.map fun kv => kV kv.1) (keysK kvs) := by
    have := keysK_paired (K := X.K) (H := H) (kvs.map (·.1))
    rw [List.map_map, List.map_map] at this
    exact this
  have hDA : DpAll X.K H (kvs.map fun kv => kV kv.1) (keysK kvs) := by
    have := DqA.dp (K := X.K) (F := H) _ _ (kVs_kD (K := X.K) (F := H) (kvs.map (·.1)))
    rw [List.map_map, List.map_map] at this
    exact this
  have hl : acc.toList.length ≤ sizeLine := by
    rw [← Paired.length hv, List.length_map]
    exact z
  refine wpAny_bind (wpAny_newList ?_ hl)
  refine wpAny_bind (wpAny_holding (wpAny_mono (sort_tail (s := { s with heap := h', toks := tk }) (Q := Q) (QQ := fun u s' => ∃ y H', Inv X pins σ H' s' ∧ RelV y u ∧ Q y H') I1 hu hv hP hDA k1 k2 k3 k4 q fun u s' h => h) (fun _ s' x => ?_) fun _ _ e => e))
  refine wpAny_pure ⟨_, rfl, ?_⟩
  obtain ⟨y, H', a1, a2, a3⟩ := x
  exact ⟨y, H', a1, a2, a3⟩
def BX (ca : Nat → Addr) : PySem.W.Frag → Hp → Hp → (Addr → Option Path) → S → V → Prop := fun K F H ow s v => ∃ p, RS K ca F H ow p s v
def JX (c : Ct) (n : Bool) (e : Expr) (g : LS → R S) : Prop := ∃ t, PE c.X e t ∧ Jdg c n g (BX c.ca) t
def gLk (i : Nat) : LS → R S := fun L => match L[i]? with
  | some (some s) => if s.own = true then .ok s L else .stuck
  | _ => .stuck
section
variable {c : Ct} {n : Bool} {a : Expr} {ga : LS → R S} {p pos : Pos} {k : Nat}
theorem jx_var (i : Nat) {x : Str} {pos : Pos} (h : PE c.X (.Name x pos) (tVar i)) : JX c true (.Name x pos) (gLk i) := by
  refine ⟨_, h, fun G F ow σ H L Rr => ?_⟩
  unfold gLk
  cases hL : L[i]? with
  | none => trivial
  | some o =>
    cases o with
    | none => trivial
    | some s =>
      obtain ⟨v, hv, rs⟩ := Rr.sl i s hL
      refine Post.guard fun hs => ?_
      exact (Post.val (b := v) (B := BX c.ca c.X.K) Rr ⟨_, rs.rs hs⟩).imp fun Q q => ⟨v, hv, q⟩
def gOnS {α : Type} (f : S → Option α) (g : LS → R S) : LS → R α := fun L => (g L).bind fun s L1 => ofO (f s) L1
def sSorted : S → Option S
  | .odT kvs => if sortOk (keysT' kvs) = true then some (.ol (srtD (keysT' kvs))) else none
  | .odK kvs => if sortOk (keysK kvs) = true then some (.ol (srtD (keysK kvs))) else none
  | _ => none
where keysT' (kvs : List (List Key × D)) : List D := kvs.map fun p => .tuple (p.1.map kD)
theorem dqk_keysT {K : PySem.W.Frag} {F : Hp} : ∀ {vs : List (List Key × V)} {ds : List (List Key × D)}, DqK K F vs ds → keysT vs = sSorted.keysT' ds := by
  intro vs ds h
  unfold DqK at h
  induction h with
  | nil => rfl
  | cons a t ih =>
    unfold keysT sSorted.keysT' at *
    rw [List.map_cons, List.map_cons, ih, a.1]
theorem dqk_keysK {K : PySem.W.Frag} {F : Hp} : ∀ {vs : List (Key × V)} {ds : List (Key × D)}, DqK K F vs ds → keysK vs = keysK ds := by
  intro vs ds h
  unfold DqK at h
  induction h with
  | nil => rfl
  | cons a t ih =>
    unfold keysK at *
    rw [List.map_cons, List.map_cons, ih, a.1]
theorem Rl.frzK {G F H : Hp} {ow : Addr → Option Path} {σ : L2.St} {L : LS} {ys : List V} {ds : List D} (r : c.Rl G F ow σ H L) (h : Paired (KeyAt H) ys ds) : c.Rl G (frzA F H (adrs ys)) ow σ H L ∧ DqA c.X.K (frzA F H (adrs ys)) ys ds := by
  have key : ∀ {ys : List V} {ds : List D}, Paired (KeyAt H) ys ds → ∀ a ∈ adrs ys, ∃ k : List Key, H a = some (.tup (k.map kV)) := by
    intro ys ds h
    induction h with
    | nil => intro a ha; cases ha
    | cons x t ih =>
      obtain ⟨b, k, rfl, h1, rfl⟩ := x
      intro a ha
      rcases List.mem_cons.mp ha with rfl | ha
      · exact ⟨k, h1⟩
      · exact ih a ha
  have hk := key h
  have fr : ∀ {a : Addr} {o : HO}, frzA F H (adrs ys) a = some o → F a = some o ∨ (F a = none ∧ kT o) := fun {a o} e => by
    unfold frzA at e
    cases z : F a with
    | some u => rw [z] at e; exact .inl e
    | none =>
      rw [z] at e
      have e : (if a ∈ adrs ys then H a else none) = some o := e
      split at e
      · rename_i hm
        obtain ⟨k, hk⟩ := hk a hm
        rw [hk] at e
        cases e
        exact .inr ⟨rfl, k, rfl⟩
      · cases e
  refine ⟨⟨frzA_in r.exF, r.exG, fun a p e => ?_, fun a o e => ?_, r.len, fun i s e => ?_, r.pin, r.exB, r.dB⟩, ?_⟩
  · obtain ⟨x, y, z⟩ := r.dF a p e
    refine ⟨?_, y, z⟩
    cases w : frzA F H (adrs ys) a with
    | none => rfl
    | some o =>
      rcases fr w with q | ⟨_, q⟩
      · rw [x] at q; cases q
      · exact absurd q (z.2 o (frzA_in r.exF a o w))
  · rcases fr e with q | ⟨_, q⟩
    · exact r.dG a o q
    · exact .inr q
  · obtain ⟨v, q1, q2⟩ := r.sl i s e
    exact ⟨v, q1, q2.go frzA_same fun a w h => ⟨rfl, h⟩⟩
  · have go : ∀ {zs : List V} {es : List D}, (∀ a ∈ adrs zs, a ∈ adrs ys) → Paired (KeyAt H) zs es → DqA c.X.K (frzA F H (adrs ys)) zs es := by
      intro zs es hs h
      induction h with
      | nil => exact .nil
      | cons x t ih =>
        obtain ⟨b, k, rfl, h1, rfl⟩ := x
        exact .cons (.tup (frzA_at r.exF (hs b List.mem_cons_self) h1) (kVs_kD k)) (ih fun a ha => hs a (List.mem_cons_of_mem _ ha))
    exact go (fun a h => h) h
theorem keys_dqa {K : PySem.W.Frag} {F : Hp} : ∀ {ys : List V} {ds : List D}, Paired (fun v d => ∃ k : Key, v = kV k ∧ d = kD k) ys ds → DqA K F ys ds := by
  intro ys ds h
  induction h with
  | nil => exact .nil
  | cons x t ih =>
    obtain ⟨k, rfl, rfl⟩ := x
    exact .cons (kV_kD k) ih
theorem je_sortedX (hc : c.X.calm = true) (hr : Room k c.X.A) (hg : Gl c.X "sorted") (hm : c.X.mg "sorted" = none) (ha : JX c n a ga) (hs : starEach [a] c.X.env = (false, eval a c.X.env) :: starEach [] c.X.env := by rfl) : JE c n (.Call (.Name "sorted" p) [a] [] pos) (gOnS sSorted ga) := by
  obtain ⟨ta, pa, qa⟩ := ha
  have two : CallR c.X (.builtin "sorted") (fun xs H Q => (∃ d kvs, xs = [V.ref d] ∧ Rd H d (.dT kvs) ∧ sortOk (keysT kvs) = true ∧ ∀ (ys : List V) (p : Addr), Paired (KeyAt H) ys (srtD (keysT kvs)) → H p = none → Q (.ref p) (upd H p (.lst ys))) ∨ (∃ (a : Addr) (kvs : List (Key × V)), xs = [V.ref a] ∧ Rd H a (.dK kvs) ∧ sortOk (keysK kvs) = true ∧ ∀ (ys : List V) (p : Addr), Paired (fun v d => ∃ k : Key, v = kV k ∧ d = kD k) ys (srtD (keysK kvs)) → H p = none → Q (.ref p) (upd H p (.lst ys)))) := by
    intro pins s σ H xs us Q I r h
    rcases h with h | h
    · exact cr_sortedDT hc (room65 hr) pins s σ H xs us Q I r h
    · exact cr_sortedDK hc (room65 hr) pins s σ H xs us Q I r h
  refine ⟨_, pe_callB two hg hm (by decide +kernel) (pa_cons pa pa_nil hs) (by decide) (by decide) hs rfl, fun G F ow σ H L Rr => ?_⟩
  have key := (qa G F ow σ H L Rr).bind (n2 := true) (B2 := BE c.ca c.X.K) (k := fun s L1 => ofO (sSorted s) L1) (t2 := fun v H1 (Q : VK) => (∃ d kvs, [v] = [V.ref d] ∧ Rd H1 d (.dT kvs) ∧ sortOk (keysT kvs) = true ∧ ∀ (ys : List V) (p : Addr), Paired (KeyAt H1) ys (srtD (keysT kvs)) → H1 p = none → Q (.ref p) (upd H1 p (.lst ys))) ∨ (∃ (a : Addr) (kvs : List (Key × V)), [v] = [V.ref a] ∧ Rd H1 a (.dK kvs) ∧ sortOk (keysK kvs) = true ∧ ∀ (ys : List V) (p : Addr), Paired (fun v d => ∃ k : Key, v = kV k ∧ d = kD k) ys (srtD (keysK kvs)) → H1 p = none → Q (.ref p) (upd H1 p (.lst ys)))) fun s L1 v H1 F1 ow1 _ _ _ R1 b1 => ?_
  · rw [Bool.and_true] at key
    exact key
  · obtain ⟨pp, rs⟩ := b1
    cases rs with
    | @odT _ l vs ds w1 w2 w3 =>
      show Post c G true F1 H1 σ (ofO (if sortOk (sSorted.keysT' ds) = true then some (S.ol (srtD (sSorted.keysT' ds))) else none) L1) _ _
      by_cases hk : sortOk (sSorted.keysT' ds) = true
      · rw [if_pos hk]
        show Post c G true F1 H1 σ (R.ok (S.ol (srtD (sSorted.keysT' ds))) L1) _ _
        intro Q q
        refine .inl ⟨l, vs, rfl, .inl w1, by rw [dqk_keysT w3]; exact hk, fun ys p k5 k6 => ?_⟩
        rw [dqk_keysT w3] at k5
        obtain ⟨r2, d2⟩ := Rl.frzK R1 k5
        obtain ⟨e, r'⟩ := r2.new (o := .lst ys) (p := [0]) k6
        exact q _ _ _ _ frzA_same (fun _ => e) r' (.ol upd_same (onAt_same ..) d2)
      · rw [if_neg hk]
        trivial
    | @odK _ l vs ds w1 w2 w3 =>
      show Post c G true F1 H1 σ (ofO (if sortOk (keysK ds) = true then some (S.ol (srtD (keysK ds))) else none) L1) _ _
      by_cases hk : sortOk (keysK ds) = true
      · rw [if_pos hk]
        show Post c G true F1 H1 σ (R.ok (S.ol (srtD (keysK ds))) L1) _ _
        intro Q q
        refine .inr ⟨l, vs, rfl, .inl w1, by rw [dqk_keysK w3]; exact hk, fun ys p k5 k6 => ?_⟩
        rw [dqk_keysK w3] at k5
        exact post_new R1 (keys_dqa k5) Q q p k6
      · rw [if_neg hk]
        trivial
    | _ => trivial
end
end VS

namespace VS
open PySem PySem.Spec PyProof.Rows L2
section
variable {c : Ct} {n : Bool} {a : Expr} {ga : LS → R D} {p pos : Pos}
end
end VS

namespace VS
open PySem PySem.Spec PyProof.Rows
section
variable {prog : Program} {w : World} {A : Around} {R : Result → Shared → Prop} {I : Addr} {fp wr : List Addr} {G : Array GenState → Array GenState → Prop} {n : Nat} {P : Nat → Value → Prop} {St : Nat → Shared → Prop}
end
end VS
namespace VS
open PySem PySem.Spec PyProof.Rows
section
variable {prog : Program} {w : World} {A : Around} {E : Value → Shared → Prop} {s : Shared}
end
end VS

namespace VS
open PySem PySem.Spec PyProof.Rows L2
end VS

namespace VS
open PySem PySem.Spec PyProof.Rows L2
def tFrz (t : TE) : TE := fun σ H Q => t σ H fun x H1 => ∃ d u, x = .ref d ∧ H1 d = some u ∧ Mut (some u) ∧ ∀ od, Q x (upd H1 d (.frz od u))
theorem pe_frz {X : Cx} {e : Expr} {t : TE} (h : PE X e t) : PE X e (tFrz t) := by
  refine ⟨fun pins s σ H Q I hq => ?_⟩
  refine thn (h.run pins s σ H _ I hq) fun v s1 ⟨x, H1, I1, rx, d, u, ex, hd, mu, q⟩ => ?_
  obtain ⟨od, I2⟩ := I1.lock hd mu
  exact ⟨x, _, I2, rx, q od⟩
section
variable {K : PySem.W.Frag} {ca : Nat → Addr} {bh : Hp} {pn : List (Option V)} {G F H : Hp} {ow : Addr → Option Path} {σ : L2.St} {L : LS}
theorem Rl.frzD {l : Addr} {u : HO} {p : Path} {od : Obj} (r : Rl K ca bh pn G F ow σ H L) (hl : H l = some u) (ho : ow l = some p) (hp : ∀ (j : Nat) (q : Path), p ≠ (j + 1) :: q) :
    Same F (upd F l (.frz od u)) ∧ Rl K ca bh pn G (upd F l (.frz od u)) (offAt ow l) σ (upd H l (.frz od u)) L := by
  obtain ⟨f0, g0, h0⟩ := r.dF l p ho
  have b0 := r.dB l p ho
  have e : Same F (upd F l (.frz od u)) := upd_same_of f0
  refine ⟨e, fun a o h => ?_, fun a o h => ?_, fun a q h => ?_, fun a o h => ?_, r.len, fun j s h => ?_, r.pin, fun a o h => ?_, fun a q h => ?_⟩
  · by_cases z : a = l
    · subst z
      rw [upd_same] at h ⊢
      exact h
    · rw [upd_ne z] at h ⊢
      exact r.exF a o h
  · have z : a ≠ l := ne_of_none h g0
    rw [upd_ne z]
    exact r.exG a o h
  · by_cases z : a = l
    · subst z
      rw [offAt_same] at h
      cases h
    · rw [offAt_ne z] at h
      obtain ⟨x, y, w⟩ := r.dF a q h
      exact ⟨by rw [upd_ne z]; exact x, y, by rw [upd_ne z]; exact w⟩
  · by_cases z : a = l
    · subst z
      exact .inl g0
    · rw [upd_ne z] at h
      exact r.dG a o h
  · obtain ⟨v, q1, q2⟩ := r.sl j s h
    refine ⟨v, q1, q2.go e fun a q ha => ?_⟩
    have z : a ≠ l := fun z => by
      subst z
      rw [ho] at ha
      exact hp j q (Option.some.inj ha)
    exact ⟨by rw [upd_ne z], by rw [offAt_ne z]; exact ha⟩
  · have z : a ≠ l := ne_of_none h b0
    rw [upd_ne z]
    exact r.exB a o h
  · by_cases z : a = l
    · subst z
      rw [offAt_same] at h
      cases h
    · rw [offAt_ne z] at h
      exact r.dB a q h
end
def itemsK (kvs : List (Key × D)) : List D := kvs.map fun p => .tuple [kD p.1, p.2]
def asItemsK : S → LS → R (List D)
  | .odK kvs, L => .ok (itemsK kvs) L
  | _, _ => .stuck
section
variable {c : Ct} {n : Bool} {a : Expr} {ge ga : LS → R S} {gb : LS → R D} {p pos cpos apos tpos : Pos} {k : Nat} {elts : List Expr} {kk : Nat}
theorem items_ok {K : PySem.W.Frag} {B F : Hp} {l : Addr} {od : Obj} {vs : List (Key × V)} {ds : List (Key × D)} (hF : F l = some (.frz od (.dK vs))) (h : DqK K F vs ds) : ItOk K B F (itemsK ds) (Iti l od vs) := by
  intro i H s _
  have hd := s l _ hF
  have hlen := DqK.len h
  refine ⟨fun hi => ⟨hd, ?_⟩, fun d hdd => ?_⟩
  · unfold itemsK at hi
    rw [List.length_map] at hi
    omega
  · unfold itemsK at hdd
    rw [List.getElem?_map] at hdd
    obtain ⟨q, hq, rfl⟩ := Option.map_eq_some_iff.mp hdd
    have hi := (List.getElem?_eq_some_iff.mp hq).1
    refine ⟨⟨hd, by omega⟩, fun x H' ⟨T, ky, v, e1, e2, e3, e4⟩ => .inr ⟨T, _, _, rfl, e2, e3, e4, ?_⟩⟩
    have hv : ∃ pv, vs[i]? = some pv ∧ (pv.1 = q.1 ∧ Dq K F pv.2 q.2) := by
      have go : ∀ {vs : List (Key × V)} {ds : List (Key × D)} {i : Nat} {q : Key × D}, DqK K F vs ds → ds[i]? = some q → ∃ pv, vs[i]? = some pv ∧ (pv.1 = q.1 ∧ Dq K F pv.2 q.2) := by
        intro vs ds
        induction vs generalizing ds with
        | nil => intro i q h hq; cases h; cases hq
        | cons a vs ih =>
          intro i q h hq
          cases h with
          | cons r t =>
            cases i with
            | zero => cases hq; exact ⟨_, rfl, r⟩
            | succ i => exact ih t hq
      exact go h hq
    obtain ⟨pv, h1, h2, h3⟩ := hv
    rw [h1] at e1
    cases e1
    have h2 : ky = q.1 := h2
    rw [h2]
    exact .cons (kV_kD _) (.cons h3 .nil)
theorem ji_items (h : JE c n a ge) (hbase : attributeBase a "items" c.X.env (eval a c.X.env) = eval a c.X.env := by rfl) (hline : (apos.endLine == cpos.line) = true := by rfl) :
    JI c false (.Tuple elts kk tpos) (.Call (.Attribute a "items" apos) [] [] cpos) (fun L => (ge L).bind asItemsK) := by
  obtain ⟨t, pa, qa⟩ := h
  refine ⟨_, pi_items (pe_frz pa) hbase hline, fun G F ow σ H L Rr => ?_⟩
  have key := (qa G F ow σ H L Rr).bind (n2 := false) (B2 := BI c.B c.X.K) (k := asItemsK) (t2 := fun v H1 (Q : It → Hp → Prop) => ∃ d u, v = V.ref d ∧ H1 d = some u ∧ Mut (some u) ∧ ∀ od, ∃ d' o kvs, v = V.ref d' ∧ upd H1 d (.frz od u) d' = some (.frz o (.dK kvs)) ∧ Q (Iti d' o kvs) (upd H1 d (.frz od u))) fun s L1 v H1 F1 ow1 _ _ _ R1 b1 => ?_
  · rw [Bool.and_false] at key
    exact key
  · cases b1 with
    | @odK _ l vs ds w1 w2 w3 =>
      show Post c G false F1 H1 σ (R.ok (itemsK ds) L1) _ _
      intro Q q
      refine ⟨l, _, rfl, w1, trivial, fun od => ⟨l, od, vs, rfl, upd_same, ?_⟩⟩
      obtain ⟨e, r'⟩ := R1.frzD (od := od) w1 w2 (fun j q z => by cases z)
      exact q _ _ _ _ e (fun z => by cases z) r' (items_ok upd_same (w3.up e))
    | _ => trivial
def sCopy : S → Option S
  | .odK kvs => some (.odK kvs)
  | _ => none
theorem je_callX {T : String} {x : Str} {r : List V → Hp → VK → Prop} {f : S → Option S} (hc : CallR c.X (.type T) r) (hg : Gl c.X x) (hm : c.X.mg x = none) (hv : bootBuiltins x = some (.type T)) (ha : JX c n a ga)
    (lf : ∀ {G F H : Hp} {ow : Addr → Option Path} {σ : L2.St} {L : LS} {s : S} {v : V}, c.Rl G F ow σ H L → BX c.ca c.X.K F H ow s v → Post c G true F H σ (ofO (f s) L) (BE c.ca c.X.K) (r [v] H))
    (hn : x ≠ "__name__" := by decide) (hdb : (x == ("__debug__" : Str)) = false := by decide) (hs : starEach [a] c.X.env = (false, eval a c.X.env) :: starEach [] c.X.env := by rfl) (hpl : (backTo pos (starEach [] c.X.env)).any (·.1) = false := by rfl) :
    JE c n (.Call (.Name x p) [a] [] pos) (gOnS f ga) := by
  obtain ⟨ta, pa, qa⟩ := ha
  refine ⟨_, pe_callTy hc hg hm hv (pa_cons pa pa_nil hs) hn hdb hs hpl, fun G F ow σ H L Rr => ?_⟩
  have key := (qa G F ow σ H L Rr).bind (n2 := true) (B2 := BE c.ca c.X.K) (k := fun s L1 => ofO (f s) L1) (t2 := fun v H1 Q => r [v] H1 Q) fun s L1 v H1 F1 ow1 _ _ _ R1 b1 => lf R1 b1
  rw [Bool.and_true] at key
  exact key
theorem post_newK {G F H : Hp} {ow : Addr → Option Path} {σ : L2.St} {L : LS} {vs : List (Key × V)} {ds : List (Key × D)} (Rr : c.Rl G F ow σ H L) (h : DqK c.X.K F vs ds) :
    Post c G true F H σ (.ok (.odK ds) L) (BE c.ca c.X.K) (fun Q => ∀ l, H l = none → Q (.ref l) (upd H l (.dK vs))) := by
  intro Q q l hl
  obtain ⟨e, r'⟩ := Rr.new (o := .dK vs) (p := [0]) hl
  exact q _ _ F _ (Same.refl F) (fun _ => e) r' (.odK upd_same (onAt_same ..) h)
theorem je_dcopy (hg : Gl c.X "dict") (hm : c.X.mg "dict" = none) (ha : JX c n a ga) (hs : starEach [a] c.X.env = (false, eval a c.X.env) :: starEach [] c.X.env := by rfl) : JE c n (.Call (.Name "dict" p) [a] [] pos) (gOnS sCopy ga) := by
  refine je_callX call_dictD hg hm (by decide +kernel) ha (fun {G F H ow σ L s v} Rr hb => ?_) (by decide) (by decide) hs rfl
  obtain ⟨pp, rs⟩ := hb
  cases rs with
  | @odK _ l vs ds w1 w2 w3 =>
    show Post c G true F H σ (R.ok (S.odK ds) L) _ _
    exact (post_newK Rr w3).imp fun Q q => ⟨l, vs, rfl, .inl w1, q⟩
  | _ => trivial
end
end VS

namespace VS
open PySem PySem.Spec PyProof.Rows L2
section
variable {K : PySem.W.Frag} {ca : Nat → Addr} {bh : Hp} {pn : List (Option V)} {G F H : Hp} {ow : Addr → Option Path} {σ : L2.St} {L : LS} {l : Addr} {o : HO}
theorem Rl.newG (r : Rl K ca bh pn G F ow σ H L) {l : Addr} {o : HO} (hl : H l = none) : Same H (upd H l o) ∧ Rl K ca bh pn (upd G l o) F ow σ (upd H l o) L := by
  have e : Same H (upd H l o) := upd_same_of hl
  have fN : F l = none := r.exF.free hl
  have hne : ∀ a p, ow a = some p → a ≠ l := fun a p h => ne_fresh (r.dF a p h).2.2.1 hl
  refine ⟨e, r.exF.trans e, fun a u h => ?_, fun a q h => ?_, fun a u h => ?_, r.len, fun i s h => ?_, r.pin, r.exB.trans e, r.dB⟩
  · by_cases z : a = l
    · subst z
      rw [upd_same] at h ⊢
      exact h
    · rw [upd_ne z] at h ⊢
      exact r.exG a u h
  · have z := hne a q h
    obtain ⟨x, y, w⟩ := r.dF a q h
    exact ⟨x, by rw [upd_ne z]; exact y, by rw [upd_ne z]; exact w⟩
  · have z : a ≠ l := ne_of_none h fN
    rw [upd_ne z]
    exact r.dG a u h
  · obtain ⟨v, q1, q2⟩ := r.sl i s h
    exact ⟨v, q1, q2.go (Same.refl F) fun a w h => ⟨upd_ne (hne a _ h), h⟩⟩
theorem Rl.weakG (r : Rl K ca bh pn (upd G l o) F ow σ H L) (hG : G l = none) : Rl K ca bh pn G F ow σ H L := by
  have hs : ∀ a, upd G l o a = none → G a = none := fun a h => by
    by_cases z : a = l
    · subst z
      exact hG
    · rw [upd_ne z] at h
      exact h
  refine ⟨r.exF, fun a u h => ?_, fun a q h => ?_, fun a u h => ?_, r.len, r.sl, r.pin, r.exB, r.dB⟩
  · exact r.exG a u (by rw [upd_ne (ne_of_none h hG)]; exact h)
  · obtain ⟨x, y, w⟩ := r.dF a q h
    exact ⟨x, hs a y, w⟩
  · rcases r.dG a u h with q | q
    · exact .inl (hs a q)
    · exact .inr q
theorem Rl.ownG {p : Path} {u : HO} (r : Rl K ca bh pn (upd G l o) F ow σ H L) (hG : G l = none) (hB : bh l = none) (ho : ¬ kT o) (hu : ¬ kT u) : Rl K ca bh pn G F (onAt ow l p) σ (upd H l u) L := by
  have hH : H l = some o := r.exG l o upd_same
  have fN : F l = none := by
    cases z : F l with
    | none => rfl
    | some w =>
      have h1 := r.exF l w z
      rw [hH] at h1
      cases h1
      rcases r.dG l _ z with q | q
      · rw [upd_same] at q; cases q
      · exact absurd q ho
  have hne : ∀ a q, ow a = some q → a ≠ l := fun a q h z => by
    subst z
    have := (r.dF a q h).2.1
    rw [upd_same] at this
    cases this
  refine ⟨fun a w h => ?_, fun a w h => ?_, fun a q h => ?_, fun a w h => ?_, r.len, fun i s h => ?_, r.pin, fun a w h => ?_, fun a q h => ?_⟩
  · rw [upd_ne (ne_of_none h fN)]
    exact r.exF a w h
  · have z := ne_of_none h hG
    rw [upd_ne z]
    exact r.exG a w (by rw [upd_ne z]; exact h)
  · by_cases z : a = l
    · subst z
      exact ⟨fN, hG, by rw [upd_same]; exact .of hu⟩
    · rw [onAt_ne z] at h
      obtain ⟨x, y, w⟩ := r.dF a q h
      exact ⟨x, by rw [upd_ne z] at y; exact y, by rw [upd_ne z]; exact w⟩
  · have z := ne_of_none h fN
    rcases r.dG a w h with q | q
    · rw [upd_ne z] at q
      exact .inl q
    · exact .inr q
  · obtain ⟨v, q1, q2⟩ := r.sl i s h
    refine ⟨v, q1, q2.go (Same.refl F) fun a w h => ?_⟩
    have z := hne a _ h
    exact ⟨upd_ne z, by rw [onAt_ne z]; exact h⟩
  · have z := ne_of_none h hB
    rw [upd_ne z]
    exact r.exB a w h
  · by_cases z : a = l
    · subst z
      exact hB
    · rw [onAt_ne z] at h
      exact r.dB a q h
end
def dlit1 (d e : D) (L : LS) : R S := match keyD d with
  | some k => .ok (.odK [(k, e)]) L
  | none => .stuck
def gDlit (gk gv : LS → R D) : LS → R S := fun L => (gk L).bind fun d L1 => (gv L1).bind fun e L2 => dlit1 d e L2
section
variable {c : Ct} {n n2 : Bool} {a b : Expr} {ga gb : LS → R D} {pos : Pos}
theorem je_dlit (ha : JD c n a ga) (hb : JD c n2 b gb) : JE c false (.Dict [some a] [b] pos) (gDlit ga gb) := by
  obtain ⟨ta, pa, qa⟩ := ha
  obtain ⟨tb, pb, qb⟩ := hb
  refine ⟨_, pe_disp (pps_cons pa pb pps_nil) rfl rfl (by simp) (by simp), fun G F ow σ H L Rr => ?_⟩
  have main : ∀ p, H p = none → G p = none → c.B p = none → Post c G false F H σ (gDlit ga gb L) (BE c.ca c.X.K) (fun Q => tPairs [(ta, tb)] σ (upd H p (.dK [])) fun ps H2 => H2 p = some (.dK []) ∧ ∃ kvs : List (Key × V), ps = kvs.map (fun kv => (kV kv.1, kv.2)) ∧ kvs.length ≤ 15 ∧ Q (.ref p) (upd H2 p (.dK (mergeK [] kvs)))) := by
    intro p hp hG hB
    obtain ⟨_, R0⟩ := Rr.newG (o := .dK []) hp
    have h1 := qa _ F ow σ _ L R0
    unfold gDlit
    cases hr : ga L with
    | stuck => trivial
    | err e L1 =>
      rw [hr] at h1
      exact fun hw Q => h1 (fun H' F' ow' e1 R1 => hw H' F' ow' e1 (R1.weakG hG)) _
    | ok d L1 =>
      rw [hr] at h1
      show Post c G false F H σ ((gb L1).bind fun e L2 => dlit1 d e L2) _ _
      cases hr2 : gb L1 with
      | stuck => trivial
      | err e L2 =>
        intro hw Q
        refine h1 _ fun x H1 F1 ow1 e1 _ R1 b1 => ?_
        have h2 := qb _ F1 ow1 σ H1 L1 R1
        rw [hr2] at h2
        exact h2 (fun H' F' ow' e2 R2 => hw H' F' ow' (e1.trans e2) (R2.weakG hG)) _
      | ok e L2 =>
        show Post c G false F H σ (dlit1 d e L2) _ _
        unfold dlit1
        cases hk : keyD d with
        | none => trivial
        | some k =>
          intro Q q
          refine h1 _ fun x H1 F1 ow1 e1 _ R1 b1 => ?_
          have h2 := qb _ F1 ow1 σ H1 L1 R1
          rw [hr2] at h2
          refine h2 _ fun y H2 F2 ow2 e2 _ R2 b2 => ?_
          refine ⟨R2.exG p _ upd_same, [(k, y)], ?_, by simp, ?_⟩
          · rw [keyD_of b1 hk]
            rfl
          · have R3 := R2.ownG (p := [0]) (u := .dK [(k, y)]) hG hB kT_dK kT_dK
            exact q _ _ F2 _ (e1.trans e2) (fun z => by cases z) R3 (.odK upd_same (onAt_same ..) (.cons ⟨rfl, b2⟩ .nil))
  cases hr : gDlit ga gb L with
  | stuck => trivial
  | err e L1 =>
    intro hw Q p hp
    have h := main p hp (Rr.exG.free hp) (Rr.exB.free hp)
    rw [hr] at h
    exact h hw Q
  | ok s L1 =>
    intro Q q p hp
    have h := main p hp (Rr.exG.free hp) (Rr.exB.free hp)
    rw [hr] at h
    exact h Q q
end
end VS

namespace VS
open PySem PySem.Spec PyProof.Rows L2
end VS

namespace VS
open PySem PySem.Spec PyProof.Rows L2
section
variable {c : Ct} {n n1 n2 : Bool} {a b e : Expr} {es : List Expr} {ga gb : LS → R D} {gs : LS → R (List D)} {pos p p2 apos : Pos} {k : Nat}
def minL : List Int → Option Int
  | [] => none
  | x :: xs => some (xs.foldl (fun m y => if y < m then y else m) x)
theorem minL_spec : ∀ {ns : List Int} {m : Int}, minL ns = some m → 0 < ns.length ∧ m ∈ ns ∧ ∀ y ∈ ns, m ≤ y
  | [], _, h => by cases h
  | x :: xs, m, h => by
    have go : ∀ (xs : List Int) (x : Int), (xs.foldl (fun m y => if y < m then y else m) x) ∈ x :: xs ∧ ∀ y ∈ x :: xs, (xs.foldl (fun m y => if y < m then y else m) x) ≤ y := by
      intro xs
      induction xs with
      | nil => intro x; simp
      | cons z xs ih =>
        intro x
        obtain ⟨h1, h2⟩ := ih (if z < x then z else x)
        rw [List.foldl_cons]
        refine ⟨?_, fun y hy => ?_⟩
        · rcases List.mem_cons.mp h1 with h1 | h1
          · rw [h1]
            split
            · simp
            · simp
          · simp [h1]
        · have h3 := h2 _ List.mem_cons_self
          have h4 : (if z < x then z else x) ≤ x ∧ (if z < x then z else x) ≤ z := by split <;> omega
          rcases List.mem_cons.mp hy with rfl | hy
          · exact Int.le_trans h3 h4.1
          · rcases List.mem_cons.mp hy with rfl | hy
            · exact Int.le_trans h3 h4.2
            · exact h2 y (List.mem_cons_of_mem _ hy)
    have h := Option.some.inj (show some (xs.foldl (fun m y => if y < m then y else m) x) = some m from h)
    subst h
    exact ⟨by simp, go xs x⟩
def dMinL : D → Option D
  | .list ds => (intsOf ds).bind fun ns => (minL ns).map .int
  | _ => none
theorem jd_minL (hc : c.X.calm = true) (hg : Gl c.X "min") (hm : c.X.mg "min" = none) (ha : JV c n a ga) (hs : starEach [a] c.X.env = (false, eval a c.X.env) :: starEach [] c.X.env := by rfl) : JD c n (.Call (.Name "min" p) [a] [] pos) (gUn dMinL ga) :=
  jd_call1 (cr_min hc) hg hm (by decide +kernel) ha (fun {G F H ow σ L d v} Rr hb => by
    cases d with
    | list ds =>
      obtain ⟨l, vs, rfl, h1, h2⟩ := bv_list Rr hb
      show Post c G true F H σ (ofO ((intsOf ds).bind fun ns => (minL ns).map PyData.int) L) _ _
      cases e : intsOf ds with
      | none => trivial
      | some ns =>
        rw [ints_of h2 e] at h1
        show Post c G true F H σ (ofO ((minL ns).map PyData.int) L) _ _
        cases e2 : minL ns with
        | none => trivial
        | some m =>
          obtain ⟨k1, k2, k3⟩ := minL_spec e2
          refine (Post.val (a := PyData.int m) (b := V.int m) (B := BD c.X.K) Rr (.int _)).imp fun Q q => ⟨l, ns, rfl, h1, k1, fun m' hm' hy => ?_⟩
          have : m' = m := Int.le_antisymm (hy m k2) (k3 m' hm')
          rw [this]
          exact q
    | _ => trivial) (by decide) (by decide) hs rfl
def intsR2 (lo : Int) (m : Nat) : List D := (intsD lo m).reverse
def rvr2 : List D → LS → R (List D)
  | [.int i, .int j], L => if -(2 ^ 62) ≤ i ∧ i < 2 ^ 62 ∧ -(2 ^ 62) ≤ j ∧ j < 2 ^ 62 then .ok (intsR2 i (j - i).toNat) L else .stuck
  | _, _ => .stuck
theorem intsR2_len (lo : Int) (m : Nat) : (intsR2 lo m).length = m := by
  unfold intsR2
  rw [List.length_reverse, intsD_len]
theorem itc_ok2 {K : PySem.W.Frag} {B F : Hp} {lo : Int} {m : Nat} : ItOk K B F (intsR2 lo m) (Itc (lo + ((m : Nat) : Int) - 1) (-1) m) := fun i H s _ => by
  rw [intsR2_len]
  refine ⟨fun h => h, fun d hd => ?_⟩
  have hi : i < m := by
    have := (List.getElem?_eq_some_iff.mp hd).1
    rw [intsR2_len] at this
    exact this
  unfold intsR2 at hd
  rw [List.getElem?_reverse (by rw [intsD_len]; exact hi), intsD_len] at hd
  unfold intsD at hd
  rw [List.getElem?_map, List.getElem?_range (by omega)] at hd
  cases hd
  refine ⟨hi, fun x H' ⟨e1, e2⟩ => .inl ⟨e1, ?_⟩⟩
  rw [e2]
  have : (lo + ((m : Nat) : Int) - 1 + (i : Nat) * (-1)) = lo + ((m - 1 - i : Nat) : Int) := by omega
  rw [this]
  exact .int _
theorem ji_revrange2 {tg : Expr} {p p2 pos2 : Pos} {n1 n2 : Bool} (hg : Gl c.X "reversed") (hm : c.X.mg "reversed" = none) (hg2 : Gl c.X "range") (hm2 : c.X.mg "range" = none) (h : JD c n1 a ga) (h2 : JD c n2 b gb)
    (hs : starEach [.Call (.Name "range" p2) [a, b] [] pos2] c.X.env = (false, eval (.Call (.Name "range" p2) [a, b] [] pos2) c.X.env) :: starEach [] c.X.env := by rfl) (hs2 : starEach [a, b] c.X.env = (false, eval a c.X.env) :: starEach [b] c.X.env := by rfl) (hpp : (backTo pos2 (starEach [b] c.X.env)).any (·.1) = false := by rfl) (hs3 : starEach [b] c.X.env = (false, eval b c.X.env) :: starEach [] c.X.env := by rfl) :
    JI c (n1 && n2) tg (.Call (.Name "reversed" p) [.Call (.Name "range" p2) [a, b] [] pos2] [] pos) (fun L => (gCons ga (gCons gb gNil) L).bind rvr2) := by
  obtain ⟨t, pa, q⟩ := h
  obtain ⟨t2, pb, q2⟩ := h2
  refine ⟨_, pi_revR hg hm (prg_2 hg2 hm2 pa pb hs2 hs3 hpp) hs, fun G F ow σ H L Rr => ?_⟩
  have key := (q G F ow σ H L Rr).bind (n2 := n2) (B2 := BI c.B c.X.K) (k := fun d L1 => (gb L1).bind fun e L2 => rvr2 [d, e] L2) (t2 := fun v H1 (Q : It → Hp → Prop) => t2 σ H1 fun w H2 => ∃ i j : Int, v = V.int i ∧ w = V.int j ∧ (-(2 ^ 62) ≤ i ∧ i < 2 ^ 62 ∧ -(2 ^ 62) ≤ j ∧ j < 2 ^ 62 ∧ Q (Itc (i + (((j - i).toNat : Nat) : Int) - 1) (-1) (j - i).toNat) H2)) fun d L1 v H1 F1 ow1 _ _ _ R1 b1 => ?_
  · have e : (fun L => (gCons ga (gCons gb gNil) L).bind rvr2) L = (ga L).bind fun d L1 => (gb L1).bind fun e L2 => rvr2 [d, e] L2 := by
      show ((ga L).bind fun d L1 => ((gb L1).bind fun e L2 => (R.ok [] L2 : R (List D)).bind fun ds L3 => .ok (e :: ds) L3).bind fun ds L2 => .ok (d :: ds) L2).bind rvr2 = _
      cases ga L with
      | ok d L1 =>
        show (((gb L1).bind fun e L2 => (R.ok [] L2 : R (List D)).bind fun ds L3 => .ok (e :: ds) L3).bind fun ds L2 => .ok (d :: ds) L2).bind rvr2 = (gb L1).bind fun e L2 => rvr2 [d, e] L2
        cases gb L1 <;> rfl
      | _ => rfl
    rw [e]
    exact key
  · have key2 := (q2 G F1 ow1 σ H1 L1 R1).bind (n2 := true) (B2 := BI c.B c.X.K) (k := fun e L2 => rvr2 [d, e] L2) (t2 := fun w H2 (Q : It → Hp → Prop) => ∃ i j : Int, v = V.int i ∧ w = V.int j ∧ (-(2 ^ 62) ≤ i ∧ i < 2 ^ 62 ∧ -(2 ^ 62) ≤ j ∧ j < 2 ^ 62 ∧ Q (Itc (i + (((j - i).toNat : Nat) : Int) - 1) (-1) (j - i).toNat) H2)) fun e L2 w H2 F2 ow2 _ e2 s2 R2 b2 => ?_
    · rw [Bool.and_true] at key2
      exact key2
    · cases b1 with
      | int i =>
        cases b2 with
        | int j => exact Post.guard fun hj => (Post.val (a := intsR2 i (j - i).toNat) (b := Itc (i + (((j - i).toNat : Nat) : Int) - 1) (-1) (j - i).toNat) (B := BI c.B c.X.K) R2 itc_ok2).imp fun Q q => ⟨i, j, rfl, rfl, hj.1, hj.2.1, hj.2.2.1, hj.2.2.2, q⟩
        | _ => trivial
      | _ => trivial
end
end VS

namespace PySem
open Sem (wp)
open AutoSeq1 (wpAny_loadPart')
section
variable {prog : Program} {w : World} {A : Around} {E : Value → Shared → Prop} {s : Shared}
end
end PySem
namespace L2
open PySem PySem.Spec PyProof.Rows
section
variable {X : Cx} {e : Expr} {te : St → Hp → (Int → Int → Hp → Prop) → Prop}
end
end L2
namespace VS
open PySem PySem.Spec PyProof.Rows L2
section
variable {c : Ct} {n : Bool} {a : Expr} {gb : LS → R D} {p pos : Pos}
end
end VS

namespace VS
open PySem PySem.Spec PyProof.Rows L2
end VS
namespace VS
end VS

namespace VS
open PySem PySem.Spec PyProof.Rows L2
def PSl (c : Ct) (j : Nat) (e : Expr) : Prop := ∃ te : TE, PE c.X e te ∧ ∀ {G F H : Hp} {ow : Addr → Option Path} {σ : L2.St} {L : LS} {v : V}, c.Rl G F ow σ H L → σ[j]? = some (some v) → ∀ Q : VK, Q v H → te σ H Q
structure ObAt (c : Ct) (i C : Nat) (fl : List (Str × Nat)) : Prop where
  ex : ∃ a dx vs, c.B a = some (.ins (c.ca C) dx vs) ∧ c.pb[i]? = some true ∧ c.v0[i]? = some (.ref a) ∧ vs.map (·.1) = fl.map (·.1) ∧ ∀ f j, fl.lookup f = some j → ∃ v, vs.lookup f = some v ∧ c.pb[j]? = some true ∧ c.v0[j]? = some v
section
variable {c : Ct} {n n1 n2 : Bool} {a b e e0 : Expr} {ga gb : LS → R D} {pos p apos : Pos} {i j k : Nat} {es : List Expr}
theorem psl_var {x : Str} (h : PE c.X (.Name x p) (tVar i)) : PSl c i (.Name x p) := ⟨_, h, fun _ hv Q q => ⟨_, hv, q⟩⟩
end
end VS

namespace VS
open PySem PySem.Spec PyProof.Rows L2
section
variable {K : PySem.W.Frag} {ca : Nat → Addr} {bh : Hp} {pn : List (Option V)} {G F H : Hp} {ow : Addr → Option Path} {σ : L2.St} {L : LS}
theorem Rl.lock {l : Addr} {vs : List V} {j : Nat} (r : Rl K ca bh pn G F ow σ H L) (hl : H l = some (.lst vs)) (ho : ow l = some [j + 1]) : Rl K ca bh pn (upd G l (.lst vs)) F (offAt ow l) σ H (L.set j none) := by
  obtain ⟨f0, g0, h0⟩ := r.dF l _ ho
  refine ⟨r.exF, fun a o h => ?_, fun a p h => ?_, fun a o h => ?_, by rw [List.length_set]; exact r.len, fun k s h => ?_, r.pin, r.exB, fun a p h => ?_⟩
  · by_cases z : a = l
    · subst z
      rw [upd_same] at h
      cases h
      exact hl
    · rw [upd_ne z] at h
      exact r.exG a o h
  · by_cases z : a = l
    · subst z
      rw [offAt_same] at h
      cases h
    · rw [offAt_ne z] at h
      obtain ⟨x, y, w⟩ := r.dF a p h
      exact ⟨x, by rw [upd_ne z]; exact y, w⟩
  · have z : a ≠ l := ne_of_none h f0
    rw [upd_ne z]
    exact r.dG a o h
  · rcases set_get h with ⟨_, h1⟩ | ⟨h1, h2⟩
    · cases h1
    · obtain ⟨v, q1, q2⟩ := r.sl k s h2
      refine ⟨v, q1, q2.go (Same.refl F) (keeps_off fun q z => ?_)⟩
      rw [ho] at z
      injection z with z
      injection z with z _
      omega
  · by_cases z : a = l
    · subst z
      rw [offAt_same] at h
      cases h
    · rw [offAt_ne z] at h
      exact r.dB a p h
end
end VS

namespace VS
open PySem PySem.Spec PyProof.Rows L2
abbrev Obs := List (Nat × Nat × List (Str × Nat))
def ObsOk (ca : Nat → Addr) (B : Hp) (obs : Obs) (ws : List V) : Prop := ∀ o ∈ obs, ∃ a dx vs, B a = some (.ins (ca o.2.1) dx vs) ∧ ws[o.1]? = some (.ref a) ∧ vs.map (·.1) = o.2.2.map (·.1) ∧ ∀ f j, o.2.2.lookup f = some j → ∃ v, vs.lookup f = some v ∧ ws[j]? = some v
def VSg (K : PySem.W.Frag) (ca : Nat → Addr) (obs : Obs) (np : Nat) (md : List Bool) (m : LS → R S) : Sp := fun vs H Q E => vs.length = np ∧ ∃ gv B G F ow ss, (vs ++ gv).length = md.length ∧ ss.length = md.length ∧ ObsOk ca B obs (vs ++ gv) ∧ Rl K ca B [] G F ow ((vs ++ gv).map some) H ss ∧ match m ss with
  | .ok s L => ∀ v H' F' ow', Same F F' → Rl K ca B [] G F' ow' ((vs ++ gv).map some) H' L → RS K ca F' H' ow' [0] s v → Q v H'
  | .err e L => ∀ H' F' ow', Same F F' → Rl K ca B [] G F' ow' ((vs ++ gv).map some) H' L → E (.ref (ca e)) none H'
  | .stuck => False
section
variable {P : Program} {w : World} {K : PySem.W.Frag} {mg : Str → Option Value} {base : Heap} {ca : Nat → Addr}
end
inductive Ag where
  | d (g : LS → R D)
  | r (i : Nat)
  | o (i : Nat)
section
variable {c : Ct} {n n1 n2 n3 : Bool} {a b : Expr} {ga gb : LS → R D} {pos : Pos} {es : List Expr} {as : List Ag}
section
variable {X : Cx} {CX : CXT} {k : Nat} {f C : Addr} {fd : FuncData} {ps : List Str} {sp : Sp} {E : L2.St → XK} {m : Str} {pos apos : Pos} {e o : Expr} {es : List Expr} {ta : TE} {t : TA}
end
end
end VS

namespace VS
open PySem PySem.Spec PyProof.Rows L2
section
variable {K : PySem.W.Frag} {ca : Nat → Addr} {bh : Hp} {pn : List (Option V)} {G F F' H H' : Hp} {ow ow' : Addr → Option Path} {σ : L2.St} {L : LS}
theorem RF.go (e : Same F F') : ∀ {fs : List (Str × S)} {p p' : Path} {i : Nat} {vs : List (Str × V)}, (∀ j, Keeps H H' ow ow' (p ++ [j]) (p' ++ [j])) → RF K ca F H ow p i fs vs → RF K ca F' H' ow' p' i fs vs
  | [], p, p', i, vs, k, h => by cases h; exact .nil
  | (x, s) :: fs, p, p', i, vs, k, h => by
    cases h with
    | cons a b => exact .cons (a.go e (k i)) (RF.go e k b)
theorem RF.len : ∀ {fs : List (Str × S)} {p : Path} {i : Nat} {vs : List (Str × V)}, RF K ca F H ow p i fs vs → vs.map (·.1) = fs.map (·.1)
  | [], p, i, vs, h => by cases h; rfl
  | (x, s) :: fs, p, i, vs, h => by
    cases h with
    | cons a b => rw [List.map_cons, List.map_cons, RF.len b]
theorem RF.at_ : ∀ {fs : List (Str × S)} {p : Path} {i : Nat} {vs : List (Str × V)} {m : Nat} {f : Str} {s : S}, RF K ca F H ow p i fs vs → fs[m]? = some (f, s) → ∃ v, vs[m]? = some (f, v) ∧ RS K ca F H ow (p ++ [i + m]) s v
  | [], p, i, vs, m, f, s, h, e => by cases e
  | (x, y) :: fs, p, i, vs, 0, f, s, h, e => by
    cases h with
    | cons a b =>
      cases e
      exact ⟨_, rfl, a⟩
  | (x, y) :: fs, p, i, vs, m + 1, f, s, h, e => by
    cases h with
    | cons a b =>
      obtain ⟨v, h1, h2⟩ := RF.at_ (m := m) b e
      refine ⟨v, h1, ?_⟩
      rw [show i + (m + 1) = i + 1 + m by omega]
      exact h2
end
def putS (f : Str) (s : S) : List (Str × S) → List (Str × S)
  | [] => [(f, s)]
  | (g, x) :: r => if g = f then (g, s) :: r else (g, x) :: putS f s r
def idxS (f : Str) : List (Str × S) → Nat
  | [] => 0
  | (g, _) :: r => if g = f then 0 else idxS f r + 1
theorem RF.put {K : PySem.W.Frag} {ca : Nat → Addr} {F H : Hp} {ow : Addr → Option Path} {f : Str} {s : S} {v : V} : ∀ {fs : List (Str × S)} {p : Path} {i : Nat} {vs : List (Str × V)}, RF K ca F H ow p i fs vs → RS K ca F H ow (p ++ [i + idxS f fs]) s v → RF K ca F H ow p i (putS f s fs) (L2.putF f v vs)
  | [], p, i, vs, h, r => by
    cases h
    exact .cons r .nil
  | (g, x) :: fs, p, i, vs, h, r => by
    cases h with
    | @cons _ _ _ _ u _ us a b =>
      unfold idxS at r
      show RF K ca F H ow p i (if g = f then (g, s) :: fs else (g, x) :: putS f s fs) (if g = f then (g, v) :: us else (g, u) :: L2.putF f v us)
      by_cases hg : g = f
      · rw [if_pos hg] at r
        rw [if_pos hg, if_pos hg]
        exact .cons r b
      · rw [if_neg hg] at r
        rw [if_neg hg, if_neg hg]
        refine .cons a (RF.put b ?_)
        rw [show i + 1 + idxS f fs = i + (idxS f fs + 1) by omega]
        exact r
end VS

namespace VS
open PySem PySem.Spec PyProof.Rows L2
structure Later (c : Ct) (ms : List Bool) (ws : List V) (B : Hp) : Prop where
  b : Same c.B B
  p : ∀ (k : Nat) (v : V), c.pb[k]? = some true → c.v0[k]? = some v → ms[k]? = some true ∧ ws[k]? = some v
def cleanS : Option S → Option S
  | some (.b _) => none
  | some (.bl _) => none
  | x => x
def cleanL (L : LS) : LS := L.map cleanS
end VS

namespace VS
open PySem PySem.Spec PyProof.Rows L2
structure DxG (P : Program) (w : World) (K : PySem.W.Frag) (mg : Str → Option Value) (base : Heap) (ca : Nat → Addr) (x : Str) (k : Nat) (ps : List Str) (obs : Obs) (md : List Bool) (m : LS → R S) : Prop where
  ex : ∃ f fd, FnOk P w K mg base (L2.CX P w) k f fd ps (VSg K ca obs ps.length md m) ∧ mg x = some (.ref f) ∧ PySem.W.keepIn K (.ref f) = true ∧ Binds K fd ps []
structure MxG (P : Program) (w : World) (K : PySem.W.Frag) (mg : Str → Option Value) (base : Heap) (ca : Nat → Addr) (C : Nat) (x : Str) (k : Nat) (ps : List Str) (obs : Obs) (md : List Bool) (m : LS → R S) : Prop where
  ex : ∃ f fd, FnOk P w K mg base (L2.CX P w) k f fd ps (VSg K ca obs ps.length md m) ∧ Cls K (ca C) ∧ Meth K (ca C) x f ∧ Binds K fd ps []
structure CxG (P : Program) (w : World) (K : PySem.W.Frag) (mg : Str → Option Value) (base : Heap) (ca : Nat → Addr) (C : Nat) (x : Str) (k : Nat) (m : LS → R S) : Prop where
  ex : ∃ f fd ps, Mk K (ca C) f ∧ FnOk P w K mg base (L2.CX P w) k f fd ps (VSp K ca [true] m) ∧ mg x = some (.ref (ca C)) ∧ Binds K fd ps []
section
variable {c : Ct} {n : Bool} {as : List Ag} {gs : List Nat} {obs : Obs} {md : List Bool} {m : LS → R S} {ps : List Str} {x : Str} {k j : Nat} {p pos apos : Pos} {e o : Expr} {es : List Expr}
end
end VS
namespace VS
end VS
namespace VS
open PySem PySem.Spec PyProof.Rows L2
section
variable {c : Ct} {n : Bool} {a e0 : Expr} {ga : LS → R D} {pos p : Pos} {i k : Nat}
end
end VS
namespace VS
open PySem
end VS

namespace VS
open PySem PySem.Spec PyProof.Rows L2
section
variable {c : Ct} {n : Bool} {a b d : Expr} {gs : LS → R (List D)} {pos p : Pos}
end
end VS

namespace VS
open PySem PySem.Spec PyProof.Rows L2
section
variable {K : PySem.W.Frag} {ca : Nat → Addr} {bh : Hp} {pn : List (Option V)} {G F H : Hp} {ow : Addr → Option Path} {σ : L2.St} {L : LS}
end
def S.one : S → Bool
  | .ol _ => true
  | .odK _ => true
  | .odT _ => true
  | _ => false
end VS

namespace VS
open PySem PySem.Spec PyProof.Rows L2
structure KeyAt0 (P : Program) (w : World) (K : PySem.W.Frag) (mg : Str → Option Value) (x : Str) : Prop where
  ex : ∃ f, mg x = some (.ref f) ∧ ∀ (A : Around) (s : Shared) (t : Addr) (items : Array Value) (y : Value), A.depth < recursionLimit → K.In s.heap → s.heap.NoLimit → IsTup s.heap t items → items[0]? = some y →
    wpAny (model P w) A (call (.ref f) [.ref t]) (fun v s2 => v = y ∧ ∃ h' tk, s2 = { s with heap := h', toks := tk } ∧ ∀ b o, s.heap.get? b = some o → h'.get? b = some o) (fun _ _ => False) s
theorem vals1 {v : V} {us : List Value} (h : Vals [v] us) : ∃ u, us = [u] ∧ RelV v u := by
  cases h with
  | cons a b => cases b; exact ⟨_, rfl, a⟩
section
variable {c : Ct} {n n1 n2 : Bool} {a b e : Expr} {es : List Expr} {ga gb : LS → R D} {gs : LS → R (List D)} {pos p p2 : Pos}
end
end VS

namespace L2
open PySem PySem.W PySem.Spec PyProof.Rows
section
variable {X : Cx} {pins : List (Addr × Obj)} {σ : St} {H : Hp} {s : Shared} {d : Addr} {o : Obj}
theorem Inv.frzT2 {kvs : List (List Key × V)} (I : Inv X pins σ H s) (h : H d = some (.frz o (.dT kvs))) :
    (d == sysModules) = false ∧ s.heap.get? d = some o ∧ o.ExactDict ∧ ∃ (es : Array DictEntry) (ep : Nat), o.data = .dict es ep ∧ es.size = kvs.length ∧ es.size ≤ sizeLine ∧
      ∀ (i : Nat) (k : List Key) (v : V), kvs[i]? = some (k, v) → ∃ (en : DictEntry) (q : Addr), es[i]? = some en ∧ en.key = .ref q ∧ H q = some (.tup (k.map kV)) ∧ RelV v en.val := by
  obtain ⟨hd, z, hs, xs, pr, o', es, ep, ho, hx, hdt, he, _⟩ := I.hok d _ h
  rw [hd] at ho
  cases ho
  have l1 : es.size = xs.length := size_of_entries he
  have l2 : kvs.length = xs.length := Paired.length pr
  refine ⟨hs, hd, hx, es, ep, hdt, by omega, by omega, fun i k v e => ?_⟩
  obtain ⟨b, hb, e1, e2, e3⟩ := paired_get pr e
  have q := entry_at he i
  rw [hb] at q
  exact ⟨_, b.2.1, q, rfl, e2, e3⟩
end
def ItiT (d : Addr) (o : Obj) (kvs : List (List Key × V)) (bs : List Addr) : It :=
  ⟨fun i H => H d = some (.frz o (.dT kvs)) ∧ i < kvs.length, fun i H x H' => ∃ T b k v, kvs[i]? = some (k, v) ∧ bs[i]? = some b ∧ x = .ref T ∧ H T = none ∧ H' = upd H T (.tup [.ref b, v]), fun i H => H d = some (.frz o (.dT kvs)) ∧ kvs.length ≤ i⟩
section
variable {P : Program} {w : World} {K : PySem.W.Frag} {d : Addr} {o : Obj} {es : Array DictEntry} {ep : Nat}
theorem turn_itemsT {kvs : List (List Key × V)} {bs : List Addr} {elts : List Expr} {kk : Nat} {tpos : Pos} (it : Addr) (hod : o.data = .dict es ep) (hbs : ∀ (i : Nat) (en : DictEntry) (q : Addr), i < kvs.length → es[i]? = some en → en.key = .ref q → bs[i]? = some q) :
    Turn P w K (.Tuple elts kk tpos) (ItiT d o kvs bs) [it] it (fun i h => ∃ ok ov, IsItemIter h it d i kvs.length ep ok ov) where
  mem := by simp
  obj := fun i h st b hb => by
    have e : b = it := by simpa using hb
    subst e
    obtain ⟨ok, ov, e⟩ := st
    exact ⟨_, e, fun v z => nomatch z⟩
  keep := fun i h h' st k => let ⟨ok, ov, e⟩ := st; ⟨ok, ov, k it (by simp) _ e⟩
  item := by
    intro X hP hw hK hc i pins s σ H E I hf st hg
    subst hP hw hK
    obtain ⟨hd, hi⟩ := hg
    obtain ⟨hs, hgd, hx, es', ep', hdt, hsz, hz0, ent⟩ := I.frzT2 hd
    obtain ⟨rfl, rfl⟩ := dict_ep hod hdt
    obtain ⟨⟨k, v⟩, hkv⟩ : ∃ p, kvs[i]? = some p := ⟨kvs[i], List.getElem?_eq_getElem hi⟩
    obtain ⟨en, q, hen, hkey, hq, hval⟩ := ent i k v hkv
    have hbq := hbs i en q hi hen hkey
    have hm : DT.Raw s.heap d es' ep' := ⟨o, hgd, hx, hdt⟩
    obtain ⟨hie, hei⟩ := Array.getElem?_eq_some_iff.mp hen
    obtain ⟨ok, ov, he⟩ := st
    rw [← hsz] at he
    have hlt : it < s.heap.objs.size := Heap.lt_size he
    refine DT.nextI he hm hie fun h' ho hT hz hk => ?_
    rw [hei] at ho hT
    refine ⟨_, rfl, wpAny_letOwnedTupleGo_items (s := { s with heap := h' }) ho fun h'' he' sb => ?_⟩
    have hT2 : h''.get? s.heap.objs.size = some { cls := .type "tuple", data := .seq #[en.key, en.val] } := (sb.2 _ (Nat.ne_of_gt hlt)).trans hT
    have new : ObjOk X.prog X.w (upd H s.heap.objs.size (.tup [.ref q, v])) h'' s.heap.objs.size (.tup [.ref q, v]) :=
      ⟨by show 2 ≤ sizeLine; decide, [en.key, en.val], .cons hkey (.cons hval .nil), ⟨_, hT2, rfl, _, rfl⟩⟩
    have I1 : Inv X pins σ (upd H s.heap.objs.size (.tup [.ref q, v])) { s with heap := h'' } :=
      I.turnedNew (t' := s.toks) (ch := [it]) (fun b ob hb e => (sb.2 b (by simpa using hb)).trans (hk b ob (by simpa using hb) e)) hf (Nat.le_refl _) new
    refine ⟨.ref s.heap.objs.size, _, I1, rfl, ⟨_, q, k, v, hkv, hbq, rfl, I.hok.fresh (Nat.le_refl _), rfl⟩, ⟨en.key, en.val, ?_⟩, fun b hb => ?_⟩
    · rw [← hsz]; exact he'
    · have e : b = it := by simpa using hb
      rw [e, upd_ne (Nat.ne_of_lt hlt)]
      exact (hf it (by simp)).1
  done := by
    intro X hP hw hK hc i pins s σ H E I hf st hg
    subst hP hw hK
    obtain ⟨hd, hi⟩ := hg
    obtain ⟨f0, f1, f2, f3, f4, f5⟩ := hf it (by simp)
    obtain ⟨hs, hgd, hx, es', ep', hdt, hsz, hz0, ent⟩ := I.frzT2 hd
    obtain ⟨rfl, rfl⟩ := dict_ep hod hdt
    have hm : DT.Raw s.heap d es' ep' := ⟨o, hgd, hx, hdt⟩
    obtain ⟨ok, ov, he⟩ := st
    rw [← hsz] at he
    exact DT.endI (I.ok.hd hc) he hm (by omega) fun h' eb => ⟨rfl, I.turned (t' := s.toks) (fun b ob hb e => eb b ob hb e) f0 f1 f3 f4 f5⟩
  self := fun A i s Q E st h => let ⟨_, _, e⟩ := st; PySem.W.kcp_self e h
end
def iItemsT (td : TE) : TI := fun σ H R => td σ H fun x H1 => ∃ d o kvs, x = .ref d ∧ H1 d = some (.frz o (.dT kvs)) ∧ ∀ bs, IsKeys H1 kvs bs → R (ItiT d o kvs bs) H1
section
variable {X : Cx} {e : Expr} {td : TE} {apos cpos : Pos}
theorem pi_itemsT {elts : List Expr} {kk : Nat} {tpos : Pos} (he : PE X e td) (hbase : attributeBase e "items" X.env (eval e X.env) = eval e X.env := by rfl) (hline : (apos.endLine == cpos.line) = true := by rfl) :
    PI X (.Tuple elts kk tpos) (.Call (.Attribute e "items" apos) [] [] cpos) (iItemsT td) := by
  refine ⟨fun pins s σ H R I h => ?_⟩
  refine wpAny_Call_method (T := "dict") (id := "dict.items") hbase rfl hline F.plainAttrs_dict F.slot_dict_items F.type_dict_items (thn (he.run pins s σ H _ I h) fun u s1 ⟨x, H1, I1, rx, d, o, kvs, ex, hd, q⟩ => ?_)
  subst ex
  obtain rfl : u = Value.ref d := rx
  obtain ⟨hs, hgd, hx, es, ep, hdt, hsz, hz0, ent⟩ := I1.frzT2 hd
  have hm : DT.Raw s1.heap d es ep := ⟨o, hgd, hx, hdt⟩
  obtain ⟨t1, t2, _⟩ := isD_at I1 (show IsD H1 d from .inr ⟨kvs, .inr ⟨o, hd⟩⟩)
  refine ⟨t1, t2, ?_⟩
  have I2 : Inv X pins σ H1 { s1 with heap := s1.heap.push { cls := .type "dict_items", data := .fields #[.ref d] } } := I1.kept (t' := s1.toks) fun b ob q => Heap.get?_push_of_some _ q
  obtain ⟨bs, hbs, hbk⟩ : ∃ bs : List Addr, (∀ (i : Nat) (en : DictEntry) (q : Addr), i < kvs.length → es[i]? = some en → en.key = .ref q → bs[i]? = some q) ∧ IsKeys H1 kvs bs := by
    refine ⟨es.toList.map (fun en => match en.key with
      | .ref q => q
      | _ => 0), fun i en q hi hen hkey => ?_, ?_⟩
    · rw [List.getElem?_map, Array.getElem?_toList, hen]
      show some (match en.key with
        | .ref q => q
        | _ => 0) = some q
      rw [hkey]
    · have go : ∀ (kvs : List (List Key × V)) (l : List DictEntry), kvs.length = l.length → (∀ (i : Nat) (k : List Key) (v : V), kvs[i]? = some (k, v) → ∃ (en : DictEntry) (q : Addr), l[i]? = some en ∧ en.key = .ref q ∧ H1 q = some (.tup (k.map kV))) → IsKeys H1 kvs (l.map (fun en => match en.key with
          | .ref q => q
          | _ => 0)) := by
        intro kvs
        induction kvs with
        | nil =>
          intro l hl _
          cases l with
          | nil => exact .nil
          | cons _ _ => cases hl
        | cons kv kvs ih =>
          intro l hl hk
          cases l with
          | nil => cases hl
          | cons en l =>
            refine .cons ?_ (ih l (Nat.succ.inj hl) fun i k v e => hk (i + 1) k v e)
            obtain ⟨en', q, e1, e2, e3⟩ := hk 0 kv.1 kv.2 rfl
            cases e1
            dsimp only
            rw [e2]
            exact e3
      refine go kvs es.toList (by have : es.toList.length = es.size := Array.length_toList; omega) fun i k v e => ?_
      obtain ⟨en, q, e1, e2, e3, _⟩ := ent i k v e
      exact ⟨en, q, by rw [Array.getElem?_toList]; exact e1, e2, e3⟩
  have fin : wpAny (model X.prog X.w) X.A (pyIter (.ref s1.heap.objs.size)) (PIE X pins σ (.Tuple elts kk tpos) R) X.xe { s1 with heap := s1.heap.push { cls := .type "dict_items", data := .fields #[.ref d] } } := by
    refine DT.iterI (d := d) (es := es) (ep := ep) ⟨_, Heap.get?_push_size _ rfl, rfl, rfl⟩ (hm.push _) (pi_one (tk := s1.toks) I2 _ (turn_itemsT _ hdt hbs) ⟨.none, .none, ?_⟩ (q bs hbk))
    rw [← hsz]
    exact Heap.get?_push_size _ rfl
  show wpAny _ _ (callWith cpos (.builtin "dict.items") [.ref d] [] []) _ X.xe s1
  exact method_meetsIn F.slot_dict_items F.entry_dict_items rfl (PySem.evalArgs_none ⟨rfl, t1, F.args_dict_items_1 _, _, DT.meetsItems (es := es) (ep := ep) hs, ⟨hm, fin⟩⟩)
end
end L2
namespace VS
open PySem PySem.Spec PyProof.Rows L2
def itemsT (kvs : List (List Key × D)) : List D := kvs.map fun p => .tuple [.tuple (p.1.map kD), p.2]
def asItemsT : S → LS → R (List D)
  | .odT kvs, L => .ok (itemsT kvs) L
  | _, _ => .stuck
theorem isKeys_at {H : Hp} : ∀ {kvs : List (List Key × V)} {bs : List Addr}, IsKeys H kvs bs → Paired (KeyAt H) (bs.map V.ref) (keysT kvs) := by
  intro kvs bs h
  unfold IsKeys at h
  induction h with
  | nil => exact .nil
  | cons a t ih => exact .cons ⟨_, _, rfl, a, rfl⟩ ih
theorem dqk_get {κ : Type} {K : PySem.W.Frag} {F : Hp} : ∀ {vs : List (κ × V)} {ds : List (κ × D)} {i : Nat} {q : κ × D}, DqK K F vs ds → ds[i]? = some q → ∃ pv, vs[i]? = some pv ∧ (pv.1 = q.1 ∧ Dq K F pv.2 q.2) := by
  intro vs
  induction vs with
  | nil => intro ds i q h hq; cases h; cases hq
  | cons a vs ih =>
    intro ds i q h hq
    cases h with
    | cons r t =>
      cases i with
      | zero => cases hq; exact ⟨_, rfl, r⟩
      | succ i => exact ih t hq
theorem keysT_get {vs : List (List Key × V)} {i : Nat} {pv : List Key × V} (h : vs[i]? = some pv) : (keysT vs)[i]? = some (.tuple (pv.1.map kD)) := by
  unfold keysT
  rw [List.getElem?_map, h]
  rfl
theorem dqa_at {K : PySem.W.Frag} {F : Hp} : ∀ {vs : List V} {ds : List D} {i : Nat} {v : V} {d : D}, DqA K F vs ds → vs[i]? = some v → ds[i]? = some d → Dq K F v d
  | _, _, _, _, _, .nil, h, _ => by cases h
  | _, _, 0, _, _, .cons a _, h, k => by cases h; cases k; exact a
  | _, _, i + 1, _, _, .cons _ t, h, k => dqa_at (i := i) t h k
theorem items_okT {K : PySem.W.Frag} {B F : Hp} {l : Addr} {od : Obj} {vs : List (List Key × V)} {ds : List (List Key × D)} {bs : List Addr} (hF : F l = some (.frz od (.dT vs))) (h : DqK K F vs ds) (hb : DqA K F (bs.map V.ref) (keysT vs)) : ItOk K B F (itemsT ds) (ItiT l od vs bs) := by
  intro i H s _
  have hd := s l _ hF
  have hlen := DqK.len h
  refine ⟨fun hi => ⟨hd, ?_⟩, fun d hdd => ?_⟩
  · unfold itemsT at hi
    rw [List.length_map] at hi
    omega
  · unfold itemsT at hdd
    rw [List.getElem?_map] at hdd
    obtain ⟨q, hq, rfl⟩ := Option.map_eq_some_iff.mp hdd
    have hi := (List.getElem?_eq_some_iff.mp hq).1
    refine ⟨⟨hd, by omega⟩, fun x H' ⟨T, b, k, v, e1, eb, e2, e3, e4⟩ => .inr ⟨T, _, _, rfl, e2, e3, e4, ?_⟩⟩
    obtain ⟨pv, h1, h2, h3⟩ := dqk_get h hq
    rw [h1] at e1
    cases e1
    have h2 : k = q.1 := h2
    subst h2
    exact .cons (dqa_at hb (by rw [List.getElem?_map, eb]; rfl) (keysT_get h1)) (.cons h3 .nil)
section
variable {c : Ct} {n : Bool} {a : Expr} {ge ga : LS → R S} {gb : LS → R D} {p pos cpos apos tpos : Pos} {k : Nat} {elts : List Expr} {kk : Nat}
theorem ji_itemsT (h : JE c n a ge) (hbase : attributeBase a "items" c.X.env (eval a c.X.env) = eval a c.X.env := by rfl) (hline : (apos.endLine == cpos.line) = true := by rfl) :
    JI c false (.Tuple elts kk tpos) (.Call (.Attribute a "items" apos) [] [] cpos) (fun L => (ge L).bind asItemsT) := by
  obtain ⟨t, pa, qa⟩ := h
  refine ⟨_, pi_itemsT (pe_frz pa) hbase hline, fun G F ow σ H L Rr => ?_⟩
  have key := (qa G F ow σ H L Rr).bind (n2 := false) (B2 := BI c.B c.X.K) (k := asItemsT) (t2 := fun v H1 (Q : It → Hp → Prop) => ∃ d u, v = V.ref d ∧ H1 d = some u ∧ Mut (some u) ∧ ∀ od, ∃ d' o kvs, v = V.ref d' ∧ upd H1 d (.frz od u) d' = some (.frz o (.dT kvs)) ∧ ∀ bs, IsKeys (upd H1 d (.frz od u)) kvs bs → Q (ItiT d' o kvs bs) (upd H1 d (.frz od u))) fun s L1 v H1 F1 ow1 _ _ _ R1 b1 => ?_
  · rw [Bool.and_false] at key
    exact key
  · cases b1 with
    | @odT _ l vs ds w1 w2 w3 =>
      show Post c G false F1 H1 σ (R.ok (itemsT ds) L1) _ _
      intro Q q
      refine ⟨l, _, rfl, w1, trivial, fun od => ⟨l, od, vs, rfl, upd_same, fun bs hbs => ?_⟩⟩
      obtain ⟨e, r'⟩ := R1.frzD (od := od) w1 w2 (fun j q z => by cases z)
      obtain ⟨r2, d2⟩ := Rl.frzK r' (isKeys_at hbs)
      exact q _ _ _ _ (e.trans frzA_same) (fun z => by cases z) r2 (items_okT (frzA_same _ _ upd_same) ((w3.up e).up frzA_same) d2)
    | _ => trivial
end
end VS

namespace VS
open PySem PySem.Spec PyProof.Rows L2
open Classical in
noncomputable def kH (H : Hp) : Hp := fun a => match H a with
  | some o => if kT o then some o else none
  | none => none
theorem kH_in {H : Hp} {a : Addr} {o : HO} (h : kH H a = some o) : H a = some o ∧ kT o := by
  unfold kH at h
  split at h
  · split at h
    · rename_i o' e hk
      cases h
      exact ⟨e, hk⟩
    · cases h
  · cases h
theorem kH_at {H : Hp} {a : Addr} {o : HO} (h : H a = some o) (hk : kT o) : kH H a = some o := by
  unfold kH
  rw [h]
  exact if_pos hk
def itemOk (d : D) : Bool := scal d || (keysD d).isSome
def toB : D → Option S
  | .list ds => if ds.all itemOk = true then some (.bl ds) else none
  | d => if scal d = true then some (.d d) else none
def thawS : S → Option S
  | .d (.list es) => if es.all scal = true then some (.ol es) else none
  | .d d => if scal d = true then some (.d d) else none
  | .ol es => if es.all scal = true then some (.ol es) else none
  | _ => none
def freshAt (m : LS → R S) (ds : List D) (L : LS) : R S := match m (ds.map toB) with
  | .ok s _ => ofO (thawS s) L
  | .err e _ => .err e L
  | .stuck => .stuck
def gFresh (m : LS → R S) (k : Nat) (gs : LS → R (List D)) : LS → R S := fun L => (gs L).bind fun ds L1 => if ds.length = k then freshAt m ds L1 else .stuck
theorem keyD_inv' {d : D} {k : Key} (h : keyD d = some k) : d = kD k := by
  cases d <;> cases h <;> rfl
theorem keysL_vs {K : PySem.W.Frag} {F : Hp} : ∀ {ds : List D} {ks : List Key} {vs : List V}, keysL ds = some ks → DqA K F vs ds → vs = ks.map kV
  | [], ks, _, h, .nil => by cases h; rfl
  | d :: ds, ks, _, h, .cons a t => by
    have h : (keyD d).bind (fun k => (keysL ds).map (k :: ·)) = some ks := h
    cases e : keyD d with
    | none => rw [e] at h; cases h
    | some k =>
      rw [e] at h
      have h : (keysL ds).map (k :: ·) = some ks := h
      cases e2 : keysL ds with
      | none => rw [e2] at h; cases h
      | some ks' =>
        rw [e2] at h
        cases h
        rw [keysL_vs e2 t, List.map_cons]
        have := keyD_inv' e
        subst this
        cases k <;> cases a <;> rfl
theorem item_dq {K : PySem.W.Frag} {F H : Hp} {d : D} {v : V} (eF : Same F H) (h : itemOk d = true) (q : Dq K F v d) : Dq K (kH H) v d := by
  by_cases hs : scal d = true
  · exact scal_dq hs q
  · have h : (keysD d).isSome = true := by
      unfold itemOk at h
      rw [Bool.or_eq_true] at h
      exact h.resolve_left hs
    obtain ⟨ks, hk⟩ := Option.isSome_iff_exists.mp h
    cases q with
    | @tup a xs ds h1 h2 =>
      have hk : keysL ds = some ks := hk
      have e := keysL_vs hk h2
      refine .tup (kH_at (eF _ _ h1) ⟨ks, by rw [e]⟩) ?_
      have go : ∀ {ds : List D} {ks : List Key} {vs : List V}, keysL ds = some ks → DqA K F vs ds → DqA K (kH H) vs ds := by
        intro ds
        induction ds with
        | nil => intro ks vs _ h; cases h; exact .nil
        | cons d ds ih =>
          intro ks vs hk h
          cases h with
          | cons a t =>
            have hk : (keyD d).bind (fun k => (keysL ds).map (k :: ·)) = some ks := hk
            cases e : keyD d with
            | none => rw [e] at hk; cases hk
            | some k =>
              rw [e] at hk
              have hk : (keysL ds).map (k :: ·) = some ks := hk
              cases e2 : keysL ds with
              | none => rw [e2] at hk; cases hk
              | some ks' =>
                refine .cons (scal_dq ?_ a) (ih e2 t)
                rw [keyD_inv' e]
                cases k <;> rfl
      exact go hk h2
    | _ => first | cases hk | exact absurd rfl hs
theorem items_dqA {K : PySem.W.Frag} {F H : Hp} (eF : Same F H) : ∀ {ds : List D} {vs : List V}, ds.all itemOk = true → DqA K F vs ds → DqA K (kH H) vs ds
  | _, _, _, .nil => .nil
  | _, _, h, .cons a t => by
    rw [List.all_cons, Bool.and_eq_true] at h
    exact .cons (item_dq eF h.1 a) (items_dqA eF h.2 t)
theorem all_scal8 {K : PySem.W.Frag} {F F' : Hp} : ∀ {ds : List D} {vs : List V}, ds.all scal = true → DqA K F vs ds → DqA K F' vs ds
  | _, _, _, .nil => .nil
  | _, _, h, .cons a t => by
    rw [List.all_cons, Bool.and_eq_true] at h
    exact .cons (scal_dq h.1 a) (all_scal8 h.2 t)
theorem Rl.ownAt {K : PySem.W.Frag} {ca : Nat → Addr} {bh : Hp} {pn : List (Option V)} {G F H : Hp} {ow : Addr → Option Path} {σ : L2.St} {L : LS} (r : Rl K ca bh pn G F ow σ H L) {H' : Hp} (s : Same H H') {l : Addr} {o : HO} {p : Path} (hl : H l = none) (hl' : H' l = some o) (ho : ¬ kT o := by first | exact kT_lst | exact kT_dK | exact kT_dT | exact kT_ins) : Rl K ca bh pn G F (onAt ow l p) σ H' L := by
  have r1 := r.more s
  have owN : ∀ q, ow l ≠ some q := fun q h => (r.dF l q h).2.2.1 hl
  refine ⟨r1.exF, r1.exG, fun a q h => ?_, r.dG, r.len, fun i s0 h => ?_, r.pin, r1.exB, fun a q h => ?_⟩
  · by_cases z : a = l
    · subst z
      exact ⟨r.exF.free hl, r.exG.free hl, by rw [hl']; exact .of ho⟩
    · rw [onAt_ne z] at h
      exact r1.dF a q h
  · obtain ⟨v, q1, q2⟩ := r1.sl i s0 h
    refine ⟨v, q1, q2.go (Same.refl F) fun a w h => ⟨rfl, ?_⟩⟩
    by_cases z : a = l
    · subst z
      exact absurd h (owN _)
    · rw [onAt_ne z]
      exact h
  · by_cases z : a = l
    · subst z
      exact r.exB.free hl
    · rw [onAt_ne z] at h
      exact r.dB a q h
section
variable {c : Ct} {n n1 n2 n3 : Bool} {a b : Expr} {ga gb : LS → R D} {gs : LS → R (List D)} {ge : LS → R S} {pos : Pos} {es : List Expr}
theorem je_fresh {x : Str} {k j : Nat} {ps : List Str} {md : List Bool} {m : LS → R S} {p : Pos} {e : Expr} (D0 : Dx c.X.prog c.X.w c.X.K c.X.mg c.X.base c.ca x k ps md m) (hr : Room j c.X.A) (hk : k ≤ j) (tk : Takes c.X c.W) (hg : Gl c.X x) (ha : JPs c n (e :: es) gs)
    (hdb : (x == ("__debug__" : Str)) = false := by decide) (he : starEach (e :: es) c.X.env = (false, eval e c.X.env) :: starEach es c.X.env := by rfl) (hpl : (backTo pos (starEach es c.X.env)).any (·.1) = false := by rfl) :
    JE c n (.Call (.Name x p) (e :: es) [] pos) (gFresh m md.length gs) := by
  obtain ⟨f, fd, h1, h2, h3, h4⟩ := D0.ex
  obtain ⟨t, pa, qa⟩ := ha
  refine ⟨_, pe_callS h1 (hr.mono hk) hg h2 h3 h4 (fun σ => passAt tk σ) pa hdb he hpl, fun G F0 ow σ H L Rr => ?_⟩
  have key := (qa G F0 ow σ H L Rr).bind (n2 := true) (B2 := BE c.ca c.X.K) (k := fun ds L1 => if ds.length = md.length then freshAt m ds L1 else .stuck) (t2 := fun vs H1 Q => VSp c.X.K c.ca md m vs H1 Q (WE c.W σ)) fun ds L1 vs H1 F1 ow1 hev e1 _ R1 b1 => ?_
  · rw [Bool.and_true] at key
    exact key
  · refine Post.guard fun hl => ?_
    have hlv : ds.length = vs.length := Paired.length b1
    have rin : Rl c.X.K c.ca H1 [] H1 (kH H1) (fun _ => none) (vs.map some) H1 (ds.map toB) := by
      refine ⟨fun a o h => (kH_in h).1, Same.refl H1, (fun a p h => nomatch h), fun a o h => .inr (kH_in h).2, ?_, fun i s h => ?_, (fun i v h => nomatch h), Same.refl H1, (fun a p h => nomatch h)⟩
      · rw [List.length_map, List.length_map, hlv]
      · rw [List.getElem?_map] at h
        obtain ⟨d, hd, hs⟩ := Option.map_eq_some_iff.mp h
        obtain ⟨v, hv, q⟩ := paired_get (i := i) b1 hd
        refine ⟨v, by rw [List.getElem?_map, hv] <;> rfl, ?_⟩
        have sc : ∀ d' : D, d = d' → scal d' = true → RT c.X.K c.ca H1 (kH H1) H1 (fun _ => none) [i + 1] (.d d') v := fun d' hd' hsc => by
          subst hd'
          rcases q with q | ⟨l, us, ds', rfl, rfl, _, _⟩
          · exact .d (scal_dq hsc q)
          · cases hsc
        cases d with
        | list xs =>
          have hs : (if xs.all itemOk = true then some (S.bl xs) else none) = some s := hs
          by_cases hi : xs.all itemOk = true
          · rw [if_pos hi] at hs
            cases hs
            have bf : ∀ {l : Addr} {o : HO}, H1 l = some o → BF H1 (kH H1) l = some o := fun {l o} h => by
              unfold BF
              rw [h]
            rcases q with q | ⟨l, us, ds', rfl, e2, h5, h6⟩
            · cases q with
              | @lst l us _ h5 h6 => exact ⟨l, us, rfl, bf (R1.exF _ _ h5), items_dqA R1.exF hi h6⟩
            · cases e2
              exact ⟨l, us, rfl, bf h5, items_dqA R1.exF hi h6⟩
          · rw [if_neg hi] at hs
            cases hs
        | none => cases hs; exact sc _ rfl rfl
        | bool _ => cases hs; exact sc _ rfl rfl
        | int _ => cases hs; exact sc _ rfl rfl
        | str _ => cases hs; exact sc _ rfl rfl
        | tuple _ => cases hs
        | dict _ => cases hs
    unfold freshAt
    cases hm' : m (ds.map toB) with
    | stuck => trivial
    | err er ss =>
      intro hw Q
      refine ⟨H1, H1, kH H1, _, _, by rw [List.length_map]; exact hl, rin, ?_⟩
      rw [hm']
      intro H' F' ow' e' r'
      exact hw H' F1 ow1 (Same.refl F1) (R1.more r'.exG)
    | ok s ss =>
      show Post c G true F1 H1 σ (ofO (thawS s) L1) _ _
      cases ht : thawS s with
      | none => trivial
      | some s' =>
        intro Q q
        refine ⟨H1, H1, kH H1, _, _, by rw [List.length_map]; exact hl, rin, ?_⟩
        rw [hm']
        intro v H' F' ow' e' r' rs
        have scal' : ∀ d' : D, scal d' = true → Dq c.X.K F' v d' → s' = .d d' → Q v H' := fun d' hsc w hs' => by
          subst hs'
          exact q v H' F1 ow1 (Same.refl F1) (fun _ => r'.exG) (R1.more r'.exG) (.d (scal_dq hsc w))
        cases s with
        | d z =>
          cases z with
          | list zs =>
            have ht : (if zs.all scal = true then some (S.ol zs) else none) = some s' := ht
            by_cases hz : zs.all scal = true
            · rw [if_pos hz] at ht
              cases ht
              cases rs with
              | d w =>
                cases w with
                | @lst l us _ h5 h6 =>
                  have hN : H1 l = none := (r'.dG l _ h5).resolve_right kT_lst
                  have hl' := r'.exF _ _ h5
                  exact q _ H' F1 _ (Same.refl F1) (fun _ => r'.exG) (R1.ownAt r'.exG (p := [0]) hN hl') (.ol hl' (onAt_same ..) (all_scal8 hz h6))
            · rw [if_neg hz] at ht
              cases ht
          | none => cases ht; cases rs with | d w => exact scal' _ rfl w rfl
          | bool _ => cases ht; cases rs with | d w => exact scal' _ rfl w rfl
          | int _ => cases ht; cases rs with | d w => exact scal' _ rfl w rfl
          | str _ => cases ht; cases rs with | d w => exact scal' _ rfl w rfl
          | tuple _ => cases ht
          | dict _ => cases ht
        | ol zs =>
          have ht : (if zs.all scal = true then some (S.ol zs) else none) = some s' := ht
          by_cases hz : zs.all scal = true
          · rw [if_pos hz] at ht
            cases ht
            cases rs with
            | @ol _ l us _ h5 h6 h7 =>
              have hN : H1 l = none := (r'.dF l _ h6).2.1
              exact q _ H' F1 _ (Same.refl F1) (fun _ => r'.exG) (R1.ownAt r'.exG (p := [0]) hN h5) (.ol h5 (onAt_same ..) (all_scal8 hz h7))
          · rw [if_neg hz] at ht
            cases ht
        | _ => cases ht
def gLentE (i : Nat) : LS → R (List D) := fun L => match L[i]? with
  | some (some (.bl ds)) => .ok (enD 0 ds) L
  | _ => .stuck
theorem lent_at {G F H : Hp} {ow : Addr → Option Path} {σ : L2.St} {L : LS} {i : Nat} {ds : List D} (Rr : c.Rl G F ow σ H L) (h : L[i]? = some (some (.bl ds))) : ∃ l us, σ[i]? = some (some (V.ref l)) ∧ DqA c.X.K F us ds ∧ ∀ H' F', Same F F' → Same F' H' → Same c.B H' → H' l = some (.lst us) := by
  obtain ⟨v, hv, l, us, rfl, h1, h2⟩ := Rr.sl i _ h
  exact ⟨l, us, hv, h2, fun H' F' e e2 e3 => BF.inH e2 e3 l _ (BF.up e l _ h1)⟩
theorem ji_lentE {tpos : Pos} {elts : List Expr} {kk : Nat} {e0 : Expr} {p : Pos} {i : Nat} (hg : Gl c.X "enumerate") (hm : c.X.mg "enumerate" = none) (h : PSl c i e0)
    (hs : starEach [e0] c.X.env = [(false, eval e0 c.X.env)] := by rfl) :
    JI c true (.Tuple elts kk tpos) (.Call (.Name "enumerate" p) [e0] [] pos) (gLentE i) := by
  obtain ⟨te, h, hte⟩ := h
  refine ⟨_, pi_enum hg hm (pa_cons h pa_nil hs) hs, fun G F ow σ H L Rr => ?_⟩
  unfold gLentE
  cases hL : L[i]? with
  | none => trivial
  | some o =>
    cases o with
    | none => trivial
    | some s =>
      cases s with
      | bl ds =>
        obtain ⟨l, us, hv, h2, h3⟩ := lent_at Rr hL
        refine (Post.val (a := enD 0 ds) (b := Ite c.X.K l) (B := BI c.B c.X.K) Rr fun j H' s sb => ⟨fun hi => ⟨us, .of (h3 H' F (Same.refl F) s sb), ?_⟩, fun d hd => ?_⟩).imp fun Q q => hte Rr hv _ ⟨l, us, rfl, .of (h3 H F (Same.refl F) Rr.exF Rr.exB), q⟩
        · rw [enD_len] at hi
          rw [h2.len]
          exact hi
        · obtain ⟨x, hx, rfl⟩ := enD_get hd
          obtain ⟨u, hu, ru⟩ := h2.get hx
          refine ⟨⟨us, u, .of (h3 H' F (Same.refl F) s sb), hu⟩, fun x' H2 ⟨T, x1, e1, e2, e3, e4⟩ => .inr ⟨T, _, [.int ((0 + j : Nat) : Int), x], rfl, e1, e2, e3, ?_⟩⟩
          have f1 := e4 us (.of (h3 H' F (Same.refl F) s sb))
          rw [hu] at f1
          cases f1
          rw [Nat.zero_add]
          exact .cons (.int _) (.cons ru .nil)
      | _ => trivial
end
end VS

namespace VS
open PySem PySem.Spec PyProof.Rows L2
def tDisp1 (ta tb : TE) : TE := fun σ H Q => ∀ p, H p = none → ta σ (upd H p (.dT [])) fun x H1 => tb σ H1 fun y H2 => ∃ (k : List Key) (b : Addr), H2 p = some (.dT []) ∧ x = .ref b ∧ H2 b = some (.tup (k.map kV)) ∧ Q (.ref p) (upd H2 p (.dT (putK [] k y)))
def qD1 (p : Addr) (Q : V → Hp → Prop) : List (V × V) → Hp → Prop := fun ps H2 => match ps with
  | [(x, y)] => ∃ (k : List Key) (b : Addr), H2 p = some (.dT []) ∧ x = .ref b ∧ H2 b = some (.tup (k.map kV)) ∧ Q (.ref p) (upd H2 p (.dT (putK [] k y)))
  | _ => False
theorem pe_disp1 {X : Cx} {pos : Pos} {a b : Expr} {ta tb : TE} (hu : X.A.units + 1 < cLine) (p1 : PE X a ta) (p2 : PE X b tb) : PE X (.Dict [some a] [b] pos) (tDisp1 ta tb) := by
  refine ⟨fun pins s σ H Q I q => ?_⟩
  have hn := I.hok.fresh (Nat.le_refl s.heap.objs.size)
  have I1 := I.laid (a := s.heap.objs.size) (o := .dT []) (h' := s.heap.push { cls := .type "dict", data := .dict #[] }) (t' := s.toks) (fun _ _ q => Heap.get?_push_of_some _ q) (Nat.le_refl _) (dt_empty s.heap I.big)
  have q1 := q _ hn
  refine wpAny_Dict_any rfl rfl (by simp) (by simp) (thn ((pps_cons p1 p2 pps_nil).run pins _ σ _ (qD1 s.heap.objs.size Q) I1 q1) fun ws s2 ⟨ps, H2, I2, rel, q2⟩ => ?_)
  match ps, q2 with
  | [(x, y)], q2 =>
    obtain ⟨k, b, e, ex, eb, q2⟩ := q2
    subst ex
    cases rel with
    | @cons _ w _ ws' r0 r1 =>
      cases r1
      obtain ⟨u, r⟩ := w
      obtain ⟨ru, rv⟩ := r0
      have ru : RelV (V.ref b) u := ru
      have rv : RelV y r := rv
      cases (show u = Value.ref b from ru)
      obtain ⟨z, hd, xs, rel2, dd⟩ := dt_of I2.hok e
      have hl : (putK ([] : List (List Key × V)) k y).length ≤ sizeLine := by
        have := length_putK ([] : List (List Key × V)) k y
        rw [sizeLine_eq]
        rw [List.length_nil] at this
        omega
      have hz : xs.length ≤ sizeLine := by rw [← Paired.length rel2]; exact z
      unfold storeAll
      rw [List.forIn_cons]
      refine wpAny_bind (wpAny_bind (wpAny_dictSet_heap (hsz := hz) (Nat.lt_of_succ_lt hu) (key_of I2.hok eb) dd fun h' dd' hs => wpAny_pure ?_))
      dsimp only
      rw [List.forIn_nil]
      refine wpAny_pure ⟨.ref s.heap.objs.size, _, ?_, rfl, q2⟩
      obtain ⟨q, es, ep, hq, h2, h3, h4, _, h5⟩ := dd'
      refine d_write I2 (by rw [e]; exact True.intro) hs ⟨q, hq⟩ ⟨hl, hd, _, (rel2.put k eb rv).keeps fun c ys ec => ?_, q, es, ep, hq, h2, h3, h4, h5⟩
      rw [upd_ne (ne_of ec e (fun z => nomatch z))]
      exact ec
def gDlitT (ga gb : LS → R D) : LS → R S := fun L => (ga L).bind fun d L1 => (gb L1).bind fun e L2 => match keysD d with
  | some k => .ok (.odT (putD [] k e)) L2
  | none => .stuck
section
variable {c : Ct} {n1 n2 : Bool} {a b : Expr} {ga gb : LS → R D} {pos : Pos} {kk : Nat}
theorem je_dlitT (hro : Room kk c.X.A) (ha : JD c n1 a ga) (hb : JD c n2 b gb) : JE c false (.Dict [some a] [b] pos) (gDlitT ga gb) := by
  obtain ⟨t1, p1, q1⟩ := ha
  obtain ⟨t2, p2, q2⟩ := hb
  refine ⟨_, pe_disp1 (by have := hro.un; omega) p1 p2, fun G F ow σ H L Rr => ?_⟩
  have main : ∀ p, H p = none → G p = none → c.B p = none → Post c G false F H σ (gDlitT ga gb L) (BE c.ca c.X.K) (fun Q => t1 σ (upd H p (.dT [])) fun x H1 => t2 σ H1 fun y H2 => ∃ (k : List Key) (b : Addr), H2 p = some (.dT []) ∧ x = .ref b ∧ H2 b = some (.tup (k.map kV)) ∧ Q (.ref p) (upd H2 p (.dT (putK [] k y)))) := by
    intro p hp hG hB
    obtain ⟨_, R0⟩ := Rr.newG (o := .dT []) hp
    have h1 := q1 _ F ow σ _ L R0
    unfold gDlitT
    cases hr : ga L with
    | stuck => trivial
    | err e L1 =>
      rw [hr] at h1
      exact fun hw Q => h1 (fun H' F' ow' e1 R1 => hw H' F' ow' e1 (R1.weakG hG)) _
    | ok d L1 =>
      rw [hr] at h1
      show Post c G false F H σ ((gb L1).bind fun e L2 => match keysD d with
        | some k => R.ok (S.odT (putD [] k e)) L2
        | none => .stuck) _ _
      cases hr2 : gb L1 with
      | stuck => trivial
      | err e L2 =>
        intro hw Q
        refine h1 _ fun x H1 F1 ow1 e1 _ R1 b1 => ?_
        have h2 := q2 _ F1 ow1 σ H1 L1 R1
        rw [hr2] at h2
        exact h2 (fun H' F' ow' e2 R2 => hw H' F' ow' (e1.trans e2) (R2.weakG hG)) _
      | ok e L2 =>
        show Post c G false F H σ (match keysD d with
          | some k => R.ok (S.odT (putD [] k e)) L2
          | none => .stuck) _ _
        cases hk : keysD d with
        | none => trivial
        | some k =>
          intro Q qq
          refine h1 _ fun x H1 F1 ow1 e1 _ R1 b1 => ?_
          have h2 := q2 _ F1 ow1 σ H1 L1 R1
          rw [hr2] at h2
          refine h2 _ fun y H2 F2 ow2 e2 _ R2 b2 => ?_
          unfold keysD at hk
          split at hk
          · rename_i ds
            have b1' := Dq.up e2 b1
            cases b1' with
            | tup t1 t2 =>
              rename_i bb xs
              have ex := keysL_of t2 hk
              subst ex
              refine ⟨k, bb, R2.exG p _ upd_same, rfl, R2.exF _ _ t1, ?_⟩
              have R3 := R2.ownG (p := [0]) (u := .dT (putK [] k y)) hG hB kT_dT kT_dT
              exact qq _ _ F2 _ (e1.trans e2) (fun z => by cases z) R3 (.odT upd_same (onAt_same ..) (DqK.put k .nil b2))
          · cases hk
  cases hr : gDlitT ga gb L with
  | stuck => trivial
  | err e L1 =>
    intro hw Q p hp
    have h := main p hp (Rr.exG.free hp) (Rr.exB.free hp)
    rw [hr] at h
    exact h hw Q
  | ok s L1 =>
    intro Q q p hp
    have h := main p hp (Rr.exG.free hp) (Rr.exB.free hp)
    rw [hr] at h
    exact h Q q
end
end VS

namespace VS
def boxK : List (Nat × Nat) := (List.range 25).flatMap fun a => (List.range (2 * a + 1)).map fun b => (a, b)
def hK (p : Nat × Nat) : Int := PySem.reduceHash (PySem.Builtin.Tuple.tupleHashOf [PySem.hashInt (p.1 : Int), PySem.hashInt (p.2 : Int)])
def chkB : List Nat → Nat → Bool
  | [], _ => true
  | x :: xs, acc => !(acc.testBit x) && chkB xs (acc ||| 1 <<< x)
theorem chkB_ok : ∀ (l : List Nat) (acc : Nat), chkB l acc = true → l.Nodup ∧ ∀ x ∈ l, acc.testBit x = false
  | [], _, _ => ⟨.nil, fun x h => nomatch h⟩
  | x :: xs, acc, h => by
    unfold chkB at h
    rw [Bool.and_eq_true, Bool.not_eq_true'] at h
    obtain ⟨n, a⟩ := chkB_ok xs _ h.2
    have key : ∀ y ∈ xs, acc.testBit y = false ∧ x ≠ y := fun y hy => by
      have e := a y hy
      rw [Nat.testBit_or, Bool.or_eq_false_iff] at e
      refine ⟨e.1, fun q => ?_⟩
      subst q
      rw [Nat.one_shiftLeft, Nat.testBit_two_pow_self] at e
      exact Bool.noConfusion e.2
    refine ⟨List.nodup_cons.mpr ⟨fun hx => (key x hx).2 rfl, n⟩, fun y hy => ?_⟩
    rcases List.mem_cons.mp hy with e | hy
    · subst e; exact h.1
    · exact (key y hy).1
theorem inj_map {α β : Type} {f : α → β} : ∀ {l : List α}, (l.map f).Nodup → ∀ {a b : α}, a ∈ l → b ∈ l → f a = f b → a = b
  | [], _, _, _, h, _, _ => nomatch h
  | x :: l, h, a, b, ha, hb, e => by
    rw [List.map_cons, List.nodup_cons] at h
    rcases List.mem_cons.mp ha with h1 | h1 <;> rcases List.mem_cons.mp hb with h2 | h2
    · rw [h1, h2]
    · subst h1; exact absurd (List.mem_map.mpr ⟨b, h2, e.symm⟩) h.1
    · subst h2; exact absurd (List.mem_map.mpr ⟨a, h1, e⟩) h.1
    · exact inj_map h.2 h1 h2 e
theorem map_nodup {α β : Type} {f : α → β} {P : α → Prop} (inj : ∀ a b, P a → P b → f a = f b → a = b) : ∀ {l : List α}, l.Nodup → (∀ x ∈ l, P x) → (l.map f).Nodup
  | [], _, _ => .nil
  | x :: l, h, hp => by
    rw [List.nodup_cons] at h
    rw [List.map_cons, List.nodup_cons]
    refine ⟨fun hx => ?_, map_nodup inj h.2 fun y hy => hp y (List.mem_cons_of_mem _ hy)⟩
    obtain ⟨y, hy, e⟩ := List.mem_map.mp hx
    have := inj y x (hp y (List.mem_cons_of_mem _ hy)) (hp x List.mem_cons_self) e
    subst this
    exact h.1 hy
theorem boxK_run : chkB (boxK.map fun p => (hK p % 5011).toNat) 0 = true := by decide +kernel
theorem hK_inj {p q : Nat × Nat} (hp : p ∈ boxK) (hq : q ∈ boxK) (h : hK p = hK q) : p = q :=
  inj_map (chkB_ok _ _ boxK_run).1 hp hq (by rw [h])
def boxd : List L2.Key → Option (Nat × Nat)
  | [.inl (.ofNat a), .inl (.ofNat b)] => if a ≤ 24 ∧ b ≤ 2 * a then some (a, b) else none
  | _ => none
theorem boxd_mem {k : List L2.Key} {p : Nat × Nat} (h : boxd k = some p) : p ∈ boxK ∧ k = [.inl (p.1 : Int), .inl (p.2 : Int)] := by
  unfold boxd at h
  split at h
  · rename_i a b
    split at h
    · cases h
      rename_i e
      refine ⟨?_, rfl⟩
      unfold boxK
      rw [List.mem_flatMap]
      exact ⟨a, List.mem_range.mpr (by omega), List.mem_map.mpr ⟨b, List.mem_range.mpr (by omega), rfl⟩⟩
    · cases h
  · cases h
def inBox (k : List L2.Key) : Bool := (boxd k).isSome
end VS
namespace L2
open PySem PySem.Spec PyProof.Rows VS
theorem hash_inBox {P : Program} {w : World} {k k' : List Key} (h : inBox k = true) (h' : inBox k' = true) (e : (tupleKind (mixKind P w)).hash k = (tupleKind (mixKind P w)).hash k') : k = k' := by
  obtain ⟨p, hp⟩ := Option.isSome_iff_exists.mp h
  obtain ⟨q, hq⟩ := Option.isSome_iff_exists.mp h'
  obtain ⟨p1, rfl⟩ := boxd_mem hp
  obtain ⟨q1, rfl⟩ := boxd_mem hq
  have e' : hK p = hK q := e
  rw [hK_inj p1 q1 e']
section
variable {X : Cx}
theorem call_dict_dT (hu : X.A.units + 2 < cLine) : CallR X (.type "dict") (fun xs H Q => ∃ (a : Addr) (kvs : List (List Key × V)), xs = [.ref a] ∧ H a = some (.dT kvs) ∧ (∀ p ∈ kvs, inBox p.1 = true) ∧ ∀ p, H p = none → Q (.ref p) (upd H p (.dT kvs))) := by
  intro pins s σ H xs us Q I r q
  obtain ⟨a, kvs, ex, hd, hb, q⟩ := q
  subst ex
  obtain ⟨u, eu, rx⟩ := vals1 r
  subst eu
  cases rx
  obtain ⟨z, lo, vs, rel, dd⟩ := dt_of I.hok hd
  have len : vs.length = kvs.length := (Paired.length rel).symm
  have hkeys : ∀ x ∈ vs.map (·.1), inBox x = true := by
    have all : ∀ {l : List (List Key × V)} {m : List (List Key × Addr × Value)}, KT H l m → (∀ p ∈ l, inBox p.1 = true) → ∀ x ∈ m.map (·.1), inBox x = true := by
      intro l m q
      induction q with
      | nil => intro _ x hx; exact nomatch hx
      | @cons p q ps qs hq t ih =>
        intro hp x hx
        rw [List.map_cons] at hx
        rcases List.mem_cons.mp hx with e | hx
        · rw [e, ← hq.1]; exact hp p List.mem_cons_self
        · exact ih (fun y hy => hp y (List.mem_cons_of_mem _ hy)) x hx
    exact all rel hb
  have hty : ∀ x ∈ vs, s.TypeIs (.ref x.2.1) "tuple" := by
    obtain ⟨_, _, _, _, _, _, _, his, _⟩ := dd
    exact fun x hx => (his x hx).typeIs
  have hap : (vs.map fun x => (tupleKind (mixKind X.prog X.w)).hash x.1).Nodup := by
    have e : (vs.map fun x => (tupleKind (mixKind X.prog X.w)).hash x.1) = (vs.map (·.1)).map (tupleKind (mixKind X.prog X.w)).hash := by rw [List.map_map]; rfl
    rw [e]
    exact map_nodup (P := fun k => inBox k = true) (fun a b ha hb e => hash_inBox ha hb e) dd.nodup hkeys
  have hm : (s.heap.objs.size == sysModules) = false := beq_eq_false_iff_ne.mpr (Nat.ne_of_gt I.big)
  refine callType_codes (Q₁ := fun obj s₁ => obj = .ref s.heap.objs.size ∧ s₁ = { s with heap := s.heap.push { cls := .type "dict", data := .dict #[] } }) F.kt_called_dict (F.kt_typeCall_dict_1 _) F.entry_dict_init (kt_code_dict_new _ ⟨rfl, rfl⟩) ?_
  rintro obj s₁ ⟨rfl, rfl⟩
  have hnew : (s.heap.push { cls := .type "dict", data := .dict #[] }).DictOfH (tupleKind (mixKind X.prog X.w)) s.heap.objs.size [] := ⟨_, #[], 0, Heap.get?_push_size _ rfl, ⟨rfl, rfl, rfl⟩, rfl, rfl, (fun x hx => nomatch hx), List.nodup_nil⟩
  have kp : ∀ b o, s.heap.get? b = some o → (s.heap.push { cls := .type "dict", data := .dict #[] }).get? b = some o := fun b o e => Heap.get?_push_of_some _ e
  have I1 := I.laid (a := s.heap.objs.size) (o := .dT []) (h' := s.heap.push { cls := .type "dict", data := .dict #[] }) (t' := s.toks) (fun _ _ q => Heap.get?_push_of_some _ q) (Nat.le_refl _) (dt_empty s.heap I.big)
  have hfr : H s.heap.objs.size = none := I.hok.fresh (Nat.le_refl _)
  have hdo : s.heap.objs.size ≠ a := fun e => by rw [← e, hfr] at hd; cases hd
  obtain ⟨o, es, ep, ho, hc, hdat, he, his, hn⟩ := id dd
  have ho' : (s.heap.push { cls := .type "dict", data := .dict #[] }).DictOfH (tupleKind (mixKind X.prog X.w)) a vs :=
    ⟨o, es, ep, kp _ _ ho, hc, hdat, he, (fun x hx => by
      obtain ⟨o1, it, n1, g1, g2, g3, g4⟩ := his x hx
      exact ⟨o1, it, n1, kp _ _ g1, g2, g3, g4⟩), hn⟩
  have hty' : ∀ x ∈ vs, Shared.TypeIs { s with heap := s.heap.push { cls := .type "dict", data := .dict #[] } } (.ref x.2.1) "tuple" := by
    obtain ⟨_, _, _, _, _, _, _, his, _⟩ := ho'
    exact fun x hx => IsTupleKey.typeIs (s := { s with heap := s.heap.push { cls := .type "dict", data := .dict #[] } }) (his x hx)
  have hsz : ([] : List (List Key × Addr × Value)).length + vs.length ≤ sizeLine := by rw [List.length_nil, Nat.zero_add, len]; exact z
  have hnewT : Shared.TypeIs { s with heap := s.heap.push { cls := .type "dict", data := .dict #[] } } (.ref s.heap.objs.size) "dict" := hnew.typeIs
  refine ⟨hnewT, F.args_dict_init_2 _ _, ?_⟩
  unfold Builtin.«dict.__init__»
  refine wpAny_bind ?_
  unfold Builtin.Dict.selfAndRest
  refine wpAny_bind (wpAny_notOrdered_dict hnewT ?_)
  show wpAny _ _ (pure (s.heap.objs.size, [Value.ref a])) _ _ _
  refine wpAny_pure ?_
  show wpAny _ _ (Builtin.Dict.updateFrom "dict.__init__" s.heap.objs.size (.ref a) [] .none) _ _ _
  unfold Builtin.Dict.updateFrom
  refine wpAny_bind (wpAny_typeOf ho'.typeIs ?_)
  rw [if_neg (by decide)]
  refine wpAny_bind ?_
  unfold Builtin.Dict.merge
  refine wpAny_bind ?_
  unfold Builtin.Dict.readDirectly
  refine wpAny_bind (wpAny_isInstance ho'.typeIs isSubtype_dict_dict ?_)
  simp only [Bool.not_true, Bool.false_eq_true, if_false]
  refine wpAny_bind (wpAny_specialOf ho'.typeIs F.slot_dict_iter.lookup (wpAny_pure ?_))
  simp only [beq_self_eq_true, if_true]
  refine wpAny_bind (wpAny_pure ?_)
  refine wpAny_mergeDict_heap (hsz := hsz) (tupleKind_room_in1 hu) hdo lo hnew ho' (.inr ⟨hty', hap⟩) fun h' hd' _ hs' => ?_
  show wpAny _ _ (Builtin.Dict.addKeywords s.heap.objs.size [] >>= _) _ _ _
  rw [storedAllH_nil_of_nodup vs dd.nodup] at hd'
  refine wpAny_bind (wpAny_pure (wpAny_pure ⟨rfl, .ref s.heap.objs.size, upd H s.heap.objs.size (.dT kvs), I.laid (t' := s.toks) (fun b u e => (hs'.2 b (Nat.ne_of_lt (Heap.lt_size e))).trans (kp _ _ e)) (Nat.le_refl _)
    (show ObjOk X.prog X.w _ _ _ (.dT kvs) from ?_), rfl, q _ hfr⟩))
  obtain ⟨o2, es2, ep2, g1, g2, g3, g4, _, g6⟩ := hd'
  exact ⟨z, hm, vs, rel.keeps fun c ys ec => by rw [upd_ne (fun z => by rw [z, hfr] at ec; cases ec)]; exact ec, o2, es2, ep2, g1, g2, g3, g4, g6⟩
end
end L2
namespace VS
open PySem PySem.Spec PyProof.Rows L2
def sCopyT : S → Option S
  | .odT kvs => if kvs.all fun p => inBox p.1 then some (.odT kvs) else none
  | _ => none
section
variable {c : Ct} {n : Bool} {a : Expr} {ga : LS → R S} {p pos : Pos} {kk : Nat}
theorem dqT_keys {K : PySem.W.Frag} {F : Hp} {vs : List (List Key × V)} {ds : List (List Key × D)} (h : DqK K F vs ds) (hb : ∀ p ∈ ds, inBox p.1 = true) : ∀ p ∈ vs, inBox p.1 = true := by
  unfold DqK at h
  induction h with
  | nil => intro p hp; exact nomatch hp
  | @cons p q _ _ a t ih =>
    intro x hx
    rcases List.mem_cons.mp hx with e | hx
    · rw [e, a.1]; exact hb q List.mem_cons_self
    · exact ih (fun y hy => hb y (List.mem_cons_of_mem _ hy)) x hx
theorem post_newT {G F H : Hp} {ow : Addr → Option Path} {σ : L2.St} {L : LS} {vs : List (List Key × V)} {ds : List (List Key × D)} (Rr : c.Rl G F ow σ H L) (h : DqK c.X.K F vs ds) :
    Post c G true F H σ (.ok (.odT ds) L) (BE c.ca c.X.K) (fun Q => ∀ l, H l = none → Q (.ref l) (upd H l (.dT vs))) := by
  intro Q q l hl
  obtain ⟨e, r'⟩ := Rr.new (o := .dT vs) (p := [0]) hl
  exact q _ _ F _ (Same.refl F) (fun _ => e) r' (.odT upd_same (onAt_same ..) h)
theorem je_dcopyT (hro : Room kk c.X.A) (hg : Gl c.X "dict") (hm : c.X.mg "dict" = none) (ha : JX c n a ga) (hs : starEach [a] c.X.env = (false, eval a c.X.env) :: starEach [] c.X.env := by rfl) : JE c n (.Call (.Name "dict" p) [a] [] pos) (gOnS sCopyT ga) := by
  refine je_callX (call_dict_dT (by have := hro.un; omega)) hg hm (by decide +kernel) ha (fun {G F H ow σ L s v} Rr hb => ?_) (by decide) (by decide) hs rfl
  obtain ⟨pp, rs⟩ := hb
  cases rs with
  | @odT _ l vs ds w1 w2 w3 =>
    show Post c G true F H σ (ofO (if ds.all fun p => inBox p.1 then some (S.odT ds) else none) L) _ _
    by_cases h : (ds.all fun p => inBox p.1) = true
    · rw [if_pos h]
      have hb := dqT_keys w3 fun p hp => (List.all_eq_true.mp h) p hp
      exact (post_newT Rr w3).imp fun Q q => ⟨l, vs, rfl, w1, hb, q⟩
    · rw [if_neg h]; trivial
  | _ => trivial
end
end VS

namespace Lw
open PySem PySem.Spec PyProof.Rows L2 VS
def g_law_src : LS → R O := (gRet (gLst (gCons (gFz (gUn dList (gFz (gSl (gPeek 0) gNo (gSo (gC (.int 63))))))) (gCons (gC (.int 0)) (gCons (gC (.int 0)) (gCons (gC (.int 1)) (gCons (gC (.int 0)) gNil)))))))
def m_law_src : LS → R S := runDef [true] 1 g_law_src
def g_law_next : LS → R O := (gSeq (gSetIx 0 (gC (.int 4)) (gFz (gOp dAdd (gIxP 0 (gC (.int 4))) (gC (.int 1)))))
    (gSeq (gIf (gB (gOp dLe (gIxP 0 (gC (.int 2))) (gC (.int 1)))) (gSeq (gAsg 2 (gD (gC (.int 7))))
    (gSeq (gIf (gB (gOp dLt (gIxP 0 (gC (.int 1))) (gUn dLen (gIxP 0 (gC (.int 0)))))) (gSeq (gAsg 2 (gD (gOp dIx (gIxP 0 (gC (.int 0))) (gIxP 0 (gC (.int 1))))))
    (gSetIx 0 (gC (.int 1)) (gFz (gOp dAdd (gIxP 0 (gC (.int 1))) (gC (.int 1)))))) gNext)
    (gSeq (gSetIx 0 (gC (.int 3)) (gOp dMod (gFz (gOp dAdd (gFz (gOp dAdd (gFz (gOp dMul (gIxP 0 (gC (.int 3))) (gC (.int 48271)))) (gOp dMod (gVar 2) (gC (.int 998244353))))) (gIxP 0 (gC (.int 4))))) (gC (.int 2147483647))))
    (gIf (gB (gOp dGe (gPeek 2) (gOp dPow (gC (.int 10)) (gC (.int 18))))) (gSetIx 0 (gC (.int 2)) (gVar 2)) gNext)))) gNext)
    (gSeq (gIf (gB (gOp dGt (gIxP 0 (gC (.int 2))) (gC (.int 1)))) (gSeq (gAsg 3 (gD (gOp dMod (gIxP 0 (gC (.int 2))) (gVar 1))))
    (gSeq (gSetIx 0 (gC (.int 2)) (gOp dDiv (gIxP 0 (gC (.int 2))) (gVar 1)))
    (gRet (gMove 3)))) gNext)
    (gRet (gD (gOp dMod (gOp dDiv (gOp dMod (gFz (gOp dMul (gIxP 0 (gC (.int 3))) (gC (.int 40692)))) (gC (.int 2147483399))) (gC (.int 3))) (gVar 1)))))))
def m_law_next : LS → R S := runDef [true, false] 4 g_law_next
end Lw

namespace Lw
open PySem VS
def srcS (cells : List Int) (p b st k : Int) : S := .ol [.list (cells.map PyData.int), .int p, .int b, .int st, .int k]
def Src (s : S) : Prop := ∃ (cells : List Int) (p b st k : Int), s = srcS cells p b st k ∧ cells.length ≤ 63 ∧ 0 ≤ p ∧ p ≤ cells.length ∧ 0 ≤ b ∧ 0 ≤ st ∧ st < 2147483647
theorem dIx_cells (cells : List Int) (j : Nat) (h : j < cells.length) : dIx (.list (cells.map PyData.int)) (.int (j : Int)) = some (.int cells[j]) := by
  rw [dIx_nat, List.getElem?_map, List.getElem?_eq_getElem h]
  rfl
theorem pow18 : dPow (.int 10) (.int 18) = some (.int 1000000000000000000) := by
  rw [dPow_ok ⟨by decide, by decide, by decide⟩]
  rfl
theorem next_tail (cells : List Int) (p b st k n : Int) (o : Option S) (h0 : 0 < n) (h1 : n < 1073741824) (hl : cells.length ≤ 63) (hp0 : 0 ≤ p) (hp1 : p ≤ cells.length) (hb : 0 ≤ b) (hs0 : 0 ≤ st) (hs1 : st < 2147483647) :
    ∃ r s' o2 L, gSeq (gIf (gB (gOp dGt (gIxP 0 (gC (.int 2))) (gC (.int 1)))) (gSeq (gAsg 3 (gD (gOp dMod (gIxP 0 (gC (.int 2))) (gVar 1))))
    (gSeq (gSetIx 0 (gC (.int 2)) (gOp dDiv (gIxP 0 (gC (.int 2))) (gVar 1))) (gRet (gMove 3)))) gNext)
    (gRet (gD (gOp dMod (gOp dDiv (gOp dMod (gFz (gOp dMul (gIxP 0 (gC (.int 3))) (gC (.int 40692)))) (gC (.int 2147483399))) (gC (.int 3))) (gVar 1)))) [some (srcS cells p b st k), some (.d (.int n)), o, none] = .ok (.rt (.d (.int r))) (some s' :: o2 :: L) ∧ 0 ≤ r ∧ r < n ∧ Src s' := by
  by_cases c : 1 < b
  · refine ⟨b % n, srcS cells p (b / n) st k, some (.d (.int n)), [o, some (.d (.int (b % n)))], ?_, Int.emod_nonneg _ (by omega), Int.emod_lt_of_pos _ h0, cells, p, b / n, st, k, rfl, hl, hp0, hp1, Int.ediv_nonneg hb (by omega), hs0, hs1⟩
    simp only [VS.evs, Nat.reduceAdd, Nat.reduceLT, Nat.reduceLeDiff, Nat.reduceSub, Nat.reduceEqDiff, srcS, c, dMod_ok h0, dDiv_ok h0 h1, decide_true, if_true]
  · refine ⟨st * 40692 % 2147483399 / 3 % n, srcS cells p b st k, some (.d (.int n)), [o, none], ?_, Int.emod_nonneg _ (by omega), Int.emod_lt_of_pos _ h0, cells, p, b, st, k, rfl, hl, hp0, hp1, hb, hs0, hs1⟩
    simp only [VS.evs, Nat.reduceAdd, Nat.reduceLT, Nat.reduceLeDiff, Nat.reduceSub, Nat.reduceEqDiff, srcS, c, decide_false, if_false, Bool.false_eq_true, dMul_ok (show -(2 ^ 64) < st by omega) (show st < 2 ^ 64 by omega), dMod_ok (show (0 : Int) < 2147483399 by decide), dMod_ok h0, dDiv_ok (show (0 : Int) < 3 by decide) (show (3 : Int) < 1073741824 by decide)]
theorem next_mid (cells : List Int) (p b st k n : Int) (cell : Int) (hb : 0 ≤ b) (hs0 : 0 ≤ st) (hs1 : st < 2147483647) : ∃ b' st', gSeq (gSetIx 0 (gC (.int 3)) (gOp dMod (gFz (gOp dAdd (gFz (gOp dAdd (gFz (gOp dMul (gIxP 0 (gC (.int 3))) (gC (.int 48271)))) (gOp dMod (gVar 2) (gC (.int 998244353))))) (gIxP 0 (gC (.int 4))))) (gC (.int 2147483647))))
    (gIf (gB (gOp dGe (gPeek 2) (gOp dPow (gC (.int 10)) (gC (.int 18))))) (gSetIx 0 (gC (.int 2)) (gVar 2)) gNext) [some (srcS cells p b st k), some (.d (.int n)), some (.d (.int cell)), none] = .ok .nx [some (srcS cells p b' st' k), some (.d (.int n)), some (.d (.int cell)), none] ∧ 0 ≤ b' ∧ 0 ≤ st' ∧ st' < 2147483647 := by
  have st0 : 0 ≤ (st * 48271 + cell % 998244353 + k) % 2147483647 := Int.emod_nonneg _ (by omega)
  have st1 : (st * 48271 + cell % 998244353 + k) % 2147483647 < 2147483647 := Int.emod_lt_of_pos _ (by omega)
  by_cases c : 1000000000000000000 ≤ cell
  · refine ⟨cell, (st * 48271 + cell % 998244353 + k) % 2147483647, ?_, by omega, st0, st1⟩
    simp only [VS.evs, Nat.reduceAdd, Nat.reduceLT, Nat.reduceLeDiff, Nat.reduceSub, Nat.reduceEqDiff, srcS, pow18, c, decide_true, if_true, dMul_ok (show -(2 ^ 64) < st by omega) (show st < 2 ^ 64 by omega), dMod_ok (show (0 : Int) < 998244353 by decide), dMod_ok (show (0 : Int) < 2147483647 by decide)]
  · refine ⟨b, (st * 48271 + cell % 998244353 + k) % 2147483647, ?_, hb, st0, st1⟩
    simp only [VS.evs, Nat.reduceAdd, Nat.reduceLT, Nat.reduceLeDiff, Nat.reduceSub, Nat.reduceEqDiff, srcS, pow18, c, decide_false, if_false, Bool.false_eq_true, dMul_ok (show -(2 ^ 64) < st by omega) (show st < 2 ^ 64 by omega), dMod_ok (show (0 : Int) < 998244353 by decide), dMod_ok (show (0 : Int) < 2147483647 by decide)]
theorem next_ok {s : S} (h : Src s) {n : Int} (h0 : 0 < n) (h1 : n < 1073741824) : ∃ r s', m_law_next [some s, some (.d (.int n))] = .ok (.d (.int r)) [some s', none] ∧ 0 ≤ r ∧ r < n ∧ Src s' := by
  obtain ⟨cells, p, b, st, k, rfl, hl, hp0, hp1, hb, hs0, hs1⟩ := h
  obtain ⟨j, rfl⟩ := Int.eq_ofNat_of_zero_le hp0
  have s0 : gSetIx 0 (gC (.int 4)) (gFz (gOp dAdd (gIxP 0 (gC (.int 4))) (gC (.int 1)))) [some (srcS cells j b st k), some (.d (.int n)), none, none] = .ok .nx [some (srcS cells j b st (k + 1)), some (.d (.int n)), none, none] := by
    simp only [VS.evs, Nat.reduceAdd, Nat.reduceLT, Nat.reduceLeDiff, Nat.reduceSub, Nat.reduceEqDiff, srcS, if_true]
  by_cases c1 : b ≤ 1
  · by_cases c2 : (j : Int) < cells.length
    · have hj : j < cells.length := by omega
      obtain ⟨b', st', m1, m2, m3, m4⟩ := next_mid cells ((j : Int) + 1) b st (k + 1) n cells[j] hb hs0 hs1
      obtain ⟨r, s', o2, L, t1, t2, t3, t4⟩ := next_tail cells ((j : Int) + 1) b' st' (k + 1) n (some (.d (.int cells[j]))) h0 h1 hl (by omega) (by omega) m2 m3 m4
      refine ⟨r, s', ?_, t2, t3, t4⟩
      unfold m_law_next g_law_next
      rw [ev_run]
      simp only [List.length_cons, List.length_nil, Nat.reduceAdd, Nat.reduceSub, List.replicate_succ, List.replicate_zero, List.cons_append, List.nil_append]
      rw [ev_seq, s0, seqK_nx, ev_seq, ev_if]
      have e1 : gB (gOp dLe (gIxP 0 (gC (.int 2))) (gC (.int 1))) [some (srcS cells j b st (k + 1)), some (.d (.int n)), none, none] = .ok true [some (srcS cells j b st (k + 1)), some (.d (.int n)), none, none] := by
        simp only [VS.evs, Nat.reduceAdd, Nat.reduceLT, Nat.reduceLeDiff, Nat.reduceSub, Nat.reduceEqDiff, srcS, c1, decide_true]
      rw [e1, ifK_ok, if_pos rfl, ev_seq]
      have e2 : gAsg 2 (gD (gC (.int 7))) [some (srcS cells j b st (k + 1)), some (.d (.int n)), none, none] = .ok .nx [some (srcS cells j b st (k + 1)), some (.d (.int n)), some (.d (.int 7)), none] := rfl
      rw [e2, seqK_nx, ev_seq]
      have e3 : gIf (gB (gOp dLt (gIxP 0 (gC (.int 1))) (gUn dLen (gIxP 0 (gC (.int 0)))))) (gSeq (gAsg 2 (gD (gOp dIx (gIxP 0 (gC (.int 0))) (gIxP 0 (gC (.int 1))))))
          (gSetIx 0 (gC (.int 1)) (gFz (gOp dAdd (gIxP 0 (gC (.int 1))) (gC (.int 1)))))) gNext [some (srcS cells j b st (k + 1)), some (.d (.int n)), some (.d (.int 7)), none] = .ok .nx [some (srcS cells ((j : Int) + 1) b st (k + 1)), some (.d (.int n)), some (.d (.int cells[j])), none] := by
        simp only [VS.evs, Nat.reduceAdd, Nat.reduceLT, Nat.reduceLeDiff, Nat.reduceSub, Nat.reduceEqDiff, srcS, List.length_map, c2, decide_true, if_true, dIx_cells cells j hj]
      rw [e3, seqK_nx, m1, seqK_nx, t1]
      rfl
    · obtain ⟨b', st', m1, m2, m3, m4⟩ := next_mid cells j b st (k + 1) n 7 hb hs0 hs1
      obtain ⟨r, s', o2, L, t1, t2, t3, t4⟩ := next_tail cells j b' st' (k + 1) n (some (.d (.int 7))) h0 h1 hl (by omega) (by omega) m2 m3 m4
      refine ⟨r, s', ?_, t2, t3, t4⟩
      unfold m_law_next g_law_next
      rw [ev_run]
      simp only [List.length_cons, List.length_nil, Nat.reduceAdd, Nat.reduceSub, List.replicate_succ, List.replicate_zero, List.cons_append, List.nil_append]
      rw [ev_seq, s0, seqK_nx, ev_seq, ev_if]
      have e1 : gB (gOp dLe (gIxP 0 (gC (.int 2))) (gC (.int 1))) [some (srcS cells j b st (k + 1)), some (.d (.int n)), none, none] = .ok true [some (srcS cells j b st (k + 1)), some (.d (.int n)), none, none] := by
        simp only [VS.evs, Nat.reduceAdd, Nat.reduceLT, Nat.reduceLeDiff, Nat.reduceSub, Nat.reduceEqDiff, srcS, c1, decide_true]
      rw [e1, ifK_ok, if_pos rfl, ev_seq]
      have e2 : gAsg 2 (gD (gC (.int 7))) [some (srcS cells j b st (k + 1)), some (.d (.int n)), none, none] = .ok .nx [some (srcS cells j b st (k + 1)), some (.d (.int n)), some (.d (.int 7)), none] := rfl
      rw [e2, seqK_nx, ev_seq]
      have e3 : gIf (gB (gOp dLt (gIxP 0 (gC (.int 1))) (gUn dLen (gIxP 0 (gC (.int 0)))))) (gSeq (gAsg 2 (gD (gOp dIx (gIxP 0 (gC (.int 0))) (gIxP 0 (gC (.int 1))))))
          (gSetIx 0 (gC (.int 1)) (gFz (gOp dAdd (gIxP 0 (gC (.int 1))) (gC (.int 1)))))) gNext [some (srcS cells j b st (k + 1)), some (.d (.int n)), some (.d (.int 7)), none] = .ok .nx [some (srcS cells j b st (k + 1)), some (.d (.int n)), some (.d (.int 7)), none] := by
        simp only [VS.evs, Nat.reduceAdd, Nat.reduceLT, Nat.reduceLeDiff, Nat.reduceSub, Nat.reduceEqDiff, srcS, List.length_map, c2, decide_false, if_false, Bool.false_eq_true]
      rw [e3, seqK_nx, m1, seqK_nx, t1]
      rfl
  · obtain ⟨r, s', o2, L, t1, t2, t3, t4⟩ := next_tail cells j b st (k + 1) n none h0 h1 hl (by omega) (by omega) hb hs0 hs1
    refine ⟨r, s', ?_, t2, t3, t4⟩
    unfold m_law_next g_law_next
    rw [ev_run]
    simp only [List.length_cons, List.length_nil, Nat.reduceAdd, Nat.reduceSub, List.replicate_succ, List.replicate_zero, List.cons_append, List.nil_append]
    rw [ev_seq, s0, seqK_nx, ev_seq, ev_if]
    have e1 : gB (gOp dLe (gIxP 0 (gC (.int 2))) (gC (.int 1))) [some (srcS cells j b st (k + 1)), some (.d (.int n)), none, none] = .ok false [some (srcS cells j b st (k + 1)), some (.d (.int n)), none, none] := by
      simp only [VS.evs, Nat.reduceAdd, Nat.reduceLT, Nat.reduceLeDiff, Nat.reduceSub, Nat.reduceEqDiff, srcS, c1, decide_false]
    rw [e1, ifK_ok, if_neg Bool.false_ne_true, ev_next, seqK_nx, t1]
    rfl
end Lw

namespace Lw
open PySem VS
def Small (ws : List Nat) : Prop := ∀ c ∈ ws, 97 ≤ c ∧ c ≤ 122
theorem Small.app {a b : List Nat} (h : Small a) (h' : Small b) : Small (a ++ b) := fun c hc => (List.mem_append.mp hc).elim (h c) (h' c)
theorem Small.take {a : List Nat} (n : Nat) (h : Small a) : Small (a.take n) := fun c hc => h c (List.mem_of_mem_take hc)
theorem Small.drop {a : List Nat} (n : Nat) (h : Small a) : Small (a.drop n) := fun c hc => h c (List.mem_of_mem_drop hc)
end Lw

namespace Lw
open PySem VS
end Lw

namespace Lw
open PySem VS
end Lw

namespace Lw
open PySem VS
end Lw

namespace Lw
open PySem VS
theorem cut_all (ns : List Int) (h : ns.length ≤ 63) : cutD (ns.map PyData.int) none (some 63) = ns.map PyData.int := by
  unfold cutD
  have e : HT.sIx (ns.map PyData.int).length 0 none = 0 := rfl
  have e2 : HT.sIx (ns.map PyData.int).length (ns.map PyData.int).length (some 63) = min (63 : Int).toNat (ns.map PyData.int).length := rfl
  rw [e, e2, List.drop_zero, List.length_map, Nat.sub_zero, List.take_of_length_le]
  rw [List.length_map]
  have : (63 : Int).toNat = 63 := rfl
  omega
theorem src_ok {ns : List Int} (h : ns.length ≤ 63) : m_law_src [some (.scr ns)] = .ok (srcS ns 0 0 1 0) [some (.scr ns)] := by
  unfold m_law_src g_law_src
  simp only [VS.evs, Nat.reduceAdd, Nat.reduceLT, Nat.reduceLeDiff, Nat.reduceSub, Nat.reduceEqDiff, cut_all ns h, small_len (show 0 + 1 + 1 + 1 + 1 + 1 ≤ 1000000 by decide)]
  rfl
theorem src_start {ns : List Int} (h : ns.length ≤ 63) : Src (srcS ns 0 0 1 0) := ⟨ns, 0, 0, 1, 0, rfl, h, by omega, by omega, by omega, by omega, by omega⟩
end Lw

namespace Lw
open PySem PySem.Spec PyProof.Rows L2 VS
def g_law_whole : LS → R O := (gRet (gD (gAndV (gIsi "int" (gPeek 0)) (gUn dNot (gIsi "bool" (gPeek 0))))))
def m_law_whole : LS → R S := runDef [false] 1 g_law_whole
def m_law_same : Nat → LS → R S
  | 0 => fun _ => .stuck
  | k_ + 1 => runDef [false, false] 4 ((gSeq (gIf (gB (gOp dIs (gPeek 1) (gC .none))) (gRet (gD (gOp dIs (gPeek 0) (gC .none)))) gNext)
    (gSeq (gIf (gB (gIsi "bool" (gPeek 1))) (gRet (gD (gAndV (gIsi "bool" (gPeek 0)) (gOp dEq (gPeek 0) (gPeek 1))))) gNext)
    (gSeq (gIf (gB (gIsi "int" (gPeek 1))) (gRet (gD (gAndV (gFz (gCall Lw.m_law_whole [.d (gVar 0)])) (gOp dEq (gPeek 0) (gPeek 1))))) gNext)
    (gSeq (gIf (gB (gIsi "str" (gPeek 1))) (gRet (gD (gAndV (gIsi "str" (gPeek 0)) (gOp dEq (gPeek 0) (gPeek 1))))) gNext)
    (gSeq (gIf (gOr (gB (gOp dNe (gIsi "list" (gPeek 1)) (gIsi "list" (gPeek 0)))) (gB (gOp dNe (gIsi "tuple" (gPeek 1)) (gIsi "tuple" (gPeek 0))))) (gRet (gD (gC (.bool false)))) gNext)
    (gSeq (gIf (gB (gOp dNe (gUn dLen (gPeek 0)) (gUn dLen (gPeek 1)))) (gRet (gD (gC (.bool false)))) gNext)
    (gSeq (gFor (fun L => ((gCons (gVar 0) (gCons (gVar 1) gNil)) L).bind asZip) (fTup 2 (fCons (fName 2) (fCons (fName 3) fNil))) (gIf (gNot (gB (gFz (gCall (m_law_same k_) [.d (gVar 2), .d (gVar 3)])))) (gRet (gD (gC (.bool false)))) gNext))
    (gRet (gD (gC (.bool true))))))))))))
end Lw

namespace Lw
open PySem VS
def Pl : Nat → D → Prop
  | 0, _ => False
  | k + 1, d => match d with
    | .none => True
    | .bool _ => True
    | .int _ => True
    | .str _ => True
    | .list xs => ∀ x ∈ xs, Pl k x
    | .tuple xs => ∀ x ∈ xs, Pl k x
    | _ => False
theorem whole_int (i : Int) : m_law_whole [some (.d (.int i))] = .ok (.d (.bool true)) [none] := by
  unfold m_law_whole g_law_whole
  simp only [VS.evs, Nat.reduceAdd, Nat.reduceLT, Nat.reduceLeDiff, Nat.reduceSub, Nat.reduceEqDiff]
end Lw

namespace Lw
open PySem VS
noncomputable def eqb (d e : D) : Bool := @decide (d = e) (Classical.propDecidable _)
theorem eqb_iff {d e : D} : eqb d e = true ↔ d = e := by unfold eqb; exact @decide_eq_true_iff _ (Classical.propDecidable _)
theorem eqb_self (d : D) : eqb d d = true := eqb_iff.mpr rfl
theorem eqb_ne {d e : D} (h : d ≠ e) : eqb d e = false := by
  cases z : eqb d e with
  | false => rfl
  | true => exact absurd (eqb_iff.mp z) h
theorem whole_no {d : D} (h : ∀ i, d ≠ .int i) (h2 : ∀ i, d ≠ .dict i) : m_law_whole [some (.d d)] = .ok (.d (.bool false)) [none] := by
  unfold m_law_whole g_law_whole
  cases d with
  | int i => exact absurd rfl (h i)
  | dict i => exact absurd rfl (h2 i)
  | _ => simp only [VS.evs, Nat.reduceAdd, Nat.reduceLT, Nat.reduceLeDiff, Nat.reduceSub, Nat.reduceEqDiff]
theorem same_go2 {m : LS → R S} {d0 d1 : Option S} : ∀ (zs : List (D × D)) (o2 o3 : Option S), (∀ z ∈ zs, m [some (.d z.1), some (.d z.2)] = .ok (.d (.bool (eqb z.1 z.2))) [none, none]) →
    ∃ o2' o3', forGo (fTup 2 (fCons (fName 2) (fCons (fName 3) fNil))) (gIf (gNot (gB (gFz (gCall m [.d (gVar 2), .d (gVar 3)])))) (gRet (gD (gC (.bool false)))) gNext) (zs.map fun z => .tuple [z.1, z.2]) [d0, d1, o2, o3] = .ok (if (zs.all fun z => eqb z.1 z.2) = true then .nx else .rt (.d (.bool false))) [d0, d1, o2', o3']
  | [], o2, o3, _ => ⟨o2, o3, by rw [List.map_nil, forGo_nil]; rfl⟩
  | z :: zs, o2, o3, h => by
    rw [List.map_cons, forGo_cons (L1 := [d0, d1, some (.d z.1), some (.d z.2)]) _ _ _ _ rfl, List.all_cons]
    have hx := h z List.mem_cons_self
    cases hz : eqb z.1 z.2 with
    | true =>
      obtain ⟨o2', o3', e⟩ := same_go2 (m := m) (d0 := d0) (d1 := d1) zs (some (.d z.1)) (some (.d z.2)) fun y hy => h y (List.mem_cons_of_mem _ hy)
      refine ⟨o2', o3', ?_⟩
      rw [hz] at hx
      have step : gIf (gNot (gB (gFz (gCall m [.d (gVar 2), .d (gVar 3)])))) (gRet (gD (gC (.bool false)))) gNext [d0, d1, some (.d z.1), some (.d z.2)] = .ok .nx [d0, d1, some (.d z.1), some (.d z.2)] := by
        simp only [VS.evs, Nat.reduceAdd, Nat.reduceLT, Nat.reduceLeDiff, Nat.reduceSub, Nat.reduceEqDiff, hx]
      rw [step, turnK_nx, e, Bool.true_and]
    | false =>
      refine ⟨some (.d z.1), some (.d z.2), ?_⟩
      rw [hz] at hx
      have step : gIf (gNot (gB (gFz (gCall m [.d (gVar 2), .d (gVar 3)])))) (gRet (gD (gC (.bool false)))) gNext [d0, d1, some (.d z.1), some (.d z.2)] = .ok (.rt (.d (.bool false))) [d0, d1, some (.d z.1), some (.d z.2)] := by
        simp only [VS.evs, Nat.reduceAdd, Nat.reduceLT, Nat.reduceLeDiff, Nat.reduceSub, Nat.reduceEqDiff, hx]
      rw [step]
      rfl
theorem zipD_zip (xs ys : List D) : zipD xs ys = (xs.zip ys).map fun z => .tuple [z.1, z.2] := rfl
theorem zip_all : ∀ {xs ys : List D}, xs.length = ys.length → (((xs.zip ys).all fun z => eqb z.1 z.2) = true ↔ xs = ys)
  | [], [], _ => by simp
  | [], _ :: _, h => by cases h
  | _ :: _, [], h => by cases h
  | x :: xs, y :: ys, h => by
    rw [List.zip_cons_cons, List.all_cons, Bool.and_eq_true, eqb_iff, zip_all (xs := xs) (ys := ys) (by simpa using h)]
    simp
theorem tfd : (!decide ((true : Bool) = false)) = true := rfl
theorem ftd : (!decide ((false : Bool) = true)) = true := rfl
theorem same_ok2 : ∀ (k : Nat) (d e : D), Pl k d → Pl k e → m_law_same k [some (.d d), some (.d e)] = .ok (.d (.bool (eqb d e))) [none, none]
  | 0, _, _, h, _ => h.elim
  | k + 1, d, e, h, h' => by
    rw [m_law_same]
    cases e with
    | none =>
      cases d with
      | none => rw [eqb_self]; simp only [VS.evs, Nat.reduceAdd, Nat.reduceLT, Nat.reduceLeDiff, Nat.reduceSub, Nat.reduceEqDiff]
      | dict x => exact h.elim
      | _ => rw [eqb_ne (by intro z; cases z)]; simp only [VS.evs, Nat.reduceAdd, Nat.reduceLT, Nat.reduceLeDiff, Nat.reduceSub, Nat.reduceEqDiff]
    | bool b =>
      cases d with
      | bool c =>
        have : eqb (.bool c) (.bool b) = decide (c = b) := by
          by_cases z : c = b
          · rw [z, eqb_self]; simp
          · rw [eqb_ne (fun q => z (by cases q; rfl))]; simp [z]
        rw [this]
        simp only [VS.evs, Nat.reduceAdd, Nat.reduceLT, Nat.reduceLeDiff, Nat.reduceSub, Nat.reduceEqDiff]
      | dict x => exact h.elim
      | _ => rw [eqb_ne (by intro z; cases z)]; simp only [VS.evs, Nat.reduceAdd, Nat.reduceLT, Nat.reduceLeDiff, Nat.reduceSub, Nat.reduceEqDiff]
    | int i =>
      cases d with
      | int j =>
        have : eqb (.int j) (.int i) = decide (j = i) := by
          by_cases z : j = i
          · rw [z, eqb_self]; simp
          · rw [eqb_ne (fun q => z (by cases q; rfl))]; simp [z]
        rw [this]
        simp only [VS.evs, Nat.reduceAdd, Nat.reduceLT, Nat.reduceLeDiff, Nat.reduceSub, Nat.reduceEqDiff, whole_int]
      | none => rw [eqb_ne (by intro z; cases z)]; simp only [VS.evs, Nat.reduceAdd, Nat.reduceLT, Nat.reduceLeDiff, Nat.reduceSub, Nat.reduceEqDiff, whole_no (d := .none) (by intro i z; cases z) (by intro i z; cases z)]
      | bool x => rw [eqb_ne (by intro z; cases z)]; simp only [VS.evs, Nat.reduceAdd, Nat.reduceLT, Nat.reduceLeDiff, Nat.reduceSub, Nat.reduceEqDiff, whole_no (d := .bool x) (by intro i z; cases z) (by intro i z; cases z)]
      | str x => rw [eqb_ne (by intro z; cases z)]; simp only [VS.evs, Nat.reduceAdd, Nat.reduceLT, Nat.reduceLeDiff, Nat.reduceSub, Nat.reduceEqDiff, whole_no (d := .str x) (by intro i z; cases z) (by intro i z; cases z)]
      | list x => rw [eqb_ne (by intro z; cases z)]; simp only [VS.evs, Nat.reduceAdd, Nat.reduceLT, Nat.reduceLeDiff, Nat.reduceSub, Nat.reduceEqDiff, whole_no (d := .list x) (by intro i z; cases z) (by intro i z; cases z)]
      | tuple x => rw [eqb_ne (by intro z; cases z)]; simp only [VS.evs, Nat.reduceAdd, Nat.reduceLT, Nat.reduceLeDiff, Nat.reduceSub, Nat.reduceEqDiff, whole_no (d := .tuple x) (by intro i z; cases z) (by intro i z; cases z)]
      | dict x => exact h.elim
    | str s =>
      cases d with
      | str t =>
        have : eqb (.str t) (.str s) = decide (t = s) := by
          by_cases z : t = s
          · rw [z, eqb_self]; simp
          · rw [eqb_ne (fun q => z (by cases q; rfl))]; simp [z]
        rw [this]
        simp only [VS.evs, Nat.reduceAdd, Nat.reduceLT, Nat.reduceLeDiff, Nat.reduceSub, Nat.reduceEqDiff]
      | dict x => exact h.elim
      | _ => rw [eqb_ne (by intro z; cases z)]; simp only [VS.evs, Nat.reduceAdd, Nat.reduceLT, Nat.reduceLeDiff, Nat.reduceSub, Nat.reduceEqDiff]
    | list ys =>
      cases d with
      | list xs =>
        by_cases hl : xs.length = ys.length
        · obtain ⟨o2, o3, e⟩ := same_go2 (m := m_law_same k) (d0 := some (.d (.list xs))) (d1 := some (.d (.list ys))) (xs.zip ys) none none fun z hz => same_ok2 k z.1 z.2 (h _ (List.of_mem_zip hz).1) (h' _ (List.of_mem_zip hz).2)
          have key : eqb (.list xs) (.list ys) = ((xs.zip ys).all fun z => eqb z.1 z.2) := by
            rw [Bool.eq_iff_iff, eqb_iff, zip_all hl]
            exact ⟨fun z => by cases z; rfl, fun z => by rw [z]⟩
          rw [key]
          cases hb : ((xs.zip ys).all fun z => eqb z.1 z.2) with
          | true => rw [hb] at e; simp only [VS.evs, Nat.reduceAdd, Nat.reduceLT, Nat.reduceLeDiff, Nat.reduceSub, Nat.reduceEqDiff, zipD_zip, e, hl]
          | false => rw [hb] at e; simp only [VS.evs, Nat.reduceAdd, Nat.reduceLT, Nat.reduceLeDiff, Nat.reduceSub, Nat.reduceEqDiff, zipD_zip, e, hl]
        · rw [eqb_ne (fun z => hl (by cases z; rfl))]
          have hi : ((xs.length : Nat) : Int) ≠ ((ys.length : Nat) : Int) := by omega
          simp only [VS.evs, Nat.reduceAdd, Nat.reduceLT, Nat.reduceLeDiff, Nat.reduceSub, Nat.reduceEqDiff, hi, decide_false, Bool.not_false]
      | dict x => exact h.elim
      | _ => rw [eqb_ne (by intro z; cases z)]; simp only [VS.evs, Nat.reduceAdd, Nat.reduceLT, Nat.reduceLeDiff, Nat.reduceSub, Nat.reduceEqDiff, tfd, ftd]
    | tuple ys =>
      cases d with
      | tuple xs =>
        by_cases hl : xs.length = ys.length
        · obtain ⟨o2, o3, e⟩ := same_go2 (m := m_law_same k) (d0 := some (.d (.tuple xs))) (d1 := some (.d (.tuple ys))) (xs.zip ys) none none fun z hz => same_ok2 k z.1 z.2 (h _ (List.of_mem_zip hz).1) (h' _ (List.of_mem_zip hz).2)
          have key : eqb (.tuple xs) (.tuple ys) = ((xs.zip ys).all fun z => eqb z.1 z.2) := by
            rw [Bool.eq_iff_iff, eqb_iff, zip_all hl]
            exact ⟨fun z => by cases z; rfl, fun z => by rw [z]⟩
          rw [key]
          cases hb : ((xs.zip ys).all fun z => eqb z.1 z.2) with
          | true => rw [hb] at e; simp only [VS.evs, Nat.reduceAdd, Nat.reduceLT, Nat.reduceLeDiff, Nat.reduceSub, Nat.reduceEqDiff, zipD_zip, e, hl]
          | false => rw [hb] at e; simp only [VS.evs, Nat.reduceAdd, Nat.reduceLT, Nat.reduceLeDiff, Nat.reduceSub, Nat.reduceEqDiff, zipD_zip, e, hl]
        · rw [eqb_ne (fun z => hl (by cases z; rfl))]
          have hi : ((xs.length : Nat) : Int) ≠ ((ys.length : Nat) : Int) := by omega
          simp only [VS.evs, Nat.reduceAdd, Nat.reduceLT, Nat.reduceLeDiff, Nat.reduceSub, Nat.reduceEqDiff, hi, decide_false, Bool.not_false]
      | dict x => exact h.elim
      | _ => rw [eqb_ne (by intro z; cases z)]; simp only [VS.evs, Nat.reduceAdd, Nat.reduceLT, Nat.reduceLeDiff, Nat.reduceSub, Nat.reduceEqDiff, tfd, ftd]
    | dict _ => exact h'.elim
end Lw

namespace Lw
open PySem PySem.Spec PyProof.Rows L2 VS
end Lw

namespace Lw
open PySem PySem.Spec PyProof.Rows L2 VS
end Lw

namespace Lw
open PySem PySem.Spec PyProof.Rows L2 VS
end Lw

namespace Lw
open PySem PySem.Spec PyProof.Rows L2 VS
end Lw

namespace Lw
open PySem PySem.Spec PyProof.Rows L2 VS
end Lw

namespace Lw
open PySem PySem.Spec PyProof.Rows L2 VS
end Lw

namespace Lw
open PySem PySem.Spec PyProof.Rows L2 VS
end Lw

namespace Lw
open PySem PySem.Spec PyProof.Rows L2 VS
end Lw

namespace Lw
open PySem PySem.Spec PyProof.Rows L2 VS
end Lw

namespace Lw
open PySem PySem.Spec PyProof.Rows L2 VS
end Lw

namespace Lw
open PySem PySem.Spec PyProof.Rows L2 VS
def g_better : LS → R O := (gSeq (gIf (gB (gDIn true 0 (gVar 1))) (gRet (gD (gC (.bool true)))) gNext)
    (gRet (gD (gOp dLt (gOp dIx (gDGet 0 (gVar 1)) (gC (.int 0))) (gPeek 2)))))
def m_better : LS → R S := runDef [true, false, false] 3 g_better
end Lw

namespace Lw
open PySem PySem.Spec PyProof.Rows L2 VS
def g_law_least : LS → R O := (gSeq (gAsg 2 (gOp dAdd (gFz (gLst (gCons (gC (.int 0)) gNil))) (gFz (gOp dMul (gFz (gLst (gCons (gC .none) gNil))) (gVar 1)))))
    (gSeq (gFor (fun L => ((gVar 0) L).bind asItems) (fTup 2 (fCons (fName 3) (fCons (fName 4) fNil))) (gFor (fun L => ((gCons (gC (.int 1)) (gCons (gFz (gOp dAdd (gVar 1) (gC (.int 1)))) gNil)) L).bind rvr2) (fName 5) (gSeq (gAsg 6 (gD (gIxP 2 (gA dMax (gCons (gC (.int 0)) (gCons (gOp dSub (gVar 5) (gVar 4)) gNil))))))
    (gIf (gAnd (gB (gOp dIsN (gPeek 6) (gC .none))) (gOr (gB (gOp dIs (gIxP 2 (gVar 5)) (gC .none))) (gB (gOp dLt (gFz (gOp dAdd (gVar 6) (gVar 3))) (gIxP 2 (gVar 5)))))) (gSetIx 2 (gVar 5) (gFz (gOp dAdd (gVar 6) (gVar 3)))) gNext))))
    (gRet (gD (gIxP 2 (gVar 1))))))
def m_law_least : LS → R S := runDef [true, false] 7 g_law_least
end Lw

namespace Lw
open PySem PySem.Spec PyProof.Rows L2 VS
end Lw

namespace Lw
open PySem PySem.Spec PyProof.Rows L2 VS
end Lw

namespace Lw
open PySem PySem.Spec PyProof.Rows L2 VS
end Lw

namespace Lw
open PySem PySem.Spec PyProof.Rows L2 VS
end Lw

namespace Lw
open PySem PySem.Spec PyProof.Rows L2 VS
end Lw

namespace Lw
open PySem PySem.Spec PyProof.Rows L2 VS
end Lw

namespace Lw
open PySem PySem.Spec PyProof.Rows L2 VS
end Lw

namespace Lw
open PySem PySem.Spec PyProof.Rows L2 VS
end Lw

namespace Lw
open PySem PySem.Spec PyProof.Rows L2 VS
end Lw

namespace Lw
open PySem PySem.Spec PyProof.Rows L2 VS
def g_cheapest_v2 : LS → R O := (gSeq (gIf (gB (gOp dLt (gPeek 1) (gC (.int 1)))) (gRet (gD (gFz (gLst gNil)))) gNext)
    (gSeq (gAsg 2 (gDlit (gC (.int 0)) (gTup (gCons (gC (.int 0)) (gCons (gFz (gLst gNil)) gNil)))))
    (gSeq (gFor (gLentE 0) (fTup 2 (fCons (fName 3) (fCons (fTup 2 (fCons (fName 4) (fCons (fName 5) fNil))) fNil))) (gSeq (gAsg 6 (gOnS sCopy (gLk 2)))
    (gSeq (gFor (fun L => ((gMove 2) L).bind asItemsK) (fTup 2 (fCons (fName 7) (fCons (fTup 2 (fCons (fName 8) (fCons (fName 9) fNil))) fNil))) (gSeq (gIf (gB (gOp dGe (gPeek 8) (gPeek 1))) (fun L => .ok .ct L) gNext)
    (gIf (gB (gFz (gCall Lw.m_better [.r 6, .d (gFz (gOp dAdd (gVar 7) (gVar 4))), .d (gFz (gOp dAdd (gVar 8) (gVar 5)))]))) (gDPut 6 (gFz (gOp dAdd (gVar 7) (gVar 4))) (gTup (gCons (gFz (gOp dAdd (gVar 8) (gVar 5))) (gCons (gFz (gOp dAdd (gVar 9) (gFz (gLst (gCons (gVar 3) gNil))))) gNil)))) gNext)))
    (gAsg 2 (gMove 6)))))
    (gSeq (gFor (fun L => ((gFz (gOnS sSorted (gLk 2))) L).bind asItems) (fName 7) (gIf (gB (gOp dGe (gOp dIx (gDGet 2 (gVar 7)) (gC (.int 0))) (gPeek 1))) (gRet (gD (gOp dIx (gDGet 2 (gVar 7)) (gC (.int 1))))) gNext))
    (gRet (gD (gC .none)))))))
def m_cheapest_v2 : LS → R S := runDef [false, false] 10 g_cheapest_v2
def g_law_offers_fit : LS → R O := (gSeq (gIf (gNot (gB (gIsi "list" (gPeek 0)))) (gRet (gD (gC (.bool false)))) gNext)
    (gSeq (gAsg 3 (gD (gUn dNeg (gC (.int 1)))))
    (gSeq (gAsg 4 (gD (gC (.int 0))))
    (gSeq (gFor (fun L => ((gVar 0) L).bind asItems) (fName 5) (gSeq (gIf (gOr (gNot (gB (gFz (gCall Lw.m_law_whole [.d (gVar 5)])))) (gOr (gB (gOp dLe (gPeek 5) (gPeek 3))) (gB (gOp dGe (gPeek 5) (gUn dLen (gPeek 1)))))) (gRet (gD (gC (.bool false)))) gNext)
    (gSeq (gAsg 3 (gD (gVar 5)))
    (gAsg 4 (gOp dAdd (gVar 4) (gOp dIx (gIxP 1 (gVar 5)) (gC (.int 1))))))))
    (gRet (gD (gOp dGe (gPeek 4) (gPeek 2))))))))
def m_law_offers_fit : LS → R S := runDef [false, true, false] 6 g_law_offers_fit
def g_law_paid : LS → R O := (gSeq (gAsg 2 (gD (gC (.int 0))))
    (gSeq (gFor (fun L => ((gVar 0) L).bind asItems) (fName 3) (gAsg 2 (gOp dAdd (gVar 2) (gOp dIx (gIxP 1 (gVar 3)) (gC (.int 0))))))
    (gRet (gMove 2))))
def m_law_paid : LS → R S := runDef [false, true] 4 g_law_paid
def g_law_all_gain : LS → R O := (gSeq (gAsg 1 (gD (gC (.int 0))))
    (gSeq (gFor (fun L => ((gVar 0) L).bind asItems) (fTup 2 (fCons (fName 2) (fCons (fName 3) fNil))) (gAsg 1 (gOp dAdd (gVar 1) (gVar 3))))
    (gRet (gMove 1))))
def m_law_all_gain : LS → R S := runDef [true] 4 g_law_all_gain
end Lw

namespace Lw
open PySem PySem.Spec PyProof.Rows L2 VS
def g_law_heavy_least : LS → R O := (gSeq (gAsg 2 (gDlitT (gTup (gCons (gC (.int 0)) (gCons (gC (.int 0)) gNil))) (gC (.int 0))))
    (gSeq (gFor (fun L => ((gVar 0) L).bind asItems) (fTup 2 (fCons (fName 3) (fCons (fName 4) fNil))) (gSeq (gAsg 5 (gOnS sCopyT (gLk 2)))
    (gSeq (gFor (fun L => ((gMove 2) L).bind asItemsT) (fTup 2 (fCons (fTup 2 (fCons (fName 6) (fCons (fName 7) fNil))) (fCons (fName 8) fNil))) (gSeq (gAsg 9 (gD (gTup (gCons (gFz (gOp dAdd (gVar 6) (gC (.int 1)))) (gCons (gOp dSub (gFz (gOp dAdd (gVar 7) (gC (.int 1000)))) (gVar 4)) gNil)))))
    (gIf (gOr (gB (gDIn true 5 (gVar 9))) (gB (gOp dLt (gFz (gOp dAdd (gVar 8) (gVar 3))) (gDGet 5 (gVar 9))))) (gDPut 5 (gVar 9) (gFz (gOp dAdd (gVar 8) (gVar 3)))) gNext)))
    (gAsg 2 (gMove 5)))))
    (gRet (gD (gUn dMinL (gFz (gLc [6, 7, 8] (fun L => ((gMove 2) L).bind asItemsT) (fTup 2 (fCons (fTup 2 (fCons (fName 6) (fCons (fName 7) fNil))) (fCons (fName 8) fNil))) (gB (gOp dGe (gOp dSub (gFz (gOp dMul (gVar 6) (gC (.int 1000)))) (gVar 7)) (gPeek 1))) (gVar 8))))))))
def m_law_heavy_least : LS → R S := runDef [true, false] 10 g_law_heavy_least
def g_main_k05 : LS → R O := (gSeq (gAsg 1 (gCall Lw.m_law_src [.r 0]))
    (gSeq (gAsg 2 (gD (gOp dIx (gFz (gLst (gCons (gC (.int 1)) (gCons (gC (.int 1)) (gCons (gC (.int 60)) gNil))))) (gFz (gCall Lw.m_law_next [.r 1, .d (gC (.int 3))])))))
    (gSeq (gAsg 3 (gCall Lw.m_law_next [.r 1, .d (gC (.int 4))]))
    (gSeq (gAsg 4 (gOp dAdd (gC (.int 1)) (gFz (gCall Lw.m_law_next [.r 1, .d (gC (.int 12))]))))
    (gSeq (gAsg 5 (gLst gNil))
    (gSeq (gFor (fun L => ((gCons (gFz (gOp dAdd (gC (.int 8)) (gFz (gCall Lw.m_law_next [.r 1, .d (gC (.int 17))])))) gNil) L).bind rng1) (fName 6) (gSeq (gAsg 7 (gOp dMul (gVar 2) (gFz (gOp dAdd (gC (.int 1)) (gFz (gCall Lw.m_law_next [.r 1, .d (gOp dIx (gFz (gLst (gCons (gC (.int 6)) (gCons (gC (.int 25)) gNil)))) (gOp dDiv (gVar 2) (gC (.int 60))))]))))))
    (gSeq (gAsg 8 (gOp dAdd (gC (.int 1)) (gFz (gCall Lw.m_law_next [.r 1, .d (gC (.int 12))]))))
    (gSeq (gIf (gB (gOp dEq (gPeek 3) (gC (.int 0)))) (gAsg 8 (gD (gVar 4))) gNext)
    (gSeq (gIf (gB (gOp dEq (gPeek 3) (gC (.int 1)))) (gAsg 8 (gD (gOp dSub (gC (.int 1000)) (gFz (gCall Lw.m_law_next [.r 1, .d (gC (.int 3))]))))) gNext)
    (gDrop (gApp 5 (gTup (gCons (gVar 7) (gCons (gVar 8) gNil))))))))))
    (gSeq (gAsg 9 (gUn dList (gPeek 5)))
    (gSeq (gAsg 10 (gOp dAdd (gC (.int 1)) (gFz (gCall Lw.m_law_next [.r 1, .d (gFz (gCall Lw.m_law_all_gain [.r 9]))]))))
    (gSeq (gIf (gB (gOp dEq (gFz (gCall Lw.m_law_next [.r 1, .d (gC (.int 2))])) (gC (.int 0)))) (gAsg 10 (gD (gA dMax (gCons (gC (.int 1)) (gCons (gOp dSub (gOp dDiv (gFz (gCall Lw.m_law_all_gain [.r 9])) (gC (.int 2))) (gFz (gCall Lw.m_law_next [.r 1, .d (gC (.int 5))]))) gNil))))) gNext)
    (gSeq (gAsg 11 (gFresh Lw.m_cheapest_v2 2 (gCons (gPk 5) (gCons (gPk 10) gNil))))
    (gSeq (gIf (gOr (gNot (gB (gFz (gLook (Lw.m_law_same 12) 2 (gCons (gPk 5) (gCons (gPk 9) gNil)))))) (gNot (gB (gFz (gCall Lw.m_law_offers_fit [.d (gVar 11), .r 9, .d (gVar 10)]))))) (gRet (gD (gC (.bool false)))) gNext)
    (gSeq (gIf (gB (gOp dEq (gPeek 3) (gC (.int 1)))) (gRet (gD (gOp dEq (gFz (gCall Lw.m_law_paid [.d (gVar 11), .r 9])) (gFz (gCall Lw.m_law_heavy_least [.r 9, .d (gVar 10)]))))) gNext)
    (gRet (gD (gOp dEq (gFz (gCall Lw.m_law_paid [.d (gVar 11), .r 9])) (gFz (gCall Lw.m_law_least [.r 9, .d (gVar 10)])))))))))))))))))
def m_main_k05 : LS → R S := runDef [true] 12 g_main_k05
end Lw

namespace VS
open PySem PySem.Spec PyProof.Rows L2
inductive T (ε α : Type) where
  | ok (a : α)
  | er (c : Nat) (e : ε)
  | no
namespace T
variable {ε ε' α β γ ν ρ : Type}
def bind (t : T ε α) (k : α → T ε β) : T ε β := match t with
  | .ok a => k a
  | .er c e => .er c e
  | .no => .no
theorem ok_bind (a : α) (k : α → T ε β) : (T.ok a).bind k = k a := rfl
def ofO (o : Option α) : T ε α := match o with
  | some a => .ok a
  | none => .no
@[irreducible] def gd (p : Prop) [Decidable p] (t : T ε α) : T ε α := if p then t else .no
theorem gd_of {p : Prop} [Decidable p] (h : p) (t : T ε α) : gd p t = t := by
  unfold gd
  exact if_pos h
def lift (f : ε' → ε) (t : T ε' α) : T ε α := match t with
  | .ok a => .ok a
  | .er c e => .er c (f e)
  | .no => .no
def forM : List α → ν → (α → ν → T ε ν) → T ε ν
  | [], v, _ => .ok v
  | x :: xs, v, f => (f x v).bind fun v' => forM xs v' f
inductive Lp (ν ρ : Type) where
  | nx (v : ν)
  | bk (v : ν)
  | rt (r : ρ)
inductive Le (ν ρ : Type) where
  | nx (v : ν)
  | rt (r : ρ)
def forL : List α → ν → (α → ν → T ε (Lp ν ρ)) → T ε (Le ν ρ)
  | [], v, _ => .ok (.nx v)
  | x :: xs, v, f => (f x v).bind fun r => match r with
    | .nx v' => forL xs v' f
    | .bk v' => .ok (.nx v')
    | .rt r => .ok (.rt r)
def bindL (t : T ε (Le ν ρ)) (n : ν → T ε α) (r : ρ → T ε α) : T ε α := t.bind fun z => match z with
  | .nx v => n v
  | .rt x => r x
theorem bindL_nx (v : ν) (n : ν → T ε α) (r : ρ → T ε α) : bindL (.ok (.nx v)) n r = n v := rfl
theorem bindL_rt (x : ρ) (n : ν → T ε α) (r : ρ → T ε α) : bindL (.ok (.rt x)) n r = r x := rfl
end T

def Mt (A L : LS) : Prop := L.length = A.length ∧ ∀ (i : Nat) (s : S), A[i]? = some (some s) → L[i]? = some (some s)
theorem Mt.refl (A : LS) : Mt A A := ⟨rfl, fun _ _ h => h⟩
theorem Mt.trans {A B C : LS} (h : Mt A B) (k : Mt B C) : Mt A C := ⟨k.1.trans h.1, fun i s e => k.2 i s (h.2 i s e)⟩
theorem Mt.set {A L : LS} (h : Mt A L) (i : Nat) (x : Option S) : Mt (A.set i x) (L.set i x) := ⟨by rw [List.length_set, List.length_set]; exact h.1, fun j s e => by
  rcases set_get e with ⟨rfl, hs⟩ | ⟨hj, hs⟩
  · have hlt : i < A.length := by
      have := (List.getElem?_eq_some_iff.mp e).1
      rwa [List.length_set] at this
    rw [List.getElem?_set_self (by rw [h.1]; exact hlt), hs]
  · rw [List.getElem?_set_ne hj]
    exact h.2 j s hs⟩
theorem Mt.off {A L : LS} (h : Mt A L) (i : Nat) : Mt (A.set i none) L := ⟨by rw [List.length_set]; exact h.1, fun j s e => by
  rcases set_get e with ⟨_, hs⟩ | ⟨hj, hs⟩
  · cases hs
  · exact h.2 j s hs⟩
theorem Mt.offL {A L : LS} (h : Mt A L) (i : Nat) (x : Option S) : Mt (A.set i none) (L.set i x) := ⟨by rw [List.length_set, List.length_set]; exact h.1, fun j s e => by
  rcases set_get e with ⟨_, hs⟩ | ⟨hj, hs⟩
  · cases hs
  · rw [List.getElem?_set_ne hj]
    exact h.2 j s hs⟩
theorem mt_nil : Mt [] [] := Mt.refl _
theorem mt_k {A L : LS} {x : Option S} (h : Mt A L) : Mt (x :: A) (x :: L) := ⟨by rw [List.length_cons, List.length_cons, h.1], fun i s e => by
  cases i with
  | zero => exact e
  | succ i => exact h.2 i s e⟩
theorem mt_w {A L : LS} {x : Option S} (h : Mt A L) : Mt (none :: A) (x :: L) := ⟨by rw [List.length_cons, List.length_cons, h.1], fun i s e => by
  cases i with
  | zero => cases e
  | succ i => exact h.2 i s e⟩
theorem Mt.app {A L B M : LS} (h : Mt A L) (k : Mt B M) : Mt (A ++ B) (L ++ M) := ⟨by rw [List.length_append, List.length_append, h.1, k.1], fun i s e => by
  by_cases hi : i < A.length
  · rw [List.getElem?_append_left hi] at e
    rw [List.getElem?_append_left (by rw [h.1]; exact hi)]
    exact h.2 i s e
  · rw [List.getElem?_append_right (Nat.le_of_not_lt hi)] at e
    rw [List.getElem?_append_right (by rw [h.1]; exact Nat.le_of_not_lt hi), h.1]
    exact k.2 _ s e⟩
theorem Mt.mask : ∀ {md : List Bool} {A L : LS}, Mt A L → Mt (maskL md A) (maskL md L)
  | [], A, L, h => by cases A <;> cases L <;> exact mt_nil
  | b :: md, [], [], h => Mt.refl _
  | b :: md, [], _ :: _, h => by cases h.1
  | b :: md, _ :: _, [], h => by cases h.1
  | b :: md, x :: A, y :: L, h => by
    have ht : Mt A L := ⟨Nat.succ.inj h.1, fun i s e => h.2 (i + 1) s e⟩
    show Mt ((if b then x else none) :: maskL md A) ((if b then y else none) :: maskL md L)
    cases b with
    | false => exact mt_k (Mt.mask ht)
    | true =>
      cases x with
      | none => exact mt_w (Mt.mask ht)
      | some s =>
        have := h.2 0 s rfl
        have hy : y = some s := Option.some.inj this
        rw [hy]
        exact mt_k (Mt.mask ht)

section
variable {ε ε' α β γ δ ω ω' ν ρ : Type}
def SimR (r : R ω) (t : T ε β) (F : β → ω) (B : β → LS) (X : ε → LS) : Prop := match t with
  | .ok b => ∃ L, r = .ok (F b) L ∧ Mt (B b) L
  | .er c e => ∃ L, r = .err c L ∧ Mt (X e) L
  | .no => True
def SK (A : LS) (k : LS → R ω) (t : T ε β) (F : β → ω) (B : β → LS) (X : ε → LS) : Prop := ∀ L, Mt A L → SimR (k L) t F B X
def Pu {α : Type} (A : LS) (g : LS → R α) (a : α) : Prop := ∀ L, Mt A L → g L = .ok a L
structure Kont (ω : Type) where
  nx : LS → R ω
  rt : S → LS → R ω
  bk : LS → R ω
  ct : LS → R ω
def fin (K : Kont ω) (r : R O) : R ω := match r with
  | .ok .nx L => K.nx L
  | .ok (.rt s) L => K.rt s L
  | .ok .bk L => K.bk L
  | .ok .ct L => K.ct L
  | .err c L => .err c L
  | .stuck => .stuck
def Kont.next (K : Kont ω) (g : LS → R O) : Kont ω := { K with nx := fun L => fin K (g L) }
variable {A A' : LS} {F : β → ω} {B : β → LS} {X : ε → LS} {t : T ε β}

theorem k_ok {w : ω} {b : β} (hw : w = F b) (hB : Mt (B b) A) : SK A (fun L => .ok w L) (.ok b) F B X := fun L hL => ⟨L, by rw [hw], hB.trans hL⟩
theorem k_no {k : LS → R ω} : SK A k (.no) F B X := fun _ _ => trivial
theorem k_gd {k : LS → R ω} {p : Prop} [Decidable p] (h : p → SK A k t F B X) : SK A k (T.gd p t) F B X := by
  unfold T.gd
  split
  · exact h (by assumption)
  · exact k_no
theorem e_pu {g : LS → R α} {a : α} {k : α → LS → R ω} (h : Pu A g a) (h2 : SK A (k a) t F B X) : SK A (fun L => (g L).bind k) t F B X := fun L hL => by
  show SimR ((g L).bind k) t F B X
  rw [h L hL]
  exact h2 L hL
theorem e_ok {a : α} {k : α → LS → R ω} (h2 : SK A (k a) t F B X) : SK A (fun L => (R.ok a L).bind k) t F B X := h2
theorem bind_assoc' {r : R α} {k : α → LS → R γ} {j : γ → LS → R ω} : (r.bind k).bind j = r.bind fun a L => (k a L).bind j := by cases r <;> rfl
theorem e_bind {g : LS → R α} {k : α → LS → R γ} {j : γ → LS → R ω} (h : SK A (fun L => (g L).bind fun a L1 => (k a L1).bind j) t F B X) : SK A (fun L => ((g L).bind k).bind j) t F B X := fun L hL => by
  show SimR (((g L).bind k).bind j) t F B X
  rw [bind_assoc']
  exact h L hL
theorem e_d {g : LS → R D} {k : S → LS → R ω} (h : SK A (fun L => (g L).bind fun d L1 => k (.d d) L1) t F B X) : SK A (fun L => (gD g L).bind k) t F B X := e_bind h
theorem e_fz {g : LS → R S} {k : D → LS → R ω} (h : SK A (fun L => (g L).bind fun s L1 => (frS s L1).bind k) t F B X) : SK A (fun L => (gFz g L).bind k) t F B X := e_bind h
theorem e_B {g : LS → R D} {k : Bool → LS → R ω} (h : SK A (fun L => (g L).bind fun d L1 => (asB d L1).bind k) t F B X) : SK A (fun L => (gB g L).bind k) t F B X := e_bind h
theorem e_op {f : D → D → Option α} {ga gb : LS → R D} {k : α → LS → R ω} (h : SK A (fun L => (ga L).bind fun d L1 => (gb L1).bind fun e L2 => (ofO (f d e) L2).bind k) t F B X) : SK A (fun L => (gOp f ga gb L).bind k) t F B X := fun L hL => by
  show SimR (((ga L).bind fun d L1 => (gb L1).bind fun e L2 => ofO (f d e) L2).bind k) t F B X
  rw [bind_assoc']
  have := h L hL
  dsimp only at this
  cases e : ga L with
  | stuck => rw [e] at this; exact this
  | err c L1 => rw [e] at this; exact this
  | ok d L1 =>
    rw [e] at this
    show SimR (((gb L1).bind fun e L2 => ofO (f d e) L2).bind k) t F B X
    rw [bind_assoc']
    exact this
theorem e_un {f : D → Option α} {ga : LS → R D} {k : α → LS → R ω} (h : SK A (fun L => (ga L).bind fun d L1 => (ofO (f d) L1).bind k) t F B X) : SK A (fun L => (gUn f ga L).bind k) t F B X := e_bind h
theorem e_gA {f : List D → Option α} {gs : LS → R (List D)} {k : α → LS → R ω} (h : SK A (fun L => (gs L).bind fun ds L1 => (ofO (f ds) L1).bind k) t F B X) : SK A (fun L => (gA f gs L).bind k) t F B X := e_bind h
theorem e_o {o : Option α} {z : α} {k : α → LS → R ω} (h : o = some z) (h2 : SK A (k z) t F B X) : SK A (fun L => (ofO o L).bind k) t F B X := by
  rw [h]
  exact h2
theorem e_oO {o : Option α} {p : Option γ} {f : γ → α} {k : α → LS → R ω} {t' : γ → T ε β} (h : o = p.map f) (h2 : ∀ z, SK A (k (f z)) (t' z) F B X) : SK A (fun L => (ofO o L).bind k) ((T.ofO p).bind t') F B X := by
  rw [h]
  cases p with
  | none => exact k_no
  | some z => exact h2 z
theorem e_cons {a : LS → R D} {r : LS → R (List D)} {k : List D → LS → R ω} (h : SK A (fun L => (a L).bind fun d L1 => (r L1).bind fun ds L2 => k (d :: ds) L2) t F B X) : SK A (fun L => (gCons a r L).bind k) t F B X := fun L hL => by
  show SimR (((a L).bind fun d L1 => (r L1).bind fun ds L2 => R.ok (d :: ds) L2).bind k) t F B X
  rw [bind_assoc']
  have := h L hL
  dsimp only at this
  cases e : a L with
  | stuck => rw [e] at this; exact this
  | err c L1 => rw [e] at this; exact this
  | ok d L1 =>
    rw [e] at this
    show SimR (((r L1).bind fun ds L2 => R.ok (d :: ds) L2).bind k) t F B X
    rw [bind_assoc']
    exact this
theorem e_tup {a : LS → R (List D)} {k : D → LS → R ω} (h : SK A (fun L => (a L).bind fun ds L1 => (if ds.length ≤ sizeLine then R.ok (PyData.tuple ds) L1 else .stuck).bind k) t F B X) : SK A (fun L => (gTup a L).bind k) t F B X := e_bind h
theorem e_iteP {p : Prop} [Decidable p] {r : LS → R α} {k : α → LS → R ω} (hp : p) (h : SK A (fun L => (r L).bind k) t F B X) : SK A (fun L => (if p then r L else R.stuck).bind k) t F B X := by
  simp only [if_pos hp]
  exact h
theorem e_varF {i : Nat} {ds : List D} {k : D → LS → R ω} (h : A[i]? = some (some (.ol ds))) (h2 : SK (A.set i (some (.d (.list ds)))) (k (.list ds)) t F B X) : SK A (fun L => (gVar i L).bind k) t F B X := fun L hL => by
  show SimR ((gVar i L).bind k) t F B X
  unfold gVar
  rw [hL.2 i _ h]
  exact h2 _ (hL.set i _)
theorem e_move {i : Nat} {s : S} {k : S → LS → R ω} (h : A[i]? = some (some s)) (hs : ∀ ns, s ≠ .scr ns) (h2 : SK (A.set i none) (k s) t F B X) (hb : s.own = true := by rfl) : SK A (fun L => (gMove i L).bind k) t F B X := fun L hL => by
  show SimR ((gMove i L).bind k) t F B X
  unfold gMove
  rw [hL.2 i _ h]
  cases s with
  | d d => exact h2 _ (hL.off i)
  | scr ns => exact absurd rfl (hs ns)
  | ol _ => exact h2 _ (hL.offL i _)
  | odK _ => exact h2 _ (hL.offL i _)
  | odT _ => exact h2 _ (hL.offL i _)
  | ob _ _ => exact h2 _ (hL.offL i _)
  | os _ => exact h2 _ (hL.offL i _)
  | ot _ => exact h2 _ (hL.offL i _)
  | b _ => cases hb
  | bl _ => cases hb
theorem e_not {a : LS → R Bool} {k : Bool → LS → R ω} (h : SK A (fun L => (a L).bind fun x L1 => k (!x) L1) t F B X) : SK A (fun L => (gNot a L).bind k) t F B X := e_bind h
abbrev SS (A : LS) (g : LS → R O) (K : Kont ω) (t : T ε β) (F : β → ω) (B : β → LS) (X : ε → LS) : Prop := SK A (fun L => fin K (g L)) t F B X
theorem s_then {K : Kont ω} {g : LS → R O} (h : SS A g K t F B X) : SK A (K.next g).nx t F B X := h
theorem s_seq {K : Kont ω} {g1 g2 : LS → R O} (h : SS A g1 (K.next g2) t F B X) : SS A (gSeq g1 g2) K t F B X := fun L hL => by
  have := h L hL
  dsimp only at this
  show SimR (fin K (gSeq g1 g2 L)) t F B X
  unfold gSeq
  cases e : g1 L with
  | stuck => simp only [e] at this; exact this
  | err c L1 => simp only [e] at this; exact this
  | ok o L1 =>
    simp only [e] at this
    cases o <;> exact this
theorem s_next {K : Kont ω} (h : SK A K.nx t F B X) : SS A gNext K t F B X := h
theorem fin_bind {K : Kont ω} {r : R α} {k : α → LS → R O} : fin K (r.bind k) = r.bind fun a L => fin K (k a L) := by cases r <;> rfl
theorem s_bind {K : Kont ω} {g : LS → R α} {k : α → LS → R O} (h : SK A (fun L => (g L).bind fun a L1 => fin K (k a L1)) t F B X) : SS A (fun L => (g L).bind k) K t F B X := fun L hL => by
  show SimR (fin K ((g L).bind k)) t F B X
  rw [fin_bind]
  exact h L hL
theorem s_asg {K : Kont ω} {i : Nat} {g : LS → R S} (h : SK A (fun L => (g L).bind fun s L1 => K.nx (L1.set i (some s))) t F B X) : SS A (gAsg i g) K t F B X := s_bind h
theorem s_set {K : Kont ω} {i : Nat} {s : S} {A' : LS} (hA : A.set i (some s) = A') (h : SK A' K.nx t F B X) : SK A (fun L => K.nx (L.set i (some s))) t F B X := fun L hL => h _ (by rw [← hA]; exact hL.set i _)
theorem s_drop {K : Kont ω} {g : LS → R α} (h : SK A (fun L => (g L).bind fun _ L1 => K.nx L1) t F B X) : SS A (gDrop g) K t F B X := s_bind h
theorem s_ret {K : Kont ω} {g : LS → R S} (h : SK A (fun L => (g L).bind fun s L1 => K.rt s L1) t F B X) : SS A (gRet g) K t F B X := s_bind h
theorem s_ct {K : Kont ω} (h : SK A K.ct t F B X) : SS A (fun L => .ok .ct L) K t F B X := h
theorem s_if {K : Kont ω} {c : LS → R Bool} {g1 g2 : LS → R O} {x : Bool} {t1 t2 : T ε β} (hc : Pu A c x) (h1 : SS A g1 K t1 F B X) (h2 : SS A g2 K t2 F B X) : SS A (gIf c g1 g2) K (if x = true then t1 else t2) F B X := s_bind (e_pu hc (by
  cases x with
  | true => exact h1
  | false => exact h2))
theorem s_ifE {K : Kont ω} {c : LS → R Bool} {g1 g2 : LS → R O} (h : SK A (fun L => (c L).bind fun b L1 => fin K (if b = true then g1 L1 else g2 L1)) t F B X) : SS A (gIf c g1 g2) K t F B X := s_bind h
theorem s_ite {K : Kont ω} {g1 g2 : LS → R O} {x : Bool} {t1 t2 : T ε β} (h1 : SS A g1 K t1 F B X) (h2 : SS A g2 K t2 F B X) : SK A (fun L => fin K (if x = true then g1 L else g2 L)) (if x = true then t1 else t2) F B X := by
  cases x with
  | true => exact h1
  | false => exact h2
def KN : Kont Unit := ⟨fun L => .ok () L, fun _ _ => .stuck, fun _ => .stuck, fun _ => .stuck⟩
theorem s_cut {K : Kont ω} {g : LS → R O} {t1 : T ε γ} {B1 : γ → LS} {t' : γ → T ε β} (h1 : SS A g KN t1 (fun _ => ()) B1 X) (h2 : ∀ c, SK (B1 c) K.nx (t' c) F B X) : SS A g K (t1.bind t') F B X := fun L hL => by
  show SimR (fin K (g L)) (t1.bind t') F B X
  have h := h1 L hL
  cases t1 with
  | no => trivial
  | er c e =>
    obtain ⟨L1, h3, h4⟩ := h
    try dsimp only at h3
    cases e : g L with
    | ok o L2 => rw [e] at h3; cases o <;> cases h3
    | stuck => rw [e] at h3; cases h3
    | err c' L2 => rw [e] at h3; cases h3; exact ⟨L1, rfl, h4⟩
  | ok b =>
    obtain ⟨L1, h3, h4⟩ := h
    try dsimp only at h3
    cases e : g L with
    | ok o L2 => rw [e] at h3; cases o <;> cases h3; exact h2 b _ h4
    | stuck => rw [e] at h3; cases h3
    | err c' L2 => rw [e] at h3; cases h3
def leO (f : ρ → S) : T.Le ν ρ → O
  | .nx _ => .nx
  | .rt r => .rt (f r)
def leB (Bn : ν → LS) (Br : ρ → LS) : T.Le ν ρ → LS
  | .nx v => Bn v
  | .rt r => Br r
def Kf (md : List Bool) : Kont S := ⟨fun L => .ok (.d .none) (maskL md L), fun s L => .ok s (maskL md L), fun _ => .stuck, fun _ => .stuck⟩
theorem f_def {md : List Bool} {N : Nat} {g : LS → R O} {A0 : LS} {F : β → S} {X' : ε → LS} (h : SS (A0 ++ List.replicate (N - A0.length) none) g (Kf md) t F B X') (hX : ∀ e, Mt (X e) (maskL md (X' e))) : SK A0 (runDef md N g) t F B X := fun L hL => by
  have h1 := h (L ++ List.replicate (N - L.length) none) (by rw [hL.1]; exact hL.app (Mt.refl _))
  unfold runDef
  cases t with
  | no => trivial
  | er c e =>
    obtain ⟨L1, h3, h4⟩ := h1
    try dsimp only at h3
    cases e' : g (L ++ List.replicate (N - L.length) none) with
    | ok o L2 => rw [e'] at h3; cases o <;> cases h3
    | stuck => rw [e'] at h3; cases h3
    | err c' L2 => rw [e'] at h3; cases h3; exact ⟨_, rfl, (hX e).trans h4.mask⟩
  | ok b =>
    obtain ⟨L1, h3, h4⟩ := h1
    try dsimp only at h3
    cases e' : g (L ++ List.replicate (N - L.length) none) with
    | stuck => rw [e'] at h3; cases h3
    | err c' L2 => rw [e'] at h3; cases h3
    | ok o L2 =>
      rw [e'] at h3
      cases o with
      | nx => injection h3 with h5 h6; exact ⟨_, by show R.ok _ _ = _; rw [h5], by rw [h6]; exact h4⟩
      | rt s => injection h3 with h5 h6; exact ⟨_, by show R.ok _ _ = _; rw [h5], by rw [h6]; exact h4⟩
      | bk => cases h3
      | ct => cases h3
theorem f_rt {md : List Bool} {s : S} {b : β} {F : β → S} (hs : s = F b) (hB : Mt (B b) (maskL md A)) : SK A (fun L => (Kf md).rt s L) (.ok b) F B X := fun L hL => ⟨_, by show R.ok _ _ = _; rw [hs], hB.trans hL.mask⟩
theorem e_call {m : LS → R S} {as : List Ar} {k : S → LS → R ω} (h : SK A (fun L => (evArgs as L).bind fun xs L1 => (if (refs xs).Nodup then callAt m xs L1 else .stuck).bind k) t F B X) : SK A (fun L => (gCall m as L).bind k) t F B X := e_bind h
theorem a_nil {k : List Av → LS → R ω} (h : SK A (k []) t F B X) : SK A (fun L => (evArgs [] L).bind k) t F B X := h
theorem a_d {g : LS → R D} {as : List Ar} {k : List Av → LS → R ω} (h : SK A (fun L => (g L).bind fun d L1 => (evArgs as L1).bind fun xs L2 => k (.d d :: xs) L2) t F B X) : SK A (fun L => (evArgs (.d g :: as) L).bind k) t F B X := fun L hL => by
  have h := h L hL
  dsimp only at h
  show SimR (((g L).bind fun d L1 => (evArgs as L1).bind fun xs L2 => R.ok (Av.d d :: xs) L2).bind k) t F B X
  rw [bind_assoc']
  cases e : g L with
  | stuck => rw [e] at h; exact h
  | err c L1 => rw [e] at h; exact h
  | ok d L1 =>
    rw [e] at h
    show SimR (((evArgs as L1).bind fun xs L2 => R.ok (Av.d d :: xs) L2).bind k) t F B X
    rw [bind_assoc']
    exact h
theorem a_r {i : Nat} {s : S} {as : List Ar} {k : List Av → LS → R ω} (hi : A[i]? = some (some s)) (h : SK A (fun L => (evArgs as L).bind fun xs L2 => k (.r i :: xs) L2) t F B X) : SK A (fun L => (evArgs (.r i :: as) L).bind k) t F B X := fun L hL => by
  have h := h L hL
  dsimp only at h
  show SimR ((match L[i]? with
    | some (some _) => (evArgs as L).bind fun xs L2 => R.ok (Av.r i :: xs) L2
    | _ => .stuck).bind k) t F B X
  rw [hL.2 i s hi]
  show SimR (((evArgs as L).bind fun xs L2 => R.ok (Av.r i :: xs) L2).bind k) t F B X
  rw [bind_assoc']
  exact h
theorem Mt.join {A L : LS} (h : Mt A L) (i : Nat) {s : S} (e : (A[i]?).join = some s) : (L[i]?).join = some s := by
  cases e1 : A[i]? with
  | none => rw [e1] at e; cases e
  | some o =>
    rw [e1] at e
    have e : o = some s := e
    subst e
    rw [h.2 i s e1]
    rfl
theorem Mt.slots {A L : LS} (h : Mt A L) : ∀ xs : List Av, Mt (xs.map (slotOf A)) (xs.map (slotOf L))
  | [] => mt_nil
  | .d d :: xs => mt_k (h.slots xs)
  | .r i :: xs => by
    show Mt ((A[i]?).join :: xs.map (slotOf A)) ((L[i]?).join :: xs.map (slotOf L))
    cases e : (A[i]?).join with
    | none => exact mt_w (h.slots xs)
    | some s =>
      rw [h.join i e]
      exact mt_k (h.slots xs)
theorem Mt.set2 {A L : LS} {x y : Option S} (h : Mt A L) (i : Nat) (hx : ∀ s, x = some s → y = some s) : Mt (A.set i x) (L.set i y) := by
  cases x with
  | none => exact h.offL i y
  | some s => rw [hx s rfl]; exact h.set i _
theorem Mt.back : ∀ (xs : List Av) {A L ss zs : LS}, Mt A L → Mt ss zs → Mt (putBack xs ss A) (putBack xs zs L)
  | [], A, L, ss, zs, h, k => by cases ss <;> cases zs <;> exact h
  | .r i :: xs, A, L, [], [], h, k => h
  | .d d :: xs, A, L, [], [], h, k => h
  | .r i :: xs, A, L, [], _ :: _, h, k => by cases k.1
  | .d _ :: xs, A, L, [], _ :: _, h, k => by cases k.1
  | .r i :: xs, A, L, _ :: _, [], h, k => by cases k.1
  | .d _ :: xs, A, L, _ :: _, [], h, k => by cases k.1
  | .d d :: xs, A, L, x :: ss, y :: zs, h, k => Mt.back xs (ss := ss) (zs := zs) h ⟨Nat.succ.inj k.1, fun i s e => k.2 (i + 1) s e⟩
  | .r i :: xs, A, L, x :: ss, y :: zs, h, k => Mt.back xs (ss := ss) (zs := zs) (h.set2 i fun s e => by
      have := k.2 0 s (by rw [e]; rfl)
      exact Option.some.inj this) ⟨Nat.succ.inj k.1, fun i s e => k.2 (i + 1) s e⟩
theorem c_call {m : LS → R S} {xs : List Av} {k : S → LS → R ω} {A0 : LS} {tm : T ε γ} {Fm : γ → S} {Bm : γ → LS} {Xm : ε → LS} {t' : γ → T ε β} (nd : (refs xs).Nodup) (hA : xs.map (slotOf A) = A0) (hm : SK A0 m tm Fm Bm Xm) (hX : ∀ e, Mt (X e) (putBack xs (Xm e) A))
    (h : ∀ c, SK (putBack xs (Bm c) A) (k (Fm c)) (t' c) F B X) : SK A (fun L => (if (refs xs).Nodup then callAt m xs L else .stuck).bind k) (tm.bind t') F B X := fun L hL => by
  have h1 := hm (xs.map (slotOf L)) (by rw [← hA]; exact hL.slots xs)
  show SimR ((if (refs xs).Nodup then callAt m xs L else .stuck).bind k) (tm.bind t') F B X
  rw [if_pos nd]
  unfold callAt
  cases tm with
  | no => trivial
  | er c e =>
    obtain ⟨L1, h2, h3⟩ := h1
    try dsimp only at h2
    rw [h2]
    exact ⟨_, rfl, (hX e).trans (Mt.back xs hL h3)⟩
  | ok b =>
    obtain ⟨L1, h2, h3⟩ := h1
    try dsimp only at h2
    rw [h2]
    exact h b _ (Mt.back xs hL h3)
def Tg (A : LS) (f : D → LS → Option LS) (d : D) (A' : LS) : Prop := ∀ L, Mt A L → ∃ L', f d L = some L' ∧ Mt A' L'
def Tgs (A : LS) (f : List D → LS → Option LS) (ds : List D) (A' : LS) : Prop := ∀ L, Mt A L → ∃ L', f ds L = some L' ∧ Mt A' L'
theorem tg_name {i : Nat} {d : D} : Tg A (fName i) d (A.set i (some (.d d))) := fun L hL => ⟨_, rfl, hL.set i _⟩
theorem tgs_nil : Tgs A fNil [] A := fun L hL => ⟨L, rfl, hL⟩
theorem tgs_cons {f : D → LS → Option LS} {r : List D → LS → Option LS} {d : D} {ds : List D} {A1 A2 : LS} (h : Tg A f d A1) (k : Tgs A1 r ds A2) : Tgs A (fCons f r) (d :: ds) A2 := fun L hL => by
  obtain ⟨L1, h1, h2⟩ := h L hL
  obtain ⟨L2, k1, k2⟩ := k L1 h2
  exact ⟨L2, by show (f d L).bind (r ds) = _; rw [h1]; exact k1, k2⟩
theorem tg_tup {m : Nat} {f : List D → LS → Option LS} {ds : List D} {A1 : LS} (h : Tgs A f ds A1) (hm : ds.length = m) : Tg A (fTup m f) (.tuple ds) A1 := fun L hL => by
  obtain ⟨L1, h1, h2⟩ := h L hL
  exact ⟨L1, by show (if ds.length = m then f ds L else none) = _; rw [if_pos hm]; exact h1, h2⟩
def KL : Kont Unit := ⟨fun L => .ok () L, fun _ _ => .stuck, fun _ => .stuck, fun L => .ok () L⟩
theorem forGo_M {f : D → LS → Option LS} {g : LS → R O} {e : α → D} {Inv : ν → LS} {A1 : α → ν → LS} {tb : α → ν → T ε ν} (hf : ∀ x v, Tg (Inv v) f (e x) (A1 x v)) (hb : ∀ x v, SS (A1 x v) g KL (tb x v) (fun _ => ()) Inv X) :
    ∀ (xs : List α) (v : ν), SK (Inv v) (forGo f g (xs.map e)) (T.forM xs v tb) (fun _ => O.nx) Inv X
  | [], v => fun L hL => ⟨L, rfl, hL⟩
  | x :: xs, v => fun L hL => by
    obtain ⟨L1, h1, h2⟩ := hf x v L hL
    have h3 := hb x v L1 h2
    have ih := forGo_M hf hb xs
    show SimR (forGo f g (e x :: xs.map e) L) ((tb x v).bind fun v' => T.forM xs v' tb) _ _ _
    unfold forGo
    rw [h1]
    show SimR (match g L1 with
      | .ok .nx L2 => forGo f g (xs.map e) L2
      | .ok .ct L2 => forGo f g (xs.map e) L2
      | .ok .bk L2 => .ok .nx L2
      | r => r) _ _ _ _
    cases ht : tb x v with
    | no => trivial
    | er c z =>
      rw [ht] at h3
      obtain ⟨L3, h4, h5⟩ := h3
      try dsimp only at h4
      cases hg : g L1 with
      | ok o L2 => rw [hg] at h4; cases o <;> cases h4
      | stuck => rw [hg] at h4; cases h4
      | err c' L2 => rw [hg] at h4; cases h4; exact ⟨_, rfl, h5⟩
    | ok v' =>
      rw [ht] at h3
      obtain ⟨L3, h4, h5⟩ := h3
      try dsimp only at h4
      cases hg : g L1 with
      | stuck => rw [hg] at h4; cases h4
      | err c' L2 => rw [hg] at h4; cases h4
      | ok o L2 =>
        rw [hg] at h4
        cases o <;> cases h4
        · exact ih v' _ h5
        · exact ih v' _ h5
def KB : Kont O := ⟨fun L => .ok .nx L, fun s L => .ok (.rt s) L, fun L => .ok .bk L, fun L => .ok .nx L⟩
def lpO (f : ρ → S) : T.Lp ν ρ → O
  | .nx _ => .nx
  | .bk _ => .bk
  | .rt r => .rt (f r)
def lpB (Bn : ν → LS) (Br : ρ → LS) : T.Lp ν ρ → LS
  | .nx v => Bn v
  | .bk v => Bn v
  | .rt r => Br r
theorem forGo_L {f : D → LS → Option LS} {g : LS → R O} {e : α → D} {Inv : ν → LS} {Br : ρ → LS} {fr : ρ → S} {A1 : α → ν → LS} {tb : α → ν → T ε (T.Lp ν ρ)} (hf : ∀ x v, Tg (Inv v) f (e x) (A1 x v)) (hb : ∀ x v, SS (A1 x v) g KB (tb x v) (lpO fr) (lpB Inv Br) X) :
    ∀ (xs : List α) (v : ν), SK (Inv v) (forGo f g (xs.map e)) (T.forL xs v tb) (leO fr) (leB Inv Br) X
  | [], v => fun L hL => ⟨L, rfl, hL⟩
  | x :: xs, v => fun L hL => by
    obtain ⟨L1, h1, h2⟩ := hf x v L hL
    have h3 := hb x v L1 h2
    have ih := forGo_L hf hb xs
    show SimR (forGo f g (e x :: xs.map e) L) ((tb x v).bind _) _ _ _
    unfold forGo
    rw [h1]
    show SimR (match g L1 with
      | .ok .nx L2 => forGo f g (xs.map e) L2
      | .ok .ct L2 => forGo f g (xs.map e) L2
      | .ok .bk L2 => .ok .nx L2
      | r => r) _ _ _ _
    cases ht : tb x v with
    | no => trivial
    | er c z =>
      rw [ht] at h3
      obtain ⟨L3, h4, h5⟩ := h3
      try dsimp only at h4
      cases hg : g L1 with
      | ok o L2 => rw [hg] at h4; cases o <;> cases h4
      | stuck => rw [hg] at h4; cases h4
      | err c' L2 => rw [hg] at h4; cases h4; exact ⟨_, rfl, h5⟩
    | ok r =>
      rw [ht] at h3
      obtain ⟨L3, h4, h5⟩ := h3
      try dsimp only at h4
      cases hg : g L1 with
      | stuck => rw [hg] at h4; cases h4
      | err c' L2 => rw [hg] at h4; cases h4
      | ok o L2 =>
        rw [hg] at h4
        cases r with
        | nx v' =>
          cases o <;> cases h4
          · exact ih v' _ h5
          · exact ih v' _ h5
        | bk v' => cases o <;> cases h4; exact ⟨_, rfl, h5⟩
        | rt r => cases o <;> cases h4; exact ⟨_, rfl, h5⟩
end
end VS

namespace VS
open PySem PySem.Spec PyProof.Rows L2
structure Tx where
  cs : List (Fin 1114112)
deriving DecidableEq
def Tx.s (x : Tx) : Str := ⟨(x.cs.map (·.val)).toArray⟩
theorem Tx.s_list (x : Tx) : x.s.cps.toList = x.cs.map (·.val) := by simp [Tx.s]
theorem fin_map_inj {n : Nat} : ∀ {a b : List (Fin n)}, a.map (·.val) = b.map (·.val) → a = b
  | [], [], _ => rfl
  | [], _ :: _, h => by cases h
  | _ :: _, [], h => by cases h
  | x :: a, y :: b, h => by
    rw [List.map_cons, List.map_cons] at h
    injection h with h1 h2
    rw [Fin.ext h1, fin_map_inj h2]
theorem Tx.s_inj {x y : Tx} (h : x.s = y.s) : x = y := by
  have h1 : x.s.cps.toList = y.s.cps.toList := by rw [h]
  rw [Tx.s_list, Tx.s_list] at h1
  obtain ⟨a⟩ := x
  obtain ⟨b⟩ := y
  exact congrArg Tx.mk (fin_map_inj h1)
def Tx.of (l : List Nat) : Tx := ⟨l.map fun n => if h : n < 1114112 then ⟨n, h⟩ else ⟨0, by decide⟩⟩
def tx (z : String) : Tx := ⟨z.toList.map fun c => ⟨c.toNat, by
  have h := c.valid
  rcases h with h | ⟨_, h⟩
  · have : c.toNat < 0xd800 := h
    omega
  · exact h⟩⟩
def Tx.app (x y : Tx) : Tx := ⟨x.cs ++ y.cs⟩
instance : Append Tx := ⟨Tx.app⟩
structure Tp3 (α β γ : Type) where
  a : α
  b : β
  c : γ
deriving DecidableEq
structure Tp4 (α β γ δ : Type) where
  a : α
  b : β
  c : γ
  d : δ
deriving DecidableEq
structure Tp5 (α β γ δ ζ : Type) where
  a : α
  b : β
  c : γ
  d : δ
  e : ζ
deriving DecidableEq
class Enc (α : Type) where
  enc : α → D
instance : Enc D := ⟨id⟩
instance : Enc Unit := ⟨fun _ => .none⟩
instance : Enc Int := ⟨.int⟩
instance : Enc Bool := ⟨.bool⟩
instance : Enc Tx := ⟨fun x => .str x.s⟩
instance {α : Type} [Enc α] : Enc (List α) := ⟨fun xs => .list (xs.map Enc.enc)⟩
instance {α : Type} [Enc α] : Enc (Option α) := ⟨fun x => match x with
  | none => .none
  | some a => Enc.enc a⟩
instance {α β : Type} [Enc α] [Enc β] : Enc (α × β) := ⟨fun p => .tuple [Enc.enc p.1, Enc.enc p.2]⟩
instance {α β γ : Type} [Enc α] [Enc β] [Enc γ] : Enc (Tp3 α β γ) := ⟨fun p => .tuple [Enc.enc p.a, Enc.enc p.b, Enc.enc p.c]⟩
instance {α β γ δ : Type} [Enc α] [Enc β] [Enc γ] [Enc δ] : Enc (Tp4 α β γ δ) := ⟨fun p => .tuple [Enc.enc p.a, Enc.enc p.b, Enc.enc p.c, Enc.enc p.d]⟩
instance {α β γ δ ζ : Type} [Enc α] [Enc β] [Enc γ] [Enc δ] [Enc ζ] : Enc (Tp5 α β γ δ ζ) := ⟨fun p => .tuple [Enc.enc p.a, Enc.enc p.b, Enc.enc p.c, Enc.enc p.d, Enc.enc p.e]⟩
abbrev dv {α : Type} [Enc α] (x : α) : Option S := some (.d (Enc.enc x))
abbrev lv {α : Type} [Enc α] (xs : List α) : Option S := some (.ol (xs.map Enc.enc))

class Sh (α : Type) [Enc α] [DecidableEq α] where
  dep : Nat
  nn : ∀ x : α, Enc.enc x ≠ PyData.none
  lay : ∀ x : α, (Enc.enc x).canLay0 = true
  dp : ∀ x : α, (Enc.enc x).depth ≤ dep
  eqv : ∀ x y : α, (Enc.enc x).eqv (Enc.enc y) = decide (x = y)
theorem strOk_tx (x : Tx) : PyData.strOk x.s = true := by
  unfold PyData.strOk Tx.s
  simp only [List.all_toArray, List.all_map, List.all_eq_true]
  intro a _
  exact decide_eq_true a.isLt
instance : Sh Int where
  dep := 0
  nn := fun _ h => by cases h
  lay := fun _ => rfl
  dp := fun _ => Nat.le_refl _
  eqv := fun x y => by
    show (x == y) = _
    exact Bool.beq_eq_decide_eq x y
instance : Sh Bool where
  dep := 0
  nn := fun _ h => by cases h
  lay := fun _ => rfl
  dp := fun _ => Nat.le_refl _
  eqv := fun x y => by
    show (x == y) = _
    exact Bool.beq_eq_decide_eq x y
instance : Sh Tx where
  dep := 0
  nn := fun _ h => by cases h
  lay := fun x => by
    show PyData.canLay0 (.str x.s) = true
    unfold PyData.canLay0
    exact strOk_tx x
  dp := fun x => Nat.le_of_eq (by
    show PyData.depth (.str x.s) = 0
    unfold PyData.depth
    rfl)
  eqv := fun x y => by
    show (x.s == y.s) = _
    by_cases h : x = y
    · subst h; simp
    · rw [decide_eq_false h]
      exact beq_eq_false_iff_ne.mpr fun z => h (Tx.s_inj z)
theorem layAll {α : Type} [Enc α] [DecidableEq α] [Sh α] : ∀ xs : List α, PyData.canLayAll0 (xs.map Enc.enc) = true
  | [] => by unfold PyData.canLayAll0; rfl
  | x :: xs => by
    rw [List.map_cons]
    unfold PyData.canLayAll0
    rw [Sh.lay x, layAll xs]
    rfl
theorem dpAll {α : Type} [Enc α] [DecidableEq α] [i : Sh α] : ∀ xs : List α, PyData.depthAll (xs.map Enc.enc) ≤ i.dep
  | [] => by unfold PyData.depthAll; exact Nat.zero_le _
  | x :: xs => by
    rw [List.map_cons]
    unfold PyData.depthAll
    exact Nat.max_le.mpr ⟨Sh.dp x, dpAll xs⟩
theorem eqvAll {α : Type} [Enc α] [DecidableEq α] [Sh α] : ∀ xs ys : List α, PyData.eqvAll (xs.map Enc.enc) (ys.map Enc.enc) = decide (xs = ys)
  | [], [] => by simp [PyData.eqvAll]
  | [], _ :: _ => by simp [PyData.eqvAll]
  | _ :: _, [] => by simp [PyData.eqvAll]
  | x :: xs, y :: ys => by
    rw [List.map_cons, List.map_cons]
    unfold PyData.eqvAll
    rw [Sh.eqv x y, eqvAll xs ys]
    by_cases h1 : x = y <;> by_cases h2 : xs = ys <;> simp [h1, h2]
instance {α : Type} [Enc α] [DecidableEq α] [i : Sh α] : Sh (List α) where
  dep := i.dep + 1
  nn := fun _ h => by cases h
  lay := fun xs => by
    show PyData.canLay0 (.list (xs.map Enc.enc)) = true
    unfold PyData.canLay0
    exact layAll xs
  dp := fun xs => by
    show PyData.depth (.list (xs.map Enc.enc)) ≤ _
    unfold PyData.depth
    exact Nat.succ_le_succ (dpAll xs)
  eqv := fun xs ys => by
    show PyData.eqv (.list (xs.map Enc.enc)) (.list (ys.map Enc.enc)) = _
    unfold PyData.eqv
    exact eqvAll xs ys
instance {α β : Type} [Enc α] [DecidableEq α] [i : Sh α] [Enc β] [DecidableEq β] [j : Sh β] : Sh (α × β) where
  dep := max i.dep j.dep + 1
  nn := fun _ h => by cases h
  lay := fun p => by
    show PyData.canLay0 (.tuple [Enc.enc p.1, Enc.enc p.2]) = true
    simp [PyData.canLay0, PyData.canLayAll0, Sh.lay p.1, Sh.lay p.2]
  dp := fun p => by
    show PyData.depth (.tuple [Enc.enc p.1, Enc.enc p.2]) ≤ _
    have h1 := i.dp p.1
    have h2 := j.dp p.2
    simp only [PyData.depth, PyData.depthAll]
    omega
  eqv := fun p q => by
    show PyData.eqv (.tuple [Enc.enc p.1, Enc.enc p.2]) (.tuple [Enc.enc q.1, Enc.enc q.2]) = _
    simp only [PyData.eqv, PyData.eqvAll, Sh.eqv, Bool.and_true]
    by_cases h1 : p.1 = q.1 <;> by_cases h2 : p.2 = q.2 <;> simp [h1, h2, Prod.ext_iff]
theorem tp3_ext {α β γ : Type} {p q : Tp3 α β γ} : p = q ↔ p.a = q.a ∧ p.b = q.b ∧ p.c = q.c := by cases p; cases q; simp
theorem tp4_ext {α β γ δ : Type} {p q : Tp4 α β γ δ} : p = q ↔ p.a = q.a ∧ p.b = q.b ∧ p.c = q.c ∧ p.d = q.d := by cases p; cases q; simp
instance {α β γ : Type} [Enc α] [DecidableEq α] [i : Sh α] [Enc β] [DecidableEq β] [j : Sh β] [Enc γ] [DecidableEq γ] [k : Sh γ] : Sh (Tp3 α β γ) where
  dep := max i.dep (max j.dep k.dep) + 1
  nn := fun _ h => by cases h
  lay := fun p => by
    show PyData.canLay0 (.tuple [Enc.enc p.a, Enc.enc p.b, Enc.enc p.c]) = true
    simp [PyData.canLay0, PyData.canLayAll0, Sh.lay p.a, Sh.lay p.b, Sh.lay p.c]
  dp := fun p => by
    show PyData.depth (.tuple [Enc.enc p.a, Enc.enc p.b, Enc.enc p.c]) ≤ _
    have h1 := i.dp p.a
    have h2 := j.dp p.b
    have h3 := k.dp p.c
    simp only [PyData.depth, PyData.depthAll]
    omega
  eqv := fun p q => by
    show PyData.eqv (.tuple [Enc.enc p.a, Enc.enc p.b, Enc.enc p.c]) (.tuple [Enc.enc q.a, Enc.enc q.b, Enc.enc q.c]) = _
    simp only [PyData.eqv, PyData.eqvAll, Sh.eqv, Bool.and_true]
    have e : decide (p = q) = decide (p.a = q.a ∧ p.b = q.b ∧ p.c = q.c) := decide_eq_decide.mpr tp3_ext
    rw [e]
    by_cases h1 : p.a = q.a <;> by_cases h2 : p.b = q.b <;> by_cases h3 : p.c = q.c <;> simp [h1, h2, h3]
theorem sh_ok {α : Type} [Enc α] [DecidableEq α] [i : Sh α] (h : i.dep ≤ 64) (x : α) : SeqAt.shaped (Enc.enc x) = true := by
  unfold SeqAt.shaped
  rw [Sh.lay x, Bool.true_and]
  exact decide_eq_true (Nat.le_trans (Sh.dp x) h)
theorem sh_non : SeqAt.shaped PyData.none = true := by decide +kernel
section
variable {α : Type} [Enc α] [DecidableEq α] [i : Sh α]
theorem eq_enc (x y : α) (h : i.dep ≤ 64 := by decide) : dEq (Enc.enc x) (Enc.enc y) = some (.bool (decide (x = y))) := by
  unfold dEq
  rw [if_pos (.inr ⟨sh_ok h x, sh_ok h y⟩), Sh.eqv]
theorem eqv_non (d : D) (h : d ≠ .none) : PyData.eqv .none d = false ∧ PyData.eqv d .none = false := by
  cases d <;> first | exact absurd rfl h | (unfold PyData.eqv; exact ⟨rfl, rfl⟩) | exact ⟨by unfold PyData.eqv; rfl, by unfold PyData.eqv; rfl⟩
theorem eqv_opt (x y : Option α) : PyData.eqv (Enc.enc x) (Enc.enc y) = decide (x = y) := by
  cases x with
  | none =>
    cases y with
    | none =>
      show PyData.eqv .none .none = _
      unfold PyData.eqv
      rfl
    | some b => exact (eqv_non _ (Sh.nn b)).1
  | some a =>
    cases y with
    | none => exact (eqv_non _ (Sh.nn a)).2
    | some b =>
      show PyData.eqv (Enc.enc a) (Enc.enc b) = _
      rw [Sh.eqv]
      exact decide_eq_decide.mpr ⟨fun h => by rw [h], fun h => Option.some.inj h⟩
theorem sh_opt (h : i.dep ≤ 64) (x : Option α) : SeqAt.shaped (Enc.enc x) = true := by
  cases x with
  | none => exact sh_non
  | some a => exact sh_ok h a
theorem eq_opt (x y : Option α) (h : i.dep ≤ 64 := by decide) : dEq (Enc.enc x) (Enc.enc y) = some (.bool (decide (x = y))) := by
  unfold dEq
  rw [if_pos (.inr ⟨sh_opt h x, sh_opt h y⟩), eqv_opt]
theorem is_non (x : Option α) : dIs (Enc.enc x) .none = some (.bool x.isNone) := by
  cases x with
  | none => rfl
  | some a =>
    have h := Sh.nn a
    show dIs (Enc.enc a) .none = _
    generalize Enc.enc a = d at h
    cases d <;> first | exact absurd rfl h | rfl
theorem isN_non (x : Option α) : dIsN (Enc.enc x) .none = some (.bool x.isSome) := by
  cases x with
  | none => rfl
  | some a =>
    have h := Sh.nn a
    show dIsN (Enc.enc a) .none = _
    generalize Enc.enc a = d at h
    cases d <;> first | exact absurd rfl h | rfl
def memT {α : Type} [DecidableEq α] (x : α) (ys : List α) : Bool := decide (x ∈ ys)
end
section
variable {α β : Type} [Enc α] [Enc β]
theorem len_l (xs : List α) : dLen (.list (xs.map Enc.enc)) = some (.int xs.length) := by
  show some (PyData.int ((xs.map Enc.enc).length : Int)) = _
  rw [List.length_map]
theorem atI_map {α β : Type} (f : α → β) (xs : List α) (i : Int) : atI (xs.map f) i = (atI xs i).map f := by
  unfold atI
  rw [List.length_map]
  cases ixN xs.length i with
  | none => rfl
  | some j => exact List.getElem?_map ..
theorem ix_l (xs : List α) (i : Int) : dIx (.list (xs.map Enc.enc)) (.int i) = (atI xs i).map Enc.enc := atI_map _ _ _
def catT {α : Type} (xs ys : List α) : Option (List α) := if xs.length + ys.length ≤ sizeLine then some (xs ++ ys) else none
theorem cat_l (xs ys : List α) : dAdd (.list (xs.map Enc.enc)) (.list (ys.map Enc.enc)) = (catT xs ys).map fun z => S.ol (z.map Enc.enc) := by
  rw [dAdd_list, List.length_map, List.length_map]
  unfold catT
  split
  · simp
  · rfl
@[irreducible] def mulT (x y : Int) : Option Int := if mulOk x y = true then some (x * y) else none
theorem mul_i (x y : Int) : dMul (.int x) (.int y) = (mulT x y).map fun z => S.d (.int z) := by
  unfold mulT
  by_cases h : mulOk x y = true
  · rw [if_pos h]
    show ((if mulOk x y = true then some (PyData.int (x * y)) else none).map S.d).orElse _ = _
    rw [if_pos h]
    rfl
  · rw [if_neg h]
    show ((if mulOk x y = true then some (PyData.int (x * y)) else none).map S.d).orElse _ = _
    rw [if_neg h]
    rfl
@[irreducible] def repT {α : Type} (xs : List α) (k : Int) : Option (List α) := if repOk xs.length k = true then some (List.replicate k.toNat xs).flatten else none
theorem rep_l (xs : List α) (k : Int) : dMul (.list (xs.map Enc.enc)) (.int k) = (repT xs k).map fun z => S.ol (z.map Enc.enc) := by
  have h1 : dMul (.list (xs.map Enc.enc)) (.int k) = if repOk (xs.map Enc.enc).length k = true then some (S.ol (List.replicate k.toNat (xs.map Enc.enc)).flatten) else none := rfl
  rw [h1, List.length_map]
  unfold repT
  split
  · show some (S.ol _) = some (S.ol _)
    rw [List.map_flatten, List.map_replicate]
  · rfl
end
section
variable {A : LS} {α β : Type}
theorem pu_c {d : D} : Pu A (gC d) d := fun _ _ => rfl
theorem pu_var {i : Nat} {d : D} (h : A[i]? = some (some (.d d))) : Pu A (gVar i) d := fun L hL => by
  unfold gVar
  rw [hL.2 i _ h]
theorem pu_peek {i : Nat} {d : D} (h : A[i]? = some (some (.d d))) : Pu A (gPeek i) d := fun L hL => by
  unfold gPeek
  rw [hL.2 i _ h]
theorem pu_peekL {i : Nat} {ds : List D} (h : A[i]? = some (some (.ol ds))) : Pu A (gPeek i) (.list ds) := fun L hL => by
  unfold gPeek
  rw [hL.2 i _ h]
theorem pu_d {g : LS → R D} {d : D} (h : Pu A g d) : Pu A (gD g) (.d d) := fun L hL => by
  show (g L).bind _ = _
  rw [h L hL]
  rfl
theorem pu_fz {g : LS → R S} {d : D} (h : Pu A g (.d d)) : Pu A (gFz g) d := fun L hL => by
  show (g L).bind frS = _
  rw [h L hL]
  rfl
theorem pu_fzL {g : LS → R S} {ds : List D} (h : Pu A g (.ol ds)) : Pu A (gFz g) (.list ds) := fun L hL => by
  show (g L).bind frS = _
  rw [h L hL]
  rfl
theorem pu_op {f : D → D → Option α} {ga gb : LS → R D} {d e : D} {z : α} (ha : Pu A ga d) (hb : Pu A gb e) (h : f d e = some z) : Pu A (gOp f ga gb) z := fun L hL => by
  show (ga L).bind _ = _
  rw [ha L hL]
  show (gb L).bind _ = _
  rw [hb L hL]
  show ofO (f d e) L = _
  rw [h]
  rfl
theorem pu_un {f : D → Option α} {ga : LS → R D} {d : D} {z : α} (ha : Pu A ga d) (h : f d = some z) : Pu A (gUn f ga) z := fun L hL => by
  show (ga L).bind _ = _
  rw [ha L hL]
  show ofO (f d) L = _
  rw [h]
  rfl
theorem pu_ga {f : List D → Option α} {gs : LS → R (List D)} {ds : List D} {z : α} (ha : Pu A gs ds) (h : f ds = some z) : Pu A (gA f gs) z := fun L hL => by
  show (gs L).bind _ = _
  rw [ha L hL]
  show ofO (f ds) L = _
  rw [h]
  rfl
theorem pu_B {g : LS → R D} {b : Bool} (h : Pu A g (.bool b)) : Pu A (gB g) b := fun L hL => by
  show (g L).bind asB = _
  rw [h L hL]
  rfl
theorem pu_nil : Pu A gNil [] := fun _ _ => rfl
theorem pu_cons {a : LS → R D} {r : LS → R (List D)} {d : D} {ds : List D} (h1 : Pu A a d) (h2 : Pu A r ds) : Pu A (gCons a r) (d :: ds) := fun L hL => by
  show (a L).bind _ = _
  rw [h1 L hL]
  show (r L).bind _ = _
  rw [h2 L hL]
  rfl
theorem pu_tup {a : LS → R (List D)} {ds : List D} (h : Pu A a ds) (hl : ds.length ≤ 1000 := by decide) : Pu A (gTup a) (.tuple ds) := fun L hL => by
  show (a L).bind _ = _
  rw [h L hL]
  exact if_pos (Nat.le_trans hl (by rw [PySem.sizeLine_eq]; decide))
theorem pu_lst {a : LS → R (List D)} {ds : List D} (h : Pu A a ds) (hl : ds.length ≤ 1000 := by decide) : Pu A (gLst a) (.ol ds) := fun L hL => by
  show (a L).bind _ = _
  rw [h L hL]
  exact if_pos (Nat.le_trans hl (by rw [PySem.sizeLine_eq]; decide))
theorem pu_or {a b : LS → R Bool} {x y : Bool} (h1 : Pu A a x) (h2 : Pu A b y) : Pu A (gOr a b) (x || y) := fun L hL => by
  show (a L).bind _ = _
  rw [h1 L hL]
  cases x with
  | true => rfl
  | false => exact h2 L hL
theorem pu_not {a : LS → R Bool} {x : Bool} (h1 : Pu A a x) : Pu A (gNot a) (!x) := fun L hL => by
  show (a L).bind _ = _
  rw [h1 L hL]
  rfl
theorem pu_andV {a b : LS → R D} {x y : Bool} (h1 : Pu A a (.bool x)) (h2 : Pu A b (.bool y)) : Pu A (gAndV a b) (.bool (x && y)) := fun L hL => by
  show (a L).bind _ = _
  rw [h1 L hL]
  cases x with
  | true => exact h2 L hL
  | false => rfl
theorem pu_isi {T : String} {ga : LS → R D} {d : D} {b : Bool} (h : Pu A ga d) (hk : kitB (dTy d) T = some b) : Pu A (gIsi T ga) (.bool b) := pu_un h (by unfold isTy; rw [hk]; rfl)
def rangeT (n : Nat) : List Int := (List.range n).map fun (k : Nat) => (k : Int)
def rangeT2 (lo : Int) (n : Nat) : List Int := (List.range n).map fun (k : Nat) => lo + (k : Int)
theorem intsD_T (n : Nat) : intsD 0 n = (rangeT n).map Enc.enc := by
  unfold intsD rangeT
  rw [List.map_map]
  refine List.map_congr_left fun k _ => ?_
  show PyData.int (0 + (k : Int)) = PyData.int (k : Int)
  rw [Int.zero_add]
theorem intsD_T2 (lo : Int) (n : Nat) : intsD lo n = (rangeT2 lo n).map Enc.enc := by
  unfold intsD rangeT2
  rw [List.map_map]
  rfl
def inR (j : Int) : Prop := -4611686018427387904 ≤ j ∧ j < 4611686018427387904
instance (j : Int) : Decidable (inR j) := by
  unfold inR
  exact inferInstance
theorem inR_of {j : Int} (h : inR j) : -(2 ^ 62) ≤ j ∧ j < 2 ^ 62 := by
  unfold inR at h
  omega
theorem inR_ok {j : Int} (h0 : -1000000000 ≤ j) (h1 : j ≤ 1000000000) : inR j := by
  unfold inR
  omega
end
end VS

namespace VS
open PySem PySem.Spec PyProof.Rows L2
section
variable {ε ε' α β γ δ ω ν ρ : Type} {A A' : LS} {F : β → ω} {B : β → LS} {X : ε → LS} {t : T ε β}
def appEnd (i : Nat) (d : D) (L1 : LS) : R S := gOwnL i (fun ds L2 => if ds.length < sizeLine then .ok (.d .none) (L2.set i (some (.ol (ds ++ [d])))) else .stuck) L1
theorem e_app {i : Nat} {ds : List D} {g : LS → R D} {k : S → LS → R ω} (h : A[i]? = some (some (.ol ds))) (h2 : SK A (fun L => (g L).bind fun d L1 => (appEnd i d L1).bind k) t F B X) : SK A (fun L => (gApp i g L).bind k) t F B X := fun L hL => by
  have h3 := h2 L hL
  show SimR ((gApp i g L).bind k) t F B X
  unfold gApp gOwnL
  rw [hL.2 i _ h]
  show SimR (((g L).bind fun d L1 => appEnd i d L1).bind k) t F B X
  rw [bind_assoc']
  exact h3
theorem c_app [Enc α] {i : Nat} {xs : List α} {x : α} {k : S → LS → R ω} {A' : LS} (h : A[i]? = some (some (.ol (xs.map Enc.enc)))) (hA : A.set i (some (.ol ((xs ++ [x]).map Enc.enc))) = A') (h2 : SK A' (k (.d .none)) t F B X) : SK A (fun L => (appEnd i (Enc.enc x) L).bind k) (T.gd (xs.length < sizeLine) t) F B X := k_gd fun hs L hL => by
  show SimR ((appEnd i (Enc.enc x) L).bind k) t F B X
  unfold appEnd gOwnL
  rw [hL.2 i _ h]
  show SimR ((if (xs.map Enc.enc).length < sizeLine then R.ok (S.d .none) (L.set i (some (.ol (xs.map Enc.enc ++ [Enc.enc x])))) else .stuck).bind k) t F B X
  rw [List.length_map, if_pos hs]
  refine h2 _ ?_
  rw [← hA, List.map_append]
  exact hL.set i _
def setQ (i : Nat) (gk : LS → R D) (d : D) (L1 : LS) : R O := match L1[i]? with
  | some (some _) => (gk L1).bind (setAt i d)
  | _ => .stuck
theorem s_setIx {K : Kont ω} {i : Nat} {gk g : LS → R D} (h : SK A (fun L => (g L).bind fun d L1 => fin K (setQ i gk d L1)) t F B X) : SS A (gSetIx i gk g) K t F B X := s_bind h
def setT {α : Type} (xs : List α) (k : Int) (x : α) : Option (List α) := (ixN xs.length k).map fun j => xs.set j x
theorem c_setIx [Enc α] {K : Kont ω} {i : Nat} {gk : LS → R D} {xs : List α} {x : α} {j : Int} {t' : List α → T ε β} (h : A[i]? = some (some (.ol (xs.map Enc.enc)))) (hk : Pu A gk (.int j)) (h2 : ∀ ys, SK (A.set i (some (.ol (ys.map Enc.enc)))) K.nx (t' ys) F B X) :
    SK A (fun L => fin K (setQ i gk (Enc.enc x) L)) ((T.ofO (setT xs j x)).bind t') F B X := fun L hL => by
  show SimR (fin K (setQ i gk (Enc.enc x) L)) _ F B X
  unfold setQ setT
  rw [hL.2 i _ h]
  show SimR (fin K ((gk L).bind (setAt i (Enc.enc x)))) _ F B X
  rw [hk L hL]
  show SimR (fin K (match L[i]? with
    | some (some (.ol ds)) => (match ixN ds.length j with
      | some m => R.ok .nx (L.set i (some (.ol (ds.set m (Enc.enc x)))))
      | none => .stuck)
    | _ => .stuck)) _ F B X
  rw [hL.2 i _ h]
  show SimR (fin K (match ixN (xs.map Enc.enc).length j with
      | some m => R.ok .nx (L.set i (some (.ol ((xs.map Enc.enc).set m (Enc.enc x)))))
      | none => .stuck)) _ F B X
  rw [List.length_map]
  cases ixN xs.length j with
  | none => trivial
  | some m =>
    have := h2 (xs.set m x) (L.set i (some (.ol ((xs.set m x).map Enc.enc)))) (hL.set i _)
    rw [List.map_set] at this
    exact this
theorem e_ixP {i : Nat} {s : S} {gb : LS → R D} {k : D → LS → R ω} (h : A[i]? = some (some s)) (h2 : SK A (fun L => (gb L).bind fun e L1 => (gPeek i L1).bind fun d L2 => (ofO (dIx d e) L2).bind k) t F B X) : SK A (fun L => (gIxP i gb L).bind k) t F B X := fun L hL => by
  have h3 := h2 L hL
  show SimR ((gIxP i gb L).bind k) t F B X
  unfold gIxP
  rw [hL.2 i _ h]
  show SimR (((gb L).bind fun e L1 => (gPeek i L1).bind fun d L2 => ofO (dIx d e) L2).bind k) t F B X
  rw [bind_assoc']
  dsimp only at h3
  cases e : gb L with
  | stuck => rw [e] at h3; exact h3
  | err c L1 => rw [e] at h3; exact h3
  | ok z L1 =>
    rw [e] at h3
    show SimR (((gPeek i L1).bind fun d L2 => ofO (dIx d z) L2).bind k) t F B X
    rw [bind_assoc']
    exact h3
class EncK (κ : Type) where
  ks : κ → List Key
  inj : ∀ a b, ks a = ks b → a = b
class Enc1 (κ : Type) where
  k1 : κ → Key
  inj : ∀ a b, k1 a = k1 b → a = b
instance : Enc1 Int := ⟨.inl, fun _ _ h => Sum.inl.inj h⟩
instance : Enc1 Tx := ⟨fun x => .inr x.s, fun _ _ h => Tx.s_inj (Sum.inr.inj h)⟩
instance {κ μ : Type} [Enc1 κ] [Enc1 μ] : EncK (κ × μ) := ⟨fun p => [Enc1.k1 p.1, Enc1.k1 p.2], fun a b h => by
  injection h with h1 h2
  injection h2 with h2 _
  exact Prod.ext (Enc1.inj _ _ h1) (Enc1.inj _ _ h2)⟩
class KD1 (κ : Type) [Enc κ] [Enc1 κ] : Prop where
  eq : ∀ x : κ, keyD (Enc.enc x) = some (Enc1.k1 x)
class KDs (κ : Type) [Enc κ] [EncK κ] : Prop where
  eq : ∀ x : κ, keysD (Enc.enc x) = some (EncK.ks x)
instance : KD1 Int := ⟨fun _ => rfl⟩
instance : KD1 Tx := ⟨fun _ => rfl⟩
instance {κ μ : Type} [Enc κ] [Enc1 κ] [KD1 κ] [Enc μ] [Enc1 μ] [KD1 μ] : KDs (κ × μ) := ⟨fun p => by
  show (keyD (Enc.enc p.1)).bind (fun k => ((keyD (Enc.enc p.2)).bind fun k => ((some [] : Option (List Key)).map (k :: ·))).map (k :: ·)) = _
  rw [KD1.eq p.1, KD1.eq p.2]
  rfl⟩
abbrev Dt (κ α : Type) := List (κ × α)
def dget {κ : Type} [DecidableEq κ] (d : Dt κ α) (k : κ) : Option α := (d.find? fun p => decide (p.1 = k)).map (·.2)
def dput {κ : Type} [DecidableEq κ] (d : Dt κ α) (k : κ) (v : α) : Dt κ α := if (d.any fun p => decide (p.1 = k)) = true then d.map (fun p => if p.1 = k then (p.1, v) else p) else d ++ [(k, v)]
def encT {κ α : Type} [EncK κ] [Enc α] (d : Dt κ α) : List (List Key × D) := d.map fun p => (EncK.ks p.1, Enc.enc p.2)
def enc1 {κ α : Type} [Enc1 κ] [Enc α] (d : Dt κ α) : List (Key × D) := d.map fun p => (Enc1.k1 p.1, Enc.enc p.2)
abbrev tv {κ α : Type} [EncK κ] [Enc α] (d : Dt κ α) : Option S := some (.odT (encT d))
abbrev kv {κ α : Type} [Enc1 κ] [Enc α] (d : Dt κ α) : Option S := some (.odK (enc1 d))
theorem val_gen {κ μ : Type} [DecidableEq κ] [DecidableEq μ] [Enc α] (f : κ → μ) (hf : ∀ a b, f a = f b → a = b) (k : κ) : ∀ d : Dt κ α, valK (d.map fun p => (f p.1, Enc.enc p.2)) (f k) = (dget d k).map Enc.enc
  | [] => rfl
  | p :: d => by
    have ih := val_gen f hf k d
    unfold valK dget at *
    by_cases h : p.1 = k
    · rw [List.map_cons, List.find?_cons_of_pos (l := d.map fun p => (f p.1, Enc.enc p.2)) (by simp [h]), List.find?_cons_of_pos (l := d) (by simp [h])]
      rfl
    · have h' : ¬ f p.1 = f k := fun z => h (hf _ _ z)
      rw [List.map_cons, List.find?_cons_of_neg (l := d.map fun p => (f p.1, Enc.enc p.2)) (by simp [h']), List.find?_cons_of_neg (l := d) (by simp [h])]
      exact ih
theorem put_gen {κ μ : Type} [DecidableEq κ] [DecidableEq μ] [Enc α] (f : κ → μ) (hf : ∀ a b, f a = f b → a = b) (k : κ) (v : α) (d : Dt κ α) : putD (d.map fun p => (f p.1, Enc.enc p.2)) (f k) (Enc.enc v) = (dput d k v).map fun p => (f p.1, Enc.enc p.2) := by
  unfold putD dput
  have hany : ((d.map fun p => (f p.1, (Enc.enc p.2 : D))).any fun kv => decide (kv.1 = f k)) = d.any fun p => decide (p.1 = k) := by
    rw [List.any_map]
    congr 1
    funext p
    exact decide_eq_decide.mpr ⟨fun z => hf _ _ z, fun z => by rw [← z]⟩
  rw [hany]
  split
  · rw [List.map_map, List.map_map]
    refine List.map_congr_left fun p _ => ?_
    show (if f p.1 = f k then (f p.1, Enc.enc v) else (f p.1, Enc.enc p.2)) = (f (if p.1 = k then (p.1, v) else p).1, Enc.enc (if p.1 = k then (p.1, v) else p).2)
    by_cases h : p.1 = k
    · rw [if_pos h, if_pos (by rw [h])]
    · rw [if_neg h, if_neg (fun z => h (hf _ _ z))]
  · rw [List.map_append]
    rfl
section
variable {κ : Type} [DecidableEq κ] [Enc κ] [Enc α] {i : Nat} {d : Dt κ α} {x : κ}
theorem dictAt_T [EncK κ] [KDs κ] {L : LS} (h : L[i]? = some (tv d)) : dictAt L[i]? (Enc.enc x) = some ((dget d x).map Enc.enc) := by
  rw [h]
  show (keysD (Enc.enc x)).map (valK (encT d)) = _
  rw [KDs.eq x]
  exact congrArg some (val_gen EncK.ks EncK.inj x d)
theorem dictAt_K [Enc1 κ] [KD1 κ] {L : LS} (h : L[i]? = some (kv d)) : dictAt L[i]? (Enc.enc x) = some ((dget d x).map Enc.enc) := by
  rw [h]
  show (keyD (Enc.enc x)).map (valK (enc1 d)) = _
  rw [KD1.eq x]
  exact congrArg some (val_gen Enc1.k1 Enc1.inj x d)
theorem isSome_map {α β : Type} (f : α → β) (o : Option α) : (o.map f).isSome = o.isSome := by cases o <;> rfl
theorem pu_dinT [EncK κ] [KDs κ] {ng : Bool} {g : LS → R D} (h : A[i]? = some (tv d)) (hg : Pu A g (Enc.enc x)) : Pu A (gDIn ng i g) (.bool (if ng = true then !(dget d x).isSome else (dget d x).isSome)) := fun L hL => by
  show (g L).bind (dinK ng i) = _
  rw [hg L hL]
  show (match dictAt L[i]? (Enc.enc x) with
    | some r => R.ok (PyData.bool (if ng then !r.isSome else r.isSome)) L
    | none => .stuck) = _
  rw [dictAt_T (hL.2 i _ h)]
  show R.ok (PyData.bool (if ng then !((dget d x).map Enc.enc).isSome else ((dget d x).map Enc.enc).isSome)) L = _
  rw [isSome_map]
theorem pu_dinK [Enc1 κ] [KD1 κ] {ng : Bool} {g : LS → R D} (h : A[i]? = some (kv d)) (hg : Pu A g (Enc.enc x)) : Pu A (gDIn ng i g) (.bool (if ng = true then !(dget d x).isSome else (dget d x).isSome)) := fun L hL => by
  show (g L).bind (dinK ng i) = _
  rw [hg L hL]
  show (match dictAt L[i]? (Enc.enc x) with
    | some r => R.ok (PyData.bool (if ng then !r.isSome else r.isSome)) L
    | none => .stuck) = _
  rw [dictAt_K (hL.2 i _ h)]
  show R.ok (PyData.bool (if ng then !((dget d x).map Enc.enc).isSome else ((dget d x).map Enc.enc).isSome)) L = _
  rw [isSome_map]
theorem e_dgetT [EncK κ] [KDs κ] {g : LS → R D} {k : D → LS → R ω} {t' : α → T ε β} (h : A[i]? = some (tv d)) (hg : Pu A g (Enc.enc x)) (h2 : ∀ z, SK A (k (Enc.enc z)) (t' z) F B X) : SK A (fun L => (gDGet i g L).bind k) ((T.ofO (dget d x)).bind t') F B X := fun L hL => by
  show SimR ((gDGet i g L).bind k) _ F B X
  unfold gDGet
  rw [hL.2 i _ h]
  show SimR (((g L).bind fun d L1 => (match dictAt L1[i]? d with
    | some (some z) => R.ok z L1
    | _ => .stuck)).bind k) _ F B X
  rw [hg L hL]
  show SimR ((match dictAt L[i]? (Enc.enc x) with
    | some (some z) => R.ok z L
    | _ => .stuck).bind k) _ F B X
  rw [dictAt_T (hL.2 i _ h)]
  cases dget d x with
  | none => trivial
  | some z => exact h2 z L hL
theorem e_dgetK [Enc1 κ] [KD1 κ] {g : LS → R D} {k : D → LS → R ω} {t' : α → T ε β} (h : A[i]? = some (kv d)) (hg : Pu A g (Enc.enc x)) (h2 : ∀ z, SK A (k (Enc.enc z)) (t' z) F B X) : SK A (fun L => (gDGet i g L).bind k) ((T.ofO (dget d x)).bind t') F B X := fun L hL => by
  show SimR ((gDGet i g L).bind k) _ F B X
  unfold gDGet
  rw [hL.2 i _ h]
  show SimR (((g L).bind fun d L1 => (match dictAt L1[i]? d with
    | some (some z) => R.ok z L1
    | _ => .stuck)).bind k) _ F B X
  rw [hg L hL]
  show SimR ((match dictAt L[i]? (Enc.enc x) with
    | some (some z) => R.ok z L
    | _ => .stuck).bind k) _ F B X
  rw [dictAt_K (hL.2 i _ h)]
  cases dget d x with
  | none => trivial
  | some z => exact h2 z L hL
def dputQ (i : Nat) (gk : LS → R D) (e : D) (L1 : LS) : R O := match L1[i]? with
  | some (some _) => (gk L1).bind fun d L2 => (match dictPut L2[i]? d e with
    | some s => .ok .nx (L2.set i (some s))
    | none => .stuck)
  | _ => .stuck
omit [DecidableEq κ] [Enc κ] [Enc α] in
theorem s_dput {K : Kont ω} {gk g : LS → R D} (h : SK A (fun L => (g L).bind fun d L1 => fin K (dputQ i gk d L1)) t F B X) : SS A (gDPut i gk g) K t F B X := s_bind h
def dputE (i : Nat) (e : D) (d : D) (L2 : LS) : R O := match dictPut L2[i]? d e with
    | some s => .ok .nx (L2.set i (some s))
    | none => .stuck
omit [DecidableEq κ] [Enc κ] [Enc α] in
theorem s_dputk {K : Kont ω} {gk : LS → R D} {e : D} {s : S} (h : A[i]? = some (some s)) (h2 : SK A (fun L => (gk L).bind fun d L1 => fin K (dputE i e d L1)) t F B X) : SK A (fun L => fin K (dputQ i gk e L)) t F B X := fun L hL => by
  have h3 := h2 L hL
  show SimR (fin K (dputQ i gk e L)) t F B X
  unfold dputQ
  rw [hL.2 i _ h]
  show SimR (fin K ((gk L).bind (dputE i e))) t F B X
  rw [fin_bind]
  exact h3
theorem c_dputT [EncK κ] [KDs κ] {K : Kont ω} {z : α} {A' : LS} (h : A[i]? = some (tv d)) (hA : A.set i (tv (dput d x z)) = A') (h2 : SK A' K.nx t F B X) : SK A (fun L => fin K (dputE i (Enc.enc z) (Enc.enc x) L)) (T.gd (d.length < sizeLine) t) F B X := k_gd fun hs L hL => by
  show SimR (fin K (dputE i (Enc.enc z) (Enc.enc x) L)) t F B X
  unfold dputE
  rw [hL.2 i _ h]
  have e : dictPut (some (tv d)) (Enc.enc x) (Enc.enc z) = some (.odT (encT (dput d x z))) := by
    show (if (encT d).length < sizeLine then (keysD (Enc.enc x)).map fun k => S.odT (putD (encT d) k (Enc.enc z)) else none) = _
    rw [show (encT d).length = d.length from List.length_map .., if_pos hs, KDs.eq x]
    exact congrArg (fun l => some (S.odT l)) (put_gen EncK.ks EncK.inj x z d)
  rw [e]
  refine h2 _ ?_
  rw [← hA]
  exact hL.set i _
theorem c_dputK [Enc1 κ] [KD1 κ] {K : Kont ω} {z : α} {A' : LS} (h : A[i]? = some (kv d)) (hA : A.set i (kv (dput d x z)) = A') (h2 : SK A' K.nx t F B X) : SK A (fun L => fin K (dputE i (Enc.enc z) (Enc.enc x) L)) (T.gd (d.length < sizeLine) t) F B X := k_gd fun hs L hL => by
  show SimR (fin K (dputE i (Enc.enc z) (Enc.enc x) L)) t F B X
  unfold dputE
  rw [hL.2 i _ h]
  have e : dictPut (some (kv d)) (Enc.enc x) (Enc.enc z) = some (.odK (enc1 (dput d x z))) := by
    show (if (enc1 d).length < sizeLine then (keyD (Enc.enc x)).map fun k => S.odK (putD (enc1 d) k (Enc.enc z)) else none) = _
    rw [show (enc1 d).length = d.length from List.length_map .., if_pos hs, KD1.eq x]
    exact congrArg (fun l => some (S.odK l)) (put_gen Enc1.k1 Enc1.inj x z d)
  rw [e]
  refine h2 _ ?_
  rw [← hA]
  exact hL.set i _
end

theorem Mt.wipe {A L : LS} (h : Mt A L) : ∀ vs : List Nat, Mt (wipeL A vs) (wipeL L vs)
  | [] => h
  | v :: vs => (h.wipe vs).set v none
def T.lcp {ε α β : Type} (xs : List α) (p : α → Bool) (h : α → β) : T ε (List β) := if xs.length ≤ sizeLine then .ok ((xs.filter p).map h) else .no
theorem e_lcp [Enc γ] {vs : List Nat} {gi : LS → R (List D)} {f : D → LS → Option LS} {gt : LS → R Bool} {ge : LS → R D} {e : α → D} {xs : List α} {k : S → LS → R ω} (A0 : LS) (A1 : α → LS) {p : α → Bool} {h : α → γ} {t' : List γ → T ε β} (hi : Pu A gi (xs.map e)) (h0 : Mt A0 (wipeL A vs)) (hf : ∀ x, Tg A0 f (e x) (A1 x))
    (hp : ∀ x, Pu (A1 x) gt (p x)) (hh : ∀ x, Pu (A1 x) ge (Enc.enc (h x))) (hw : ∀ x, Mt A0 (wipeL (A1 x) vs)) (h2 : ∀ ys, SK A0 (k (.ol (ys.map Enc.enc))) (t' ys) F B X) :
    SK A (fun L => (gLc vs gi f gt ge L).bind k) ((T.lcp xs p h).bind t') F B X := by
  have key : ∀ (xs : List α) (acc : List γ) (L : LS), Mt A0 L → acc.length + xs.length ≤ sizeLine → ∃ L', lcGo vs f gt ge (xs.map e) (acc.map Enc.enc) L = .ok (.ol ((acc ++ (xs.filter p).map h).map Enc.enc)) L' ∧ Mt A0 L' := by
    intro xs
    induction xs with
    | nil =>
      intro acc L hL _
      refine ⟨L, ?_, hL⟩
      simp [lcGo]
    | cons x xs ih =>
      intro acc L hL hs
      rw [List.length_cons] at hs
      obtain ⟨L1, h3, h4⟩ := hf x L hL
      rw [List.map_cons]
      unfold lcGo
      rw [h3]
      have h5 := hp x L1 h4
      have h6 := hh x L1 h4
      cases hpx : p x with
      | false =>
        rw [hpx] at h5
        simp only [h5]
        rw [if_neg (by simp), List.filter_cons_of_neg (by simp [hpx])]
        exact ih acc _ ((hw x).trans (h4.wipe vs)) (by omega)
      | true =>
        rw [hpx] at h5
        simp only [h5, h6]
        rw [if_pos trivial, List.length_map, if_pos (by omega), List.filter_cons_of_pos (by simp [hpx])]
        obtain ⟨L', h7, h8⟩ := ih (acc ++ [h x]) _ ((hw x).trans (h4.wipe vs)) (by rw [List.length_append]; simp; omega)
        refine ⟨L', ?_, h8⟩
        rw [List.map_append] at h7
        rw [List.map_cons, show acc ++ h x :: (xs.filter p).map h = acc ++ [h x] ++ (xs.filter p).map h by simp]
        exact h7
  intro L hL
  show SimR (((gi L).bind fun ds L1 => lcGo vs f gt ge ds [] (wipeL L1 vs)).bind k) _ F B X
  rw [hi L hL]
  show SimR ((lcGo vs f gt ge (xs.map e) [] (wipeL L vs)).bind k) ((T.lcp xs p h).bind t') F B X
  unfold T.lcp
  by_cases hs : xs.length ≤ sizeLine
  · rw [if_pos hs]
    obtain ⟨L', h7, h8⟩ := key xs [] (wipeL L vs) (h0.trans (hL.wipe vs)) (by simpa using hs)
    rw [List.map_nil] at h7
    rw [h7, List.nil_append]
    exact h2 _ L' h8
  · rw [if_neg hs]
    trivial

end
end VS

namespace VS
open PySem PySem.Spec PyProof.Rows L2
section
variable {ε ε' α β γ δ ω ν ρ : Type} {A A' : LS} {F : β → ω} {B : β → LS} {X : ε → LS} {t : T ε β}
abbrev XV : Empty → LS := fun e => e.elim
def T.up {ε α : Type} (t : T Empty α) : T ε α := t.lift Empty.elim
theorem xe_no {X G : Empty → LS} : ∀ e : Empty, Mt (X e) (G e) := fun e => e.elim
def orQ (x : Bool) (b : LS → R Bool) : LS → R Bool := fun L => if x = true then .ok true L else b L
def andQ (x : Bool) (b : LS → R Bool) : LS → R Bool := fun L => if x = true then b L else .ok false L
theorem e_orL {a b : LS → R Bool} {k : Bool → LS → R ω} (h : SK A (fun L => (a L).bind fun x L1 => (orQ x b L1).bind k) t F B X) : SK A (fun L => (gOr a b L).bind k) t F B X := e_bind h
theorem e_andL {a b : LS → R Bool} {k : Bool → LS → R ω} (h : SK A (fun L => (a L).bind fun x L1 => (andQ x b L1).bind k) t F B X) : SK A (fun L => (gAnd a b L).bind k) t F B X := e_bind h
theorem c_or {b : LS → R Bool} {x : Bool} {k : Bool → LS → R ω} {t1 t2 : T ε β} (h1 : SK A (k true) t1 F B X) (h2 : SK A (fun L => (b L).bind k) t2 F B X) : SK A (fun L => (orQ x b L).bind k) (if x = true then t1 else t2) F B X := by
  cases x with
  | true => exact h1
  | false => exact h2
theorem c_and {b : LS → R Bool} {x : Bool} {k : Bool → LS → R ω} {t1 t2 : T ε β} (h1 : SK A (fun L => (b L).bind k) t1 F B X) (h2 : SK A (k false) t2 F B X) : SK A (fun L => (andQ x b L).bind k) (if x = true then t1 else t2) F B X := by
  cases x with
  | true => exact h1
  | false => exact h2
theorem e_items {g : LS → R D} {k : List D → LS → R ω} (h : SK A (fun L => (g L).bind fun d L1 => (asItems d L1).bind k) t F B X) : SK A (fun L => ((g L).bind asItems).bind k) t F B X := e_bind h
theorem e_rng1 {g : LS → R (List D)} {k : List D → LS → R ω} (h : SK A (fun L => (g L).bind fun d L1 => (rng1 d L1).bind k) t F B X) : SK A (fun L => ((g L).bind rng1).bind k) t F B X := e_bind h
theorem c_rng1 {n : Int} {k : List D → LS → R ω} (h : SK A (k ((rangeT n.toNat).map Enc.enc)) t F B X) : SK A (fun L => (rng1 [Enc.enc n] L).bind k) (T.gd (inR n) t) F B X := k_gd fun hn L hL => by
  have h := h L hL
  show SimR ((if -(2 ^ 62) ≤ n ∧ n < 2 ^ 62 then R.ok (intsD 0 n.toNat) L else .stuck).bind k) t F B X
  rw [if_pos (inR_of hn), intsD_T]
  exact h
theorem s_forE {K : Kont ω} {gi : LS → R (List D)} {f : D → LS → Option LS} {g : LS → R O} (h : SK A (fun L => (gi L).bind fun ds L1 => fin K (forGo f g ds L1)) t F B X) : SS A (gFor gi f g) K t F B X := s_bind h
theorem c_for {K : Kont ω} {f : D → LS → Option LS} {g : LS → R O} {e : α → D} {xs : List α} {v : ν} {t' : ν → T ε β} (Inv : ν → LS) (A1 : α → ν → LS) {tb : α → ν → T ε ν} (h0 : Mt (Inv v) A) (hf : ∀ x v, Tg (Inv v) f (e x) (A1 x v)) (hb : ∀ x v, SS (A1 x v) g KL (tb x v) (fun _ => ()) Inv X)
    (h : ∀ v, SK (Inv v) K.nx (t' v) F B X) : SK A (fun L => fin K (forGo f g (xs.map e) L)) ((T.forM xs v tb).bind t') F B X := fun L hL => by
  have h1 := forGo_M hf hb xs v L (h0.trans hL)
  show SimR (fin K (forGo f g (xs.map e) L)) _ F B X
  cases ht : T.forM xs v tb with
  | no => trivial
  | er c z =>
    rw [ht] at h1
    obtain ⟨L3, h4, h5⟩ := h1
    rw [h4]
    exact ⟨_, rfl, h5⟩
  | ok v' =>
    rw [ht] at h1
    obtain ⟨L3, h4, h5⟩ := h1
    rw [h4]
    exact h v' _ h5
theorem c_forL {K : Kont ω} {f : D → LS → Option LS} {g : LS → R O} {e : α → D} {xs : List α} {v : ν} {tn : ν → T ε β} {tr : ρ → T ε β} (Inv : ν → LS) (Br : ρ → LS) (fr : ρ → S) (A1 : α → ν → LS) {tb : α → ν → T ε (T.Lp ν ρ)} (h0 : Mt (Inv v) A) (hf : ∀ x v, Tg (Inv v) f (e x) (A1 x v)) (hb : ∀ x v, SS (A1 x v) g KB (tb x v) (lpO fr) (lpB Inv Br) X)
    (h : ∀ v, SK (Inv v) K.nx (tn v) F B X) (h3 : ∀ r, SK (Br r) (fun L => K.rt (fr r) L) (tr r) F B X) : SK A (fun L => fin K (forGo f g (xs.map e) L)) (T.bindL (T.forL xs v tb) tn tr) F B X := fun L hL => by
  have h1 := forGo_L hf hb xs v L (h0.trans hL)
  show SimR (fin K (forGo f g (xs.map e) L)) _ F B X
  cases ht : T.forL xs v tb with
  | no => trivial
  | er c z =>
    rw [ht] at h1
    obtain ⟨L3, h4, h5⟩ := h1
    rw [h4]
    exact ⟨_, rfl, h5⟩
  | ok z =>
    rw [ht] at h1
    obtain ⟨L3, h4, h5⟩ := h1
    rw [h4]
    cases z with
    | nx v' => exact h v' _ h5
    | rt r => exact h3 r _ h5
def lcQ (vs : List Nat) (f : D → LS → Option LS) (gt : LS → R Bool) (ge : LS → R D) (ds : List D) (L1 : LS) : R S := lcGo vs f gt ge ds [] (wipeL L1 vs)
theorem e_lcE {vs : List Nat} {gi : LS → R (List D)} {f : D → LS → Option LS} {gt : LS → R Bool} {ge : LS → R D} {k : S → LS → R ω} (h : SK A (fun L => (gi L).bind fun ds L1 => (lcQ vs f gt ge ds L1).bind k) t F B X) : SK A (fun L => (gLc vs gi f gt ge L).bind k) t F B X := e_bind h
theorem c_lcp [Enc γ] {vs : List Nat} {f : D → LS → Option LS} {gt : LS → R Bool} {ge : LS → R D} {e : α → D} {xs : List α} {k : S → LS → R ω} (A0 : LS) (A1 : α → LS) {p : α → Bool} {h : α → γ} {t' : List γ → T ε β} (h0 : Mt A0 (wipeL A vs)) (hf : ∀ x, Tg A0 f (e x) (A1 x))
    (hp : ∀ x, Pu (A1 x) gt (p x)) (hh : ∀ x, Pu (A1 x) ge (Enc.enc (h x))) (hw : ∀ x, Mt A0 (wipeL (A1 x) vs)) (h2 : ∀ ys, SK A0 (k (.ol (ys.map Enc.enc))) (t' ys) F B X) :
    SK A (fun L => (lcQ vs f gt ge (xs.map e) L).bind k) ((T.lcp xs p h).bind t') F B X :=
  e_lcp (gi := fun L => .ok (xs.map e) L) A0 A1 (fun _ _ => rfl) h0 hf hp hh hw h2
theorem law_end {m : LS → R S} {ns : List Int} {tm : T ε Bool} {Fm : Bool → S} {Bm : Bool → LS} {Xm : ε → LS} (hm : SK [some (.scr ns)] m tm Fm Bm Xm) (hF : Fm true = .d (.bool true)) (h : tm = .ok true) : ∃ L, m [some (.scr ns)] = .ok (.d (.bool true)) L := by
  have h1 := hm _ (Mt.refl _)
  rw [h] at h1
  obtain ⟨L, h2, _⟩ := h1
  exact ⟨L, by rw [h2, hF]⟩
end
end VS

namespace VS
open PySem PySem.Spec PyProof.Rows L2
theorem ln {α : Type} {l : List α} {n : Nat} (h : l.length = n) (hn : n ≤ 1000 := by decide) : l.length ≤ 1000 := by rw [h]; exact hn
theorem lnS {α : Type} {l : List α} {n : Nat} (h : l.length = n) (hn : n ≤ 1000 := by decide) : l.length ≤ sizeLine := by
  rw [h, PySem.sizeLine_eq]
  omega
theorem div_lit {x y : Int} (h : 0 < y ∧ y < 1073741824) : dDiv (.int x) (.int y) = some (.int (x / y)) := if_pos (decide_eq_true h)
theorem mul_litR {x y : Int} (h : -(2 ^ 64) < y ∧ y < 2 ^ 64) : dMul (.int x) (.int y) = some (.d (.int (x * y))) := by
  rw [mul_i]
  unfold mulT
  rw [if_pos (show mulOk x y = true from decide_eq_true (.inr h))]
  rfl
def ltT (x y : Tx) : Bool := decide (x.s.cps.toList < y.s.cps.toList)
def maxT (i j : Int) : Int := if j > i then j else i
theorem maxT_eq (i j : Int) : maxT i j = max i j := by unfold maxT; omega
section
variable {ε α β γ ω : Type} {A : LS} {F : β → ω} {B : β → LS} {X : ε → LS} {t : T ε β}
theorem s_iteT {K : Kont ω} {g1 g2 : LS → R O} (h : SS A g1 K t F B X) : SK A (fun L => fin K (if true = true then g1 L else g2 L)) t F B X := h
theorem s_iteF {K : Kont ω} {g1 g2 : LS → R O} (h : SS A g2 K t F B X) : SK A (fun L => fin K (if false = true then g1 L else g2 L)) t F B X := h
theorem Mt.all : ∀ {ss : List S} {L : LS}, Mt (ss.map some) L → L = ss.map some
  | [], [], _ => rfl
  | [], _ :: _, h => by cases h.1
  | s :: ss, [], h => by cases h.1
  | s :: ss, y :: L, h => by
    have h0 := h.2 0 s rfl
    have hy : y = some s := Option.some.inj h0
    rw [hy, Mt.all (ss := ss) (L := L) ⟨Nat.succ.inj h.1, fun i s e => h.2 (i + 1) s e⟩]
    rfl
theorem sk_of {ss : List S} {m : LS → R S} {b : β} {F : β → S} {L' : LS} (h : m (ss.map some) = .ok (F b) L') (hB : Mt (B b) L') : SK (ss.map some) m (T.ok b : T ε β) F B X := fun L hL => by
  rw [hL.all]
  exact ⟨L', h, hB⟩
end
end VS
namespace Ty
open PySem VS Lw
def SrcT : Type := {s : S // Src s}
open Classical in
noncomputable def t_src (ns : List Int) : T Empty SrcT := if h : ns.length ≤ 63 then .ok ⟨_, src_start h⟩ else .no
theorem r_src (ns : List Int) : SK [some (.scr ns)] Lw.m_law_src (t_src ns) (fun r => r.1) (fun _ => [some (.scr ns)]) XV := by
  unfold t_src
  split
  · rename_i h
    exact sk_of (ss := [.scr ns]) (F := fun r : SrcT => r.1) (src_ok h) (Mt.refl _)
  · exact k_no
theorem src_spec {ns : List Int} (h : ns.length ≤ 63) : ∃ s, t_src ns = .ok s := by
  unfold t_src
  rw [dif_pos h]
  exact ⟨_, rfl⟩
def NextQ (s : SrcT) (n : Int) (p : Int × SrcT) : Prop := m_law_next [some s.1, some (.d (.int n))] = .ok (.d (.int p.1)) [some p.2.1, none] ∧ 0 ≤ p.1 ∧ p.1 < n
theorem next_ex (s : SrcT) {n : Int} (h : 0 < n ∧ n < 1073741824) : ∃ p, NextQ s n p := by
  obtain ⟨r, s', e, h0, h1, h2⟩ := next_ok s.2 h.1 h.2
  exact ⟨(r, ⟨s', h2⟩), e, h0, h1⟩
open Classical in
noncomputable def t_next (s : SrcT) (n : Int) : T Empty (Int × SrcT) := if h : 0 < n ∧ n < 1073741824 then .ok (Classical.choose (next_ex s h)) else .no
theorem r_next (s : SrcT) (n : Int) : SK [some s.1, dv n] Lw.m_law_next (t_next s n) (fun r => .d (Enc.enc r.1)) (fun r => [some r.2.1, none]) XV := by
  unfold t_next
  split
  · rename_i h
    exact sk_of (ss := [s.1, .d (.int n)]) (F := fun r : Int × SrcT => .d (.int r.1)) (Classical.choose_spec (next_ex s h)).1 (Mt.refl _)
  · exact k_no
theorem next_spec (s : SrcT) {n : Int} (h : 0 < n ∧ n < 1073741824) : ∃ r s', t_next s n = .ok (r, s') ∧ 0 ≤ r ∧ r < n := by
  have := Classical.choose_spec (next_ex s h)
  exact ⟨_, _, by unfold t_next; rw [dif_pos h], this.2.1, this.2.2⟩
def SmallT (x : Tx) : Prop := ∀ c ∈ x.cs, 97 ≤ c.val ∧ c.val ≤ 122
def GoodT (x : Tx) : Prop := SmallT x ∧ 1 ≤ x.cs.length ∧ x.cs.length ≤ 12
abbrev Oath := Tx × Int
abbrev Suit := Tp4 (List Oath) (List Oath) Int (Option (Int × Tx))
end Ty

namespace VS
open PySem L2
section
variable {ε ε' α β γ ν ρ : Type}
def T.Post (t : T ε α) (P : α → Prop) : Prop := ∃ a, t = .ok a ∧ P a
theorem post_ok {a : α} {P : α → Prop} (h : P a) : (T.ok a : T ε α).Post P := ⟨a, rfl, h⟩
theorem post_bind {t : T ε α} {k : α → T ε β} {P : α → Prop} {Q : β → Prop} (h : t.Post P) (h2 : ∀ a, P a → (k a).Post Q) : (t.bind k).Post Q := by
  obtain ⟨a, rfl, ha⟩ := h
  exact h2 a ha
theorem post_imp {t : T ε α} {P Q : α → Prop} (h : t.Post P) (k : ∀ a, P a → Q a) : t.Post Q := by
  obtain ⟨a, e, ha⟩ := h
  exact ⟨a, e, k a ha⟩
theorem post_gd {p : Prop} [Decidable p] {t : T ε α} {P : α → Prop} (hp : p) (h : t.Post P) : (T.gd p t).Post P := by
  rw [T.gd_of hp]
  exact h
theorem post_ofO {o : Option α} {k : α → T ε β} {Q : β → Prop} {a : α} (e : o = some a) (h : (k a).Post Q) : ((T.ofO o).bind k).Post Q := by
  subst e
  exact h
theorem ofO_some' {a : α} {k : α → T ε β} : (T.ofO (some a)).bind k = k a := rfl
theorem forM_cons {x : α} {xs : List α} {v : ν} {f : α → ν → T ε ν} : T.forM (x :: xs) v f = (f x v).bind fun v' => T.forM xs v' f := rfl
theorem forM_post {f : α → ν → T ε ν} (Inv : List α → ν → Prop) {xs : List α} {v : ν} (h0 : Inv [] v) (hs : ∀ pre x post v, xs = pre ++ x :: post → Inv pre v → (f x v).Post (Inv (pre ++ [x]))) : (T.forM xs v f).Post (Inv xs) := by
  have key : ∀ (post pre : List α) (v : ν), xs = pre ++ post → Inv pre v → (T.forM post v f).Post (Inv xs) := by
    intro post
    induction post with
    | nil =>
      intro pre v e h
      rw [List.append_nil] at e
      subst e
      exact post_ok h
    | cons x post ih =>
      intro pre v e h
      exact post_bind (hs pre x post v e h) fun v' h' => ih (pre ++ [x]) v' (by rw [e]; simp) h'
  exact key xs [] v rfl h0
theorem rangeT_len (n : Nat) : (rangeT n).length = n := by unfold rangeT; simp
theorem forM_fold {f : α → ν → T ε ν} {g : α → ν → ν} : ∀ {xs : List α} {v : ν}, (∀ x ∈ xs, ∀ v, f x v = .ok (g x v)) → T.forM xs v f = .ok (xs.foldl (fun v x => g x v) v)
  | [], v, _ => rfl
  | x :: xs, v, h => by
    rw [forM_cons, h x List.mem_cons_self v]
    exact forM_fold fun y hy v => h y (List.mem_cons_of_mem _ hy) v
theorem sz (n : Nat) (h : n ≤ 1000000) : n ≤ sizeLine := by rw [PySem.sizeLine_eq]; omega
theorem szl (n : Nat) (h : n ≤ 1000000) : n < sizeLine := by rw [PySem.sizeLine_eq]; omega
theorem lcp_ok {xs : List α} {p : α → Bool} {h : α → β} (hs : xs.length ≤ 1000000) : (T.lcp xs p h : T ε (List β)) = .ok ((xs.filter p).map h) := if_pos (sz _ hs)
theorem atI_n (xs : List α) (j : Nat) : atI xs (j : Int) = xs[j]? := by
  unfold atI ixN
  rw [if_pos (by omega)]
  by_cases h : j < xs.length
  · rw [if_pos (by omega)]
    rfl
  · rw [if_neg (by omega), List.getElem?_eq_none (by omega)]
    rfl
theorem setT_nat {xs : List α} {j : Nat} {x : α} (h : j < xs.length) : setT xs (j : Int) x = some (xs.set j x) := by
  unfold setT ixN
  rw [if_pos (by omega), if_pos (by omega)]
  rfl
theorem catT_ok {xs ys : List α} (h : xs.length + ys.length ≤ 1000000) : catT xs ys = some (xs ++ ys) := if_pos (sz _ h)
theorem repT_one (x : α) (n : Nat) (h : n ≤ 1000000) : repT [x] (n : Int) = some (List.replicate n x) := by
  unfold repT
  rw [if_pos (by
    unfold repOk
    refine decide_eq_true ⟨by omega, by omega, ?_⟩
    rw [PySem.sizeLine_eq]
    simp
    omega)]
  congr 1
  rw [Int.toNat_natCast]
  induction n with
  | zero => rfl
  | succ n ih =>
    rw [List.replicate_succ, List.flatten_cons, ih (by omega), List.replicate_succ]
    rfl
theorem inR_s {j : Int} (h0 : 0 ≤ j) (h1 : j ≤ 1000000) : inR j := inR_ok (by omega) (by omega)
section
variable {κ : Type} [DecidableEq κ]
theorem dget_isSome (d : Dt κ α) (k : κ) : (dget d k).isSome = d.any fun p => decide (p.1 = k) := by
  unfold dget
  induction d with
  | nil => rfl
  | cons p d ih =>
    rw [List.any_cons]
    by_cases h : p.1 = k
    · rw [List.find?_cons_of_pos (by simp [h])]
      simp [h]
    · rw [List.find?_cons_of_neg (by simp [h])]
      simp [h, ih]
theorem dget_put (d : Dt κ α) (k k' : κ) (v : α) : dget (dput d k v) k' = if k = k' then some v else dget d k' := by
  unfold dput
  by_cases ha : (d.any fun p => decide (p.1 = k)) = true
  · rw [if_pos ha]
    unfold dget
    induction d with
    | nil => simp at ha
    | cons p d ih =>
      rw [List.map_cons]
      by_cases h : p.1 = k
      · rw [if_pos h]
        by_cases hk : k = k'
        · rw [List.find?_cons_of_pos (by simp [h, hk]), if_pos hk]
          rfl
        · rw [List.find?_cons_of_neg (by simp [h, hk]), if_neg hk, List.find?_cons_of_neg (by simp [h, hk])]
          have := hk
          by_cases hd : (d.any fun p => decide (p.1 = k)) = true
          · have i := ih hd
            rw [if_neg hk] at i
            exact i
          · have e : d.map (fun p => if p.1 = k then (p.1, v) else p) = d := by
              refine (List.map_congr_left (g := id) fun q hq => ?_).trans (List.map_id _)
              rw [if_neg]
              · rfl
              · intro z
                exact hd (List.any_eq_true.mpr ⟨q, hq, by simp [z]⟩)
            rw [e]
      · rw [if_neg h]
        have hd : (d.any fun p => decide (p.1 = k)) = true := by
          rw [List.any_cons] at ha
          simpa [h] using ha
        by_cases h' : p.1 = k'
        · rw [List.find?_cons_of_pos (by simp [h']), List.find?_cons_of_pos (by simp [h']), if_neg fun z => h (h'.trans z.symm)]
        · rw [List.find?_cons_of_neg (by simp [h']), List.find?_cons_of_neg (by simp [h'])]
          exact ih hd
  · rw [if_neg ha]
    unfold dget
    rw [List.find?_append]
    by_cases hk : k = k'
    · rw [if_pos hk]
      have : d.find? (fun p => decide (p.1 = k')) = none := by
        rw [List.find?_eq_none]
        intro q hq z
        exact ha (List.any_eq_true.mpr ⟨q, hq, by simpa [hk] using z⟩)
      rw [this]
      simp [hk]
    · rw [if_neg hk]
      cases e : d.find? (fun p => decide (p.1 = k')) with
      | some q => rfl
      | none => simp [hk]
end
end
end VS

noncomputable section
namespace Ty
open PySem VS Lw L2
end Ty

namespace Ty
open PySem VS L2
structure SideOk (zs : List Oath) : Prop where
  nd : (zs.map (·.1)).Nodup
  wt : ∀ z ∈ zs, 1 ≤ z.2 ∧ z.2 ≤ 1000 ∧ GoodT z.1
def namesOf (u : Suit) : List Tx := (u.a ++ u.b).map (·.1)
structure SOk (us : List Suit) : Prop where
  len : us.length ≤ 60
  side : ∀ u ∈ us, SideOk (u.a ++ u.b) ∧ (u.a ++ u.b).length ≤ 24 ∧ 1 ≤ u.c ∧ u.c ≤ 12000
  named : ∀ (i : Nat) (u : Suit) (k : Int × Tx), us[i]? = some u → u.d = some k → ∃ (j : Nat) (w : Suit), k.1 = (j : Int) ∧ j < i ∧ us[j]? = some w ∧ k.2 ∈ namesOf w
def sumW (zs : List Oath) : Int := (zs.map (·.2)).sum
theorem foldl_add {α : Type} (f : α → Int) : ∀ (xs : List α) (a : Int), xs.foldl (fun v x => v + f x) a = a + (xs.map f).sum
  | [], a => by simp
  | x :: xs, a => by rw [List.foldl_cons, foldl_add f xs, List.map_cons, List.sum_cons]; omega
def brkB (us : List Suit) (told : List Bool) (k : Int × Tx) : Bool := (us.zip told).any fun p => p.2 && decide (p.1.d = some k)
def keptW (zs : List Oath) (c : Int) (b : Int × Tx → Bool) : Int := sumW (zs.filter fun o => !b (c, o.1))
def margB (u : Suit) (c : Int) (b : Int × Tx → Bool) : Int := keptW u.a c b - keptW u.b c b - u.c
structure Settles (us : List Suit) (b0 : Int × Tx → Bool) (told : List Bool) : Prop where
  len : told.length = us.length
  at_ : ∀ (c : Nat) (u : Suit), us[c]? = some u → told[c]? = some (decide (0 ≤ margB u c fun k => b0 k || brkB us told k))
theorem SOk.sz {us : List Suit} (h : SOk us) {u : Suit} (hu : u ∈ us) : u.a.length ≤ 24 ∧ u.b.length ≤ 24 := by
  have := (h.side u hu).2.1
  rw [List.length_append] at this
  omega
end Ty
namespace Lw
open VS Ty
end Lw

noncomputable section
namespace Ty
open PySem VS Lw L2
end Ty

namespace Ty
open PySem VS L2
structure Rows (n : Nat) (rows : List (List Bool)) : Prop where
  len : rows.length = 2 ^ n
  nd : rows.Nodup
  mem : ∀ r, r ∈ rows ↔ r.length = n
end Ty
namespace Lw
open VS Ty
end Lw

namespace VS
open PySem L2
def enT {α : Type} : Nat → List α → List (Int × α)
  | _, [] => []
  | i, x :: xs => ((i : Nat), x) :: enT (i + 1) xs
section
variable {α β γ ε ν ω : Type} {A : LS} {t : T ε β} {F : β → ω} {B : β → LS} {X : ε → LS}
theorem enD_T [Enc α] : ∀ (xs : List α) (i : Nat), enD i (xs.map Enc.enc) = (enT i xs).map (Enc.enc : Int × α → D)
  | [], _ => rfl
  | x :: xs, i => by
    show PyData.tuple [.int (i : Nat), Enc.enc x] :: enD (i + 1) (xs.map Enc.enc) = _
    rw [enD_T xs (i + 1)]
    rfl
theorem pu_pk {i : Nat} {d : D} (h : A[i]? = some (some (.d d))) : Pu A (gPk i) d := fun L hL => by
  unfold gPk
  rw [hL.2 i _ h]
theorem pu_pkL {i : Nat} {ds : List D} (h : A[i]? = some (some (.ol ds))) : Pu A (gPk i) (.list ds) := fun L hL => by
  unfold gPk
  rw [hL.2 i _ h]
theorem e_look {m : LS → R S} {n : Nat} {gs : LS → R (List D)} {k : S → LS → R ω} (h : SK A (fun L => (gs L).bind fun ds L1 => (if ds.length = n then lookAt m ds L1 else .stuck).bind k) t F B X) : SK A (fun L => (gLook m n gs L).bind k) t F B X := e_bind h
theorem mt_self : ∀ L : LS, Mt L L := fun L => ⟨rfl, fun i s h => h⟩
theorem c_look {m : LS → R S} {n : Nat} {ds : List D} {k : S → LS → R ω} {A0 : LS} {tm : T ε γ} {Fm : γ → D} {Bm : γ → LS} {Xm : ε → LS} {t' : γ → T ε β} (hA : ds.map (fun d => some (S.d d)) = A0) (hn : ds.length = n) (hm : SK A0 m tm (fun r => S.d (Fm r)) Bm Xm) (hs : ∀ r, scal (Fm r) = true) (hX : ∀ e, Mt (X e) A)
    (h : ∀ c, SK A (k (.d (Fm c))) (t' c) F B X) : SK A (fun L => (if ds.length = n then lookAt m ds L else .stuck).bind k) (tm.bind t') F B X := fun L hL => by
  have h1 := hm A0 (mt_self A0)
  show SimR ((if ds.length = n then lookAt m ds L else .stuck).bind k) (tm.bind t') F B X
  rw [if_pos hn]
  unfold lookAt
  rw [hA]
  cases tm with
  | no => trivial
  | er c e =>
    obtain ⟨L1, h2, h3⟩ := h1
    try dsimp only at h2
    rw [h2]
    exact ⟨_, rfl, (hX e).trans hL⟩
  | ok b =>
    obtain ⟨L1, h2, h3⟩ := h1
    try dsimp only at h2
    rw [h2]
    show SimR ((if scal (Fm b) = true then R.ok (S.d (Fm b)) L else .stuck).bind k) (t' b) F B X
    rw [if_pos (hs b)]
    exact h b L hL
theorem enT_len : ∀ (xs : List α) (i : Nat), (enT i xs).length = xs.length
  | [], _ => rfl
  | x :: xs, i => by
    show (enT (i + 1) xs).length + 1 = xs.length + 1
    rw [enT_len xs (i + 1)]
theorem enT_get : ∀ (xs : List α) (i j : Nat), (enT i xs)[j]? = (xs[j]?).map fun x => (((i + j : Nat) : Int), x)
  | [], i, j => rfl
  | x :: xs, i, 0 => rfl
  | x :: xs, i, j + 1 => by
    show (enT (i + 1) xs)[j]? = (xs[j]?).map _
    rw [enT_get xs (i + 1) j]
    have : i + 1 + j = i + (j + 1) := by omega
    rw [this]
end
end VS

noncomputable section
namespace Ty
open PySem VS Lw L2
end Ty

namespace Ty
open PySem VS L2
def chF (us : List Suit) : Nat → Nat → List Int
  | 0, _ => []
  | n + 1, c => match us[c]? with
    | some u => (match u.d with
      | some k => k.1 :: chF us n k.1.toNat
      | none => [])
    | none => []
def ch (us : List Suit) (c : Nat) : List Int := chF us (c + 1) c
def bears (us : List Suit) (c : Nat) : List Int := (rangeT us.length).filter fun i => memT (c : Int) (ch us i.toNat)
end Ty
namespace Lw
open VS Ty
end Lw

namespace Ty
open PySem VS Lw
open Classical in
noncomputable def t_same2 (d e : D) : T Empty Bool := if Pl 12 d ∧ Pl 12 e then .ok (eqb d e) else .no
theorem r_same2 (d e : D) : SK [dv d, dv e] (Lw.m_law_same 12) (t_same2 d e) (fun r => .d (Enc.enc r)) (fun _ => [none, none]) XV := by
  unfold t_same2
  split
  · rename_i h
    exact sk_of (ss := [.d d, .d e]) (F := fun r : Bool => .d (.bool r)) (same_ok2 12 d e h.1 h.2) (Mt.refl _)
  · exact k_no
theorem pl_up : ∀ (k : Nat) (d : D), Pl k d → Pl (k + 1) d
  | 0, _, h => h.elim
  | k + 1, d, h => by
    cases d with
    | none => trivial
    | bool b => trivial
    | int b => trivial
    | str b => trivial
    | list xs => exact fun x hx => pl_up k x (h x hx)
    | tuple xs => exact fun x hx => pl_up k x (h x hx)
    | dict b => exact h.elim
theorem pl_le {k m : Nat} (hk : k ≤ m) {d : D} (h : Pl k d) : Pl m d := by
  induction m with
  | zero =>
    have : k = 0 := by omega
    subst this
    exact h
  | succ m ih =>
    by_cases e : k = m + 1
    · subst e; exact h
    · exact pl_up m d (ih (by omega))
class Pln (α : Type) [Enc α] where
  dp : Nat
  pl : ∀ x : α, Pl (dp + 1) (Enc.enc x)
  inj : ∀ x y : α, Enc.enc x = Enc.enc y → x = y
class Nn (α : Type) [Enc α] : Prop where
  nn : ∀ x : α, Enc.enc x ≠ PyData.none
instance : Pln Int := ⟨0, fun _ => trivial, fun _ _ h => by injection h⟩
instance : Pln Bool := ⟨0, fun _ => trivial, fun _ _ h => by injection h⟩
instance : Pln Unit := ⟨0, fun _ => trivial, fun _ _ _ => rfl⟩
instance : Pln Tx := ⟨0, fun _ => trivial, fun _ _ h => Tx.s_inj (by injection h)⟩
instance : Nn Int := ⟨fun _ h => by cases h⟩
instance : Nn Bool := ⟨fun _ h => by cases h⟩
instance : Nn Tx := ⟨fun _ h => by cases h⟩
section
variable {α β γ δ ε : Type} [Enc α] [Enc β] [Enc γ] [Enc δ] [Enc ε]
theorem map_inj [i : Pln α] : ∀ {xs ys : List α}, xs.map (Enc.enc : α → D) = ys.map Enc.enc → xs = ys
  | [], [], _ => rfl
  | [], _ :: _, h => by cases h
  | _ :: _, [], h => by cases h
  | x :: xs, y :: ys, h => by
    rw [List.map_cons, List.map_cons] at h
    injection h with h1 h2
    rw [i.inj x y h1, map_inj h2]
instance [i : Pln α] : Pln (List α) := ⟨i.dp + 1, fun xs d hd => by
  obtain ⟨x, hx, rfl⟩ := List.mem_map.mp hd
  exact i.pl x, fun xs ys h => map_inj (by injection h)⟩
instance : Nn (List α) := ⟨fun _ h => by cases h⟩
instance [i : Pln α] [Nn α] : Pln (Option α) := ⟨i.dp, fun o => by
  cases o with
  | none => trivial
  | some x => exact i.pl x, fun x y h => by
  cases x with
  | none =>
    cases y with
    | none => rfl
    | some y => exact absurd h.symm (Nn.nn y)
  | some x =>
    cases y with
    | none => exact absurd h (Nn.nn x)
    | some y => rw [i.inj x y h]⟩
instance [i : Pln α] [j : Pln β] : Pln (α × β) := ⟨max i.dp j.dp + 1, fun p d hd => by
  simp at hd
  rcases hd with rfl | rfl
  · exact pl_le (by omega) (i.pl p.1)
  · exact pl_le (by omega) (j.pl p.2), fun p q h => by
  have h : PyData.tuple [Enc.enc p.1, Enc.enc p.2] = PyData.tuple [Enc.enc q.1, Enc.enc q.2] := h
  simp only [PyData.tuple.injEq, List.cons.injEq, and_true] at h
  exact Prod.ext (i.inj _ _ h.1) (j.inj _ _ h.2)⟩
instance : Nn (α × β) := ⟨fun _ h => by cases h⟩
instance [i : Pln α] [j : Pln β] [k : Pln γ] : Pln (Tp3 α β γ) := ⟨i.dp + j.dp + k.dp + 1, fun p d hd => by
  simp at hd
  rcases hd with rfl | rfl | rfl
  · exact pl_le (by omega) (i.pl p.a)
  · exact pl_le (by omega) (j.pl p.b)
  · exact pl_le (by omega) (k.pl p.c), fun p q h => by
  have h : PyData.tuple [Enc.enc p.a, Enc.enc p.b, Enc.enc p.c] = PyData.tuple [Enc.enc q.a, Enc.enc q.b, Enc.enc q.c] := h
  simp only [PyData.tuple.injEq, List.cons.injEq, and_true] at h
  obtain ⟨p1, p2, p3⟩ := p
  obtain ⟨q1, q2, q3⟩ := q
  rw [i.inj p1 q1 h.1, j.inj p2 q2 h.2.1, k.inj p3 q3 h.2.2]⟩
instance : Nn (Tp3 α β γ) := ⟨fun _ h => by cases h⟩
instance [i : Pln α] [j : Pln β] [k : Pln γ] [l : Pln δ] : Pln (Tp4 α β γ δ) := ⟨i.dp + j.dp + k.dp + l.dp + 1, fun p d hd => by
  simp at hd
  rcases hd with rfl | rfl | rfl | rfl
  · exact pl_le (by omega) (i.pl p.a)
  · exact pl_le (by omega) (j.pl p.b)
  · exact pl_le (by omega) (k.pl p.c)
  · exact pl_le (by omega) (l.pl p.d), fun p q h => by
  have h : PyData.tuple [Enc.enc p.a, Enc.enc p.b, Enc.enc p.c, Enc.enc p.d] = PyData.tuple [Enc.enc q.a, Enc.enc q.b, Enc.enc q.c, Enc.enc q.d] := h
  simp only [PyData.tuple.injEq, List.cons.injEq, and_true] at h
  obtain ⟨p1, p2, p3, p4⟩ := p
  obtain ⟨q1, q2, q3, q4⟩ := q
  rw [i.inj p1 q1 h.1, j.inj p2 q2 h.2.1, k.inj p3 q3 h.2.2.1, l.inj p4 q4 h.2.2.2]⟩
instance : Nn (Tp4 α β γ δ) := ⟨fun _ h => by cases h⟩
instance [i : Pln α] [j : Pln β] [k : Pln γ] [l : Pln δ] [m : Pln ε] : Pln (Tp5 α β γ δ ε) := ⟨i.dp + j.dp + k.dp + l.dp + m.dp + 1, fun p d hd => by
  simp at hd
  rcases hd with rfl | rfl | rfl | rfl | rfl
  · exact pl_le (by omega) (i.pl p.a)
  · exact pl_le (by omega) (j.pl p.b)
  · exact pl_le (by omega) (k.pl p.c)
  · exact pl_le (by omega) (l.pl p.d)
  · exact pl_le (by omega) (m.pl p.e), fun p q h => by
  have h : PyData.tuple [Enc.enc p.a, Enc.enc p.b, Enc.enc p.c, Enc.enc p.d, Enc.enc p.e] = PyData.tuple [Enc.enc q.a, Enc.enc q.b, Enc.enc q.c, Enc.enc q.d, Enc.enc q.e] := h
  simp only [PyData.tuple.injEq, List.cons.injEq, and_true] at h
  obtain ⟨p1, p2, p3, p4, p5⟩ := p
  obtain ⟨q1, q2, q3, q4, q5⟩ := q
  rw [i.inj p1 q1 h.1, j.inj p2 q2 h.2.1, k.inj p3 q3 h.2.2.1, l.inj p4 q4 h.2.2.2.1, m.inj p5 q5 h.2.2.2.2]⟩
instance : Nn (Tp5 α β γ δ ε) := ⟨fun _ h => by cases h⟩
theorem same2_refl [i : Pln α] (x : α) (h : i.dp ≤ 11 := by decide) : t_same2 (Enc.enc x) (Enc.enc x) = .ok true := by
  unfold t_same2
  rw [if_pos ⟨pl_le (by omega) (i.pl x), pl_le (by omega) (i.pl x)⟩, eqb_self]
end
end Ty

noncomputable section
namespace Ty
open PySem VS Lw L2
end Ty

namespace Ty
open PySem VS L2
end Ty
namespace Lw
open VS Ty
end Lw

namespace VS
open PySem L2
open PySem.W (dataLe)
section
variable {α β γ κ ε ν ω : Type} {A : LS} {t : T ε β} {F : β → ω} {B : β → LS} {X : ε → LS}
def sortT [Enc α] (xs : List α) : Option (List α) := if sortOk (xs.map Enc.enc) = true then some (xs.mergeSort (dataLe false Enc.enc)) else none
theorem srtD_map [Enc α] (xs : List α) : srtD (xs.map Enc.enc) = (xs.mergeSort (dataLe false Enc.enc)).map (Enc.enc : α → D) := by
  unfold srtD
  exact (List.map_mergeSort (r := dataLe false (Enc.enc : α → D)) (s := dataLe false id) (f := (Enc.enc : α → D)) fun a _ b _ => rfl).symm
theorem sort_l [Enc α] (xs : List α) : dSortedG (.list (xs.map Enc.enc)) = (sortT xs).map fun z => S.ol (z.map Enc.enc) := by
  show (if sortOk (xs.map Enc.enc) = true then some (S.ol (srtD (xs.map Enc.enc))) else none) = _
  unfold sortT
  by_cases h : sortOk (xs.map Enc.enc) = true
  · rw [if_pos h, if_pos h, srtD_map]
    rfl
  · rw [if_neg h, if_neg h]
    rfl
theorem keyD_inv {d : D} {k : Key} (h : keyD d = some k) : d = kD k := by
  cases d <;> cases h <;> rfl
theorem keysK_enc [Enc κ] [Enc1 κ] [i : KD1 κ] [Enc α] (d : Dt κ α) : keysK (enc1 d) = (d.map (·.1)).map (Enc.enc : κ → D) := by
  unfold keysK enc1
  rw [List.map_map, List.map_map]
  exact List.map_congr_left fun p _ => (keyD_inv (i.eq p.1)).symm
theorem sortS_k [Enc κ] [Enc1 κ] [KD1 κ] [Enc α] (d : Dt κ α) : sSorted (.odK (enc1 d)) = (sortT (d.map (·.1))).map fun z => S.ol (z.map Enc.enc) := by
  rw [← sort_l, ← keysK_enc]
  rfl
theorem pu_lk {i : Nat} {s : S} (h : A[i]? = some (some s)) (hs : s.own = true := by rfl) : Pu A (gLk i) s := fun L hL => by
  unfold gLk
  rw [hL.2 i _ h]
  exact if_pos hs
theorem e_onS {f : S → Option α} {g : LS → R S} {k : α → LS → R ω} (h : SK A (fun L => (g L).bind fun s L1 => (ofO (f s) L1).bind k) t F B X) : SK A (fun L => (gOnS f g L).bind k) t F B X := e_bind h
theorem sortT_perm [Enc α] {xs ys : List α} (h : sortT xs = some ys) : ys.Perm xs := by
  unfold sortT at h
  split at h
  · cases h
    exact List.mergeSort_perm xs _
  · cases h
theorem le_total_ [Enc α] (a b : α) : dataLe false Enc.enc a b = true ∨ dataLe false Enc.enc b a = true := by
  have := (PySem.W.sortLe_total (PyProof.Rows.listOrd PyProof.Rows.itemOrd) false fun b : α => PySem.W.keyToks (Enc.enc b)).total a b
  exact this
theorem le_trans_ [Enc α] (a b c : α) (h1 : dataLe false Enc.enc a b = true) (h2 : dataLe false Enc.enc b c = true) : dataLe false Enc.enc a c = true := (PySem.W.sortLe_total (PyProof.Rows.listOrd PyProof.Rows.itemOrd) false fun b : α => PySem.W.keyToks (Enc.enc b)).trans a b c h1 h2
theorem sortT_sorted [Enc α] {xs ys : List α} (h : sortT xs = some ys) : ys.Pairwise fun a b => dataLe false Enc.enc a b = true := by
  unfold sortT at h
  split at h
  · cases h
    exact List.pairwise_mergeSort (le := dataLe false Enc.enc) (fun a b c => le_trans_ a b c) (fun a b => by rw [Bool.or_eq_true]; exact le_total_ a b) xs
  · cases h
end
class SrtE (α : Type) [Enc α] : Prop where
  alike : ∀ a b : α, PySem.W.alike (Enc.enc a) (Enc.enc b) = true
  kind : (∀ a : α, isTup1 (Enc.enc a) = true) ∨ ∀ a : α, noTup (Enc.enc a) = true
  dep : ∀ a : α, (Enc.enc a : D).depth ≤ 60
  inj : ∀ a b : α, PySem.W.keyToks (Enc.enc a) = PySem.W.keyToks (Enc.enc b) → a = b
class SrtA (α : Type) [Enc α] : Prop where
  alike : ∀ a b : α, PySem.W.alike (Enc.enc a) (Enc.enc b) = true
  kind : ∀ a : α, noTup (Enc.enc a) = true
  dep : ∀ a : α, (Enc.enc a : D).depth = 0
  one : ∀ a : α, ∃ k, PySem.W.keyToks (Enc.enc a) = [k]
  inj : ∀ a b : α, PySem.W.keyToks (Enc.enc a) = PySem.W.keyToks (Enc.enc b) → a = b
instance : SrtA Int := ⟨fun a b => by show PySem.W.alike (.int a) (.int b) = true; simp only [PySem.W.alike], fun a => rfl, fun a => by show PyData.depth (.int a) = 0; simp only [PyData.depth], fun a => ⟨.inl a, by show PySem.W.keyToks (.int a) = _; simp only [PySem.W.keyToks]⟩, fun a b h => by
  have h : PySem.W.keyToks (.int a) = PySem.W.keyToks (.int b) := h
  simp only [PySem.W.keyToks] at h
  simpa using h⟩
instance : SrtA Tx := ⟨fun a b => by show PySem.W.alike (.str a.s) (.str b.s) = true; simp only [PySem.W.alike], fun a => rfl, fun a => by show PyData.depth (.str a.s) = 0; simp only [PyData.depth], fun a => ⟨.inr a.s.cps.toList, by show PySem.W.keyToks (.str a.s) = _; simp only [PySem.W.keyToks]⟩, fun a b h => by
  have h : PySem.W.keyToks (.str a.s) = PySem.W.keyToks (.str b.s) := h
  simp only [PySem.W.keyToks] at h
  have h : a.s.cps.toList = b.s.cps.toList := by simpa using h
  exact Tx.s_inj (PySem.W.str_of_cps h)⟩
section
variable {α β γ : Type} [Enc α] [Enc β] [Enc γ]
instance (priority := low) [i : SrtA α] : SrtE α := ⟨i.alike, .inr i.kind, fun a => by rw [i.dep]; omega, i.inj⟩
instance [i : SrtA α] [j : SrtA β] : SrtE (α × β) := ⟨fun a b => by
  show PySem.W.alike (.tuple [Enc.enc a.1, Enc.enc a.2]) (.tuple [Enc.enc b.1, Enc.enc b.2]) = true
  simp only [PySem.W.alike, PySem.W.alikeAll, i.alike, j.alike]
  rfl, .inl fun a => rfl, fun a => by
  show PyData.depth (.tuple [Enc.enc a.1, Enc.enc a.2]) ≤ 60
  simp only [PyData.depth, PyData.depthAll, i.dep, j.dep]
  omega, fun a b h => by
  have h : PySem.W.keyToks (.tuple [Enc.enc a.1, Enc.enc a.2]) = PySem.W.keyToks (.tuple [Enc.enc b.1, Enc.enc b.2]) := h
  obtain ⟨k1, e1⟩ := i.one a.1
  obtain ⟨k2, e2⟩ := j.one a.2
  obtain ⟨m1, f1⟩ := i.one b.1
  obtain ⟨m2, f2⟩ := j.one b.2
  simp only [PySem.W.keyToks, PySem.W.keyToksAll, e1, e2, f1, f2, List.cons_append, List.nil_append, List.cons.injEq, true_and, and_true] at h
  exact Prod.ext (i.inj _ _ (by rw [e1, f1, h.1])) (j.inj _ _ (by rw [e2, f2, h.2]))⟩
instance [i : SrtA α] [j : SrtA β] [k : SrtA γ] : SrtE (Tp3 α β γ) := ⟨fun a b => by
  show PySem.W.alike (.tuple [Enc.enc a.a, Enc.enc a.b, Enc.enc a.c]) (.tuple [Enc.enc b.a, Enc.enc b.b, Enc.enc b.c]) = true
  simp only [PySem.W.alike, PySem.W.alikeAll, i.alike, j.alike, k.alike]
  rfl, .inl fun a => rfl, fun a => by
  show PyData.depth (.tuple [Enc.enc a.a, Enc.enc a.b, Enc.enc a.c]) ≤ 60
  simp only [PyData.depth, PyData.depthAll, i.dep, j.dep, k.dep]
  omega, fun a b h => by
  have h : PySem.W.keyToks (.tuple [Enc.enc a.a, Enc.enc a.b, Enc.enc a.c]) = PySem.W.keyToks (.tuple [Enc.enc b.a, Enc.enc b.b, Enc.enc b.c]) := h
  obtain ⟨k1, e1⟩ := i.one a.a
  obtain ⟨k2, e2⟩ := j.one a.b
  obtain ⟨k3, e3⟩ := k.one a.c
  obtain ⟨m1, f1⟩ := i.one b.a
  obtain ⟨m2, f2⟩ := j.one b.b
  obtain ⟨m3, f3⟩ := k.one b.c
  simp only [PySem.W.keyToks, PySem.W.keyToksAll, e1, e2, e3, f1, f2, f3, List.cons_append, List.nil_append, List.cons.injEq, true_and, and_true] at h
  have x1 := i.inj a.a b.a (by rw [e1, f1, h.1])
  have x2 := j.inj a.b b.b (by rw [e2, f2, h.2.1])
  have x3 := k.inj a.c b.c (by rw [e3, f3, h.2.2])
  cases a
  cases b
  simp only at x1 x2 x3
  rw [x1, x2, x3]⟩
theorem sortT_ok [i : SrtE α] {xs : List α} (h : xs.length ≤ 1000000) : sortT xs = some (xs.mergeSort (dataLe false Enc.enc)) := by
  unfold sortT
  rw [if_pos]
  unfold sortOk
  simp only [Bool.and_eq_true, Bool.or_eq_true, List.all_eq_true, decide_eq_true_eq, List.length_map]
  refine ⟨fun d hd e he => ?_, ?_, fun d hd => ?_, sz _ h⟩
  · obtain ⟨x, _, rfl⟩ := List.mem_map.mp hd
    obtain ⟨y, _, rfl⟩ := List.mem_map.mp he
    exact i.alike x y
  · rcases i.kind with k | k
    · exact .inl fun d hd => by
        obtain ⟨x, _, rfl⟩ := List.mem_map.mp hd
        exact k x
    · exact .inr fun d hd => by
        obtain ⟨x, _, rfl⟩ := List.mem_map.mp hd
        exact k x
  · obtain ⟨x, _, rfl⟩ := List.mem_map.mp hd
    exact i.dep x
theorem le_int (a b : Int) : dataLe false (Enc.enc : Int → D) a b = decide (a ≤ b) := by
  have := PySem.W.dataLe_int (β := Int) id
  exact congrFun (congrFun this a) b
end
end VS

noncomputable section
namespace Ty
open PySem VS Lw L2
end Ty

namespace VS
open PySem L2
section
variable {ε α β ν : Type}
end
section
variable {κ α : Type} [DecidableEq κ]
def NdK (d : Dt κ α) : Prop := (d.map (·.1)).Nodup
theorem ndk_put {d : Dt κ α} (h : NdK d) (k : κ) (v : α) : NdK (dput d k v) := by
  unfold NdK dput at *
  split
  · have : (d.map fun p => if p.1 = k then (p.1, v) else p).map (·.1) = d.map (·.1) := by
      rw [List.map_map]
      refine List.map_congr_left fun p _ => ?_
      show (if p.1 = k then (p.1, v) else p).1 = p.1
      split <;> rfl
    rw [this]
    exact h
  · rename_i hn
    rw [List.map_append, List.nodup_append]
    refine ⟨h, by simp, fun a ha b hb => ?_⟩
    simp at hb
    subst hb
    obtain ⟨p, hp, rfl⟩ := List.mem_map.mp ha
    exact fun z => hn (List.any_eq_true.mpr ⟨p, hp, by simp [z]⟩)
end
end VS
namespace Ty
open PySem VS L2
open PySem.W (dataLe)
def oathsOf (us : List Suit) : List (Int × Tx) := (enT 0 us).flatMap fun p => (namesOf p.2).map fun n => (p.1, n)
theorem oaths_nodup {us : List Suit} (hs : ∀ u ∈ us, (namesOf u).Nodup) : ∀ i : Nat, ((enT i us).flatMap fun p => (namesOf p.2).map fun n => (p.1, n)).Nodup := by
  induction us with
  | nil => intro i; exact List.nodup_nil
  | cons u us ih =>
    intro i
    show (List.flatMap _ (((i : Int), u) :: enT (i + 1) us)).Nodup
    rw [List.flatMap_cons, List.nodup_append]
    refine ⟨?_, ih (fun w hw => hs w (List.mem_cons_of_mem _ hw)) (i + 1), ?_⟩
    · rw [List.Nodup, List.pairwise_map]
      exact List.Pairwise.imp (fun h z => h (by cases z; rfl)) (hs u List.mem_cons_self)
    · intro a ha b hb z
      subst z
      obtain ⟨n, _, rfl⟩ := List.mem_map.mp ha
      obtain ⟨p, hp, hq⟩ := List.mem_flatMap.mp hb
      obtain ⟨m, _, e⟩ := List.mem_map.mp hq
      have e1 : p.1 = (i : Int) := congrArg Prod.fst e
      obtain ⟨j, hj, e2⟩ := List.getElem_of_mem hp
      have e3 := List.getElem?_eq_some_iff.mpr ⟨hj, e2⟩
      rw [enT_get] at e3
      obtain ⟨x, hx, e4⟩ := Option.map_eq_some_iff.mp e3
      rw [← e4] at e1
      dsimp only at e1
      omega
theorem SOk.nd {us : List Suit} (hs : SOk us) : ∀ u ∈ us, (namesOf u).Nodup := fun u hu => (hs.side u hu).1.nd
structure Oaths (us : List Suit) (ol : List (Int × Tx)) : Prop where
  srt : ol.Pairwise fun a b => dataLe false Enc.enc a b = true
  perm : ol.Perm (oathsOf us)
theorem Oaths.mem {us : List Suit} {ol : List (Int × Tx)} (h : Oaths us ol) {k : Int × Tx} : k ∈ ol ↔ k ∈ oathsOf us := h.perm.mem_iff
theorem Oaths.nd {us : List Suit} (hs : SOk us) {ol : List (Int × Tx)} (h : Oaths us ol) : ol.Nodup := h.perm.nodup_iff.mpr (oaths_nodup hs.nd 0)
end Ty
namespace Lw
open VS Ty
end Lw

noncomputable section
namespace Ty
open PySem VS Lw L2
end Ty

namespace Ty
open PySem VS L2
end Ty
namespace Lw
open VS Ty
end Lw

namespace VS
open PySem L2
section
variable {α β γ κ ε ν ω : Type} {A A' : LS} {t : T ε β} {F : β → ω} {B : β → LS} {X : ε → LS}
def optS [Enc α] (o : Option (List α)) : S := match o with
  | none => .d .none
  | some xs => .ol (xs.map Enc.enc)
theorem e_varO [Enc α] {i : Nat} {o : Option (List α)} {k : D → LS → R ω} (h : A[i]? = some (some (optS o))) (h2 : SK (A.set i (dv o)) (k (Enc.enc o)) t F B X) : SK A (fun L => (gVar i L).bind k) t F B X := fun L hL => by
  show SimR ((gVar i L).bind k) t F B X
  unfold gVar
  rw [hL.2 i _ h]
  cases o with
  | none =>
    have h3 := h2 (L.set i (dv (none : Option (List α)))) (hL.set i _)
    have e : L.set i (dv (none : Option (List α))) = L := by
      have hl := hL.2 i _ h
      refine List.ext_getElem? fun j => ?_
      by_cases hj : i = j
      · subst hj
        rw [List.getElem?_set_self (List.getElem?_eq_some_iff.mp hl).1]
        exact hl.symm
      · rw [List.getElem?_set_ne hj]
    rw [e] at h3
    exact h3
  | some xs => exact h2 _ (hL.set i _)
def ordT (b : Bool) (x y : α × Int) : Bool := if b then decide (y.2 ≤ x.2) else decide (x.2 ≤ y.2)
section
variable [DecidableEq κ] [Enc κ] [Enc α]
end
end
end VS

namespace VS
open PySem PySem.Spec PyProof.Rows L2
section
variable {ε ε' α β γ κ ω : Type} {A : LS} {t : T ε β} {F : β → ω} {B : β → LS} {X : ε → LS}
theorem k_some {k : LS → R ω} {a : α} {t' : α → T ε β} (h : SK A k (t' a) F B X) : SK A k ((T.ofO (some a)).bind t') F B X := h
theorem pu_onS {f : S → Option γ} {g : LS → R S} {s : S} {z : γ} (h : Pu A g s) (hf : f s = some z) : Pu A (gOnS f g) z := fun L hL => by
  show (g L).bind (fun s L1 => ofO (f s) L1) = _
  rw [h L hL, R.bind_ok, hf]
  rfl
theorem sCopy_k [Enc1 κ] [Enc α] (d : Dt κ α) : sCopy (.odK (enc1 d)) = some (.odK (enc1 d)) := rfl
theorem kD_k1 [Enc κ] [Enc1 κ] [i : KD1 κ] (x : κ) : kD (Enc1.k1 x) = (Enc.enc x : D) := by
  have h := i.eq x
  generalize Enc1.k1 x = k at h
  generalize (Enc.enc x : D) = d at h
  cases d <;> cases h <;> rfl
theorem itemsK_enc [Enc κ] [Enc1 κ] [KD1 κ] [Enc α] (d : Dt κ α) : itemsK (enc1 d) = d.map (Enc.enc : κ × α → D) := by
  unfold itemsK enc1
  rw [List.map_map]
  refine List.map_congr_left fun p _ => ?_
  show PyData.tuple [kD (Enc1.k1 p.1), Enc.enc p.2] = _
  rw [kD_k1]
  rfl
theorem e_itemsK {g : LS → R S} {k : List D → LS → R ω} (h : SK A (fun L => (g L).bind fun s L1 => (asItemsK s L1).bind k) t F B X) : SK A (fun L => ((g L).bind asItemsK).bind k) t F B X := e_bind h
theorem c_itemsK [Enc κ] [Enc1 κ] [KD1 κ] [Enc α] {d : Dt κ α} {k : List D → LS → R ω} (h : SK A (k (d.map Enc.enc)) t F B X) : SK A (fun L => (asItemsK (.odK (enc1 d)) L).bind k) t F B X := fun L hL => by
  have h := h L hL
  show SimR ((R.ok (itemsK (enc1 d)) L).bind k) t F B X
  rw [itemsK_enc]
  exact h
theorem pu_dlit [Enc κ] [Enc1 κ] [i : KD1 κ] [Enc α] {ga gb : LS → R D} {x : κ} {z : α} (h1 : Pu A ga (Enc.enc x)) (h2 : Pu A gb (Enc.enc z)) : Pu A (gDlit ga gb) (.odK (enc1 ([(x, z)] : Dt κ α))) := fun L hL => by
  show (ga L).bind (fun d L1 => (gb L1).bind fun e L2 => dlit1 d e L2) = _
  rw [h1 L hL, R.bind_ok, h2 L hL, R.bind_ok]
  unfold dlit1
  rw [i.eq x]
  rfl
end
end VS

namespace VS
open PySem PySem.Spec PyProof.Rows L2
section
variable {ε ε' α β γ κ ω : Type} {A : LS} {t : T ε β} {F : β → ω} {B : β → LS} {X : ε → LS}
theorem pu_isiL [Enc α] {g : LS → R D} {o : Option (List α)} (h : Pu A g (Enc.enc o)) : Pu A (gIsi "list" g) (Enc.enc o.isSome) := fun L hL => by
  show (g L).bind (fun d L1 => ofO (isTy "list" d) L1) = _
  rw [h L hL, R.bind_ok]
  have e1 : kitB "list" "list" = some true := by decide +kernel
  have e2 : kitB "NoneType" "list" = some false := by decide +kernel
  cases o with
  | none =>
    show ofO ((kitB "NoneType" "list").map PyData.bool) L = _
    rw [e2]
    rfl
  | some xs =>
    show ofO ((kitB "list" "list").map PyData.bool) L = _
    rw [e1]
    rfl
theorem min_l (xs : List Int) : dMinL (.list (xs.map Enc.enc)) = (minL xs).map Enc.enc := by
  show (intsOf (xs.map Enc.enc)).bind (fun ns => (minL ns).map PyData.int) = _
  have : intsOf (xs.map (Enc.enc : Int → D)) = some xs := by
    induction xs with
    | nil => rfl
    | cons x xs ih =>
      rw [List.map_cons]
      show (intsOf (xs.map (Enc.enc : Int → D))).map _ = _
      rw [ih]
      rfl
  rw [this]
  rfl
theorem intsR2_T (lo : Int) (m : Nat) : intsR2 lo m = ((rangeT2 lo m).reverse).map (Enc.enc : Int → D) := by
  unfold intsR2
  rw [intsD_T2, List.map_reverse]
theorem e_rvr2 {g : LS → R (List D)} {k : List D → LS → R ω} (h : SK A (fun L => (g L).bind fun ds L1 => (rvr2 ds L1).bind k) t F B X) : SK A (fun L => ((g L).bind rvr2).bind k) t F B X := e_bind h
theorem c_rvr2 {m n : Int} {k : List D → LS → R ω} (h : SK A (k (((rangeT2 m (n - m).toNat).reverse).map Enc.enc)) t F B X) : SK A (fun L => (rvr2 [Enc.enc m, Enc.enc n] L).bind k) (T.gd (inR m ∧ inR n) t) F B X := k_gd fun hn L hL => by
  have h := h L hL
  show SimR ((if -(2 ^ 62) ≤ m ∧ m < 2 ^ 62 ∧ -(2 ^ 62) ≤ n ∧ n < 2 ^ 62 then R.ok (intsR2 m (n - m).toNat) L else .stuck).bind k) t F B X
  rw [if_pos ⟨(inR_of hn.1).1, (inR_of hn.1).2, (inR_of hn.2).1, (inR_of hn.2).2⟩, intsR2_T]
  exact h
end
end VS

namespace VS
open PySem PySem.Spec PyProof.Rows L2
section
variable {ε ε' α β γ κ ω : Type} {A : LS} {t : T ε β} {F : β → ω} {B : β → LS} {X : ε → LS}
end
end VS

namespace VS
open PySem PySem.Spec PyProof.Rows L2
section
variable {ε' α β γ κ ω : Type} {A : LS} {t : T Empty β} {F : β → ω} {B : β → LS} {X : Empty → LS}
end
end VS

namespace VS
open PySem PySem.Spec PyProof.Rows L2
section
variable {ε ε' α β γ κ ν ω : Type} {A : LS} {t : T ε β} {F : β → ω} {B : β → LS} {X : ε → LS}
end
section
variable {α β γ κ ν ω : Type} {A : LS} {t : T Empty β} {F : β → ω} {B : β → LS} {X : Empty → LS}
def cleanK (K : Kont ω) : Kont ω where
  nx := fun L => K.nx (cleanL L)
  rt := fun s L => K.rt s (cleanL L)
  bk := fun L => K.bk (cleanL L)
  ct := fun L => K.ct (cleanL L)
structure Cl (K K' : Kont ω) : Prop where
  rt : K'.rt = (cleanK K).rt
end
end VS

namespace VS
open PySem PySem.Spec PyProof.Rows L2
end VS

namespace VS
open PySem PySem.Spec PyProof.Rows L2
inductive Itx where
  | i (n : Int)
  | t (x : Tx)
deriving DecidableEq
instance : Enc Itx := ⟨fun x => match x with
  | .i n => Enc.enc n
  | .t x => Enc.enc x⟩
def Itx.toI : Itx → Option Int
  | .t _ => none
  | .i n => some n
instance : Sh Itx where
  dep := 0
  nn := fun x h => by
    cases x with
    | i n => cases h
    | t x => cases h
  lay := fun x => by
    cases x with
    | i n => exact (inferInstance : Sh Int).lay n
    | t x => exact (inferInstance : Sh Tx).lay x
  dp := fun x => by
    cases x with
    | i n => exact (inferInstance : Sh Int).dp n
    | t x => exact (inferInstance : Sh Tx).dp x
  eqv := fun x y => by
    cases x with
    | i n =>
      cases y with
      | i m =>
        refine ((inferInstance : Sh Int).eqv n m).trans ?_
        rw [decide_eq_decide]
        exact ⟨fun h => by rw [h], fun h => by injection h⟩
      | t y =>
        rw [show decide (Itx.i n = Itx.t y) = false from decide_eq_false fun h => by cases h]
        rfl
    | t x =>
      cases y with
      | i m =>
        rw [show decide (Itx.t x = Itx.i m) = false from decide_eq_false fun h => by cases h]
        rfl
      | t y =>
        refine ((inferInstance : Sh Tx).eqv x y).trans ?_
        rw [decide_eq_decide]
        exact ⟨fun h => by rw [h], fun h => by injection h⟩
end VS

noncomputable section
namespace Ty
open PySem VS Lw L2
end Ty

namespace VS
open PySem L2
end VS
namespace Ty
open PySem VS L2
abbrev Ent := Tp3 Int Bool (List Tx)
def goalB (u : Suit) (st : Bool) : Int := if st = true then u.c + sumW u.b else sumW u.a - u.c + 1
def fairB (u : Suit) (st : Bool) (names : List Tx) : Bool := decide (names.Nodup) && (names.all fun n => memT n (namesOf u)) && decide (goalB u st ≤ sumW ((u.a ++ u.b).filter fun o => memT o.1 names))
end Ty

namespace Ty
open PySem VS L2
def namersOf (us : List Suit) (c : Int) (n : Tx) : List Int := (rangeT us.length).filter fun i => decide ((us[i.toNat]?).bind (·.d) = some (c, n))
def bornB (us : List Suit) (says : Dt Int Bool) (u : Suit) (e : Ent) (n : Tx) : Bool := if (decide (memT n (u.a.map (·.1)) = e.b)) = true then (namersOf us e.a n).all fun i => decide (dget says i = some false) else (namersOf us e.a n).any fun i => decide (dget says i = some true)
end Ty

namespace Ty
open PySem VS L2
end Ty

namespace Ty
open PySem VS L2
end Ty

namespace Ty
open PySem VS L2
end Ty

namespace Ty
open PySem VS L2
end Ty

namespace Ty
open PySem VS L2
def fewN (goal : Int) : List Oath → Int → Nat
  | [], _ => 0
  | o :: os, r => if goal ≤ r then 0 else fewN goal os (r + o.2) + 1
def hvy (side : List Oath) : List Oath := side.mergeSort (ordT true)
def fewT (side : List Oath) (goal : Int) : List Tx := ((hvy side).take (fewN goal (hvy side) 0)).map (·.1)
def trueB (b : Int × Tx → Bool) (u : Suit) (c : Int) (st : Bool) : List Oath := (u.a.filter fun o => decide ((!b (c, o.1)) = st)) ++ (u.b.filter fun o => decide (b (c, o.1) = st))
end Ty

namespace Ty
open PySem VS L2
def askN (us : List Suit) (told : List Bool) (u : Suit) (c : Int) (st : Bool) (n : Tx) : List Int := if (decide (memT n (u.a.map (·.1)) = st)) = true then namersOf us c n else ((namersOf us c n).filter fun i => decide (told[i.toNat]? = some true)).take 1
def askE (us : List Suit) (told : List Bool) (u : Suit) (e : Ent) : List Int := e.c.flatMap (askN us told u e.a e.b)
def papE (us : List Suit) (told : List Bool) (c : Int) : Ent := match atI us c, atI told c with
  | some u, some st => Tp3.mk c st (fewT (trueB (brkB us told) u c st) (goalB u st))
  | _, _ => Tp3.mk c false []
def askP (us : List Suit) (told : List Bool) (c : Int) : List Int := match atI us c with
  | some u => askE us told u (papE us told c)
  | none => []
theorem nodup_bound : ∀ (n : Nat) (ks : List Int), ks.Nodup → (∀ k ∈ ks, 0 ≤ k ∧ k < n) → ks.length ≤ n
  | 0, ks, _, h => by
    cases ks with
    | nil => exact Nat.le_refl _
    | cons k ks => have := h k List.mem_cons_self; omega
  | n + 1, ks, hn, h => by
    have := nodup_bound n (ks.erase (n : Int)) (hn.erase _) fun k hk => by
      have h1 := h k (List.mem_of_mem_erase hk)
      have h2 : k ≠ (n : Int) := fun z => by
        subst z
        exact hn.not_mem_erase hk
      omega
    have := List.le_length_erase (a := (n : Int)) (l := ks)
    omega
end Ty

namespace Ty
open PySem VS L2
structure WOk (us : List Suit) (told : List Bool) (c : Int) (ks ws : List Int) : Prop where
  nd : (ks ++ ws).Nodup
  rg : ∀ x ∈ ks ++ ws, 0 ≤ x ∧ x < us.length
  ge : ∀ x ∈ ks ++ ws, c ≤ x
  src : ∀ x ∈ ks ++ ws, x = c ∨ ∃ y ∈ ks, x ∈ askP us told y
  cl : ∀ y ∈ ks, ∀ x ∈ askP us told y, x ∈ ks ++ ws
  has : c ∈ ks ++ ws
structure PapOk (us : List Suit) (told : List Bool) (c : Int) (ks : List Int) : Prop where
  nd : (c :: ks).Nodup
  rg : ∀ x ∈ c :: ks, 0 ≤ x ∧ x < us.length
  src : ∀ x ∈ ks, ∃ y ∈ c :: ks, x ∈ askP us told y
  cl : ∀ y ∈ c :: ks, ∀ x ∈ askP us told y, x ∈ ks
  up : ks.Pairwise fun a b => a ≤ b
end Ty

namespace VS
open PySem L2
end VS
namespace Ty
open PySem VS L2
structure BOk (n m : Nat) (es : List Ent) : Prop where
  len : es.length ≤ n
  nm : ∀ e ∈ es, e.c.length ≤ m
end Ty

namespace Ty
open PySem VS L2
def saysOf (es : List Ent) : Dt Int Bool := es.map fun e => (e.a, e.b)
structure GoodP (us : List Suit) (c : Int) (st : Bool) (es : List Ent) : Prop where
  nd : (es.map (·.a)).Nodup
  ent : ∀ e ∈ es, ∃ (j : Nat) (u : Suit), e.a = (j : Int) ∧ us[j]? = some u ∧ fairB u e.b e.c = true ∧ e.c.all (bornB us (saysOf es) u e) = true
  says : dget (saysOf es) c = some st
end Ty

namespace Ty
open PySem VS L2
end Ty
namespace Lw
open VS Ty
end Lw

noncomputable section
namespace Ty
open PySem VS Lw L2
end Ty

namespace Ty
open PySem VS L2
end Ty

namespace Ty
open PySem VS L2
end Ty
namespace Lw
open VS Ty
end Lw

noncomputable section
namespace Ty
open PySem VS Lw L2
end Ty

namespace Ty
open PySem VS L2
end Ty

namespace Ty
open PySem VS L2
end Ty
namespace Lw
open VS Ty
end Lw

noncomputable section
namespace Ty
open PySem VS Lw L2
def t_better (table : (Dt Int (Int × (List Int)))) (cost : Int) (gain : Int) : T Empty (Bool) :=
  if (!(dget table cost).isSome) = true then (.ok true) else ((T.ofO (dget table cost)).bind fun v1 =>
  .ok (decide (v1.1 < gain)))
theorem r_better (table : (Dt Int (Int × (List Int)))) (cost : Int) (gain : Int) : SK [kv table, dv cost, dv gain] Lw.m_better (t_better table cost gain) (fun r => (S.d (Enc.enc r))) (fun r => [kv table, none, none]) XV := by
  unfold Lw.m_better Lw.g_better t_better
  refine f_def (X' := XV) ?_ xe_no
  show SK [kv table, dv cost, dv gain] _ _ _ _ _
  refine s_seq ?_
  refine s_if (x := (!(dget table cost).isSome)) (pu_B (pu_dinK (d := table) (x := cost) (by rfl) (pu_var (by rfl)))) ?_ ?_
  · refine s_ret ?_
    refine e_pu (pu_d (pu_c (d := Enc.enc true))) ?_
    exact f_rt rfl (mt_k (mt_w (mt_w mt_nil)))
  · refine s_next ?_
    refine s_then ?_
    refine s_ret ?_
    refine e_d ?_
    refine e_op ?_
    refine e_op ?_
    refine e_dgetK (d := table) (x := cost) (by rfl) (pu_var (by rfl)) (fun v1 => ?_)
    refine e_pu (pu_c (d := Enc.enc (0 : Int))) ?_
    refine e_o (z := (Enc.enc v1.1)) rfl ?_
    refine e_pu (pu_peek (by rfl)) ?_
    refine e_o (z := (Enc.enc ((decide (v1.1 < gain)) : Bool))) rfl ?_
    exact f_rt rfl (mt_k (mt_w (mt_w mt_nil)))
def t_cheapest (offers : (List (Int × Int))) (goal : Int) : T Empty ((Option (List Int))) :=
  if (decide (goal < (1 : Int))) = true then (.ok (some ([] : List Int))) else ((T.forM (enT 0 offers) ([((0 : Int), ((0 : Int), ([] : List Int)))] : (Dt Int (Int × (List Int)))) (fun (i1 : (Int × (Int × Int))) table3 => (((T.forM table3 (table3 : (Dt Int (Int × (List Int)))) (fun (i4 : (Int × (Int × (List Int)))) grown6 => ((if (decide (goal ≤ i4.2.1)) = true then (.ok grown6) else ((t_better grown6 ((i4.1 + i1.2.1) : Int) ((i4.2.1 + i1.2.2) : Int)).bind fun r7 =>
  if r7 = true then ((T.ofO (catT i4.2.2 (([i1.1] : List Int) : (List Int)))).bind fun x8 =>
  T.gd (grown6.length < sizeLine) <|
  .ok (dput grown6 (i4.1 + i1.2.1) ((i4.2.1 + i1.2.2), x8))) else (.ok grown6))) : T Empty ((Dt Int (Int × (List Int))))))).bind fun grown6 =>
  .ok grown6) : T Empty ((Dt Int (Int × (List Int))))))).bind fun table3 =>
  (T.ofO (sortT (List.map (fun p => p.1) table3))).bind fun x9 =>
  T.bindL (T.forL x9 (() : Unit) (fun (i10 : Int) _ => (((T.ofO (dget table3 i10)).bind fun v11 =>
  if (decide (goal ≤ v11.1)) = true then ((T.ofO (dget table3 i10)).bind fun v12 =>
  .ok (.rt v12.2)) else (.ok (.nx ()))) : T Empty (T.Lp (Unit) ((List Int)))))) (fun _ =>
  .ok (none : (Option (List Int)))) (fun r_ => .ok (some r_)))
end Ty

namespace Ty
open PySem VS L2
abbrev Off := Int × (Int × Int)
abbrev Tab := Dt Int (Int × List Int)
def costS (S : List Off) : Int := (S.map (·.2.1)).sum
def gainS (S : List Off) : Int := (S.map (·.2.2)).sum
theorem costS_app (S T : List Off) : costS (S ++ T) = costS S + costS T := by unfold costS; rw [List.map_append, List.sum_append]
theorem gainS_app (S T : List Off) : gainS (S ++ T) = gainS S + gainS T := by unfold gainS; rw [List.map_append, List.sum_append]
theorem costS_one (o : Off) : costS [o] = o.2.1 := by unfold costS; simp
theorem gainS_one (o : Off) : gainS [o] = o.2.2 := by unfold gainS; simp
theorem sum_le_of_sub : ∀ {xs ys : List Int}, xs.Sublist ys → (∀ y ∈ ys, 0 ≤ y) → xs.sum ≤ ys.sum
  | _, _, .slnil, _ => Int.le_refl _
  | _, _, .cons a h, hy => by
    rw [List.sum_cons]
    have := sum_le_of_sub h fun y hm => hy y (List.mem_cons_of_mem _ hm)
    have := hy a List.mem_cons_self
    omega
  | _, _, .cons₂ a h, hy => by
    rw [List.sum_cons, List.sum_cons]
    have := sum_le_of_sub h fun y hm => hy y (List.mem_cons_of_mem _ hm)
    omega
theorem sum_nonneg {xs : List Int} (h : ∀ x ∈ xs, 0 ≤ x) : 0 ≤ xs.sum := by
  have := sum_le_of_sub (List.nil_sublist xs) h
  simpa using this
theorem costS_le {S T : List Off} (h : S.Sublist T) (hp : ∀ o ∈ T, 0 ≤ o.2.1) : costS S ≤ costS T := sum_le_of_sub (h.map _) fun y hy => by
  obtain ⟨o, ho, rfl⟩ := List.mem_map.mp hy
  exact hp o ho
theorem costS_nonneg {S : List Off} (hp : ∀ o ∈ S, 0 ≤ o.2.1) : 0 ≤ costS S := by
  have := costS_le (List.nil_sublist S) hp
  simpa [costS] using this
theorem dget_mem' {κ α : Type} [DecidableEq κ] {d : Dt κ α} {k : κ} {v : α} (h : dget d k = some v) : (k, v) ∈ d := by
  unfold dget at h
  obtain ⟨p, hp, rfl⟩ := Option.map_eq_some_iff.mp h
  have h1 := List.mem_of_find?_eq_some hp
  have h2 : p.1 = k := of_decide_eq_true (List.find?_some (p := fun p : κ × α => decide (p.1 = k)) hp)
  rw [← h2]
  exact h1
theorem mem_dget' {κ α : Type} [DecidableEq κ] {d : Dt κ α} (hn : NdK d) {k : κ} {v : α} (h : (k, v) ∈ d) : dget d k = some v := by
  unfold dget
  unfold NdK at hn
  induction d with
  | nil => cases h
  | cons p d ih =>
    rw [List.map_cons, List.nodup_cons] at hn
    by_cases hp : p.1 = k
    · rw [List.find?_cons_of_pos (by simpa using hp)]
      rcases List.mem_cons.mp h with h | h
      · rw [← h]; rfl
      · exact absurd (List.mem_map.mpr ⟨_, h, hp.symm⟩) hn.1
    · rw [List.find?_cons_of_neg (by simpa using hp)]
      rcases List.mem_cons.mp h with h | h
      · rw [← h] at hp; exact absurd rfl hp
      · exact ih hn.2 h
structure Sound (pre : List Off) (t : Tab) : Prop where
  nd : NdK t
  snd : ∀ p ∈ t, ∃ S : List Off, S.Sublist pre ∧ p.2.2 = S.map (·.1) ∧ p.1 = costS S ∧ p.2.1 = gainS S
structure TabOk (goal : Int) (pre : List Off) (t : Tab) : Prop extends Sound pre t where
  cmp : ∀ S : List Off, S.Sublist pre → ∃ p ∈ t, p.1 ≤ costS S ∧ (gainS S ≤ p.2.1 ∨ goal ≤ p.2.1)
theorem Sound.len {pre : List Off} {t : Tab} (h : Sound pre t) (hp : ∀ o ∈ pre, 0 ≤ o.2.1) : (t.length : Int) ≤ costS pre + 1 := by
  have h0 := costS_nonneg hp
  have := nodup_bound (costS pre + 1).toNat (t.map (fun p => p.1)) (show (t.map (fun p => p.1)).Nodup from h.nd) fun k hk => by
    obtain ⟨p, hp2, rfl⟩ := List.mem_map.mp hk
    obtain ⟨S, h1, h2, h3, h4⟩ := h.snd p hp2
    have h5 := costS_le h1 hp
    have h6 := costS_nonneg (S := S) fun o ho => hp o (h1.subset ho)
    omega
  rw [List.length_map] at this
  omega
theorem sub_snoc {α : Type} {S xs : List α} {x : α} (h : S.Sublist (xs ++ [x])) : S.Sublist xs ∨ ∃ S', S = S' ++ [x] ∧ S'.Sublist xs := by
  rw [List.sublist_append_iff] at h
  obtain ⟨S1, S2, rfl, h1, h2⟩ := h
  cases S2 with
  | nil => rw [List.append_nil]; exact .inl h1
  | cons y ys =>
    have := h2.length_le
    cases ys with
    | nil =>
      have : y = x := by
        have := h2.subset List.mem_cons_self
        simpa using this
      subst this
      exact .inr ⟨S1, rfl, h1⟩
    | cons _ _ => simp at this
theorem better_eq (t : Tab) (c g : Int) : t_better t c g = .ok (match dget t c with
    | none => true
    | some v => decide (v.1 < g)) := by
  unfold t_better
  cases h : dget t c with
  | none => simp only [Option.isSome_none, Bool.not_false, if_true]
  | some v => simp only [Option.isSome_some, Bool.not_true, Bool.false_eq_true, if_false, ofO_some']
theorem grow_spec {goal : Int} {pre : List Off} {o : Off} {t : Tab} (h : TabOk goal pre t) (hp : ∀ q ∈ pre ++ [o], 0 ≤ q.2.1) (hB : costS (pre ++ [o]) ≤ 900000) (hL : pre.length ≤ 1000) :
    (T.forM t (t : Tab) (fun (i4 : (Int × (Int × (List Int)))) grown6 => ((if (decide (goal ≤ i4.2.1)) = true then (.ok grown6) else ((t_better grown6 ((i4.1 + o.2.1) : Int) ((i4.2.1 + o.2.2) : Int)).bind fun r7 =>
  if r7 = true then ((T.ofO (catT i4.2.2 (([o.1] : List Int) : (List Int)))).bind fun x8 =>
  T.gd (grown6.length < sizeLine) <|
  .ok (dput grown6 (i4.1 + o.2.1) ((i4.2.1 + o.2.2), x8))) else (.ok grown6))) : T Empty Tab))).Post fun t' => TabOk goal (pre ++ [o]) t' := by
  have hpre : ∀ q ∈ pre, 0 ≤ q.2.1 := fun q hq => hp q (List.mem_append_left _ hq)
  have ho : 0 ≤ o.2.1 := hp o (by simp)
  have sub1 : pre.Sublist (pre ++ [o]) := List.sublist_append_left ..
  have key : (T.forM t (t : Tab) (fun (i4 : (Int × (Int × (List Int)))) grown6 => ((if (decide (goal ≤ i4.2.1)) = true then (.ok grown6) else ((t_better grown6 ((i4.1 + o.2.1) : Int) ((i4.2.1 + o.2.2) : Int)).bind fun r7 =>
    if r7 = true then ((T.ofO (catT i4.2.2 (([o.1] : List Int) : (List Int)))).bind fun x8 =>
    T.gd (grown6.length < sizeLine) <|
    .ok (dput grown6 (i4.1 + o.2.1) ((i4.2.1 + o.2.2), x8))) else (.ok grown6))) : T Empty Tab))).Post fun t' =>
      Sound (pre ++ [o]) t' ∧ (∀ p ∈ t, ∃ v, dget t' p.1 = some v ∧ p.2.1 ≤ v.1) ∧ ∀ p ∈ t, p.2.1 < goal → ∃ v, dget t' (p.1 + o.2.1) = some v ∧ p.2.1 + o.2.2 ≤ v.1 := by
    refine forM_post (fun done t' => Sound (pre ++ [o]) t' ∧ (∀ p ∈ t, ∃ v, dget t' p.1 = some v ∧ p.2.1 ≤ v.1) ∧ ∀ p : Int × (Int × List Int), p ∈ done → p.2.1 < goal → ∃ v, dget t' (p.1 + o.2.1) = some v ∧ p.2.1 + o.2.2 ≤ v.1) ?_ ?_
    · refine ⟨⟨h.nd, fun p hp2 => ?_⟩, fun p hp2 => ⟨p.2, mem_dget' h.nd hp2, Int.le_refl _⟩, by simp⟩
      obtain ⟨S, h1, h2⟩ := h.snd p hp2
      exact ⟨S, h1.trans sub1, h2⟩
    · rintro done p more t' et ⟨g1, g2, g3⟩
      have hpm : p ∈ t := by rw [et]; simp
      by_cases hg : goal ≤ p.2.1
      · rw [if_pos (by simpa using hg)]
        refine post_ok ⟨g1, g2, fun q hq hlt => ?_⟩
        rcases List.mem_append.mp hq with hq | hq
        · exact g3 q hq hlt
        · rw [List.mem_singleton] at hq
          subst hq
          omega
      · rw [if_neg (by simpa using hg), better_eq, T.ok_bind]
        have stay : ∀ v, dget t' (p.1 + o.2.1) = some v → p.2.1 + o.2.2 ≤ v.1 → (T.ok t' : T Empty Tab).Post fun t' => Sound (pre ++ [o]) t' ∧ (∀ p ∈ t, ∃ v, dget t' p.1 = some v ∧ p.2.1 ≤ v.1) ∧ ∀ q : Int × (Int × List Int), q ∈ done ++ [p] → q.2.1 < goal → ∃ v, dget t' (q.1 + o.2.1) = some v ∧ q.2.1 + o.2.2 ≤ v.1 := fun v hv hle =>
          post_ok ⟨g1, g2, fun q hq hlt => by
            rcases List.mem_append.mp hq with hq | hq
            · exact g3 q hq hlt
            · rw [List.mem_singleton] at hq
              subst hq
              exact ⟨v, hv, hle⟩⟩
        have put : (∀ v, dget t' (p.1 + o.2.1) = some v → v.1 < p.2.1 + o.2.2) → (((T.ofO (catT p.2.2 (([o.1] : List Int) : (List Int)))).bind fun x8 =>
            T.gd (t'.length < sizeLine) <| .ok (dput t' (p.1 + o.2.1) ((p.2.1 + o.2.2), x8)) : T Empty Tab)).Post fun t' => Sound (pre ++ [o]) t' ∧ (∀ p ∈ t, ∃ v, dget t' p.1 = some v ∧ p.2.1 ≤ v.1) ∧ ∀ q : Int × (Int × List Int), q ∈ done ++ [p] → q.2.1 < goal → ∃ v, dget t' (q.1 + o.2.1) = some v ∧ q.2.1 + o.2.2 ≤ v.1 := fun hlt => by
          obtain ⟨S, s1, s2, s3, s4⟩ := h.snd p hpm
          have hSl := s1.length_le
          have hl1 : p.2.2.length ≤ 1000 := by rw [s2, List.length_map]; omega
          have htl := g1.len hp
          refine post_ofO (catT_ok (by rw [List.length_singleton]; omega)) (post_gd (szl _ (by omega)) (post_ok ⟨⟨ndk_put g1.nd _ _, fun q hq => ?_⟩, fun q hq => ?_, fun q hq hl => ?_⟩))
          · have hd := mem_dget' (ndk_put g1.nd _ _) hq
            rw [dget_put] at hd
            by_cases e : p.1 + o.2.1 = q.1
            · rw [if_pos e] at hd
              have e2 := Option.some.inj hd
              refine ⟨S ++ [o], s1.append (List.Sublist.refl _), ?_, ?_, ?_⟩
              · rw [← e2, List.map_append, ← s2]
                rfl
              · rw [← e, costS_app, costS_one, s3]
              · rw [← e2, gainS_app, gainS_one, ← s4]
            · rw [if_neg e] at hd
              exact g1.snd q (dget_mem' hd)
          · rw [dget_put]
            by_cases e : p.1 + o.2.1 = q.1
            · obtain ⟨v, hv, hle⟩ := g2 q hq
              rw [if_pos e]
              rw [← e] at hv
              have := hlt v hv
              exact ⟨_, rfl, by dsimp only; omega⟩
            · rw [if_neg e]
              exact g2 q hq
          · rw [dget_put]
            rcases List.mem_append.mp hq with hq | hq
            · obtain ⟨v, hv, hle⟩ := g3 q hq hl
              by_cases e : p.1 + o.2.1 = q.1 + o.2.1
              · rw [if_pos e]
                rw [← e] at hv
                have := hlt v hv
                exact ⟨_, rfl, by dsimp only; omega⟩
              · rw [if_neg e]
                exact ⟨v, hv, hle⟩
            · rw [List.mem_singleton] at hq
              subst hq
              rw [if_pos rfl]
              exact ⟨_, rfl, Int.le_refl _⟩
        cases hd : dget t' (p.1 + o.2.1) with
        | none =>
          simp only [if_true]
          exact put fun v hv => by rw [hd] at hv; cases hv
        | some v =>
          dsimp only
          by_cases hlt : v.1 < p.2.1 + o.2.2
          · rw [if_pos (by simpa using hlt)]
            exact put fun v' hv' => by rw [hd] at hv'; cases hv'; exact hlt
          · rw [if_neg (by simpa using hlt)]
            exact stay v hd (by omega)
  refine post_imp key fun t' ⟨g1, g2, g3⟩ => ⟨g1, fun S hS => ?_⟩
  rcases sub_snoc hS with hS | ⟨S', rfl, hS2⟩
  · obtain ⟨p, h1, h2, h3⟩ := h.cmp S hS
    obtain ⟨v, hv, hle⟩ := g2 p h1
    exact ⟨(p.1, v), dget_mem' hv, h2, by dsimp only; omega⟩
  · obtain ⟨p, h1, h2, h3⟩ := h.cmp S' hS2
    rw [costS_app, costS_one, gainS_app, gainS_one]
    by_cases hg : goal ≤ p.2.1
    · obtain ⟨v, hv, hle⟩ := g2 p h1
      exact ⟨(p.1, v), dget_mem' hv, by dsimp only; omega, .inr (by dsimp only; omega)⟩
    · obtain ⟨v, hv, hle⟩ := g3 p h1 (by omega)
      exact ⟨(p.1 + o.2.1, v), dget_mem' hv, by dsimp only; omega, .inl (by dsimp only; omega)⟩
def CheapOk (xs : List (Int × Int)) (goal : Int) (r : Option (List Int)) : Prop := match r with
  | some ps => ∃ S : List Off, S.Sublist (enT 0 xs) ∧ ps = S.map (·.1) ∧ goal ≤ gainS S ∧ ∀ S' : List Off, S'.Sublist (enT 0 xs) → goal ≤ gainS S' → costS S ≤ costS S'
  | none => ∀ S' : List Off, S'.Sublist (enT 0 xs) → gainS S' < goal
theorem enT_mem {α : Type} {xs : List α} {p : Int × α} (h : p ∈ enT 0 xs) : ∃ j : Nat, p.1 = (j : Int) ∧ xs[j]? = some p.2 := by
  obtain ⟨j, hj, e⟩ := List.getElem_of_mem h
  have e' := List.getElem?_eq_some_iff.mpr ⟨hj, e⟩
  rw [enT_get] at e'
  obtain ⟨x, hx, rfl⟩ := Option.map_eq_some_iff.mp e'
  exact ⟨j, by simp, hx⟩
theorem cheapest_spec {xs : List (Int × Int)} {goal : Int} (hl : xs.length ≤ 1000) (hc : ∀ x ∈ xs, 0 ≤ x.1) (hB : costS (enT 0 xs) ≤ 900000) : (t_cheapest xs goal).Post (CheapOk xs goal) := by
  have hpos : ∀ o ∈ enT 0 xs, 0 ≤ o.2.1 := fun o ho => by
    obtain ⟨j, _, h⟩ := enT_mem ho
    exact hc _ (List.mem_of_getElem? h)
  unfold t_cheapest
  by_cases hg : goal < 1
  · rw [if_pos (by simpa using hg)]
    refine post_ok ⟨[], List.nil_sublist _, rfl, ?_, fun S' hS' _ => ?_⟩
    · show goal ≤ 0
      omega
    · have := costS_nonneg (S := S') fun o ho => hpos o (hS'.subset ho)
      show 0 ≤ costS S'
      omega
  rw [if_neg (by simpa using hg)]
  refine post_bind (forM_post (fun pre t => TabOk goal pre t) ?_ ?_) ?_
  · refine ⟨⟨by unfold NdK; simp, fun p hp => ?_⟩, fun S hS => ?_⟩
    · rw [List.mem_singleton] at hp
      subst hp
      exact ⟨[], List.Sublist.refl _, rfl, rfl, rfl⟩
    · have : S = [] := List.sublist_nil.mp hS
      subst this
      exact ⟨_, List.mem_singleton.mpr rfl, Int.le_refl _, .inl (Int.le_refl _)⟩
  · rintro pre o post t ee ht
    have hsub : (pre ++ [o]).Sublist (enT 0 xs) := by
      rw [ee, show pre ++ o :: post = (pre ++ [o]) ++ post by simp]
      exact List.sublist_append_left ..
    have hlen : pre.length ≤ 1000 := by
      have := hsub.length_le
      rw [enT_len, List.length_append] at this
      omega
    refine post_bind (grow_spec ht (fun q hq => hpos q (hsub.subset hq)) (Int.le_trans (costS_le hsub hpos) (by omega)) hlen) ?_
    intro t' ht'
    exact post_ok ht'
  · intro t ht
    have htl := ht.toSound.len hpos
    have hz := sortT_ok (xs := List.map (fun p => p.1) t) (by rw [List.length_map]; omega)
    refine post_ofO hz ?_
    have hperm := sortT_perm hz
    have hsort := sortT_sorted hz
    generalize (List.map (fun p => p.1) t).mergeSort (PySem.W.dataLe false Enc.enc) = ks at hperm hsort
    have hk : ∀ k ∈ ks, ∃ v, dget t k = some v := fun k hk => by
      have := hperm.mem_iff.mp hk
      obtain ⟨p, hp, rfl⟩ := List.mem_map.mp this
      exact ⟨p.2, mem_dget' ht.nd hp⟩
    have hup : ks.Pairwise fun a b => a ≤ b := hsort.imp fun {a b} h => by
      rw [le_int] at h
      exact of_decide_eq_true h
    have hall : ∀ p ∈ t, p.1 ∈ ks := fun p hp => hperm.mem_iff.mpr (List.mem_map.mpr ⟨p, hp, rfl⟩)
    have go : ∀ ks : List Int, (∀ k ∈ ks, ∃ v, dget t k = some v) → ks.Pairwise (fun a b => a ≤ b) →
        (∃ k v, k ∈ ks ∧ dget t k = some v ∧ goal ≤ v.1 ∧ (∀ k' ∈ ks, ∀ v', dget t k' = some v' → goal ≤ v'.1 → k ≤ k') ∧ T.forL ks (() : Unit) (fun (i10 : Int) _ => (((T.ofO (dget t i10)).bind fun v11 =>
          if (decide (goal ≤ v11.1)) = true then ((T.ofO (dget t i10)).bind fun v12 =>
          .ok (.rt v12.2)) else (.ok (.nx ()))) : T Empty (T.Lp (Unit) ((List Int))))) = .ok (.rt v.2)) ∨
        ((∀ k' ∈ ks, ∀ v', dget t k' = some v' → v'.1 < goal) ∧ T.forL ks (() : Unit) (fun (i10 : Int) _ => (((T.ofO (dget t i10)).bind fun v11 =>
          if (decide (goal ≤ v11.1)) = true then ((T.ofO (dget t i10)).bind fun v12 =>
          .ok (.rt v12.2)) else (.ok (.nx ()))) : T Empty (T.Lp (Unit) ((List Int))))) = .ok (.nx ())) := by
      intro ks
      induction ks with
      | nil => intro _ _; exact .inr ⟨by simp, rfl⟩
      | cons k ks ih =>
        intro h1 h2
        obtain ⟨v, hv⟩ := h1 k List.mem_cons_self
        have hp := List.pairwise_cons.mp h2
        by_cases hgo : goal ≤ v.1
        · refine .inl ⟨k, v, List.mem_cons_self, hv, hgo, fun k' hk' v' _ _ => ?_, ?_⟩
          · rcases List.mem_cons.mp hk' with rfl | hk'
            · exact Int.le_refl _
            · exact hp.1 k' hk'
          · show (((T.ofO (dget t k)).bind fun v11 => if (decide (goal ≤ v11.1)) = true then ((T.ofO (dget t k)).bind fun v12 => .ok (.rt v12.2)) else (.ok (.nx ())) : T Empty (T.Lp Unit (List Int)))).bind _ = _
            rw [hv, ofO_some', if_pos (by simpa using hgo)]
            rfl
        · have e : ∀ {X : T Empty (T.Le Unit (List Int))}, T.forL ks (() : Unit) (fun (i10 : Int) _ => (((T.ofO (dget t i10)).bind fun v11 =>
              if (decide (goal ≤ v11.1)) = true then ((T.ofO (dget t i10)).bind fun v12 =>
              .ok (.rt v12.2)) else (.ok (.nx ()))) : T Empty (T.Lp (Unit) ((List Int))))) = X → T.forL (k :: ks) (() : Unit) (fun (i10 : Int) _ => (((T.ofO (dget t i10)).bind fun v11 =>
              if (decide (goal ≤ v11.1)) = true then ((T.ofO (dget t i10)).bind fun v12 =>
              .ok (.rt v12.2)) else (.ok (.nx ()))) : T Empty (T.Lp (Unit) ((List Int))))) = X := fun {X} hX => by
            show (((T.ofO (dget t k)).bind fun v11 => if (decide (goal ≤ v11.1)) = true then ((T.ofO (dget t k)).bind fun v12 => .ok (.rt v12.2)) else (.ok (.nx ())) : T Empty (T.Lp Unit (List Int)))).bind _ = _
            rw [hv, ofO_some', if_neg (by simpa using hgo)]
            exact hX
          rcases ih (fun k' hk' => h1 k' (List.mem_cons_of_mem _ hk')) hp.2 with ⟨k2, v2, a1, a2, a3, a4, a5⟩ | ⟨a1, a2⟩
          · refine .inl ⟨k2, v2, List.mem_cons_of_mem _ a1, a2, a3, fun k' hk' v' hv' hg' => ?_, e a5⟩
            rcases List.mem_cons.mp hk' with rfl | hk'
            · rw [hv] at hv'
              cases hv'
              exact absurd hg' hgo
            · exact a4 k' hk' v' hv' hg'
          · refine .inr ⟨fun k' hk' v' hv' => ?_, e a2⟩
            rcases List.mem_cons.mp hk' with rfl | hk'
            · rw [hv] at hv'
              cases hv'
              omega
            · exact a1 k' hk' v' hv'
    rcases go ks hk hup with ⟨k, v, a1, a2, a3, a4, a5⟩ | ⟨a1, a2⟩
    · rw [a5, T.bindL_rt]
      obtain ⟨S, s1, s2, s3, s4⟩ := ht.snd _ (dget_mem' a2)
      refine post_ok ⟨S, s1, s2, by rw [← s4]; exact a3, fun S' hS' hg' => ?_⟩
      obtain ⟨p, p1, p2, p3⟩ := ht.cmp S' hS'
      have := a4 p.1 (hall p p1) p.2 (mem_dget' ht.nd p1) (by omega)
      dsimp only at s3
      omega
    · rw [a2, T.bindL_nx]
      refine post_ok fun S' hS' => ?_
      obtain ⟨p, p1, p2, p3⟩ := ht.cmp S' hS'
      have := a1 p.1 (hall p p1) p.2 (mem_dget' ht.nd p1)
      omega
end Ty

namespace Ty
open PySem VS L2
abbrev Oa := Int × Tx
def inS (us : List Suit) (c k : Nat) : Bool := decide (k = c) || memT (c : Int) (ch us k)
abbrev Brk (us : List Suit) (M : List Oa) (t : List Bool) : Prop := Settles us (fun k => memT k M) t
def turns (us : List Suit) (told : List Bool) (M : List Oa) (c : Nat) : Prop := ∀ t, Brk us M t → t[c]? ≠ told[c]?
def zone (us : List Suit) (c : Nat) (p : Oa) : Bool := decide (0 ≤ p.1) && inS us c p.1.toNat
end Ty

namespace Ty
open PySem VS L2
end Ty

namespace Ty
open PySem VS L2
def PlanOk (us : List Suit) (told : List Bool) (c : Nat) (u : Suit) (r : Option (List Oa)) : Prop := match r with
  | some row => row.Nodup ∧ (∀ p ∈ row, zone us c p = true ∧ p ∈ oathsOf us) ∧ turns us told row c ∧ (∀ M : List Oa, M.Nodup → turns us told M c → row.length ≤ (M.filter (zone us c)).length) ∧ u.c ≤ sumW u.a
  | none => told[c]? = some false ∧ sumW u.a < u.c ∧ ∀ M : List Oa, M.Nodup → ¬ turns us told M c
structure LaterOk (us : List Suit) (told : List Bool) (c : Nat) (plans : List (Option (List Oa))) : Prop where
  len : plans.length = us.length
  ok : ∀ (j : Nat) (w : Suit), c < j → us[j]? = some w → ∃ r, plans[j]? = some r ∧ PlanOk us told j w r
section
variable {us : List Suit} {told : List Bool} {plans : List (Option (List Oa))} {c : Nat} {u : Suit}
end
end Ty

namespace Ty
open PySem VS L2
section
variable {us : List Suit} {told : List Bool} {plans : List (Option (List Oa))} {c : Nat} {u : Suit}
end
end Ty

namespace Ty
open PySem VS L2
section
variable {us : List Suit} {told : List Bool} {plans : List (Option (List Oa))} {c : Nat} {u : Suit}
theorem enT_snd {α : Type} : ∀ (xs : List α) (i : Nat), (enT i xs).map (·.2) = xs
  | [], _ => rfl
  | x :: xs, i => by
    show x :: (enT (i + 1) xs).map (·.2) = _
    rw [enT_snd xs (i + 1)]
end
end Ty

namespace Ty
open PySem VS L2
open PySem.W (dataLe)
section
variable {us : List Suit} {told : List Bool} {c : Nat} {u : Suit}
end
end Ty

namespace Ty
open PySem VS L2
open PySem.W (dataLe)
structure Subs (pre : List Oa) (rows : List (List Oa)) : Prop where
  len : rows.length = 2 ^ pre.length
  mem : ∀ S, S ∈ rows ↔ S.Sublist pre
end Ty
namespace Lw
open VS Ty
end Lw

noncomputable section
namespace Ty
open PySem VS Lw L2
end Ty

namespace VS
open PySem L2
theorem rangeT2_succ (lo : Int) (n : Nat) : rangeT2 lo (n + 1) = rangeT2 lo n ++ [lo + (n : Int)] := by
  unfold rangeT2
  rw [List.range_succ, List.map_append]
  rfl
theorem rev2_post {ε ν : Type} {f : Int → ν → T ε ν} (Inv : Nat → ν → Prop) {lo n : Nat} {v : ν} (h0 : Inv (lo + n) v) (hs : ∀ (i : Nat) v, lo ≤ i → i < lo + n → Inv (i + 1) v → (f (i : Int) v).Post (Inv i)) : (T.forM (rangeT2 (lo : Int) n).reverse v f).Post (Inv lo) := by
  induction n generalizing v with
  | zero => exact post_ok h0
  | succ n ih =>
    rw [rangeT2_succ, List.reverse_append]
    have := hs (lo + n) v (by omega) (by omega) h0
    rw [show ((lo + n : Nat) : Int) = (lo : Int) + (n : Int) by omega] at this
    exact post_bind this fun v' h' => ih h' fun i v h1 h2 => hs i v h1 (by omega)
end VS
namespace Ty
open PySem VS L2
abbrev Of := Int × Int
def cS (S : List Of) : Int := (S.map (·.1)).sum
def gS (S : List Of) : Int := (S.map (·.2)).sum
theorem cS_app (S T : List Of) : cS (S ++ T) = cS S + cS T := by unfold cS; rw [List.map_append, List.sum_append]
theorem gS_app (S T : List Of) : gS (S ++ T) = gS S + gS T := by unfold gS; rw [List.map_append, List.sum_append]
theorem cS_one (o : Of) : cS [o] = o.1 := by unfold cS; simp
theorem gS_one (o : Of) : gS [o] = o.2 := by unfold gS; simp
theorem cS_nonneg {S : List Of} (h : ∀ o ∈ S, 0 ≤ o.1) : 0 ≤ cS S := sum_nonneg fun x hx => by
  obtain ⟨o, ho, rfl⟩ := List.mem_map.mp hx
  exact h o ho
def MinC (pre : List Of) (r : Int) (o : Option Int) : Prop := match o with
  | none => ∀ S : List Of, S.Sublist pre → gS S < r
  | some m => (∃ S : List Of, S.Sublist pre ∧ r ≤ gS S ∧ m = cS S) ∧ ∀ S : List Of, S.Sublist pre → r ≤ gS S → m ≤ cS S
theorem minC_nil {r : Int} (h : 1 ≤ r) : MinC [] r none := fun S hS => by
  have : S = [] := List.sublist_nil.mp hS
  subst this
  show (0 : Int) < r
  omega
theorem minC_zero {pre : List Of} (h : ∀ o ∈ pre, 0 ≤ o.1) {r : Int} (hr : r ≤ 0) : MinC pre r (some 0) := ⟨⟨[], List.nil_sublist _, hr, rfl⟩, fun S hS _ => cS_nonneg fun o ho => h o (hS.subset ho)⟩
theorem minC_step {pre : List Of} {q : Of} {r : Int} {o b : Option Int} (ho : MinC pre r o) (hb : MinC pre (r - q.2) b) : MinC (pre ++ [q]) r (match b with
    | none => o
    | some x => (match o with
      | none => some (x + q.1)
      | some y => if x + q.1 < y then some (x + q.1) else some y)) := by
  have sub1 : pre.Sublist (pre ++ [q]) := List.sublist_append_left ..
  cases b with
  | none =>
    cases o with
    | none =>
      intro S hS
      rcases sub_snoc hS with hS | ⟨S', rfl, hS'⟩
      · exact ho S hS
      · have := hb S' hS'
        rw [gS_app, gS_one]
        omega
    | some y =>
      obtain ⟨⟨Y, y1, y2, y3⟩, y4⟩ := ho
      refine ⟨⟨Y, y1.trans sub1, y2, y3⟩, fun S hS hg => ?_⟩
      rcases sub_snoc hS with hS | ⟨S', rfl, hS'⟩
      · exact y4 S hS hg
      · have := hb S' hS'
        rw [gS_app, gS_one] at hg
        omega
  | some x =>
    obtain ⟨⟨X, x1, x2, x3⟩, x4⟩ := hb
    have hX : (X ++ [q]).Sublist (pre ++ [q]) ∧ r ≤ gS (X ++ [q]) ∧ x + q.1 = cS (X ++ [q]) := ⟨x1.append (List.Sublist.refl _), by rw [gS_app, gS_one]; omega, by rw [cS_app, cS_one, x3]⟩
    cases o with
    | none =>
      refine ⟨⟨_, hX⟩, fun S hS hg => ?_⟩
      rcases sub_snoc hS with hS | ⟨S', rfl, hS'⟩
      · have := ho S hS
        omega
      · rw [gS_app, gS_one] at hg
        have := x4 S' hS' (by omega)
        rw [cS_app, cS_one]
        omega
    | some y =>
      obtain ⟨⟨Y, y1, y2, y3⟩, y4⟩ := ho
      by_cases hlt : x + q.1 < y
      · simp only [hlt, if_true]
        refine ⟨⟨_, hX⟩, fun S hS hg => ?_⟩
        rcases sub_snoc hS with hS | ⟨S', rfl, hS'⟩
        · have := y4 S hS hg
          omega
        · rw [gS_app, gS_one] at hg
          have := x4 S' hS' (by omega)
          rw [cS_app, cS_one]
          omega
      · simp only [hlt, if_false]
        refine ⟨⟨Y, y1.trans sub1, y2, y3⟩, fun S hS hg => ?_⟩
        rcases sub_snoc hS with hS | ⟨S', rfl, hS'⟩
        · exact y4 S hS hg
        · rw [gS_app, gS_one] at hg
          have := x4 S' hS' (by omega)
          rw [cS_app, cS_one]
          omega
def TabL (g : Nat) (pre : List Of) (t : List (Option Int)) : Prop := t.length = g + 1 ∧ ∀ r : Nat, r ≤ g → ∃ o, t[r]? = some o ∧ MinC pre (r : Int) o
end Ty

namespace VS
open PySem L2
end VS
namespace Ty
open PySem VS L2
open PySem.W (dataLe)
section
variable {us : List Suit} {told : List Bool} {plans : List (Option (List Oa))} {c : Nat} {u : Suit}
end
end Ty
namespace Lw
open VS Ty
end Lw

noncomputable section
namespace Ty
open PySem VS Lw L2
end Ty

namespace VS
open PySem L2
end VS
namespace Ty
open PySem VS L2
end Ty

namespace Ty
open PySem VS L2

end Ty
namespace Lw
open VS Ty
end Lw

noncomputable section
namespace Ty
open PySem VS Lw L2
end Ty

namespace Ty
open PySem VS L2
section
variable {us : List Suit} {told : List Bool} {c : Nat}
end
end Ty
namespace Lw
open VS Ty
end Lw

noncomputable section
namespace Ty
open PySem VS Lw L2
def t_measure (number : Int) (low : Int) (high : Int) : T Empty (Unit) :=
  if ((decide (number < low)) || (decide (high < number))) = true then (.no) else (.ok ())
def t_Folk_known (name : Tx) (arrivals : (Dt Tx Int)) (ranks : (List (Tp3 Tx Int Int))) (deaths : (Dt Tx (Int × Tx))) : T Empty (Unit) :=
  if (!(dget arrivals name).isSome) = true then (.no) else (.ok ())
def t_Folk_after_coming (name : Tx) (day : Int) (arrivals : (Dt Tx Int)) (ranks : (List (Tp3 Tx Int Int))) (deaths : (Dt Tx (Int × Tx))) : T Empty (Unit) :=
  (T.ofO (dget arrivals name)).bind fun v1 =>
  if (decide (day < v1)) = true then (.no) else (.ok ())
end Ty

namespace Ty
open PySem VS L2
abbrev Dd := Tp4 Tx Tx Int Int
def comeX : Tx := tx "come"
def riseX : Tx := tx "rise"
theorem come_rise : comeX ≠ riseX := by decide
def comes (ds : List Dd) : Dt Tx Int := ds.filterMap fun e => if e.a = comeX then some (e.b, e.c) else none
def rk1 (e : Dd) : Tp3 Tx Int Int := ⟨e.b, e.c, e.d⟩
structure Fo (ns : List Tx) (ds : List Dd) (arr : Dt Tx Int) (rks : List (Tp3 Tx Int Int)) : Prop where
  rk : rks = ds.map rk1
  ar : arr = comes ds
  nm : arr.map Prod.fst = ns
  kd : ∀ e ∈ ds, (e.a = comeX ∨ e.a = riseX) ∧ 0 ≤ e.c ∧ e.c ≤ 9999
theorem comes_mem {ds : List Dd} {p : Tx × Int} (h : p ∈ comes ds) : ∃ e ∈ ds, p = (e.b, e.c) := by
  unfold comes at h
  obtain ⟨e, he, h2⟩ := List.mem_filterMap.mp h
  by_cases ha : e.a = comeX
  · rw [if_pos ha] at h2
    exact ⟨e, he, (Option.some.inj h2).symm⟩
  · rw [if_neg ha] at h2
    cases h2
theorem dget_mem2 {d : Dt Tx Int} {n : Tx} (h : n ∈ d.map Prod.fst) : ∃ v, dget d n = some v ∧ (n, v) ∈ d := by
  cases hg : dget d n with
  | some v => exact ⟨v, rfl, dget_mem' hg⟩
  | none =>
    exfalso
    have : (dget d n).isSome = true := by
      rw [dget_isSome, List.any_eq_true]
      obtain ⟨p, hp, e⟩ := List.mem_map.mp h
      exact ⟨p, hp, decide_eq_true e⟩
    rw [hg] at this
    cases this
theorem Fo.at_ {ns : List Tx} {ds : List Dd} {arr : Dt Tx Int} {rks : List (Tp3 Tx Int Int)} (f : Fo ns ds arr rks) {n : Tx} (h : n ∈ ns) : ∃ v, dget arr n = some v ∧ 0 ≤ v ∧ v ≤ 9999 := by
  rw [← f.nm] at h
  obtain ⟨v, h1, h2⟩ := dget_mem2 h
  rw [f.ar] at h2
  obtain ⟨e, he, hp⟩ := comes_mem h2
  cases hp
  exact ⟨_, h1, (f.kd e he).2⟩
theorem measure_ok {a lo hi : Int} (h : lo ≤ a ∧ a ≤ hi) : t_measure a lo hi = .ok () := by
  unfold t_measure
  rw [if_neg]
  simp
  omega
theorem known_ok {n : Tx} {arr : Dt Tx Int} {rks : List (Tp3 Tx Int Int)} {de : Dt Tx (Int × Tx)} {v : Int} (h : dget arr n = some v) : t_Folk_known n arr rks de = .ok () := by
  unfold t_Folk_known
  rw [h]
  rfl
theorem after_ok {n : Tx} {d : Int} {arr : Dt Tx Int} {rks : List (Tp3 Tx Int Int)} {de : Dt Tx (Int × Tx)} {v : Int} (h : dget arr n = some v) (hd : v ≤ d) : t_Folk_after_coming n d arr rks de = .ok () := by
  unfold t_Folk_after_coming
  rw [h, ofO_some', if_neg (by rw [decide_eq_true_eq]; omega)]
theorem Fo.rise {ns : List Tx} {ds : List Dd} {arr : Dt Tx Int} {rks : List (Tp3 Tx Int Int)} (f : Fo ns ds arr rks) {n : Tx} {d w : Int} (h : 0 ≤ d ∧ d ≤ 9999) : Fo ns (ds ++ [Tp4.mk (tx "rise") n d w]) arr (rks ++ [Tp3.mk n d w]) := by
  refine ⟨by rw [f.rk, List.map_append]; rfl, ?_, f.nm, fun e he => ?_⟩
  · rw [f.ar]
    unfold comes
    rw [List.filterMap_append, List.filterMap_cons, if_neg (show ¬ (tx "rise" = comeX) from fun z => come_rise z.symm), List.filterMap_nil, List.append_nil]
  · rcases List.mem_append.mp he with he | he
    · exact f.kd e he
    · rw [List.mem_singleton] at he
      subst he
      exact ⟨.inr rfl, h⟩
theorem Fo.come {ns : List Tx} {ds : List Dd} {arr : Dt Tx Int} {rks : List (Tp3 Tx Int Int)} (f : Fo ns ds arr rks) {n : Tx} {d w : Int} (hn : n ∉ ns) (h : 0 ≤ d ∧ d ≤ 9999) : Fo (ns ++ [n]) (ds ++ [Tp4.mk (tx "come") n d w]) (dput arr n d) (rks ++ [Tp3.mk n d w]) := by
  have hp : dput arr n d = arr ++ [(n, d)] := by
    unfold dput
    rw [if_neg]
    intro z
    rw [List.any_eq_true] at z
    obtain ⟨p, hp, e⟩ := z
    exact hn (by rw [← f.nm]; exact List.mem_map.mpr ⟨p, hp, of_decide_eq_true e⟩)
  rw [hp]
  refine ⟨by rw [f.rk, List.map_append]; rfl, ?_, by rw [List.map_append, f.nm]; rfl, fun e he => ?_⟩
  · rw [f.ar]
    unfold comes
    rw [List.filterMap_append, List.filterMap_cons, if_pos (show tx "come" = comeX from rfl), List.filterMap_nil]
  · rcases List.mem_append.mp he with he | he
    · exact f.kd e he
    · rw [List.mem_singleton] at he
      subst he
      exact ⟨.inl rfl, h⟩
end Ty
namespace Lw
open VS Ty
end Lw

noncomputable section
namespace Ty
open PySem VS Lw L2
def t_Folk_die (name : Tx) (day : Int) (heir : Tx) (arrivals : (Dt Tx Int)) (ranks : (List (Tp3 Tx Int Int))) (deaths : (Dt Tx (Int × Tx))) : T Empty ((Dt Tx (Int × Tx))) :=
  (t_measure day ((0 : Int)) ((9999 : Int))).bind fun _ =>
  (t_Folk_known name arrivals ranks deaths).bind fun _ =>
  (t_Folk_known heir arrivals ranks deaths).bind fun _ =>
  (t_Folk_after_coming name day arrivals ranks deaths).bind fun _ =>
  (t_Folk_after_coming heir day arrivals ranks deaths).bind fun _ =>
  if ((dget deaths name).isSome) = true then (.no) else (if ((decide (heir = name)) || ((dget deaths heir).isSome)) = true then (.no) else (T.gd (deaths.length < sizeLine) <|
  .ok (dput deaths name (day, heir))))
end Ty

namespace VS
open PySem L2
end VS
namespace Ty
open PySem VS L2
abbrev Di := Tp4 Tx Tx Int Itx
def dieX : Tx := tx "die"
theorem come_die : comeX ≠ dieX := by decide
def comes2 (ds : List Di) : Dt Tx Int := ds.filterMap fun e => if e.a = comeX then some (e.b, e.c) else none
def dies (ds : List Di) : Dt Tx (Int × Itx) := ds.filterMap fun e => if e.a = dieX then some (e.b, (e.c, e.d)) else none
abbrev Des := Dt Tx (Int × Tx)
def toI (p : Tx × (Int × Tx)) : Tx × (Int × Itx) := (p.1, (p.2.1, Itx.t p.2.2))
def deadB (de : Des) (n : Tx) (d : Int) : Bool := match dget de n with
  | some v => decide (v.1 ≤ d)
  | none => false
structure Fd (ns : List Tx) (ds : List Di) (arr : Dt Tx Int) (de : Des) : Prop where
  ar : arr = comes2 ds
  nm : arr.map Prod.fst = ns
  kd : ∀ p ∈ arr, 0 ≤ p.2 ∧ p.2 ≤ 9999
  di : dies ds = de.map toI
  dk : ∀ p ∈ de, p.1 ∈ ns ∧ p.2.2 ∈ ns
  ok : ∀ (pre post : Des) (n : Tx) (v : Int × Tx), de = pre ++ (n, v) :: post → v.2 ≠ n ∧ v.2 ∉ pre.map Prod.fst
inductive Heir (de : Des) (d : Int) : Tx → Tx → Nat → Prop
  | stop {n : Tx} : deadB de n d = false → Heir de d n n 0
  | step {n h r : Tx} {dd : Int} {k : Nat} : dget de n = some (dd, h) → dd ≤ d → Heir de d h r k → Heir de d n r (k + 1)
end Ty
namespace Ty
open PySem VS L2
theorem not_key {de : Des} {n : Tx} (h : dget de n = none) : n ∉ de.map Prod.fst := fun z => by
  have : (dget de n).isSome = true := by
    rw [dget_isSome, List.any_eq_true]
    obtain ⟨p, hp, e⟩ := List.mem_map.mp z
    exact ⟨p, hp, decide_eq_true e⟩
  rw [h] at this
  cases this
theorem Fd.die {ns : List Tx} {ds : List Di} {arr : Dt Tx Int} {de : Des} (f : Fd ns ds arr de) {x h : Tx} {d : Int} (hx : x ∈ ns) (hh : h ∈ ns) (hne : h ≠ x) (h2 : dget de h = none) : Fd ns (ds ++ [Tp4.mk (tx "die") x d (Itx.t h)]) arr (de ++ [(x, (d, h))]) := by
  refine ⟨?_, f.nm, f.kd, ?_, fun p hp => ?_, fun pre post n v e => ?_⟩
  · rw [f.ar]
    unfold comes2
    rw [List.filterMap_append, List.filterMap_cons, if_neg (show ¬ (tx "die" = comeX) from fun z => come_die z.symm), List.filterMap_nil, List.append_nil]
  · have : dies (ds ++ [Tp4.mk (tx "die") x d (Itx.t h)]) = dies ds ++ [(x, (d, Itx.t h))] := by
      unfold dies
      rw [List.filterMap_append, List.filterMap_cons, if_pos (show tx "die" = dieX from rfl), List.filterMap_nil]
    rw [this, f.di, List.map_append]
    rfl
  · rcases List.mem_append.mp hp with hp | hp
    · exact f.dk p hp
    · rw [List.mem_singleton] at hp
      subst hp
      exact ⟨hx, hh⟩
  · rcases List.eq_nil_or_concat post with rfl | ⟨q, l, rfl⟩
    · have e := List.append_inj' e rfl
      obtain ⟨e1, e2⟩ := e
      cases e2
      subst e1
      exact ⟨hne, not_key h2⟩
    · rw [List.concat_eq_append, ← List.cons_append, ← List.append_assoc] at e
      have e := List.append_inj' e rfl
      exact f.ok pre q n v e.1
theorem die_ok {ns : List Tx} {ds : List Di} {arr : Dt Tx Int} {de : Des} (f : Fd ns ds arr de) {x h : Tx} {d a b : Int} (hne : h ≠ x) (h1 : dget de x = none) (h2 : dget de h = none) (hd : 0 ≤ d ∧ d ≤ 9999) (ha : dget arr x = some a) (hb : dget arr h = some b) (had : a ≤ d) (hbd : b ≤ d) (hl : de.length ≤ 1000) (rks : List (Tp3 Tx Int Int)) : t_Folk_die x d h arr rks de = .ok (de ++ [(x, (d, h))]) := by
  unfold t_Folk_die
  rw [measure_ok hd, T.ok_bind, known_ok ha, T.ok_bind, known_ok hb, T.ok_bind, after_ok ha had, T.ok_bind, after_ok hb hbd, T.ok_bind, h1, h2]
  simp only [Option.isSome_none, Bool.false_eq_true, if_false, Bool.or_false]
  rw [if_neg (by simpa using hne), T.gd_of (szl _ (by omega))]
  congr 1
  unfold dput
  rw [if_neg]
  intro z
  rw [List.any_eq_true] at z
  obtain ⟨p, hp, e⟩ := z
  exact not_key h1 (List.mem_map.mpr ⟨p, hp, of_decide_eq_true e⟩)
end Ty
namespace Lw
open VS Ty
end Lw

namespace VS
open PySem PySem.Spec PyProof.Rows L2
section
variable {α β γ κ ν ω : Type} {A : LS} {t : T Empty β} {F : β → ω} {B : β → LS} {X : Empty → LS}
end
end VS
namespace Ty
open PySem VS Lw
end Ty
namespace VS
open PySem PySem.Spec PyProof.Rows L2
end VS

namespace Ty
open PySem PySem.Spec PyProof.Rows VS Lw L2
end Ty

noncomputable section
namespace Ty
open PySem VS Lw L2
end Ty

namespace Ty
open PySem VS L2
theorem die_rise : ¬ (dieX = comeX ∨ dieX = riseX) := by decide
def rkOf (e : Di) : Option (Tp3 Tx Int Itx) := if e.a = comeX ∨ e.a = riseX then some ⟨e.b, e.c, e.d⟩ else none
def rkI (r : Tp3 Tx Int Int) : Tp3 Tx Int Itx := ⟨r.a, r.b, Itx.i r.c⟩
structure F4 (ns : List Tx) (ds : List Di) (arr : Dt Tx Int) (rks : List (Tp3 Tx Int Int)) (de : Des) : Prop where
  fd : Fd ns ds arr de
  rk : ds.filterMap rkOf = rks.map rkI
  kc : ∀ e ∈ ds, 0 ≤ e.c
  ad : ∀ p ∈ arr, p.2 ≤ 5
theorem F4.len {ns : List Tx} {ds : List Di} {arr : Dt Tx Int} {rks : List (Tp3 Tx Int Int)} {de : Des} (f : F4 ns ds arr rks de) : arr.length ≤ ds.length ∧ rks.length ≤ ds.length ∧ de.length ≤ ds.length ∧ ns.length = arr.length := by
  refine ⟨?_, ?_, ?_, ?_⟩
  · rw [f.fd.ar]
    exact List.length_filterMap_le _ _
  · have := congrArg List.length f.rk
    rw [List.length_map] at this
    rw [← this]
    exact List.length_filterMap_le _ _
  · have := congrArg List.length f.fd.di
    rw [List.length_map] at this
    rw [← this]
    exact List.length_filterMap_le _ _
  · rw [← f.fd.nm, List.length_map]
theorem F4.come {ns : List Tx} {ds : List Di} {arr : Dt Tx Int} {rks : List (Tp3 Tx Int Int)} {de : Des} (f : F4 ns ds arr rks de) {n : Tx} {d w : Int} (h : 0 ≤ d ∧ d ≤ 5) : F4 (ns ++ [n]) (ds ++ [Tp4.mk (tx "come") n d (Itx.i w)]) (arr ++ [(n, d)]) (rks ++ [Tp3.mk n d w]) de := by
  refine ⟨⟨?_, ?_, fun p hp => ?_, ?_, fun p hp => ?_, f.fd.ok⟩, ?_, fun e he => ?_, fun p hp => ?_⟩
  · rw [f.fd.ar]
    unfold comes2
    rw [List.filterMap_append, List.filterMap_cons, if_pos (show tx "come" = comeX from rfl), List.filterMap_nil]
  · rw [List.map_append, f.fd.nm]
    rfl
  · rcases List.mem_append.mp hp with hp | hp
    · exact f.fd.kd p hp
    · rw [List.mem_singleton] at hp
      subst hp
      exact ⟨h.1, Int.le_trans h.2 (by decide)⟩
  · have := f.fd.di
    unfold dies at this ⊢
    rw [List.filterMap_append, this, List.filterMap_cons, if_neg (show ¬ (tx "come" = dieX) from come_die), List.filterMap_nil, List.append_nil]
  · exact ⟨List.mem_append_left _ (f.fd.dk p hp).1, List.mem_append_left _ (f.fd.dk p hp).2⟩
  · rw [List.filterMap_append, f.rk, List.map_append]
    rfl
  · rcases List.mem_append.mp he with he | he
    · exact f.kc e he
    · rw [List.mem_singleton] at he
      subst he
      exact h.1
  · rcases List.mem_append.mp hp with hp | hp
    · exact f.ad p hp
    · rw [List.mem_singleton] at hp
      subst hp
      exact h.2
theorem F4.die {ns : List Tx} {ds : List Di} {arr : Dt Tx Int} {rks : List (Tp3 Tx Int Int)} {de : Des} (f : F4 ns ds arr rks de) {x h : Tx} {d : Int} (h0 : 0 ≤ d) (hx : x ∈ ns) (hh : h ∈ ns) (hne : h ≠ x) (h2 : dget de h = none) : F4 ns (ds ++ [Tp4.mk (tx "die") x d (Itx.t h)]) arr rks (de ++ [(x, (d, h))]) := by
  refine ⟨f.fd.die hx hh hne h2, ?_, fun e he => ?_, f.ad⟩
  · rw [List.filterMap_append, f.rk]
    have : [Tp4.mk (tx "die") x d (Itx.t h)].filterMap rkOf = [] := by
      rw [List.filterMap_cons, show rkOf (Tp4.mk (tx "die") x d (Itx.t h)) = none from if_neg die_rise]
      rfl
    rw [this, List.append_nil]
  · rcases List.mem_append.mp he with he | he
    · exact f.kc e he
    · rw [List.mem_singleton] at he
      subst he
      exact h0
theorem rise_not : riseX ≠ comeX ∧ riseX ≠ dieX := by decide
theorem F4.rise {ns : List Tx} {ds : List Di} {arr : Dt Tx Int} {rks : List (Tp3 Tx Int Int)} {de : Des} (f : F4 ns ds arr rks de) {n : Tx} {d w : Int} (h0 : 0 ≤ d) : F4 ns (ds ++ [Tp4.mk (tx "rise") n d (Itx.i w)]) arr (rks ++ [Tp3.mk n d w]) de := by
  refine ⟨⟨?_, f.fd.nm, f.fd.kd, ?_, f.fd.dk, f.fd.ok⟩, ?_, fun e he => ?_, f.ad⟩
  · rw [f.fd.ar]
    unfold comes2
    rw [List.filterMap_append, List.filterMap_cons, if_neg (show ¬ (tx "rise" = comeX) from rise_not.1), List.filterMap_nil, List.append_nil]
  · have := f.fd.di
    unfold dies at this ⊢
    rw [List.filterMap_append, this, List.filterMap_cons, if_neg (show ¬ (tx "rise" = dieX) from rise_not.2), List.filterMap_nil, List.append_nil]
  · rw [List.filterMap_append, f.rk, List.map_append]
    have : [Tp4.mk (tx "rise") n d (Itx.i w)].filterMap rkOf = [rkI ⟨n, d, w⟩] := by
      rw [List.filterMap_cons, show rkOf (Tp4.mk (tx "rise") n d (Itx.i w)) = some ⟨n, d, Itx.i w⟩ from if_pos (.inr rfl)]
      rfl
    rw [this]
    rfl
  · rcases List.mem_append.mp he with he | he
    · exact f.kc e he
    · rw [List.mem_singleton] at he
      subst he
      exact h0
end Ty
namespace Lw
open VS Ty
end Lw

namespace VS
open PySem PySem.Spec PyProof.Rows L2
section
variable {ε ε' α β γ δ κ ω : Type} {A : LS} {t : T ε β} {F : β → ω} {B : β → LS} {X : ε → LS}
class KDt (κ : Type) [Enc κ] [EncK κ] : Prop where
  eq : ∀ x : κ, (Enc.enc x : D) = .tuple ((EncK.ks x).map kD)
instance {κ μ : Type} [Enc κ] [Enc1 κ] [KD1 κ] [Enc μ] [Enc1 μ] [KD1 μ] : KDt (κ × μ) := ⟨fun p => by
  show PyData.tuple [Enc.enc p.1, Enc.enc p.2] = PyData.tuple [kD (Enc1.k1 p.1), kD (Enc1.k1 p.2)]
  rw [kD_k1, kD_k1]⟩
theorem itemsT_enc [Enc κ] [EncK κ] [KDt κ] [Enc α] (d : Dt κ α) : itemsT (encT d) = d.map (Enc.enc : κ × α → D) := by
  unfold itemsT encT
  rw [List.map_map]
  refine List.map_congr_left fun p _ => ?_
  show PyData.tuple [.tuple ((EncK.ks p.1).map kD), Enc.enc p.2] = PyData.tuple [Enc.enc p.1, Enc.enc p.2]
  rw [← KDt.eq]
theorem e_itemsT {g : LS → R S} {k : List D → LS → R ω} (h : SK A (fun L => (g L).bind fun s L1 => (asItemsT s L1).bind k) t F B X) : SK A (fun L => ((g L).bind asItemsT).bind k) t F B X := e_bind h
theorem c_itemsTt [Enc κ] [EncK κ] [KDt κ] [Enc α] {d : Dt κ α} {k : List D → LS → R ω} (h : SK A (k (d.map Enc.enc)) t F B X) : SK A (fun L => (asItemsT (.odT (encT d)) L).bind k) t F B X := fun L hL => by
  have h := h L hL
  show SimR ((R.ok (itemsT (encT d)) L).bind k) t F B X
  rw [itemsT_enc]
  exact h
end
class Sc (α : Type) [Enc α] [DecidableEq α] where
  dep : Nat
  lay : ∀ x : α, (Enc.enc x : D).canLay0 = true
  dp : ∀ x : α, (Enc.enc x : D).depth ≤ dep
  eqv : ∀ x y : α, (Enc.enc x : D).eqv (Enc.enc y) = decide (x = y)
instance (priority := low) {α : Type} [Enc α] [DecidableEq α] [i : Sh α] : Sc α := ⟨i.dep, i.lay, i.dp, i.eqv⟩
instance {α : Type} [Enc α] [DecidableEq α] [i : Sh α] : Sc (Option α) := ⟨i.dep, fun x => by
  cases x with
  | none => show PyData.canLay0 .none = true; unfold PyData.canLay0; rfl
  | some a => exact i.lay a, fun x => by
  cases x with
  | none => show PyData.depth .none ≤ _; unfold PyData.depth; exact Nat.zero_le _
  | some a => exact i.dp a, eqv_opt⟩
instance {α β γ δ : Type} [Enc α] [DecidableEq α] [i : Sc α] [Enc β] [DecidableEq β] [j : Sc β] [Enc γ] [DecidableEq γ] [k : Sc γ] [Enc δ] [DecidableEq δ] [l : Sc δ] : Sh (Tp4 α β γ δ) where
  dep := max i.dep (max j.dep (max k.dep l.dep)) + 1
  nn := fun _ h => by cases h
  lay := fun p => by
    show PyData.canLay0 (.tuple [Enc.enc p.a, Enc.enc p.b, Enc.enc p.c, Enc.enc p.d]) = true
    simp [PyData.canLay0, PyData.canLayAll0, Sc.lay p.a, Sc.lay p.b, Sc.lay p.c, Sc.lay p.d]
  dp := fun p => by
    show PyData.depth (.tuple [Enc.enc p.a, Enc.enc p.b, Enc.enc p.c, Enc.enc p.d]) ≤ _
    have h1 := i.dp p.a
    have h2 := j.dp p.b
    have h3 := k.dp p.c
    have h4 := l.dp p.d
    simp only [PyData.depth, PyData.depthAll]
    omega
  eqv := fun p q => by
    show PyData.eqv (.tuple [Enc.enc p.a, Enc.enc p.b, Enc.enc p.c, Enc.enc p.d]) (.tuple [Enc.enc q.a, Enc.enc q.b, Enc.enc q.c, Enc.enc q.d]) = _
    simp only [PyData.eqv, PyData.eqvAll, Sc.eqv, Bool.and_true]
    have e : decide (p = q) = decide (p.a = q.a ∧ p.b = q.b ∧ p.c = q.c ∧ p.d = q.d) := decide_eq_decide.mpr tp4_ext
    rw [e]
    by_cases h1 : p.a = q.a <;> by_cases h2 : p.b = q.b <;> by_cases h3 : p.c = q.c <;> by_cases h4 : p.d = q.d <;> simp [h1, h2, h3, h4]
end VS

noncomputable section
namespace Ty
open PySem VS Lw L2
end Ty

namespace Ty
open PySem VS L2
structure Fk (ns : List Tx) (ds : List Di) (arr : Dt Tx Int) (de : Des) : Prop where
  f : Fd ns ds arr de
  ad : ∀ p ∈ arr, 0 ≤ p.2 ∧ p.2 ≤ 5
  dd : ∀ p ∈ de, 6 ≤ p.2.1 ∧ p.2.1 ≤ 25
theorem Fk.at_ {ns : List Tx} {ds : List Di} {arr : Dt Tx Int} {de : Des} (k : Fk ns ds arr de) {n : Tx} (h : n ∈ ns) : ∃ v, dget arr n = some v ∧ 0 ≤ v ∧ v ≤ 5 := by
  rw [← k.f.nm] at h
  obtain ⟨v, h1, h2⟩ := dget_mem2 h
  exact ⟨v, h1, k.ad _ h2⟩
theorem Fk.die {ns : List Tx} {ds : List Di} {arr : Dt Tx Int} {de : Des} (k : Fk ns ds arr de) {x h : Tx} {d : Int} (hx : x ∈ ns) (hh : h ∈ ns) (hne : h ≠ x) (h2 : dget de h = none) (hd : 6 ≤ d ∧ d ≤ 25) : Fk ns (ds ++ [Tp4.mk (tx "die") x d (Itx.t h)]) arr (de ++ [(x, (d, h))]) :=
  ⟨k.f.die hx hh hne h2, k.ad, fun p hp => by
    rcases List.mem_append.mp hp with hp | hp
    · exact k.dd p hp
    · rw [List.mem_singleton] at hp
      subst hp
      exact hd⟩
theorem Fk.dies {ns : List Tx} {ds : List Di} {arr : Dt Tx Int} {de : Des} (k : Fk ns ds arr de) {x h : Tx} {d : Int} (hx : x ∈ ns) (hh : h ∈ ns) (hne : h ≠ x) (h1 : dget de x = none) (h2 : dget de h = none) (hd : 6 ≤ d ∧ d ≤ 25) (hl : de.length ≤ 1000) (rks : List (Tp3 Tx Int Int)) : t_Folk_die x d h arr rks de = .ok (de ++ [(x, (d, h))]) := by
  obtain ⟨a, ha, _, _⟩ := k.at_ hx
  obtain ⟨b, hb, _, _⟩ := k.at_ hh
  exact die_ok k.f hne h1 h2 ⟨by omega, by omega⟩ ha hb (by omega) (by omega) hl rks
abbrev Stp := Tp4 Int Tx (Option Tx) Tx
end Ty

namespace Ty
open PySem VS L2
def leftS (v : Int × Tx) (l : Stp) : Stp := Tp4.mk (max v.1 l.a) (tx "left") (some l.d) v.2
def lvF (de : Des) (day : Int) : Nat → List Stp → List Stp
  | 0, st => st
  | k + 1, st => match st.getLast? with
    | none => st
    | some l => match dget de l.d with
      | some v => if v.1 ≤ day then lvF de day k (st ++ [leftS v l]) else st
      | none => st
def Gst (ns : List Tx) (st : List Stp) : Prop := ∃ l, st.getLast? = some l ∧ l.d ∈ ns
theorem Gst.snoc {ns : List Tx} (st : List Stp) {l : Stp} (h : l.d ∈ ns) : Gst ns (st ++ [l]) := ⟨l, by simp, h⟩
def LV (de : Des) (day : Int) (st : List Stp) : List Stp := lvF de day 50 st
def evS (de : Des) (st : List Stp) (e : Stp) : List Stp := match (LV de e.a st).getLast? with
  | none => LV de e.a st
  | some l => if e.b = tx "won" then LV de e.a st ++ [Tp4.mk e.a (tx "won") (some l.d) e.d] else if some l.d = e.c then LV de e.a st ++ [Tp4.mk e.a (tx "given") e.c e.d] else LV de e.a st
end Ty

namespace VS
open PySem L2
end VS
namespace Ty
open PySem VS L2
structure Ev (ns : List Tx) (b : Oath) (evs : List Stp) : Prop where
  bm : b.1 ∈ ns
  bd : 5 ≤ b.2 ∧ b.2 ≤ 12
  ln : evs.length ≤ 14
  ev : ∀ e ∈ evs, b.2 ≤ e.a ∧ e.a < b.2 + 20 ∧ e.d ∈ ns ∧ ((e.b = tx "won" ∧ e.c = none) ∨ e.b = tx "given")
def PG (ns : List Tx) (n : Nat) (st : List Stp) : Prop := Gst ns st ∧ st.length ≤ 1 + 51 * n
end Ty
namespace Lw
open VS Ty
end Lw

noncomputable section
namespace Ty
open PySem VS Lw L2
def t_law_whole (found : Int) : T Empty (Bool) :=
  .ok (true && (!false))
theorem r_law_whole (found : Int) : SK [dv found] Lw.m_law_whole (t_law_whole found) (fun r => (S.d (Enc.enc r))) (fun r => [none]) XV := by
  unfold Lw.m_law_whole Lw.g_law_whole t_law_whole
  refine f_def (X' := XV) ?_ xe_no
  show SK [dv found] _ _ _ _ _
  refine s_ret ?_
  refine e_pu (pu_d (pu_andV (pu_isi (d := Enc.enc found) (b := true) (pu_peek (by rfl)) (show kitB "int" "int" = some true by decide +kernel)) (pu_un (z := (Enc.enc (!false))) (pu_isi (d := Enc.enc found) (b := false) (pu_peek (by rfl)) (show kitB "int" "bool" = some false by decide +kernel)) rfl))) ?_
  exact f_rt rfl (mt_w mt_nil)
end Ty

namespace Ty
open PySem VS L2
theorem given_won : tx "given" ≠ tx "won" := by decide
def Fit (evs : List Stp) (de : Des) (x y : Stp) : Prop := x.a ≤ y.a ∧ y.c = some x.d ∧ ((y.b = tx "given" ∧ y ∈ evs) ∨ (y.b = tx "won" ∧ Tp4.mk y.a (tx "won") none y.d ∈ evs) ∨ (y.b = tx "left" ∧ ∃ v, dget de x.d = some v ∧ v.1 ≤ y.a ∧ y.d = v.2 ∧ (y.a = v.1 ∨ y.a = x.a)))
structure Wk (evs : List Stp) (de : Des) (b : Oath) (t : Int) (st : List Stp) : Prop where
  c : ∀ i x y, st[i]? = some x → st[i + 1]? = some y → Fit evs de x y
  h : st[0]? = some (Tp4.mk b.2 (tx "brought") none b.1)
  l : ∃ l, st.getLast? = some l ∧ l.a ≤ t
theorem Wk.snoc {evs : List Stp} {de : Des} {b : Oath} {t t' : Int} {st : List Stp} {l y : Stp} (w : Wk evs de b t st) (hl : st.getLast? = some l) (hf : Fit evs de l y) (ht : y.a ≤ t') : Wk evs de b t' (st ++ [y]) := by
  obtain ⟨p, rfl⟩ := List.getLast?_eq_some_iff.mp hl
  refine ⟨fun i x z h1 h2 => ?_, ?_, ⟨y, by simp, ht⟩⟩
  · by_cases hi : i + 1 < (p ++ [l]).length
    · rw [List.getElem?_append_left (by omega)] at h1
      rw [List.getElem?_append_left hi] at h2
      exact w.c i x z h1 h2
    · have hlt := (List.getElem?_eq_some_iff.mp h2).1
      rw [List.length_append, List.length_singleton] at hlt
      have hi2 : i + 1 = (p ++ [l]).length := by omega
      rw [hi2, List.getElem?_append_right (Nat.le_refl _), Nat.sub_self] at h2
      cases h2
      have hi3 : i = p.length := by rw [List.length_append, List.length_singleton] at hi2; omega
      rw [List.getElem?_append_left (by omega), hi3, List.getElem?_append_right (Nat.le_refl _), Nat.sub_self] at h1
      cases h1
      exact hf
  · have := w.h
    rw [List.getElem?_append_left (by simp)]
    exact this
theorem Wk.up {evs : List Stp} {de : Des} {b : Oath} {t t' : Int} {st : List Stp} (w : Wk evs de b t st) (h : t ≤ t') : Wk evs de b t' st :=
  ⟨w.c, w.h, let ⟨l, a, b⟩ := w.l; ⟨l, a, by omega⟩⟩
theorem Wk.lv {evs : List Stp} {de : Des} {b : Oath} {day : Int} : ∀ (k : Nat) {st : List Stp}, Wk evs de b day st → Wk evs de b day (lvF de day k st)
  | 0, _, w => w
  | k + 1, st, w => by
    obtain ⟨l, hl, ht⟩ := w.l
    unfold lvF
    rw [hl]
    dsimp only
    split
    · rename_i v hv
      split
      · rename_i hd
        refine Wk.lv k (w.snoc hl ⟨?_, rfl, .inr (.inr ⟨rfl, v, hv, ?_, rfl, ?_⟩)⟩ ?_)
        · show l.a ≤ max v.1 l.a
          omega
        · show v.1 ≤ max v.1 l.a
          omega
        · show max v.1 l.a = v.1 ∨ max v.1 l.a = l.a
          omega
        · show max v.1 l.a ≤ day
          omega
      · exact w
    · exact w
theorem Wk.ev {ns : List Tx} {evs : List Stp} {de : Des} {b : Oath} {t : Int} {st : List Stp} {e : Stp} (v : Ev ns b evs) (he : e ∈ evs) (w : Wk evs de b t st) (ht : t ≤ e.a) : Wk evs de b e.a (evS de st e) := by
  have w2 : Wk evs de b e.a (LV de e.a st) := Wk.lv 50 (w.up ht)
  obtain ⟨l, hl, hla⟩ := w2.l
  obtain ⟨_, _, _, hk⟩ := v.ev e he
  unfold evS
  rw [hl]
  dsimp only
  by_cases q1 : e.b = tx "won"
  · rw [if_pos q1]
    refine w2.snoc hl ⟨hla, rfl, .inr (.inl ⟨rfl, ?_⟩)⟩ (Int.le_refl _)
    rcases hk with ⟨_, k2⟩ | k
    · have : Tp4.mk e.a (tx "won") none e.d = e := by rw [← k2, ← q1]
      dsimp only
      rw [this]
      exact he
    · exact absurd (k.symm.trans q1) given_won
  · rw [if_neg q1]
    by_cases q2 : some l.d = e.c
    · rw [if_pos q2]
      refine w2.snoc hl ⟨hla, q2.symm, .inl ⟨rfl, ?_⟩⟩ (Int.le_refl _)
      rcases hk with ⟨k1, _⟩ | k
      · exact absurd k1 q1
      · have : Tp4.mk e.a (tx "given") e.c e.d = e := by rw [← k]
        rw [this]
        exact he
    · rw [if_neg q2]
      exact w2
end Ty
namespace Lw
open VS Ty
end Lw

noncomputable section
namespace Ty
open PySem VS Lw L2
end Ty

noncomputable section
namespace Ty
open PySem VS Lw L2
end Ty

namespace VS
open PySem L2
open PySem.W (dataLe)
end VS
namespace Ty
open PySem VS L2
open PySem.W (dataLe)
def hF (de : Des) (d : Int) : Nat → Tx → Tx
  | 0, n => n
  | k + 1, n => match dget de n with
    | some v => if v.1 ≤ d then hF de d k v.2 else n
    | none => n
def hr (de : Des) (d : Int) (n : Tx) : Tx := hF de d 50 n
abbrev Ent4 := Tp4 Int Tx Tx Int
structure En (ns : List Tx) (es : List Ent4) : Prop where
  ln : es.length ≤ 60
  nm : ∀ e ∈ es, e.b ∈ ns ∧ e.c ∈ ns
end Ty

namespace Ty
open PySem VS L2
open PySem.W (dataLe)
abbrev Sms := Dt (Tx × Tx) Int
structure SmOk (N : Tx → Tx → Int) (sm : Sms) : Prop where
  nd : NdK sm
  lt : ∀ kv ∈ sm, ltT kv.1.1 kv.1.2 = true
  eq : ∀ p q, ltT p q = true → (dget sm (p, q)).getD 0 = N p q
theorem dput_keys {κ α : Type} [DecidableEq κ] {d : Dt κ α} {k : κ} {v : α} {P : κ → Prop} (hk : P k) (h : ∀ kv ∈ d, P kv.1) : ∀ kv ∈ dput d k v, P kv.1 := by
  intro kv hkv
  unfold dput at hkv
  split at hkv
  · obtain ⟨p, hp, rfl⟩ := List.mem_map.mp hkv
    split
    · exact h p hp
    · exact h p hp
  · rcases List.mem_append.mp hkv with hkv | hkv
    · exact h kv hkv
    · rw [List.mem_singleton] at hkv
      subst hkv
      exact hk
theorem SmOk.put {N : Tx → Tx → Int} {sm : Sms} (s : SmOk N sm) {p q : Tx} (hpq : ltT p q = true) (m : Int) : SmOk (fun x y => N x y + (if x = p ∧ y = q then m else 0)) (dput sm (p, q) ((dget sm (p, q)).getD 0 + m)) := by
  refine ⟨ndk_put s.nd _ _, dput_keys (P := fun k : Tx × Tx => ltT k.1 k.2 = true) hpq s.lt, fun x y hxy => ?_⟩
  rw [dget_put]
  by_cases z : (p, q) = (x, y)
  · cases z
    rw [if_pos rfl, if_pos ⟨rfl, rfl⟩, ← s.eq p q hpq]
    rfl
  · rw [if_neg z, if_neg (fun w => z (by rw [w.1, w.2])), s.eq x y hxy, Int.add_zero]
theorem SmOk.congr {N M : Tx → Tx → Int} {sm : Sms} (s : SmOk N sm) (h : ∀ p q, ltT p q = true → N p q = M p q) : SmOk M sm :=
  ⟨s.nd, s.lt, fun p q hpq => (s.eq p q hpq).trans (h p q hpq)⟩
end Ty
namespace Lw
open VS Ty
end Lw

namespace Ty
open PySem VS L2
end Ty
namespace Lw
open VS Ty
end Lw

namespace VS
open PySem PySem.Spec PyProof.Rows L2
abbrev bv {α : Type} [Enc α] (xs : List α) : Option S := some (.bl (xs.map Enc.enc))
class ScT (α : Type) [Enc α] : Prop where
  sc : ∀ x : α, scal (Enc.enc x) = true
instance : ScT Int := ⟨fun _ => rfl⟩
instance : ScT Tx := ⟨fun _ => rfl⟩
instance : ScT Bool := ⟨fun _ => rfl⟩
class ItT (α : Type) [Enc α] : Prop where
  it : ∀ x : α, itemOk (Enc.enc x) = true
instance (priority := low) [Enc α] [i : ScT α] : ItT α := ⟨fun x => by
  unfold itemOk
  rw [i.sc]
  rfl⟩
instance {κ μ : Type} [Enc κ] [Enc1 κ] [KD1 κ] [Enc μ] [Enc1 μ] [KD1 μ] : ItT (κ × μ) := ⟨fun p => by
  show (scal (Enc.enc p) || (keysD (Enc.enc p)).isSome) = true
  rw [KDs.eq p]
  rfl⟩
section
variable {ε ε' α β γ δ κ ω : Type} {A : LS} {t : T ε β} {F : β → ω} {B : β → LS} {X : ε → LS}
theorem all_itT [Enc α] [i : ItT α] (xs : List α) : (xs.map (Enc.enc : α → D)).all itemOk = true := by
  rw [List.all_map, List.all_eq_true]
  intro x _
  exact i.it x
theorem all_scT [Enc α] [i : ScT α] (xs : List α) : (xs.map (Enc.enc : α → D)).all scal = true := by
  rw [List.all_map, List.all_eq_true]
  intro x _
  exact i.sc x
theorem toB_l [Enc α] [ItT α] (xs : List α) : toB (Enc.enc xs) = bv xs := if_pos (all_itT xs)
theorem toB_l2 [Enc α] [ItT α] (xs : List α) : toB (PyData.list (xs.map Enc.enc)) = bv xs := if_pos (all_itT xs)
theorem toB_i (x : Int) : toB (Enc.enc x) = dv x := rfl
theorem toB_t (x : Tx) : toB (Enc.enc x) = dv x := rfl
theorem toB_b (x : Bool) : toB (Enc.enc x) = dv x := rfl
theorem thaw_o [Enc α] [ScT α] (r : Option (List α)) : thawS (S.d (Enc.enc r)) = some (optS r) := by
  cases r with
  | none => rfl
  | some xs => exact if_pos (all_scT xs)
theorem pu_lentE [Enc α] {i : Nat} {xs : List α} (h : A[i]? = some (bv xs)) : Pu A (gLentE i) ((enT 0 xs).map Enc.enc) := fun L hL => by
  unfold gLentE
  rw [hL.2 i _ h]
  show R.ok (enD 0 (xs.map Enc.enc)) L = _
  rw [enD_T]
theorem e_fresh {m : LS → R S} {n : Nat} {gs : LS → R (List D)} {k : S → LS → R ω} (h : SK A (fun L => (gs L).bind fun ds L1 => (if ds.length = n then freshAt m ds L1 else .stuck).bind k) t F B X) : SK A (fun L => (gFresh m n gs L).bind k) t F B X := e_bind h
theorem c_fresh {m : LS → R S} {n : Nat} {ds : List D} {k : S → LS → R ω} {A0 : LS} {tm : T ε γ} {Fm Gm : γ → S} {Bm : γ → LS} {Xm : ε → LS} {t' : γ → T ε β} (hA : ds.map toB = A0) (hn : ds.length = n) (hm : SK A0 m tm Fm Bm Xm) (hs : ∀ r, thawS (Fm r) = some (Gm r)) (hX : ∀ e, Mt (X e) A)
    (h : ∀ c, SK A (k (Gm c)) (t' c) F B X) : SK A (fun L => (if ds.length = n then freshAt m ds L else .stuck).bind k) (tm.bind t') F B X := fun L hL => by
  have h1 := hm A0 (mt_self A0)
  show SimR ((if ds.length = n then freshAt m ds L else .stuck).bind k) (tm.bind t') F B X
  rw [if_pos hn]
  unfold freshAt
  rw [hA]
  cases tm with
  | no => trivial
  | er c e =>
    obtain ⟨L1, h2, h3⟩ := h1
    try dsimp only at h2
    rw [h2]
    exact ⟨_, rfl, (hX e).trans hL⟩
  | ok b =>
    obtain ⟨L1, h2, h3⟩ := h1
    try dsimp only at h2
    rw [h2]
    show SimR ((ofO (thawS (Fm b)) L).bind k) (t' b) F B X
    rw [hs b]
    exact h b L hL
end
end VS

noncomputable section
namespace Ty
open PySem VS Lw L2
def t_law_all_gain (offers : (List (Int × Int))) : T Empty (Int × (List (Int × Int))) :=
  (T.forM offers ((0 : Int)) (fun (i1 : (Int × Int)) gained3 => ((.ok (gained3 + i1.2)) : T Empty (Int)))).bind fun gained3 =>
  .ok (gained3, offers)
theorem r_law_all_gain (offers : (List (Int × Int))) : SK [lv offers] Lw.m_law_all_gain (t_law_all_gain offers) (fun r => (S.d (Enc.enc r.1))) (fun r => [dv r.2]) XV := by
  unfold Lw.m_law_all_gain Lw.g_law_all_gain t_law_all_gain
  refine f_def (X' := XV) ?_ xe_no
  show SK [lv offers, none, none, none] _ _ _ _ _
  refine s_seq ?_
  refine s_asg ?_
  refine e_pu (pu_d (pu_c (d := Enc.enc (0 : Int)))) ?_
  refine s_set rfl ?_
  refine s_then ?_
  refine s_seq ?_
  refine s_forE ?_
  refine e_items ?_
  refine e_varF (by rfl) ?_
  refine e_ok ?_
  refine c_for (e := Enc.enc) (xs := offers) (v := (0 : Int)) (fun v => [dv offers, dv v, none, none]) (fun i1 v => [dv offers, dv v, dv i1.1, dv i1.2]) (mt_k (mt_k (mt_w (mt_w mt_nil)))) (fun i1 v => (tg_tup (tgs_cons tg_name (tgs_cons tg_name tgs_nil)) rfl)) (fun i1 v => ?_) (fun v => ?_)
  · revert v; intro gained3
    show SK [dv offers, dv gained3, dv i1.1, dv i1.2] _ _ _ _ _
    refine s_asg ?_
    refine e_pu (pu_op (z := (S.d (Enc.enc (gained3 + i1.2 : Int)))) (pu_var (by rfl)) (pu_var (by rfl)) rfl) ?_
    refine s_set rfl ?_
    exact k_ok rfl (mt_k (mt_k (mt_w (mt_w mt_nil))))
  revert v; intro gained3
  show SK [dv offers, dv gained3, none, none] _ _ _ _ _
  refine s_then ?_
  refine s_ret ?_
  refine e_move (by rfl) (by intro _ h; cases h) ?_
  exact f_rt rfl (mt_k mt_nil)
def t_cheapest_v2 (offers : (List (Int × Int))) (goal : Int) : T Empty ((Option (List Int))) :=
  if (decide (goal < (1 : Int))) = true then (.ok (some ([] : List Int))) else ((T.forM (enT 0 offers) ([((0 : Int), ((0 : Int), ([] : List Int)))] : (Dt Int (Int × (List Int)))) (fun (i1 : (Int × (Int × Int))) table3 => (((T.forM table3 (table3 : (Dt Int (Int × (List Int)))) (fun (i4 : (Int × (Int × (List Int)))) grown6 => ((if (decide (goal ≤ i4.2.1)) = true then (.ok grown6) else ((t_better grown6 ((i4.1 + i1.2.1) : Int) ((i4.2.1 + i1.2.2) : Int)).bind fun r7 =>
  if r7 = true then ((T.ofO (catT i4.2.2 (([i1.1] : List Int) : (List Int)))).bind fun x8 =>
  T.gd (grown6.length < sizeLine) <|
  .ok (dput grown6 (i4.1 + i1.2.1) ((i4.2.1 + i1.2.2), x8))) else (.ok grown6))) : T Empty ((Dt Int (Int × (List Int))))))).bind fun grown6 =>
  .ok grown6) : T Empty ((Dt Int (Int × (List Int))))))).bind fun table3 =>
  (T.ofO (sortT (List.map (fun p => p.1) table3))).bind fun x9 =>
  T.bindL (T.forL x9 (() : Unit) (fun (i10 : Int) _ => (((T.ofO (dget table3 i10)).bind fun v11 =>
  if (decide (goal ≤ v11.1)) = true then ((T.ofO (dget table3 i10)).bind fun v12 =>
  .ok (.rt v12.2)) else (.ok (.nx ()))) : T Empty (T.Lp (Unit) ((List Int)))))) (fun _ =>
  .ok (none : (Option (List Int)))) (fun r_ => .ok (some r_)))
theorem r_cheapest_v2 (offers : (List (Int × Int))) (goal : Int) : SK [bv offers, dv goal] Lw.m_cheapest_v2 (t_cheapest_v2 offers goal) (fun r => (S.d (Enc.enc r))) (fun r => [none, none]) XV := by
  unfold Lw.m_cheapest_v2 Lw.g_cheapest_v2 t_cheapest_v2
  refine f_def (X' := XV) ?_ xe_no
  show SK [bv offers, dv goal, none, none, none, none, none, none, none, none] _ _ _ _ _
  refine s_seq ?_
  refine s_if (x := (decide (goal < (1 : Int)))) (pu_B (pu_op (z := (Enc.enc ((decide (goal < (1 : Int))) : Bool))) (pu_peek (by rfl)) (pu_c (d := Enc.enc (1 : Int))) rfl)) ?_ ?_
  · refine s_ret ?_
    refine e_pu (pu_d (pu_fzL (pu_lst pu_nil (ln (n := 0) rfl)))) ?_
    exact f_rt rfl (mt_w (mt_w mt_nil))
  · refine s_next ?_
    refine s_then ?_
    refine s_seq ?_
    refine s_asg ?_
    refine e_pu (pu_dlit (x := ((0 : Int))) (z := (((0 : Int), ([] : List Int)) : (Int × (List Int)))) (pu_c (d := Enc.enc (0 : Int))) (pu_tup (pu_cons (pu_c (d := Enc.enc (0 : Int))) (pu_cons (pu_fzL (pu_lst pu_nil (ln (n := 0) rfl))) pu_nil)) (ln (n := 2) rfl))) ?_
    refine s_set rfl ?_
    refine s_then ?_
    refine s_seq ?_
    refine s_forE ?_
    refine e_pu (pu_lentE (xs := offers) (by rfl)) ?_
    refine c_for (e := Enc.enc) (xs := ((enT 0 offers) : (List (Int × (Int × Int))))) (v := [((0 : Int), ((0 : Int), ([] : List Int)))]) (fun v => [bv offers, dv goal, kv v, none, none, none, none, none, none, none]) (fun i1 v => [bv offers, dv goal, kv v, dv i1.1, dv i1.2.1, dv i1.2.2, none, none, none, none]) (mt_k (mt_k (mt_k (mt_w (mt_w (mt_w (mt_w (mt_w (mt_w (mt_w mt_nil)))))))))) (fun i1 v => (tg_tup (tgs_cons tg_name (tgs_cons (tg_tup (tgs_cons tg_name (tgs_cons tg_name tgs_nil)) rfl) tgs_nil)) rfl)) (fun i1 v => ?_) (fun v => ?_)
    · revert v; intro table3
      show SK [bv offers, dv goal, kv table3, dv i1.1, dv i1.2.1, dv i1.2.2, none, none, none, none] _ _ _ _ _
      refine s_seq ?_
      refine s_asg ?_
      refine e_pu (pu_onS (pu_lk (by rfl)) (sCopy_k table3)) ?_
      refine s_set rfl ?_
      refine s_then ?_
      refine s_seq ?_
      refine s_forE ?_
      refine e_itemsK ?_
      refine e_move (by rfl) (by intro _ h; cases h) ?_
      refine c_itemsK (d := table3) ?_
      refine c_for (e := Enc.enc) (xs := table3) (v := table3) (fun v => [bv offers, dv goal, none, dv i1.1, dv i1.2.1, dv i1.2.2, kv v, none, none, none]) (fun i4 v => [bv offers, dv goal, none, dv i1.1, dv i1.2.1, dv i1.2.2, kv v, dv i4.1, dv i4.2.1, dv i4.2.2]) (mt_k (mt_k (mt_w (mt_k (mt_k (mt_k (mt_k (mt_w (mt_w (mt_w mt_nil)))))))))) (fun i4 v => (tg_tup (tgs_cons tg_name (tgs_cons (tg_tup (tgs_cons tg_name (tgs_cons tg_name tgs_nil)) rfl) tgs_nil)) rfl)) (fun i4 v => ?_) (fun v => ?_)
      · revert v; intro grown6
        show SK [bv offers, dv goal, none, dv i1.1, dv i1.2.1, dv i1.2.2, kv grown6, dv i4.1, dv i4.2.1, dv i4.2.2] _ _ _ _ _
        refine s_seq ?_
        refine s_if (x := (decide (goal ≤ i4.2.1))) (pu_B (pu_op (z := (Enc.enc ((decide (goal ≤ i4.2.1)) : Bool))) (pu_peek (by rfl)) (pu_peek (by rfl)) rfl)) ?_ ?_
        · refine s_ct ?_
          exact k_ok rfl (mt_k (mt_k (mt_w (mt_k (mt_k (mt_k (mt_k (mt_w (mt_w (mt_w mt_nil))))))))))
        · refine s_next ?_
          refine s_then ?_
          refine s_ifE ?_
          refine e_B ?_
          refine e_fz ?_
          refine e_call ?_
          refine a_r (by rfl) ?_
          refine a_d ?_
          refine e_pu (pu_fz (pu_op (z := (S.d (Enc.enc (i4.1 + i1.2.1 : Int)))) (pu_var (by rfl)) (pu_var (by rfl)) rfl)) ?_
          refine a_d ?_
          refine e_pu (pu_fz (pu_op (z := (S.d (Enc.enc (i4.2.1 + i1.2.2 : Int)))) (pu_var (by rfl)) (pu_var (by rfl)) rfl)) ?_
          refine a_nil ?_
          refine c_call (by show List.Nodup [6]; decide) rfl (r_better grown6 ((i4.1 + i1.2.1)) ((i4.2.1 + i1.2.2))) xe_no ?_
          rintro r7
          show SK [bv offers, dv goal, none, dv i1.1, dv i1.2.1, dv i1.2.2, kv grown6, dv i4.1, dv i4.2.1, dv i4.2.2] _ _ _ _ _
          refine e_ok ?_
          refine e_ok ?_
          refine s_ite (x := r7) ?_ ?_
          · refine s_dput ?_
            refine e_tup ?_
            refine e_cons ?_
            refine e_pu (pu_fz (pu_op (z := (S.d (Enc.enc (i4.2.1 + i1.2.2 : Int)))) (pu_var (by rfl)) (pu_var (by rfl)) rfl)) ?_
            refine e_cons ?_
            refine e_fz ?_
            refine e_op ?_
            refine e_pu (pu_var (by rfl)) ?_
            refine e_pu (pu_fzL (pu_lst (pu_cons (pu_var (by rfl)) pu_nil) (ln (n := 1) rfl))) ?_
            refine e_oO (p := catT i4.2.2 (([i1.1] : List Int) : (List Int))) (f := (fun z => S.ol (List.map Enc.enc z))) (cat_l i4.2.2 (([i1.1] : List Int) : (List Int))) (fun x8 => ?_)
            refine e_ok ?_
            refine e_pu pu_nil ?_
            refine e_iteP (lnS (n := 2) rfl) ?_
            refine e_ok ?_
            refine s_dputk (by rfl) ?_
            refine e_pu (pu_fz (pu_op (z := (S.d (Enc.enc (i4.1 + i1.2.1 : Int)))) (pu_var (by rfl)) (pu_var (by rfl)) rfl)) ?_
            refine c_dputK (d := grown6) (x := ((i4.1 + i1.2.1) : Int)) (z := (((i4.2.1 + i1.2.2), x8) : (Int × (List Int)))) (by rfl) rfl ?_
            exact k_ok rfl (mt_k (mt_k (mt_w (mt_k (mt_k (mt_k (mt_k (mt_w (mt_w (mt_w mt_nil))))))))))
          · refine s_next ?_
            exact k_ok rfl (mt_k (mt_k (mt_w (mt_k (mt_k (mt_k (mt_k (mt_w (mt_w (mt_w mt_nil))))))))))
      revert v; intro grown6
      show SK [bv offers, dv goal, none, dv i1.1, dv i1.2.1, dv i1.2.2, kv grown6, none, none, none] _ _ _ _ _
      refine s_then ?_
      refine s_asg ?_
      refine e_move (by rfl) (by intro _ h; cases h) ?_
      refine s_set rfl ?_
      exact k_ok rfl (mt_k (mt_k (mt_k (mt_w (mt_w (mt_w (mt_w (mt_w (mt_w (mt_w mt_nil))))))))))
    revert v; intro table3
    show SK [bv offers, dv goal, kv table3, none, none, none, none, none, none, none] _ _ _ _ _
    refine s_then ?_
    refine s_seq ?_
    refine s_forE ?_
    refine e_items ?_
    refine e_fz ?_
    refine e_onS ?_
    refine e_pu (pu_lk (by rfl)) ?_
    refine e_oO (p := sortT (List.map (fun p => p.1) table3)) (f := fun z => S.ol (List.map Enc.enc z)) (sortS_k _) (fun x9 => ?_)
    refine e_ok ?_
    refine e_ok ?_
    refine c_forL (e := Enc.enc) (xs := x9) (v := (() : Unit)) (fun v => [bv offers, dv goal, kv table3, none, none, none, none, none, none, none]) (fun r => [none, none, none, none, none, none, none, none, none, none]) (fun (r : (List Int)) => (S.d (Enc.enc r))) (fun i10 v => [bv offers, dv goal, kv table3, none, none, none, none, dv i10, none, none]) (mt_k (mt_k (mt_k (mt_w (mt_w (mt_w (mt_w (mt_w (mt_w (mt_w mt_nil)))))))))) (fun i10 v => tg_name) (fun i10 v => ?_) (fun v => ?_) (fun r => ?_)
    · show SK [bv offers, dv goal, kv table3, none, none, none, none, dv i10, none, none] _ _ _ _ _
      refine s_ifE ?_
      refine e_B ?_
      refine e_op ?_
      refine e_op ?_
      refine e_dgetK (d := table3) (x := i10) (by rfl) (pu_var (by rfl)) (fun v11 => ?_)
      refine e_pu (pu_c (d := Enc.enc (0 : Int))) ?_
      refine e_o (z := (Enc.enc v11.1)) rfl ?_
      refine e_pu (pu_peek (by rfl)) ?_
      refine e_o (z := (Enc.enc ((decide (goal ≤ v11.1)) : Bool))) rfl ?_
      refine e_ok ?_
      refine s_ite (x := (decide (goal ≤ v11.1))) ?_ ?_
      · refine s_ret ?_
        refine e_d ?_
        refine e_op ?_
        refine e_dgetK (d := table3) (x := i10) (by rfl) (pu_var (by rfl)) (fun v12 => ?_)
        refine e_pu (pu_c (d := Enc.enc (1 : Int))) ?_
        refine e_o (z := (Enc.enc v12.2)) rfl ?_
        exact k_ok rfl (mt_w (mt_w (mt_w (mt_w (mt_w (mt_w (mt_w (mt_w (mt_w (mt_w mt_nil))))))))))
      · refine s_next ?_
        exact k_ok rfl (mt_k (mt_k (mt_k (mt_w (mt_w (mt_w (mt_w (mt_w (mt_w (mt_w mt_nil))))))))))
    · show SK [bv offers, dv goal, kv table3, none, none, none, none, none, none, none] _ _ _ _ _
      refine s_then ?_
      refine s_ret ?_
      refine e_pu (pu_d pu_c) ?_
      exact f_rt rfl (mt_w (mt_w mt_nil))
    · revert r; intro r_
      show SK [none, none, none, none, none, none, none, none, none, none] _ _ _ _ _
      exact f_rt rfl (mt_w (mt_w mt_nil))
def t_law_all_gain_2 (offers : (List (Int × Int))) : T Empty (Int) :=
  (T.forM offers ((0 : Int)) (fun (i1 : (Int × Int)) gained3 => ((.ok (gained3 + i1.2)) : T Empty (Int)))).bind fun gained3 =>
  .ok gained3
theorem r_law_all_gain_2 (offers : (List (Int × Int))) : SK [dv offers] Lw.m_law_all_gain (t_law_all_gain_2 offers) (fun r => (S.d (Enc.enc r))) (fun r => [dv offers]) XV := by
  unfold Lw.m_law_all_gain Lw.g_law_all_gain t_law_all_gain_2
  refine f_def (X' := XV) ?_ xe_no
  show SK [dv offers, none, none, none] _ _ _ _ _
  refine s_seq ?_
  refine s_asg ?_
  refine e_pu (pu_d (pu_c (d := Enc.enc (0 : Int)))) ?_
  refine s_set rfl ?_
  refine s_then ?_
  refine s_seq ?_
  refine s_forE ?_
  refine e_items ?_
  refine e_pu (pu_var (by rfl)) ?_
  refine e_ok ?_
  refine c_for (e := Enc.enc) (xs := offers) (v := (0 : Int)) (fun v => [dv offers, dv v, none, none]) (fun i1 v => [dv offers, dv v, dv i1.1, dv i1.2]) (mt_k (mt_k (mt_w (mt_w mt_nil)))) (fun i1 v => (tg_tup (tgs_cons tg_name (tgs_cons tg_name tgs_nil)) rfl)) (fun i1 v => ?_) (fun v => ?_)
  · revert v; intro gained3
    show SK [dv offers, dv gained3, dv i1.1, dv i1.2] _ _ _ _ _
    refine s_asg ?_
    refine e_pu (pu_op (z := (S.d (Enc.enc (gained3 + i1.2 : Int)))) (pu_var (by rfl)) (pu_var (by rfl)) rfl) ?_
    refine s_set rfl ?_
    exact k_ok rfl (mt_k (mt_k (mt_w (mt_w mt_nil))))
  revert v; intro gained3
  show SK [dv offers, dv gained3, none, none] _ _ _ _ _
  refine s_then ?_
  refine s_ret ?_
  refine e_move (by rfl) (by intro _ h; cases h) ?_
  exact f_rt rfl (mt_k mt_nil)
def t_law_offers_fit (found : (Option (List Int))) (offers : (List (Int × Int))) (goal : Int) : T Empty (Bool) :=
  if (!(Option.isSome found)) = true then (.ok false) else ((T.ofO found).bind fun u1 =>
  T.bindL (T.forL u1 (((-1 : Int), (0 : Int)) : Int × Int) (fun (i2 : Int) (last5, gained6) => (((t_law_whole i2).bind fun r7 =>
  if (!r7) = true then (.ok (.rt false)) else (if ((decide (i2 ≤ last5)) || (decide (((List.length offers : Nat) : Int) ≤ i2))) = true then (.ok (.rt false)) else ((T.ofO (atI offers i2)).bind fun x8 =>
  .ok (.nx (i2, (gained6 + x8.2)))))) : T Empty (T.Lp (Int × Int) (Bool))))) (fun (last5, gained6) =>
  .ok (decide (goal ≤ gained6))) (fun r_ => .ok r_))
theorem r_law_offers_fit (found : (Option (List Int))) (offers : (List (Int × Int))) (goal : Int) : SK [dv found, dv offers, dv goal] Lw.m_law_offers_fit (t_law_offers_fit found offers goal) (fun r => (S.d (Enc.enc r))) (fun r => [none, dv offers, none]) XV := by
  unfold Lw.m_law_offers_fit Lw.g_law_offers_fit t_law_offers_fit
  refine f_def (X' := XV) ?_ xe_no
  show SK [dv found, dv offers, dv goal, none, none, none] _ _ _ _ _
  refine s_seq ?_
  refine s_if (x := (!(Option.isSome found))) (pu_not (pu_B (pu_isiL (o := found) (pu_peek (by rfl))))) ?_ ?_
  · refine s_ret ?_
    refine e_pu (pu_d (pu_c (d := Enc.enc false))) ?_
    exact f_rt rfl (mt_w (mt_k (mt_w mt_nil)))
  · refine s_next ?_
    refine s_then ?_
    refine s_seq ?_
    refine s_asg ?_
    refine e_pu (pu_d (pu_un (z := (Enc.enc ((-1 : Int) : Int))) (pu_c (d := Enc.enc (1 : Int))) rfl)) ?_
    refine s_set rfl ?_
    refine s_then ?_
    refine s_seq ?_
    refine s_asg ?_
    refine e_pu (pu_d (pu_c (d := Enc.enc (0 : Int)))) ?_
    refine s_set rfl ?_
    refine s_then ?_
    refine s_seq ?_
    refine s_forE ?_
    refine e_items ?_
    refine e_pu (pu_var (by rfl)) ?_
    rcases hhu1 : found with _ | u1
    · exact k_no
    show SK [dv u1, dv offers, dv goal, dv ((-1 : Int) : Int), dv ((0 : Int)), none] _ _ _ _ _
    refine k_some ?_
    refine e_ok ?_
    refine c_forL (e := Enc.enc) (xs := u1) (v := (((-1 : Int), (0 : Int)) : Int × Int)) (fun v => [dv u1, dv offers, dv goal, dv v.1, dv v.2, none]) (fun r => [none, dv offers, none, none, none, none]) (fun (r : Bool) => (S.d (Enc.enc r))) (fun i2 v => [dv u1, dv offers, dv goal, dv v.1, dv v.2, dv i2]) (mt_k (mt_k (mt_k (mt_k (mt_k (mt_w mt_nil)))))) (fun i2 v => tg_name) (fun i2 v => ?_) (fun v => ?_) (fun r => ?_)
    · obtain ⟨last5, gained6⟩ := v
      show SK [dv u1, dv offers, dv goal, dv last5, dv gained6, dv i2] _ _ _ _ _
      refine s_seq ?_
      refine s_ifE ?_
      refine e_orL ?_
      refine e_not ?_
      refine e_B ?_
      refine e_fz ?_
      refine e_call ?_
      refine a_d ?_
      refine e_pu (pu_var (by rfl)) ?_
      refine a_nil ?_
      refine c_call List.nodup_nil rfl (r_law_whole i2) xe_no ?_
      rintro r7
      show SK [dv u1, dv offers, dv goal, dv last5, dv gained6, dv i2] _ _ _ _ _
      refine e_ok ?_
      refine e_ok ?_
      refine c_or (x := (!r7)) ?_ ?_
      · refine s_iteT ?_
        refine s_ret ?_
        refine e_pu (pu_d (pu_c (d := Enc.enc false))) ?_
        exact k_ok rfl (mt_w (mt_k (mt_w (mt_w (mt_w (mt_w mt_nil))))))
      · refine e_pu (pu_or (pu_B (pu_op (z := (Enc.enc ((decide (i2 ≤ last5)) : Bool))) (pu_peek (by rfl)) (pu_peek (by rfl)) rfl)) (pu_B (pu_op (z := (Enc.enc ((decide (((List.length offers : Nat) : Int) ≤ i2)) : Bool))) (pu_peek (by rfl)) (pu_un (z := (Enc.enc ((List.length offers : Nat) : Int))) (pu_peek (by rfl)) (len_l _)) rfl))) ?_
        refine s_ite (x := ((decide (i2 ≤ last5)) || (decide (((List.length offers : Nat) : Int) ≤ i2)))) ?_ ?_
        · refine s_ret ?_
          refine e_pu (pu_d (pu_c (d := Enc.enc false))) ?_
          exact k_ok rfl (mt_w (mt_k (mt_w (mt_w (mt_w (mt_w mt_nil))))))
        · refine s_next ?_
          refine s_then ?_
          refine s_seq ?_
          refine s_asg ?_
          refine e_pu (pu_d (pu_var (by rfl))) ?_
          refine s_set rfl ?_
          refine s_then ?_
          refine s_asg ?_
          refine e_op ?_
          refine e_pu (pu_var (by rfl)) ?_
          refine e_op ?_
          refine e_ixP (by rfl) ?_
          refine e_pu (pu_var (by rfl)) ?_
          refine e_pu (pu_peek (by rfl)) ?_
          refine e_oO (p := atI offers i2) (f := Enc.enc) (ix_l offers i2) (fun x8 => ?_)
          refine e_pu (pu_c (d := Enc.enc (1 : Int))) ?_
          refine e_o (z := (Enc.enc x8.2)) rfl ?_
          refine e_o (z := (S.d (Enc.enc (gained6 + x8.2 : Int)))) rfl ?_
          refine s_set rfl ?_
          exact k_ok rfl (mt_k (mt_k (mt_k (mt_k (mt_k (mt_w mt_nil))))))
    · obtain ⟨last5, gained6⟩ := v
      show SK [dv u1, dv offers, dv goal, dv last5, dv gained6, none] _ _ _ _ _
      refine s_then ?_
      refine s_ret ?_
      refine e_pu (pu_d (pu_op (z := (Enc.enc ((decide (goal ≤ gained6)) : Bool))) (pu_peek (by rfl)) (pu_peek (by rfl)) rfl)) ?_
      exact f_rt rfl (mt_w (mt_k (mt_w mt_nil)))
    · revert r; intro r_
      show SK [none, dv offers, none, none, none, none] _ _ _ _ _
      exact f_rt rfl (mt_w (mt_k (mt_w mt_nil)))
def t_law_paid (found : (Option (List Int))) (offers : (List (Int × Int))) : T Empty (Int) :=
  (T.ofO found).bind fun u1 =>
  (T.forM u1 ((0 : Int)) (fun (i2 : Int) paid4 => (((T.ofO (atI offers i2)).bind fun x5 =>
  .ok (paid4 + x5.1)) : T Empty (Int)))).bind fun paid4 =>
  .ok paid4
theorem r_law_paid (found : (Option (List Int))) (offers : (List (Int × Int))) : SK [dv found, dv offers] Lw.m_law_paid (t_law_paid found offers) (fun r => (S.d (Enc.enc r))) (fun r => [none, dv offers]) XV := by
  unfold Lw.m_law_paid Lw.g_law_paid t_law_paid
  refine f_def (X' := XV) ?_ xe_no
  show SK [dv found, dv offers, none, none] _ _ _ _ _
  refine s_seq ?_
  refine s_asg ?_
  refine e_pu (pu_d (pu_c (d := Enc.enc (0 : Int)))) ?_
  refine s_set rfl ?_
  refine s_then ?_
  refine s_seq ?_
  refine s_forE ?_
  refine e_items ?_
  refine e_pu (pu_var (by rfl)) ?_
  rcases hhu1 : found with _ | u1
  · exact k_no
  show SK [dv u1, dv offers, dv ((0 : Int)), none] _ _ _ _ _
  refine k_some ?_
  refine e_ok ?_
  refine c_for (e := Enc.enc) (xs := u1) (v := (0 : Int)) (fun v => [dv u1, dv offers, dv v, none]) (fun i2 v => [dv u1, dv offers, dv v, dv i2]) (mt_k (mt_k (mt_k (mt_w mt_nil)))) (fun i2 v => tg_name) (fun i2 v => ?_) (fun v => ?_)
  · revert v; intro paid4
    show SK [dv u1, dv offers, dv paid4, dv i2] _ _ _ _ _
    refine s_asg ?_
    refine e_op ?_
    refine e_pu (pu_var (by rfl)) ?_
    refine e_op ?_
    refine e_ixP (by rfl) ?_
    refine e_pu (pu_var (by rfl)) ?_
    refine e_pu (pu_peek (by rfl)) ?_
    refine e_oO (p := atI offers i2) (f := Enc.enc) (ix_l offers i2) (fun x5 => ?_)
    refine e_pu (pu_c (d := Enc.enc (0 : Int))) ?_
    refine e_o (z := (Enc.enc x5.1)) rfl ?_
    refine e_o (z := (S.d (Enc.enc (paid4 + x5.1 : Int)))) rfl ?_
    refine s_set rfl ?_
    exact k_ok rfl (mt_k (mt_k (mt_k (mt_w mt_nil))))
  revert v; intro paid4
  show SK [dv u1, dv offers, dv paid4, none] _ _ _ _ _
  refine s_then ?_
  refine s_ret ?_
  refine e_move (by rfl) (by intro _ h; cases h) ?_
  exact f_rt rfl (mt_w (mt_k mt_nil))
end Ty

namespace Ty
open PySem VS L2
theorem cheap2_eq (xs : List Of) (g : Int) : t_cheapest_v2 xs g = t_cheapest xs g := rfl
theorem sel_down {xs : List Of} {S : List Off} (h : S.Sublist (enT 0 xs)) : (S.map (·.2)).Sublist xs := by
  have := h.map (·.2)
  rw [enT_snd] at this
  exact this
theorem sel_up {xs : List Of} {R : List Of} (h : R.Sublist xs) : ∃ S : List Off, S.Sublist (enT 0 xs) ∧ S.map (·.2) = R := by
  rw [← enT_snd xs 0, List.sublist_map_iff] at h
  obtain ⟨S, h1, h2⟩ := h
  exact ⟨S, h1, h2.symm⟩
theorem sel_c (S : List Off) : cS (S.map (·.2)) = costS S := by
  unfold cS costS
  rw [List.map_map]
  rfl
theorem sel_g (S : List Off) : gS (S.map (·.2)) = gainS S := by
  unfold gS gainS
  rw [List.map_map]
  rfl
theorem cheap_min {xs : List Of} {goal : Int} {S : List Off} (h1 : S.Sublist (enT 0 xs)) (h2 : goal ≤ gainS S) (h3 : ∀ S' : List Off, S'.Sublist (enT 0 xs) → goal ≤ gainS S' → costS S ≤ costS S') : MinC xs goal (some (costS S)) :=
  ⟨⟨S.map (·.2), sel_down h1, by rw [sel_g]; exact h2, (sel_c S).symm⟩, fun R hR hg => by
    obtain ⟨S', a, rfl⟩ := sel_up hR
    rw [sel_g] at hg
    rw [sel_c]
    exact h3 S' a hg⟩
theorem minC_uniq {xs : List Of} {r a b : Int} (h : MinC xs r (some a)) (k : MinC xs r (some b)) : a = b := by
  obtain ⟨⟨S, s1, s2, s3⟩, s4⟩ := h
  obtain ⟨⟨R, r1, r2, r3⟩, r4⟩ := k
  have := s4 R r1 r2
  have := r4 S s1 s2
  omega
theorem minC_some {xs : List Of} {r a : Int} {o : Option Int} (h : MinC xs r (some a)) (k : MinC xs r o) : o = some a := by
  cases o with
  | none =>
    obtain ⟨⟨S, s1, s2, s3⟩, _⟩ := h
    have := k S s1
    omega
  | some b => rw [minC_uniq h k]
theorem enT_rise {α : Type} : ∀ (xs : List α) (i : Nat), (enT i xs).Pairwise fun a b => a.1 < b.1
  | [], _ => .nil
  | x :: xs, i => by
    refine List.Pairwise.cons (fun p hp => ?_) (enT_rise xs (i + 1))
    obtain ⟨j, hj⟩ := List.mem_iff_getElem?.mp hp
    rw [enT_get] at hj
    obtain ⟨y, _, rfl⟩ := Option.map_eq_some_iff.mp hj
    show ((i : Nat) : Int) < ((i + 1 + j : Nat) : Int)
    omega
theorem fit_loop {xs : List Of} : ∀ (S : List Off) (last g : Int), (∀ o ∈ S, ∃ j : Nat, o.1 = (j : Int) ∧ xs[j]? = some o.2) → S.Pairwise (fun a b => a.1 < b.1) → (∀ o ∈ S, last < o.1) → T.forL (S.map (·.1)) ((last, g) : Int × Int) (fun (i2 : Int) (w : Int × Int) => (((t_law_whole i2).bind fun r7 =>
    if (!r7) = true then (.ok (.rt false)) else (if ((decide (i2 ≤ w.1)) || (decide (((List.length xs : Nat) : Int) ≤ i2))) = true then (.ok (.rt false)) else ((T.ofO (atI xs i2)).bind fun x8 =>
    .ok (.nx (i2, (w.2 + x8.2)))))) : T Empty (T.Lp (Int × Int) (Bool)))) = .ok (.nx ((S.getLast?.map (·.1)).getD last, g + gainS S))
  | [], last, g, _, _, _ => by
    show T.ok (T.Le.nx (last, g)) = T.ok (T.Le.nx (last, g + 0))
    rw [Int.add_zero]
  | o :: S, last, g, hm, hr, hl => by
    obtain ⟨h1, h2⟩ := List.pairwise_cons.mp hr
    obtain ⟨j, e1, e2⟩ := hm o List.mem_cons_self
    have hlt := hl o List.mem_cons_self
    have hj := (List.getElem?_eq_some_iff.mp e2).1
    have ih := fit_loop S o.1 (g + o.2.2) (fun p hp => hm p (List.mem_cons_of_mem _ hp)) h2 h1
    show T.bind ((t_law_whole o.1).bind _) _ = _
    rw [show t_law_whole o.1 = .ok true from rfl, T.ok_bind]
    simp only [Bool.not_true, Bool.false_eq_true, if_false]
    rw [if_neg (by simp; omega), e1, atI_n, e2, ofO_some', T.ok_bind]
    dsimp only
    rw [e1] at ih
    refine ih.trans ?_
    have hgl : ((S.getLast?.map (·.1)).getD (j : Int)) = (((o :: S).getLast?.map (·.1)).getD last) := by
      cases S with
      | nil => simp [e1]
      | cons p S => simp [List.getLast?_cons]
    have hgs : gainS (o :: S) = o.2.2 + gainS S := by
      unfold gainS
      rw [List.map_cons, List.sum_cons]
    rw [hgl, hgs, Int.add_assoc]
theorem fit_ok {xs : List Of} {goal : Int} {S : List Off} (h1 : S.Sublist (enT 0 xs)) (h2 : goal ≤ gainS S) : t_law_offers_fit (some (S.map (·.1))) xs goal = .ok true := by
  unfold t_law_offers_fit
  rw [if_neg (by simp), ofO_some']
  have hm : ∀ o ∈ S, ∃ j : Nat, o.1 = (j : Int) ∧ xs[j]? = some o.2 := fun o ho => enT_mem (h1.subset ho)
  have := fit_loop S (-1) 0 hm ((enT_rise xs 0).sublist h1) fun o ho => by
    obtain ⟨j, e, _⟩ := hm o ho
    omega
  rw [Int.zero_add] at this
  rw [show (T.forL (S.map (·.1)) (((-1 : Int), (0 : Int)) : Int × Int) _ : T Empty (T.Le (Int × Int) Bool)) = _ from this, T.bindL_nx]
  simp [h2]
theorem paid_ok {xs : List Of} {S : List Off} (h1 : S.Sublist (enT 0 xs)) : t_law_paid (some (S.map (·.1))) xs = .ok (costS S) := by
  unfold t_law_paid
  rw [ofO_some']
  have key : ∀ (S : List Off) (w : Int), (∀ o ∈ S, ∃ j : Nat, o.1 = (j : Int) ∧ xs[j]? = some o.2) → T.forM (S.map (·.1)) w (fun (i2 : Int) paid4 => (((T.ofO (atI xs i2)).bind fun x5 =>
      .ok (paid4 + x5.1)) : T Empty (Int))) = .ok (w + costS S) := by
    intro S
    induction S with
    | nil =>
      intro w _
      show T.ok w = T.ok (w + 0)
      rw [Int.add_zero]
    | cons o S ih =>
      intro w hm
      obtain ⟨j, e1, e2⟩ := hm o List.mem_cons_self
      rw [List.map_cons, forM_cons, e1, atI_n, e2, ofO_some', T.ok_bind, ih _ fun p hp => hm p (List.mem_cons_of_mem _ hp)]
      have hcs : costS (o :: S) = o.2.1 + costS S := by
        unfold costS
        rw [List.map_cons, List.sum_cons]
      rw [hcs, Int.add_assoc]
  rw [key S 0 fun o ho => enT_mem (h1.subset ho), T.ok_bind, Int.zero_add]
theorem gain_ok (xs : List Of) : t_law_all_gain xs = .ok (gS xs, xs) := by
  unfold t_law_all_gain
  rw [forM_fold (g := fun (x : Of) (v : Int) => v + x.2) (fun x _ v => rfl), T.ok_bind, foldl_add]
  unfold gS
  rw [Int.zero_add]
theorem gain2_ok (xs : List Of) : t_law_all_gain_2 xs = .ok (gS xs) := by
  unfold t_law_all_gain_2
  rw [forM_fold (g := fun (x : Of) (v : Int) => v + x.2) (fun x _ v => rfl), T.ok_bind, foldl_add]
  unfold gS
  rw [Int.zero_add]
end Ty

namespace Ty
open PySem VS L2
theorem cS_le_n {xs : List Of} {m : Int} (h : ∀ x ∈ xs, x.1 ≤ m) : cS xs ≤ m * xs.length := by
  induction xs with
  | nil => simp [cS]
  | cons x xs ih =>
    have h1 := h x List.mem_cons_self
    have h2 := ih fun y hy => h y (List.mem_cons_of_mem _ hy)
    unfold cS at *
    rw [List.map_cons, List.sum_cons, List.length_cons]
    have : m * ((xs.length + 1 : Nat) : Int) = m * (xs.length : Int) + m := by
      rw [show ((xs.length + 1 : Nat) : Int) = (xs.length : Int) + 1 from by omega, Int.mul_add, Int.mul_one]
    omega
theorem gS_le_n {xs : List Of} {m : Int} (h : ∀ x ∈ xs, x.2 ≤ m) : gS xs ≤ m * xs.length := by
  induction xs with
  | nil => simp [gS]
  | cons x xs ih =>
    have h1 := h x List.mem_cons_self
    have h2 := ih fun y hy => h y (List.mem_cons_of_mem _ hy)
    unfold gS at *
    rw [List.map_cons, List.sum_cons, List.length_cons]
    have : m * ((xs.length + 1 : Nat) : Int) = m * (xs.length : Int) + m := by
      rw [show ((xs.length + 1 : Nat) : Int) = (xs.length : Int) + 1 from by omega, Int.mul_add, Int.mul_one]
    omega
theorem cost_all (xs : List Of) : costS (enT 0 xs) = cS xs := by
  rw [← sel_c, enT_snd]
theorem gain_all (xs : List Of) : gainS (enT 0 xs) = gS xs := by
  rw [← sel_g, enT_snd]
end Ty
namespace Lw
open VS Ty
end Lw

namespace VS
open PySem PySem.Spec PyProof.Rows L2
section
variable {ε ε' α β γ δ κ ω : Type} {A : LS} {t : T ε β} {F : β → ω} {B : β → LS} {X : ε → LS}
theorem pu_dlitT [Enc κ] [EncK κ] [i : KDs κ] [Enc α] {ga gb : LS → R D} {x : κ} {z : α} (h1 : Pu A ga (Enc.enc x)) (h2 : Pu A gb (Enc.enc z)) : Pu A (gDlitT ga gb) (.odT (encT ([(x, z)] : Dt κ α))) := fun L hL => by
  show (ga L).bind (fun d L1 => (gb L1).bind fun e L2 => match keysD d with
    | some k => R.ok (S.odT (putD [] k e)) L2
    | none => .stuck) = _
  rw [h1 L hL, R.bind_ok, h2 L hL, R.bind_ok, i.eq x]
  rfl
def inBoxT {κ α : Type} [EncK κ] (d : Dt κ α) : Bool := d.all fun p => inBox (EncK.ks p.1)
theorem e_copyT [EncK κ] [Enc α] {i : Nat} {d : Dt κ α} {k : S → LS → R ω} (h : A[i]? = some (tv d)) (h2 : SK A (k (.odT (encT d))) t F B X) : SK A (fun L => (gOnS sCopyT (gLk i) L).bind k) (T.gd (inBoxT d = true) t) F B X := k_gd fun hb L hL => by
  have h2 := h2 L hL
  show SimR ((gOnS sCopyT (gLk i) L).bind k) t F B X
  unfold gOnS
  show SimR (((gLk i L).bind fun s L1 => ofO (sCopyT s) L1).bind k) t F B X
  unfold gLk
  rw [hL.2 i _ h]
  show SimR ((ofO (if (encT d).all fun p => inBox p.1 then some (S.odT (encT d)) else none) L).bind k) t F B X
  have e : ((encT d).all fun p => inBox p.1) = true := by
    unfold inBoxT at hb
    unfold encT
    rw [List.all_map]
    exact hb
  rw [if_pos e]
  exact h2
end
end VS

noncomputable section
namespace Ty
open PySem VS Lw L2
def t_law_heavy_least (offers : (List (Int × Int))) (goal : Int) : T Empty (Int) :=
  (T.forM offers ([(((0 : Int), (0 : Int)), (0 : Int))] : (Dt (Int × Int) Int)) (fun (i1 : (Int × Int)) table3 => ((T.gd (inBoxT table3 = true) <|
  (T.forM table3 (table3 : (Dt (Int × Int) Int)) (fun (i4 : ((Int × Int) × Int)) grown6 => ((if (!(dget grown6 ((i4.1.1 + (1 : Int)), ((i4.1.2 + (1000 : Int)) - i1.2))).isSome) = true then (T.gd (grown6.length < sizeLine) <|
  .ok (dput grown6 ((i4.1.1 + (1 : Int)), ((i4.1.2 + (1000 : Int)) - i1.2)) (i4.2 + i1.1))) else ((T.ofO (dget grown6 ((i4.1.1 + (1 : Int)), ((i4.1.2 + (1000 : Int)) - i1.2)))).bind fun v7 =>
  if (decide ((i4.2 + i1.1) < v7)) = true then (T.gd (grown6.length < sizeLine) <|
  .ok (dput grown6 ((i4.1.1 + (1 : Int)), ((i4.1.2 + (1000 : Int)) - i1.2)) (i4.2 + i1.1))) else (.ok grown6))) : T Empty ((Dt (Int × Int) Int))))).bind fun grown6 =>
  .ok grown6) : T Empty ((Dt (Int × Int) Int))))).bind fun table3 =>
  (T.lcp table3 (fun (i8 : ((Int × Int) × Int)) => (decide (goal ≤ ((i8.1.1 * (1000 : Int)) - i8.1.2)))) (fun i8 => i8.2)).bind fun l9 =>
  (T.ofO (minL l9)).bind fun x10 =>
  .ok x10
theorem r_law_heavy_least (offers : (List (Int × Int))) (goal : Int) : SK [dv offers, dv goal] Lw.m_law_heavy_least (t_law_heavy_least offers goal) (fun r => (S.d (Enc.enc r))) (fun r => [dv offers, none]) XV := by
  unfold Lw.m_law_heavy_least Lw.g_law_heavy_least t_law_heavy_least
  refine f_def (X' := XV) ?_ xe_no
  show SK [dv offers, dv goal, none, none, none, none, none, none, none, none] _ _ _ _ _
  refine s_seq ?_
  refine s_asg ?_
  refine e_pu (pu_dlitT (x := (((0 : Int), (0 : Int)) : (Int × Int))) (z := ((0 : Int))) (pu_tup (pu_cons (pu_c (d := Enc.enc (0 : Int))) (pu_cons (pu_c (d := Enc.enc (0 : Int))) pu_nil)) (ln (n := 2) rfl)) (pu_c (d := Enc.enc (0 : Int)))) ?_
  refine s_set rfl ?_
  refine s_then ?_
  refine s_seq ?_
  refine s_forE ?_
  refine e_items ?_
  refine e_pu (pu_var (by rfl)) ?_
  refine e_ok ?_
  refine c_for (e := Enc.enc) (xs := offers) (v := [(((0 : Int), (0 : Int)), (0 : Int))]) (fun v => [dv offers, dv goal, tv v, none, none, none, none, none, none, none]) (fun i1 v => [dv offers, dv goal, tv v, dv i1.1, dv i1.2, none, none, none, none, none]) (mt_k (mt_k (mt_k (mt_w (mt_w (mt_w (mt_w (mt_w (mt_w (mt_w mt_nil)))))))))) (fun i1 v => (tg_tup (tgs_cons tg_name (tgs_cons tg_name tgs_nil)) rfl)) (fun i1 v => ?_) (fun v => ?_)
  · revert v; intro table3
    show SK [dv offers, dv goal, tv table3, dv i1.1, dv i1.2, none, none, none, none, none] _ _ _ _ _
    refine s_seq ?_
    refine s_asg ?_
    refine e_copyT (d := table3) (by rfl) ?_
    refine s_set rfl ?_
    refine s_then ?_
    refine s_seq ?_
    refine s_forE ?_
    refine e_itemsT ?_
    refine e_move (by rfl) (by intro _ h; cases h) ?_
    refine c_itemsTt (d := table3) ?_
    refine c_for (e := Enc.enc) (xs := table3) (v := table3) (fun v => [dv offers, dv goal, none, dv i1.1, dv i1.2, tv v, none, none, none, none]) (fun i4 v => [dv offers, dv goal, none, dv i1.1, dv i1.2, tv v, dv i4.1.1, dv i4.1.2, dv i4.2, none]) (mt_k (mt_k (mt_w (mt_k (mt_k (mt_k (mt_w (mt_w (mt_w (mt_w mt_nil)))))))))) (fun i4 v => (tg_tup (tgs_cons (tg_tup (tgs_cons tg_name (tgs_cons tg_name tgs_nil)) rfl) (tgs_cons tg_name tgs_nil)) rfl)) (fun i4 v => ?_) (fun v => ?_)
    · revert v; intro grown6
      show SK [dv offers, dv goal, none, dv i1.1, dv i1.2, tv grown6, dv i4.1.1, dv i4.1.2, dv i4.2, none] _ _ _ _ _
      refine s_seq ?_
      refine s_asg ?_
      refine e_pu (pu_d (pu_tup (pu_cons (pu_fz (pu_op (z := (S.d (Enc.enc (i4.1.1 + (1 : Int))))) (pu_var (by rfl)) (pu_c (d := Enc.enc (1 : Int))) rfl)) (pu_cons (pu_op (z := (Enc.enc (((i4.1.2 + (1000 : Int)) - i1.2) : Int))) (pu_fz (pu_op (z := (S.d (Enc.enc (i4.1.2 + (1000 : Int))))) (pu_var (by rfl)) (pu_c (d := Enc.enc (1000 : Int))) rfl)) (pu_var (by rfl)) rfl) pu_nil)) (ln (n := 2) rfl))) ?_
      refine s_set rfl ?_
      refine s_then ?_
      refine s_ifE ?_
      refine e_orL ?_
      refine e_pu (pu_B (pu_dinT (d := grown6) (x := (((i4.1.1 + (1 : Int)), ((i4.1.2 + (1000 : Int)) - i1.2)) : (Int × Int))) (by rfl) (pu_var (by rfl)))) ?_
      refine c_or (x := (!(dget grown6 ((i4.1.1 + (1 : Int)), ((i4.1.2 + (1000 : Int)) - i1.2))).isSome)) ?_ ?_
      · refine s_iteT ?_
        refine s_dput ?_
        refine e_pu (pu_fz (pu_op (z := (S.d (Enc.enc (i4.2 + i1.1 : Int)))) (pu_var (by rfl)) (pu_var (by rfl)) rfl)) ?_
        refine s_dputk (by rfl) ?_
        refine e_pu (pu_var (by rfl)) ?_
        refine c_dputT (d := grown6) (x := (((i4.1.1 + (1 : Int)), ((i4.1.2 + (1000 : Int)) - i1.2)) : (Int × Int))) (z := ((i4.2 + i1.1) : Int)) (by rfl) rfl ?_
        exact k_ok rfl (mt_k (mt_k (mt_w (mt_k (mt_k (mt_k (mt_w (mt_w (mt_w (mt_w mt_nil))))))))))
      · refine e_B ?_
        refine e_op ?_
        refine e_pu (pu_fz (pu_op (z := (S.d (Enc.enc (i4.2 + i1.1 : Int)))) (pu_var (by rfl)) (pu_var (by rfl)) rfl)) ?_
        refine e_dgetT (d := grown6) (x := (((i4.1.1 + (1 : Int)), ((i4.1.2 + (1000 : Int)) - i1.2)) : (Int × Int))) (by rfl) (pu_var (by rfl)) (fun v7 => ?_)
        refine e_o (z := (Enc.enc ((decide ((i4.2 + i1.1) < v7)) : Bool))) rfl ?_
        refine e_ok ?_
        refine s_ite (x := (decide ((i4.2 + i1.1) < v7))) ?_ ?_
        · refine s_dput ?_
          refine e_pu (pu_fz (pu_op (z := (S.d (Enc.enc (i4.2 + i1.1 : Int)))) (pu_var (by rfl)) (pu_var (by rfl)) rfl)) ?_
          refine s_dputk (by rfl) ?_
          refine e_pu (pu_var (by rfl)) ?_
          refine c_dputT (d := grown6) (x := (((i4.1.1 + (1 : Int)), ((i4.1.2 + (1000 : Int)) - i1.2)) : (Int × Int))) (z := ((i4.2 + i1.1) : Int)) (by rfl) rfl ?_
          exact k_ok rfl (mt_k (mt_k (mt_w (mt_k (mt_k (mt_k (mt_w (mt_w (mt_w (mt_w mt_nil))))))))))
        · refine s_next ?_
          exact k_ok rfl (mt_k (mt_k (mt_w (mt_k (mt_k (mt_k (mt_w (mt_w (mt_w (mt_w mt_nil))))))))))
    revert v; intro grown6
    show SK [dv offers, dv goal, none, dv i1.1, dv i1.2, tv grown6, none, none, none, none] _ _ _ _ _
    refine s_then ?_
    refine s_asg ?_
    refine e_move (by rfl) (by intro _ h; cases h) ?_
    refine s_set rfl ?_
    exact k_ok rfl (mt_k (mt_k (mt_k (mt_w (mt_w (mt_w (mt_w (mt_w (mt_w (mt_w mt_nil))))))))))
  revert v; intro table3
  show SK [dv offers, dv goal, tv table3, none, none, none, none, none, none, none] _ _ _ _ _
  refine s_then ?_
  refine s_ret ?_
  refine e_d ?_
  refine e_un ?_
  refine e_fz ?_
  refine e_lcE ?_
  refine e_itemsT ?_
  refine e_move (by rfl) (by intro _ h; cases h) ?_
  refine c_itemsTt (d := table3) ?_
  refine c_lcp (e := Enc.enc) (xs := table3) (p := fun (i8 : ((Int × Int) × Int)) => (decide (goal ≤ ((i8.1.1 * (1000 : Int)) - i8.1.2)))) (h := fun i8 => i8.2) [dv offers, dv goal, none, none, none, none, none, none, none, none] (fun i8 => [dv offers, dv goal, none, none, none, none, dv i8.1.1, dv i8.1.2, dv i8.2, none]) (mt_k (mt_k (mt_w (mt_w (mt_w (mt_w (mt_w (mt_w (mt_w (mt_w mt_nil)))))))))) (fun i8 => (tg_tup (tgs_cons (tg_tup (tgs_cons tg_name (tgs_cons tg_name tgs_nil)) rfl) (tgs_cons tg_name tgs_nil)) rfl)) (fun i8 => (pu_B (pu_op (z := (Enc.enc ((decide (goal ≤ ((i8.1.1 * (1000 : Int)) - i8.1.2))) : Bool))) (pu_op (z := (Enc.enc (((i8.1.1 * (1000 : Int)) - i8.1.2) : Int))) (pu_fz (pu_op (z := (S.d (Enc.enc (i8.1.1 * (1000 : Int))))) (pu_var (by rfl)) (pu_c (d := Enc.enc (1000 : Int))) (mul_litR (by decide)))) (pu_var (by rfl)) rfl) (pu_peek (by rfl)) rfl))) (fun i8 => (pu_var (by rfl))) (fun i8 => (mt_k (mt_k (mt_w (mt_w (mt_w (mt_w (mt_w (mt_w (mt_w (mt_w mt_nil))))))))))) (fun l9 => ?_)
  refine e_ok ?_
  refine e_oO (p := minL l9) (f := Enc.enc) (min_l _) (fun x10 => ?_)
  exact f_rt rfl (mt_k (mt_w mt_nil))
def t_law_least_2 (offers : (List (Int × Int))) (goal : Int) : T Empty ((Option Int)) :=
  (T.ofO (repT (([(none : (Option Int))] : List (Option Int)) : (List (Option Int))) goal)).bind fun x1 =>
  (T.ofO (catT (([(some (0 : Int))] : List (Option Int)) : (List (Option Int))) x1)).bind fun x2 =>
  (T.forM offers (x2 : (List (Option Int))) (fun (i3 : (Int × Int)) table5 => ((T.gd (inR (1 : Int) ∧ inR (goal + (1 : Int))) <|
  (T.forM ((rangeT2 (1 : Int) (Int.toNat ((goal + (1 : Int)) - (1 : Int)))).reverse) (table5 : (List (Option Int))) (fun (i6 : Int) table8 => (((T.ofO (atI table8 (maxT (0 : Int) (i6 - i3.2)))).bind fun x9 =>
  if (Option.isSome x9) = true then ((T.ofO (atI table8 i6)).bind fun x10 =>
  if (Option.isNone x10) = true then ((T.ofO x9).bind fun u11 =>
  (T.ofO (setT table8 i6 (some (u11 + i3.1)))).bind fun table12 =>
  .ok table12) else ((T.ofO x9).bind fun u13 =>
  (T.ofO (atI table8 i6)).bind fun x14 =>
  (T.ofO x14).bind fun u15 =>
  if (decide ((u13 + i3.1) < u15)) = true then ((T.ofO (setT table8 i6 (some (u13 + i3.1)))).bind fun table16 =>
  .ok table16) else (.ok table8))) else (.ok table8)) : T Empty ((List (Option Int)))))).bind fun table8 =>
  .ok table8) : T Empty ((List (Option Int)))))).bind fun table5 =>
  (T.ofO (atI table5 goal)).bind fun x17 =>
  .ok x17
theorem r_law_least_2 (offers : (List (Int × Int))) (goal : Int) : SK [dv offers, dv goal] Lw.m_law_least (t_law_least_2 offers goal) (fun r => (S.d (Enc.enc r))) (fun r => [dv offers, none]) XV := by
  unfold Lw.m_law_least Lw.g_law_least t_law_least_2
  refine f_def (X' := XV) ?_ xe_no
  show SK [dv offers, dv goal, none, none, none, none, none] _ _ _ _ _
  refine s_seq ?_
  refine s_asg ?_
  refine e_op ?_
  refine e_pu (pu_fzL (pu_lst (pu_cons (pu_c (d := Enc.enc (0 : Int))) pu_nil) (ln (n := 1) rfl))) ?_
  refine e_fz ?_
  refine e_op ?_
  refine e_pu (pu_fzL (pu_lst (pu_cons pu_c pu_nil) (ln (n := 1) rfl))) ?_
  refine e_pu (pu_var (by rfl)) ?_
  refine e_oO (p := repT (([(none : (Option Int))] : List (Option Int)) : (List (Option Int))) goal) (f := (fun z => S.ol (List.map Enc.enc z))) (rep_l (([(none : (Option Int))] : List (Option Int)) : (List (Option Int))) goal) (fun x1 => ?_)
  refine e_ok ?_
  refine e_oO (p := catT (([(some (0 : Int))] : List (Option Int)) : (List (Option Int))) x1) (f := (fun z => S.ol (List.map Enc.enc z))) (cat_l (([(some (0 : Int))] : List (Option Int)) : (List (Option Int))) x1) (fun x2 => ?_)
  refine s_set rfl ?_
  refine s_then ?_
  refine s_seq ?_
  refine s_forE ?_
  refine e_items ?_
  refine e_pu (pu_var (by rfl)) ?_
  refine e_ok ?_
  refine c_for (e := Enc.enc) (xs := offers) (v := x2) (fun v => [dv offers, dv goal, lv v, none, none, none, none]) (fun i3 v => [dv offers, dv goal, lv v, dv i3.1, dv i3.2, none, none]) (mt_k (mt_k (mt_k (mt_w (mt_w (mt_w (mt_w mt_nil))))))) (fun i3 v => (tg_tup (tgs_cons tg_name (tgs_cons tg_name tgs_nil)) rfl)) (fun i3 v => ?_) (fun v => ?_)
  · revert v; intro table5
    show SK [dv offers, dv goal, lv table5, dv i3.1, dv i3.2, none, none] _ _ _ _ _
    refine s_forE ?_
    refine e_rvr2 ?_
    refine e_pu (pu_cons (pu_c (d := Enc.enc (1 : Int))) (pu_cons (pu_fz (pu_op (z := (S.d (Enc.enc (goal + (1 : Int))))) (pu_var (by rfl)) (pu_c (d := Enc.enc (1 : Int))) rfl)) pu_nil)) ?_
    refine c_rvr2 (m := (1 : Int)) (n := (goal + (1 : Int))) ?_
    refine c_for (e := Enc.enc) (xs := (((rangeT2 (1 : Int) (Int.toNat ((goal + (1 : Int)) - (1 : Int)))).reverse) : (List Int))) (v := table5) (fun v => [dv offers, dv goal, lv v, dv i3.1, dv i3.2, none, none]) (fun i6 v => [dv offers, dv goal, lv v, dv i3.1, dv i3.2, dv i6, none]) (mt_k (mt_k (mt_k (mt_k (mt_k (mt_w (mt_w mt_nil))))))) (fun i6 v => tg_name) (fun i6 v => ?_) (fun v => ?_)
    · revert v; intro table8
      show SK [dv offers, dv goal, lv table8, dv i3.1, dv i3.2, dv i6, none] _ _ _ _ _
      refine s_seq ?_
      refine s_asg ?_
      refine e_d ?_
      refine e_ixP (by rfl) ?_
      refine e_pu (pu_ga (z := (Enc.enc ((maxT (0 : Int) (i6 - i3.2)) : Int))) (pu_cons (pu_c (d := Enc.enc (0 : Int))) (pu_cons (pu_op (z := (Enc.enc ((i6 - i3.2) : Int))) (pu_var (by rfl)) (pu_var (by rfl)) rfl) pu_nil)) rfl) ?_
      refine e_pu (pu_peekL (by rfl)) ?_
      refine e_oO (p := atI table8 (maxT (0 : Int) (i6 - i3.2))) (f := Enc.enc) (ix_l table8 (maxT (0 : Int) (i6 - i3.2))) (fun x9 => ?_)
      refine s_set rfl ?_
      refine s_then ?_
      refine s_ifE ?_
      refine e_andL ?_
      refine e_pu (pu_B (pu_op (z := (Enc.enc ((Option.isSome x9) : Bool))) (pu_peek (by rfl)) pu_c (isN_non x9))) ?_
      refine c_and (x := (Option.isSome x9)) ?_ ?_
      · refine e_orL ?_
        refine e_B ?_
        refine e_op ?_
        refine e_ixP (by rfl) ?_
        refine e_pu (pu_var (by rfl)) ?_
        refine e_pu (pu_peekL (by rfl)) ?_
        refine e_oO (p := atI table8 i6) (f := Enc.enc) (ix_l table8 i6) (fun x10 => ?_)
        refine e_pu pu_c ?_
        refine e_o (z := (Enc.enc ((Option.isNone x10) : Bool))) (is_non x10) ?_
        refine e_ok ?_
        refine c_or (x := (Option.isNone x10)) ?_ ?_
        · refine s_iteT ?_
          refine s_setIx ?_
          refine e_fz ?_
          refine e_op ?_
          refine e_pu (pu_var (by rfl)) ?_
          refine e_pu (pu_var (by rfl)) ?_
          rcases hhu11 : x9 with _ | u11
          · exact k_no
          show SK [dv offers, dv goal, lv table8, dv i3.1, dv i3.2, dv i6, dv u11] _ _ _ _ _
          refine k_some ?_
          refine e_o (z := (S.d (Enc.enc (u11 + i3.1 : Int)))) rfl ?_
          refine e_ok ?_
          refine c_setIx (xs := table8) (x := ((some (u11 + i3.1)) : (Option Int))) (by rfl) (pu_var (by rfl)) (fun table12 => ?_)
          exact k_ok rfl (mt_k (mt_k (mt_k (mt_k (mt_k (mt_w (mt_w mt_nil)))))))
        · refine e_B ?_
          refine e_op ?_
          refine e_fz ?_
          refine e_op ?_
          refine e_pu (pu_var (by rfl)) ?_
          refine e_pu (pu_var (by rfl)) ?_
          rcases hhu13 : x9 with _ | u13
          · exact k_no
          show SK [dv offers, dv goal, lv table8, dv i3.1, dv i3.2, dv i6, dv u13] _ _ _ _ _
          refine k_some ?_
          refine e_o (z := (S.d (Enc.enc (u13 + i3.1 : Int)))) rfl ?_
          refine e_ok ?_
          refine e_ixP (by rfl) ?_
          refine e_pu (pu_var (by rfl)) ?_
          refine e_pu (pu_peekL (by rfl)) ?_
          refine e_oO (p := atI table8 i6) (f := Enc.enc) (ix_l table8 i6) (fun x14 => ?_)
          rcases hhu15 : x14 with _ | u15
          · exact k_no
          refine k_some ?_
          refine e_o (z := (Enc.enc ((decide ((u13 + i3.1) < u15)) : Bool))) rfl ?_
          refine e_ok ?_
          refine s_ite (x := (decide ((u13 + i3.1) < u15))) ?_ ?_
          · refine s_setIx ?_
            refine e_pu (pu_fz (pu_op (z := (S.d (Enc.enc (u13 + i3.1 : Int)))) (pu_var (by rfl)) (pu_var (by rfl)) rfl)) ?_
            refine c_setIx (xs := table8) (x := ((some (u13 + i3.1)) : (Option Int))) (by rfl) (pu_var (by rfl)) (fun table16 => ?_)
            exact k_ok rfl (mt_k (mt_k (mt_k (mt_k (mt_k (mt_w (mt_w mt_nil)))))))
          · refine s_next ?_
            exact k_ok rfl (mt_k (mt_k (mt_k (mt_k (mt_k (mt_w (mt_w mt_nil)))))))
      · refine s_iteF ?_
        refine s_next ?_
        exact k_ok rfl (mt_k (mt_k (mt_k (mt_k (mt_k (mt_w (mt_w mt_nil)))))))
    revert v; intro table8
    show SK [dv offers, dv goal, lv table8, dv i3.1, dv i3.2, none, none] _ _ _ _ _
    exact k_ok rfl (mt_k (mt_k (mt_k (mt_w (mt_w (mt_w (mt_w mt_nil)))))))
  revert v; intro table5
  show SK [dv offers, dv goal, lv table5, none, none, none, none] _ _ _ _ _
  refine s_then ?_
  refine s_ret ?_
  refine e_d ?_
  refine e_ixP (by rfl) ?_
  refine e_pu (pu_var (by rfl)) ?_
  refine e_pu (pu_peekL (by rfl)) ?_
  refine e_oO (p := atI table5 goal) (f := Enc.enc) (ix_l table5 goal) (fun x17 => ?_)
  exact f_rt rfl (mt_k (mt_w mt_nil))
def t_main_k05 (script : List Int) : T Empty (Bool) :=
  (t_src script).bind fun r1 =>
  (t_next r1 ((3 : Int))).bind fun (r2, src3) =>
  (T.ofO (atI (([(1 : Int), (1 : Int), (60 : Int)] : List Int) : (List Int)) r2)).bind fun x4 =>
  (t_next src3 ((4 : Int))).bind fun (r5, src6) =>
  (t_next src6 ((12 : Int))).bind fun (r7, src8) =>
  (t_next src8 ((17 : Int))).bind fun (r9, src10) =>
  T.gd (inR ((8 : Int) + r9)) <|
  (T.forM (rangeT (Int.toNat ((8 : Int) + r9))) ((src10, ([] : List (Int × Int))) : SrcT × (List (Int × Int))) (fun (i11 : Int) (src14, offers15) => (((T.ofO (atI (([(6 : Int), (25 : Int)] : List Int) : (List Int)) (x4 / (60 : Int)))).bind fun x16 =>
  (t_next src14 x16).bind fun (r17, src18) =>
  (T.ofO (mulT x4 ((1 : Int) + r17))).bind fun x19 =>
  (t_next src18 ((12 : Int))).bind fun (r20, src21) =>
  ((if (decide (r5 = (0 : Int))) = true then (.ok ((1 : Int) + r7)) else (.ok ((1 : Int) + r20)) : T Empty (Int))).bind fun gain22 =>
  ((if (decide (r5 = (1 : Int))) = true then ((t_next src21 ((3 : Int))).bind fun (r25, src26) =>
  .ok (src26, ((1000 : Int) - r25))) else (.ok (src21, gain22)) : T Empty (SrcT × Int))).bind fun (src23, gain24) =>
  T.gd (offers15.length < sizeLine) <|
  .ok (src23, (offers15 ++ [(x19, gain24)]))) : T Empty (SrcT × (List (Int × Int)))))).bind fun (src14, offers15) =>
  (t_law_all_gain offers15).bind fun (r27, kept28) =>
  (t_next src14 r27).bind fun (r29, src30) =>
  (((t_next src30 ((2 : Int))).bind fun (r32, src33) =>
  if (decide (r32 = (0 : Int))) = true then ((t_law_all_gain_2 kept28).bind fun r34 =>
  (t_next src33 ((5 : Int))).bind fun (r35, src36) =>
  .ok (maxT (1 : Int) ((r34 / (2 : Int)) - r35))) else (.ok ((1 : Int) + r29)) : T Empty (Int))).bind fun goal31 =>
  (t_cheapest_v2 offers15 goal31).bind fun r37 =>
  (t_same2 ((Enc.enc offers15 : D) : D) ((Enc.enc kept28 : D) : D)).bind fun r38 =>
  if (!r38) = true then (.ok false) else ((t_law_offers_fit r37 kept28 goal31).bind fun r39 =>
  if (!r39) = true then (.ok false) else (if (decide (r5 = (1 : Int))) = true then ((t_law_paid r37 kept28).bind fun r40 =>
  (t_law_heavy_least kept28 goal31).bind fun r41 =>
  .ok (decide (r40 = r41))) else ((t_law_paid r37 kept28).bind fun r42 =>
  (t_law_least_2 kept28 goal31).bind fun r43 =>
  .ok (decide (((some r42) : (Option Int)) = r43)))))
theorem r_main_k05 (script : List Int) : SK [some (.scr script)] Lw.m_main_k05 (t_main_k05 script) (fun r => (S.d (Enc.enc r))) (fun r => [some (.scr script)]) XV := by
  unfold Lw.m_main_k05 Lw.g_main_k05 t_main_k05
  refine f_def (X' := XV) ?_ xe_no
  show SK [some (.scr script), none, none, none, none, none, none, none, none, none, none, none] _ _ _ _ _
  refine s_seq ?_
  refine s_asg ?_
  refine e_call ?_
  refine a_r (by rfl) ?_
  refine a_nil ?_
  refine c_call (by show List.Nodup [0]; decide) rfl (r_src script) xe_no ?_
  rintro r1
  show SK [some (.scr script), none, none, none, none, none, none, none, none, none, none, none] _ _ _ _ _
  refine s_set rfl ?_
  refine s_then ?_
  refine s_seq ?_
  refine s_asg ?_
  refine e_d ?_
  refine e_op ?_
  refine e_pu (pu_fzL (pu_lst (pu_cons (pu_c (d := Enc.enc (1 : Int))) (pu_cons (pu_c (d := Enc.enc (1 : Int))) (pu_cons (pu_c (d := Enc.enc (60 : Int))) pu_nil))) (ln (n := 3) rfl))) ?_
  refine e_fz ?_
  refine e_call ?_
  refine a_r (by rfl) ?_
  refine a_d ?_
  refine e_pu (pu_c (d := Enc.enc (3 : Int))) ?_
  refine a_nil ?_
  refine c_call (by show List.Nodup [1]; decide) rfl (r_next r1 ((3 : Int))) xe_no ?_
  rintro ⟨r2, src3⟩
  show SK [some (.scr script), some src3.1, none, none, none, none, none, none, none, none, none, none] _ _ _ _ _
  refine e_ok ?_
  refine e_oO (p := atI (([(1 : Int), (1 : Int), (60 : Int)] : List Int) : (List Int)) r2) (f := Enc.enc) (ix_l (([(1 : Int), (1 : Int), (60 : Int)] : List Int) : (List Int)) r2) (fun x4 => ?_)
  refine s_set rfl ?_
  refine s_then ?_
  refine s_seq ?_
  refine s_asg ?_
  refine e_call ?_
  refine a_r (by rfl) ?_
  refine a_d ?_
  refine e_pu (pu_c (d := Enc.enc (4 : Int))) ?_
  refine a_nil ?_
  refine c_call (by show List.Nodup [1]; decide) rfl (r_next src3 ((4 : Int))) xe_no ?_
  rintro ⟨r5, src6⟩
  show SK [some (.scr script), some src6.1, dv x4, none, none, none, none, none, none, none, none, none] _ _ _ _ _
  refine s_set rfl ?_
  refine s_then ?_
  refine s_seq ?_
  refine s_asg ?_
  refine e_op ?_
  refine e_pu (pu_c (d := Enc.enc (1 : Int))) ?_
  refine e_fz ?_
  refine e_call ?_
  refine a_r (by rfl) ?_
  refine a_d ?_
  refine e_pu (pu_c (d := Enc.enc (12 : Int))) ?_
  refine a_nil ?_
  refine c_call (by show List.Nodup [1]; decide) rfl (r_next src6 ((12 : Int))) xe_no ?_
  rintro ⟨r7, src8⟩
  show SK [some (.scr script), some src8.1, dv x4, dv r5, none, none, none, none, none, none, none, none] _ _ _ _ _
  refine e_ok ?_
  refine e_o (z := (S.d (Enc.enc ((1 : Int) + r7 : Int)))) rfl ?_
  refine s_set rfl ?_
  refine s_then ?_
  refine s_seq ?_
  refine s_asg ?_
  refine e_pu (pu_lst pu_nil (ln (n := 0) rfl)) ?_
  refine s_set rfl ?_
  refine s_then ?_
  refine s_seq ?_
  refine s_forE ?_
  refine e_rng1 ?_
  refine e_cons ?_
  refine e_fz ?_
  refine e_op ?_
  refine e_pu (pu_c (d := Enc.enc (8 : Int))) ?_
  refine e_fz ?_
  refine e_call ?_
  refine a_r (by rfl) ?_
  refine a_d ?_
  refine e_pu (pu_c (d := Enc.enc (17 : Int))) ?_
  refine a_nil ?_
  refine c_call (by show List.Nodup [1]; decide) rfl (r_next src8 ((17 : Int))) xe_no ?_
  rintro ⟨r9, src10⟩
  show SK [some (.scr script), some src10.1, dv x4, dv r5, dv (((1 : Int) + r7) : Int), lv (([] : List (Int × Int)) : (List (Int × Int))), none, none, none, none, none, none] _ _ _ _ _
  refine e_ok ?_
  refine e_o (z := (S.d (Enc.enc ((8 : Int) + r9 : Int)))) rfl ?_
  refine e_ok ?_
  refine e_pu pu_nil ?_
  refine c_rng1 (n := ((8 : Int) + r9)) ?_
  refine c_for (e := Enc.enc) (xs := ((rangeT (Int.toNat ((8 : Int) + r9))) : (List Int))) (v := (src10, ([] : List (Int × Int)))) (fun v => [some (.scr script), some v.1.1, dv x4, dv r5, dv (((1 : Int) + r7) : Int), lv v.2, none, none, none, none, none, none]) (fun i11 v => [some (.scr script), some v.1.1, dv x4, dv r5, dv (((1 : Int) + r7) : Int), lv v.2, dv i11, none, none, none, none, none]) (mt_k (mt_k (mt_k (mt_k (mt_k (mt_k (mt_w (mt_w (mt_w (mt_w (mt_w (mt_w mt_nil)))))))))))) (fun i11 v => tg_name) (fun i11 v => ?_) (fun v => ?_)
  · obtain ⟨src14, offers15⟩ := v
    show SK [some (.scr script), some src14.1, dv x4, dv r5, dv (((1 : Int) + r7) : Int), lv offers15, dv i11, none, none, none, none, none] _ _ _ _ _
    refine s_seq ?_
    refine s_asg ?_
    refine e_op ?_
    refine e_pu (pu_var (by rfl)) ?_
    refine e_fz ?_
    refine e_op ?_
    refine e_pu (pu_c (d := Enc.enc (1 : Int))) ?_
    refine e_fz ?_
    refine e_call ?_
    refine a_r (by rfl) ?_
    refine a_d ?_
    refine e_op ?_
    refine e_pu (pu_fzL (pu_lst (pu_cons (pu_c (d := Enc.enc (6 : Int))) (pu_cons (pu_c (d := Enc.enc (25 : Int))) pu_nil)) (ln (n := 2) rfl))) ?_
    refine e_pu (pu_op (z := (Enc.enc ((x4 / (60 : Int)) : Int))) (pu_var (by rfl)) (pu_c (d := Enc.enc (60 : Int))) (div_lit (by decide))) ?_
    refine e_oO (p := atI (([(6 : Int), (25 : Int)] : List Int) : (List Int)) (x4 / (60 : Int))) (f := Enc.enc) (ix_l (([(6 : Int), (25 : Int)] : List Int) : (List Int)) (x4 / (60 : Int))) (fun x16 => ?_)
    refine a_nil ?_
    refine c_call (by show List.Nodup [1]; decide) rfl (r_next src14 x16) xe_no ?_
    rintro ⟨r17, src18⟩
    show SK [some (.scr script), some src18.1, dv x4, dv r5, dv (((1 : Int) + r7) : Int), lv offers15, dv i11, none, none, none, none, none] _ _ _ _ _
    refine e_ok ?_
    refine e_o (z := (S.d (Enc.enc ((1 : Int) + r17 : Int)))) rfl ?_
    refine e_ok ?_
    refine e_oO (p := mulT x4 ((1 : Int) + r17)) (f := (fun z => S.d (Enc.enc z))) (mul_i x4 ((1 : Int) + r17)) (fun x19 => ?_)
    refine s_set rfl ?_
    refine s_then ?_
    refine s_seq ?_
    refine s_asg ?_
    refine e_op ?_
    refine e_pu (pu_c (d := Enc.enc (1 : Int))) ?_
    refine e_fz ?_
    refine e_call ?_
    refine a_r (by rfl) ?_
    refine a_d ?_
    refine e_pu (pu_c (d := Enc.enc (12 : Int))) ?_
    refine a_nil ?_
    refine c_call (by show List.Nodup [1]; decide) rfl (r_next src18 ((12 : Int))) xe_no ?_
    rintro ⟨r20, src21⟩
    show SK [some (.scr script), some src21.1, dv x4, dv r5, dv (((1 : Int) + r7) : Int), lv offers15, dv i11, dv x19, none, none, none, none] _ _ _ _ _
    refine e_ok ?_
    refine e_o (z := (S.d (Enc.enc ((1 : Int) + r20 : Int)))) rfl ?_
    refine s_set rfl ?_
    refine s_then ?_
    refine s_seq ?_
    refine s_cut (B1 := fun v => [some (.scr script), some src21.1, dv x4, dv r5, dv (((1 : Int) + r7) : Int), lv offers15, dv i11, dv x19, dv v, none, none, none]) ?_ ?_
    · refine s_if (x := (decide (r5 = (0 : Int)))) (pu_B (pu_op (z := (Enc.enc ((decide (r5 = (0 : Int))) : Bool))) (pu_peek (by rfl)) (pu_c (d := Enc.enc (0 : Int))) (eq_enc r5 ((0 : Int))))) ?_ ?_
      · refine s_asg ?_
        refine e_pu (pu_d (pu_var (by rfl))) ?_
        refine s_set rfl ?_
        exact k_ok rfl (mt_k (mt_k (mt_k (mt_k (mt_k (mt_k (mt_k (mt_k (mt_k (mt_w (mt_w (mt_w mt_nil))))))))))))
      · refine s_next ?_
        exact k_ok rfl (mt_k (mt_k (mt_k (mt_k (mt_k (mt_k (mt_k (mt_k (mt_k (mt_w (mt_w (mt_w mt_nil))))))))))))
    rintro gain22
    show SK [some (.scr script), some src21.1, dv x4, dv r5, dv (((1 : Int) + r7) : Int), lv offers15, dv i11, dv x19, dv gain22, none, none, none] _ _ _ _ _
    refine s_then ?_
    refine s_seq ?_
    refine s_cut (B1 := fun v => [some (.scr script), some v.1.1, dv x4, dv r5, dv (((1 : Int) + r7) : Int), lv offers15, dv i11, dv x19, dv v.2, none, none, none]) ?_ ?_
    · refine s_if (x := (decide (r5 = (1 : Int)))) (pu_B (pu_op (z := (Enc.enc ((decide (r5 = (1 : Int))) : Bool))) (pu_peek (by rfl)) (pu_c (d := Enc.enc (1 : Int))) (eq_enc r5 ((1 : Int))))) ?_ ?_
      · refine s_asg ?_
        refine e_d ?_
        refine e_op ?_
        refine e_pu (pu_c (d := Enc.enc (1000 : Int))) ?_
        refine e_fz ?_
        refine e_call ?_
        refine a_r (by rfl) ?_
        refine a_d ?_
        refine e_pu (pu_c (d := Enc.enc (3 : Int))) ?_
        refine a_nil ?_
        refine c_call (by show List.Nodup [1]; decide) rfl (r_next src21 ((3 : Int))) xe_no ?_
        rintro ⟨r25, src26⟩
        show SK [some (.scr script), some src26.1, dv x4, dv r5, dv (((1 : Int) + r7) : Int), lv offers15, dv i11, dv x19, dv gain22, none, none, none] _ _ _ _ _
        refine e_ok ?_
        refine e_o (z := (Enc.enc (((1000 : Int) - r25) : Int))) rfl ?_
        refine s_set rfl ?_
        exact k_ok rfl (mt_k (mt_k (mt_k (mt_k (mt_k (mt_k (mt_k (mt_k (mt_k (mt_w (mt_w (mt_w mt_nil))))))))))))
      · refine s_next ?_
        exact k_ok rfl (mt_k (mt_k (mt_k (mt_k (mt_k (mt_k (mt_k (mt_k (mt_k (mt_w (mt_w (mt_w mt_nil))))))))))))
    rintro ⟨src23, gain24⟩
    show SK [some (.scr script), some src23.1, dv x4, dv r5, dv (((1 : Int) + r7) : Int), lv offers15, dv i11, dv x19, dv gain24, none, none, none] _ _ _ _ _
    refine s_then ?_
    refine s_drop ?_
    refine e_app (by rfl) ?_
    refine e_pu (pu_tup (pu_cons (pu_var (by rfl)) (pu_cons (pu_var (by rfl)) pu_nil)) (ln (n := 2) rfl)) ?_
    refine c_app (xs := offers15) (x := ((x19, gain24) : (Int × Int))) (by rfl) rfl ?_
    exact k_ok rfl (mt_k (mt_k (mt_k (mt_k (mt_k (mt_k (mt_w (mt_w (mt_w (mt_w (mt_w (mt_w mt_nil))))))))))))
  obtain ⟨src14, offers15⟩ := v
  show SK [some (.scr script), some src14.1, dv x4, dv r5, dv (((1 : Int) + r7) : Int), lv offers15, none, none, none, none, none, none] _ _ _ _ _
  refine s_then ?_
  refine s_seq ?_
  refine s_asg ?_
  refine e_pu (pu_un (z := (S.ol (List.map Enc.enc offers15))) (pu_peekL (by rfl)) rfl) ?_
  refine s_set rfl ?_
  refine s_then ?_
  refine s_seq ?_
  refine s_asg ?_
  refine e_op ?_
  refine e_pu (pu_c (d := Enc.enc (1 : Int))) ?_
  refine e_fz ?_
  refine e_call ?_
  refine a_r (by rfl) ?_
  refine a_d ?_
  refine e_fz ?_
  refine e_call ?_
  refine a_r (by rfl) ?_
  refine a_nil ?_
  refine c_call (by show List.Nodup [9]; decide) rfl (r_law_all_gain offers15) xe_no ?_
  rintro ⟨r27, kept28⟩
  show SK [some (.scr script), some src14.1, dv x4, dv r5, dv (((1 : Int) + r7) : Int), lv offers15, none, none, none, dv kept28, none, none] _ _ _ _ _
  refine e_ok ?_
  refine a_nil ?_
  refine c_call (by show List.Nodup [1]; decide) rfl (r_next src14 r27) xe_no ?_
  rintro ⟨r29, src30⟩
  show SK [some (.scr script), some src30.1, dv x4, dv r5, dv (((1 : Int) + r7) : Int), lv offers15, none, none, none, dv kept28, none, none] _ _ _ _ _
  refine e_ok ?_
  refine e_o (z := (S.d (Enc.enc ((1 : Int) + r29 : Int)))) rfl ?_
  refine s_set rfl ?_
  refine s_then ?_
  refine s_seq ?_
  refine s_cut (B1 := fun v => [some (.scr script), none, dv x4, dv r5, dv (((1 : Int) + r7) : Int), lv offers15, none, none, none, dv kept28, dv v, none]) ?_ ?_
  · refine s_ifE ?_
    refine e_B ?_
    refine e_op ?_
    refine e_fz ?_
    refine e_call ?_
    refine a_r (by rfl) ?_
    refine a_d ?_
    refine e_pu (pu_c (d := Enc.enc (2 : Int))) ?_
    refine a_nil ?_
    refine c_call (by show List.Nodup [1]; decide) rfl (r_next src30 ((2 : Int))) xe_no ?_
    rintro ⟨r32, src33⟩
    show SK [some (.scr script), some src33.1, dv x4, dv r5, dv (((1 : Int) + r7) : Int), lv offers15, none, none, none, dv kept28, dv (((1 : Int) + r29) : Int), none] _ _ _ _ _
    refine e_ok ?_
    refine e_pu (pu_c (d := Enc.enc (0 : Int))) ?_
    refine e_o (z := (Enc.enc ((decide (r32 = (0 : Int))) : Bool))) (eq_enc r32 ((0 : Int))) ?_
    refine e_ok ?_
    refine s_ite (x := (decide (r32 = (0 : Int)))) ?_ ?_
    · refine s_asg ?_
      refine e_d ?_
      refine e_gA ?_
      refine e_cons ?_
      refine e_pu (pu_c (d := Enc.enc (1 : Int))) ?_
      refine e_cons ?_
      refine e_op ?_
      refine e_op ?_
      refine e_fz ?_
      refine e_call ?_
      refine a_r (by rfl) ?_
      refine a_nil ?_
      refine c_call (by show List.Nodup [9]; decide) rfl (r_law_all_gain_2 kept28) xe_no ?_
      rintro r34
      show SK [some (.scr script), some src33.1, dv x4, dv r5, dv (((1 : Int) + r7) : Int), lv offers15, none, none, none, dv kept28, dv (((1 : Int) + r29) : Int), none] _ _ _ _ _
      refine e_ok ?_
      refine e_pu (pu_c (d := Enc.enc (2 : Int))) ?_
      refine e_o (z := (Enc.enc ((r34 / (2 : Int)) : Int))) (div_lit (by decide)) ?_
      refine e_fz ?_
      refine e_call ?_
      refine a_r (by rfl) ?_
      refine a_d ?_
      refine e_pu (pu_c (d := Enc.enc (5 : Int))) ?_
      refine a_nil ?_
      refine c_call (by show List.Nodup [1]; decide) rfl (r_next src33 ((5 : Int))) xe_no ?_
      rintro ⟨r35, src36⟩
      show SK [some (.scr script), some src36.1, dv x4, dv r5, dv (((1 : Int) + r7) : Int), lv offers15, none, none, none, dv kept28, dv (((1 : Int) + r29) : Int), none] _ _ _ _ _
      refine e_ok ?_
      refine e_o (z := (Enc.enc (((r34 / (2 : Int)) - r35) : Int))) rfl ?_
      refine e_pu pu_nil ?_
      refine e_o (z := (Enc.enc ((maxT (1 : Int) ((r34 / (2 : Int)) - r35)) : Int))) rfl ?_
      refine s_set rfl ?_
      exact k_ok rfl (mt_k (mt_w (mt_k (mt_k (mt_k (mt_k (mt_w (mt_w (mt_w (mt_k (mt_k (mt_w mt_nil))))))))))))
    · refine s_next ?_
      exact k_ok rfl (mt_k (mt_w (mt_k (mt_k (mt_k (mt_k (mt_w (mt_w (mt_w (mt_k (mt_k (mt_w mt_nil))))))))))))
  rintro goal31
  show SK [some (.scr script), none, dv x4, dv r5, dv (((1 : Int) + r7) : Int), lv offers15, none, none, none, dv kept28, dv goal31, none] _ _ _ _ _
  refine s_then ?_
  refine s_seq ?_
  refine s_asg ?_
  refine e_fresh ?_
  refine e_pu (pu_cons (pu_pkL (by rfl)) (pu_cons (pu_pk (by rfl)) pu_nil)) ?_
  refine c_fresh (by simp only [List.map_cons, List.map_nil, toB_l, toB_l2, toB_i, toB_t, toB_b]) rfl (r_cheapest_v2 offers15 goal31) (fun r => thaw_o r) (fun e => e.elim) ?_
  intro r37
  refine s_set rfl ?_
  refine s_then ?_
  refine s_seq ?_
  refine s_ifE ?_
  refine e_orL ?_
  refine e_not ?_
  refine e_B ?_
  refine e_fz ?_
  refine e_look ?_
  refine e_pu (pu_cons (pu_pkL (by rfl)) (pu_cons (pu_pk (by rfl)) pu_nil)) ?_
  refine c_look (Fm := Enc.enc) rfl rfl (r_same2 ((Enc.enc offers15 : D)) ((Enc.enc kept28 : D))) (fun _ => rfl) (fun e => e.elim) ?_
  intro r38
  refine e_ok ?_
  refine e_ok ?_
  refine c_or (x := (!r38)) ?_ ?_
  · refine s_iteT ?_
    refine s_ret ?_
    refine e_pu (pu_d (pu_c (d := Enc.enc false))) ?_
    exact f_rt rfl (mt_k mt_nil)
  · refine e_not ?_
    refine e_B ?_
    refine e_fz ?_
    refine e_call ?_
    refine a_d ?_
    refine e_varO (o := r37) (by rfl) ?_
    refine a_r (by rfl) ?_
    refine a_d ?_
    refine e_pu (pu_var (by rfl)) ?_
    refine a_nil ?_
    refine c_call (by show List.Nodup [9]; decide) rfl (r_law_offers_fit r37 kept28 goal31) xe_no ?_
    rintro r39
    show SK [some (.scr script), none, dv x4, dv r5, dv (((1 : Int) + r7) : Int), lv offers15, none, none, none, dv kept28, dv goal31, dv r37] _ _ _ _ _
    refine e_ok ?_
    refine e_ok ?_
    refine s_ite (x := (!r39)) ?_ ?_
    · refine s_ret ?_
      refine e_pu (pu_d (pu_c (d := Enc.enc false))) ?_
      exact f_rt rfl (mt_k mt_nil)
    · refine s_next ?_
      refine s_then ?_
      refine s_seq ?_
      refine s_if (x := (decide (r5 = (1 : Int)))) (pu_B (pu_op (z := (Enc.enc ((decide (r5 = (1 : Int))) : Bool))) (pu_peek (by rfl)) (pu_c (d := Enc.enc (1 : Int))) (eq_enc r5 ((1 : Int))))) ?_ ?_
      · refine s_ret ?_
        refine e_d ?_
        refine e_op ?_
        refine e_fz ?_
        refine e_call ?_
        refine a_d ?_
        refine e_pu (pu_var (by rfl)) ?_
        refine a_r (by rfl) ?_
        refine a_nil ?_
        refine c_call (by show List.Nodup [9]; decide) rfl (r_law_paid r37 kept28) xe_no ?_
        rintro r40
        show SK [some (.scr script), none, dv x4, dv r5, dv (((1 : Int) + r7) : Int), lv offers15, none, none, none, dv kept28, dv goal31, dv r37] _ _ _ _ _
        refine e_ok ?_
        refine e_fz ?_
        refine e_call ?_
        refine a_r (by rfl) ?_
        refine a_d ?_
        refine e_pu (pu_var (by rfl)) ?_
        refine a_nil ?_
        refine c_call (by show List.Nodup [9]; decide) rfl (r_law_heavy_least kept28 goal31) xe_no ?_
        rintro r41
        show SK [some (.scr script), none, dv x4, dv r5, dv (((1 : Int) + r7) : Int), lv offers15, none, none, none, dv kept28, dv goal31, dv r37] _ _ _ _ _
        refine e_ok ?_
        refine e_o (z := (Enc.enc ((decide (r40 = r41)) : Bool))) (eq_enc r40 r41) ?_
        exact f_rt rfl (mt_k mt_nil)
      · refine s_next ?_
        refine s_then ?_
        refine s_ret ?_
        refine e_d ?_
        refine e_op ?_
        refine e_fz ?_
        refine e_call ?_
        refine a_d ?_
        refine e_pu (pu_var (by rfl)) ?_
        refine a_r (by rfl) ?_
        refine a_nil ?_
        refine c_call (by show List.Nodup [9]; decide) rfl (r_law_paid r37 kept28) xe_no ?_
        rintro r42
        show SK [some (.scr script), none, dv x4, dv r5, dv (((1 : Int) + r7) : Int), lv offers15, none, none, none, dv kept28, dv goal31, dv r37] _ _ _ _ _
        refine e_ok ?_
        refine e_fz ?_
        refine e_call ?_
        refine a_r (by rfl) ?_
        refine a_d ?_
        refine e_pu (pu_var (by rfl)) ?_
        refine a_nil ?_
        refine c_call (by show List.Nodup [9]; decide) rfl (r_law_least_2 kept28 goal31) xe_no ?_
        rintro r43
        show SK [some (.scr script), none, dv x4, dv r5, dv (((1 : Int) + r7) : Int), lv offers15, none, none, none, dv kept28, dv goal31, dv r37] _ _ _ _ _
        refine e_ok ?_
        refine e_o (z := (Enc.enc ((decide (((some r42) : (Option Int)) = r43)) : Bool))) (eq_opt ((some r42) : (Option Int)) r43) ?_
        exact f_rt rfl (mt_k mt_nil)
end Ty

namespace Ty
open PySem VS L2
abbrev HTab := Dt (Int × Int) Int
def kS (S : List Of) : Int × Int := ((S.length : Int), (S.length : Int) * 1000 - gS S)
theorem kS_snoc (S : List Of) (q : Of) : kS (S ++ [q]) = ((kS S).1 + 1, (kS S).2 + 1000 - q.2) := by
  unfold kS
  rw [gS_app, gS_one, List.length_append, List.length_singleton]
  refine Prod.ext ?_ ?_
  · dsimp only; omega
  · dsimp only; omega
def Hvy (xs : List Of) : Prop := xs.length ≤ 24 ∧ ∀ x ∈ xs, (0 ≤ x.1 ∧ x.1 ≤ 1500) ∧ 998 ≤ x.2 ∧ x.2 ≤ 1000
theorem Hvy.sub {S xs : List Of} (h : Hvy xs) (hs : S.Sublist xs) : Hvy S := ⟨Nat.le_trans hs.length_le h.1, fun x hx => h.2 x (hs.subset hx)⟩
theorem gS_ge_n {xs : List Of} {m : Int} (h : ∀ x ∈ xs, m ≤ x.2) : m * xs.length ≤ gS xs := by
  induction xs with
  | nil => simp [gS]
  | cons x xs ih =>
    have h1 := h x List.mem_cons_self
    have h2 := ih fun y hy => h y (List.mem_cons_of_mem _ hy)
    unfold gS at *
    rw [List.map_cons, List.sum_cons, List.length_cons]
    have : m * ((xs.length + 1 : Nat) : Int) = m * (xs.length : Int) + m := by
      rw [show ((xs.length + 1 : Nat) : Int) = (xs.length : Int) + 1 from by omega, Int.mul_add, Int.mul_one]
    omega
theorem Hvy.key {S : List Of} (h : Hvy S) : ∃ a b : Nat, kS S = ((a : Int), (b : Int)) ∧ a ≤ 24 ∧ b ≤ 2 * a := by
  have h1 := gS_le_n (m := 1000) fun x hx => (h.2 x hx).2.2
  have h2 := gS_ge_n (m := 998) fun x hx => (h.2 x hx).2.1
  refine ⟨S.length, ((S.length : Int) * 1000 - gS S).toNat, ?_, h.1, by omega⟩
  unfold kS
  refine Prod.ext rfl ?_
  dsimp only
  omega
structure HSnd (pre : List Of) (t : HTab) : Prop where
  nd : NdK t
  snd : ∀ p ∈ t, ∃ S : List Of, S.Sublist pre ∧ p.1 = kS S ∧ p.2 = cS S
structure HOk (pre : List Of) (t : HTab) : Prop extends HSnd pre t where
  cmp : ∀ S : List Of, S.Sublist pre → ∃ v, dget t (kS S) = some v ∧ v ≤ cS S
theorem HSnd.key {pre : List Of} {t : HTab} (h : HSnd pre t) (hp : Hvy pre) {p : (Int × Int) × Int} (hm : p ∈ t) : ∃ a b : Nat, p.1 = ((a : Int), (b : Int)) ∧ a ≤ 24 ∧ b ≤ 2 * a := by
  obtain ⟨S, s1, s2, _⟩ := h.snd p hm
  rw [s2]
  exact (hp.sub s1).key
theorem HSnd.box {pre : List Of} {t : HTab} (h : HSnd pre t) (hp : Hvy pre) : inBoxT t = true := by
  unfold inBoxT
  rw [List.all_eq_true]
  intro p hm
  obtain ⟨a, b, e, ha, hb⟩ := h.key hp hm
  rw [e]
  show (boxd [.inl (Int.ofNat a), .inl (Int.ofNat b)]).isSome = true
  unfold boxd
  simp only
  rw [if_pos ⟨ha, hb⟩]
  rfl
theorem HSnd.len {pre : List Of} {t : HTab} (h : HSnd pre t) (hp : Hvy pre) : t.length ≤ 1225 := by
  have hn : (t.map fun p => p.1.1 * 49 + p.1.2).Nodup := by
    have e : (t.map fun p => p.1.1 * 49 + p.1.2) = (t.map (·.1)).map (fun k : Int × Int => k.1 * 49 + k.2) := by rw [List.map_map]; rfl
    rw [e]
    refine map_nodup (P := fun k : Int × Int => ∃ a b : Nat, k = ((a : Int), (b : Int)) ∧ a ≤ 24 ∧ b ≤ 2 * a) ?_ h.nd fun k hk => ?_
    · rintro k l ⟨a, b, rfl, h1, h2⟩ ⟨c, d, rfl, h3, h4⟩ he
      dsimp only at he
      have : a = c := by omega
      subst this
      have : b = d := by omega
      subst this
      rfl
    · obtain ⟨p, hp2, rfl⟩ := List.mem_map.mp hk
      exact h.key hp hp2
  have := nodup_bound 1225 _ hn fun k hk => by
    obtain ⟨p, hp2, rfl⟩ := List.mem_map.mp hk
    obtain ⟨a, b, e, h1, h2⟩ := h.key hp hp2
    rw [e]
    dsimp only
    omega
  rw [List.length_map] at this
  exact this
theorem hgrow_spec {pre : List Of} {q : Of} {t : HTab} (h : HOk pre t) (hp : Hvy (pre ++ [q])) :
    (T.forM t (t : HTab) (fun (i4 : ((Int × Int) × Int)) grown6 => ((if (!(dget grown6 ((i4.1.1 + (1 : Int)), ((i4.1.2 + (1000 : Int)) - q.2))).isSome) = true then (T.gd (grown6.length < sizeLine) <|
  .ok (dput grown6 ((i4.1.1 + (1 : Int)), ((i4.1.2 + (1000 : Int)) - q.2)) (i4.2 + q.1))) else ((T.ofO (dget grown6 ((i4.1.1 + (1 : Int)), ((i4.1.2 + (1000 : Int)) - q.2)))).bind fun v7 =>
  if (decide ((i4.2 + q.1) < v7)) = true then (T.gd (grown6.length < sizeLine) <|
  .ok (dput grown6 ((i4.1.1 + (1 : Int)), ((i4.1.2 + (1000 : Int)) - q.2)) (i4.2 + q.1))) else (.ok grown6))) : T Empty HTab))).Post fun t' => HOk (pre ++ [q]) t' := by
  have sub1 : pre.Sublist (pre ++ [q]) := List.sublist_append_left ..
  refine post_imp (forM_post (fun done t' => HSnd (pre ++ [q]) t' ∧ (∀ p ∈ t, ∃ v, dget t' p.1 = some v ∧ v ≤ p.2) ∧ ∀ p : (Int × Int) × Int, p ∈ done → ∃ v, dget t' (p.1.1 + 1, p.1.2 + 1000 - q.2) = some v ∧ v ≤ p.2 + q.1) ?_ ?_) ?_
  · refine ⟨⟨h.nd, fun p hp2 => ?_⟩, fun p hp2 => ⟨p.2, mem_dget' h.nd hp2, Int.le_refl _⟩, by simp⟩
    obtain ⟨S, h1, h2⟩ := h.snd p hp2
    exact ⟨S, h1.trans sub1, h2⟩
  · rintro done p more t' et ⟨g1, g2, g3⟩
    have hpm : p ∈ t := by rw [et]; simp
    have put : (∀ v, dget t' (p.1.1 + 1, p.1.2 + 1000 - q.2) = some v → p.2 + q.1 ≤ v) → ((T.gd (t'.length < sizeLine) <| .ok (dput t' ((p.1.1 + (1 : Int)), ((p.1.2 + (1000 : Int)) - q.2)) (p.2 + q.1)) : T Empty HTab)).Post fun t' => HSnd (pre ++ [q]) t' ∧ (∀ p ∈ t, ∃ v, dget t' p.1 = some v ∧ v ≤ p.2) ∧ ∀ r : (Int × Int) × Int, r ∈ done ++ [p] → ∃ v, dget t' (r.1.1 + 1, r.1.2 + 1000 - q.2) = some v ∧ v ≤ r.2 + q.1 := fun hlt => by
      obtain ⟨S, s1, s2, s3⟩ := h.snd p hpm
      have htl := g1.len hp
      refine post_gd (szl _ (by omega)) (post_ok ⟨⟨ndk_put g1.nd _ _, fun r hr => ?_⟩, fun r hr => ?_, fun r hr => ?_⟩)
      · have hd := mem_dget' (ndk_put g1.nd _ _) hr
        rw [dget_put] at hd
        by_cases e : (p.1.1 + 1, p.1.2 + 1000 - q.2) = r.1
        · rw [if_pos e] at hd
          have e2 := Option.some.inj hd
          refine ⟨S ++ [q], s1.append (List.Sublist.refl _), ?_, ?_⟩
          · rw [kS_snoc, ← e, s2]
          · rw [← e2, cS_app, cS_one, s3]
        · rw [if_neg e] at hd
          exact g1.snd r (dget_mem' hd)
      · rw [dget_put]
        obtain ⟨v, hv, hle⟩ := g2 r hr
        by_cases e : (p.1.1 + 1, p.1.2 + 1000 - q.2) = r.1
        · rw [if_pos e]
          rw [← e] at hv
          have := hlt v hv
          exact ⟨_, rfl, by omega⟩
        · rw [if_neg e]
          exact ⟨v, hv, hle⟩
      · rw [dget_put]
        rcases List.mem_append.mp hr with hr | hr
        · obtain ⟨v, hv, hle⟩ := g3 r hr
          by_cases e : (p.1.1 + 1, p.1.2 + 1000 - q.2) = (r.1.1 + 1, r.1.2 + 1000 - q.2)
          · rw [if_pos e]
            rw [← e] at hv
            have := hlt v hv
            exact ⟨_, rfl, by omega⟩
          · rw [if_neg e]
            exact ⟨v, hv, hle⟩
        · rw [List.mem_singleton] at hr
          subst hr
          rw [if_pos rfl]
          exact ⟨_, rfl, Int.le_refl _⟩
    cases hd : dget t' (p.1.1 + 1, p.1.2 + 1000 - q.2) with
    | none =>
      simp only [Option.isSome_none, Bool.not_false, if_true]
      exact put fun v hv => by rw [hd] at hv; cases hv
    | some v =>
      simp only [Option.isSome_some, Bool.not_true, Bool.false_eq_true, if_false, ofO_some']
      by_cases hlt : p.2 + q.1 < v
      · rw [if_pos (by simpa using hlt)]
        exact put fun v' hv' => by rw [hd] at hv'; cases hv'; omega
      · rw [if_neg (by simpa using hlt)]
        refine post_ok ⟨g1, g2, fun r hr => ?_⟩
        rcases List.mem_append.mp hr with hr | hr
        · exact g3 r hr
        · rw [List.mem_singleton] at hr
          subst hr
          exact ⟨v, hd, by omega⟩
  · rintro t' ⟨g1, g2, g3⟩
    refine ⟨g1, fun S hS => ?_⟩
    rcases sub_snoc hS with hS | ⟨S', rfl, hS2⟩
    · obtain ⟨v, hv, hle⟩ := h.cmp S hS
      obtain ⟨v', hv', hle'⟩ := g2 _ (dget_mem' hv)
      exact ⟨v', hv', by dsimp only at hle'; omega⟩
    · obtain ⟨v, hv, hle⟩ := h.cmp S' hS2
      obtain ⟨v', hv', hle'⟩ := g3 _ (dget_mem' hv)
      refine ⟨v', ?_, ?_⟩
      · rw [kS_snoc]; exact hv'
      · rw [cS_app, cS_one]; dsimp only at hle'; omega
theorem heavy_spec {xs : List Of} {goal : Int} (hx : Hvy xs) {m : Int} (hm : MinC xs goal (some m)) : t_law_heavy_least xs goal = .ok m := by
  suffices h : (t_law_heavy_least xs goal).Post fun b => b = m by
    obtain ⟨b, e, rfl⟩ := h
    exact e
  unfold t_law_heavy_least
  refine post_bind (forM_post (fun pre (t : HTab) => HOk pre t) ?_ ?_) ?_
  · refine ⟨⟨by unfold NdK; simp, fun p hp => ?_⟩, fun S hS => ?_⟩
    · rw [List.mem_singleton] at hp
      subst hp
      exact ⟨[], List.Sublist.refl _, rfl, rfl⟩
    · have : S = [] := List.sublist_nil.mp hS
      subst this
      exact ⟨0, rfl, Int.le_refl _⟩
  · rintro pre q post t ee ht
    have hsub : (pre ++ [q]).Sublist xs := by
      rw [ee, show pre ++ q :: post = (pre ++ [q]) ++ post by simp]
      exact List.sublist_append_left ..
    refine post_gd (ht.toHSnd.box (hx.sub ((List.sublist_append_left ..).trans hsub))) ?_
    exact post_bind (hgrow_spec ht (hx.sub hsub)) fun t' ht' => post_ok ht'
  · intro t ht
    have htl := ht.toHSnd.len hx
    rw [lcp_ok (by omega), T.ok_bind]
    obtain ⟨⟨S, s1, s2, s3⟩, s4⟩ := hm
    have key : ∀ S : List Of, (kS S).1 * 1000 - (kS S).2 = gS S := fun S => by
      unfold kS
      dsimp only
      omega
    obtain ⟨v, hv, hvle⟩ := ht.cmp S s1
    have hall : ∀ z ∈ (t.filter fun i8 => decide (goal ≤ i8.1.1 * 1000 - i8.1.2)).map fun i8 => i8.2, m ≤ z := fun z hz => by
      obtain ⟨r, hr, rfl⟩ := List.mem_map.mp hz
      obtain ⟨hr1, hr2⟩ := List.mem_filter.mp hr
      obtain ⟨S', a1, a2, a3⟩ := ht.snd r hr1
      rw [a2, key] at hr2
      rw [a3]
      exact s4 S' a1 (by simpa using hr2)
    have hmem : v ∈ (t.filter fun i8 => decide (goal ≤ i8.1.1 * 1000 - i8.1.2)).map fun i8 => i8.2 := List.mem_map.mpr ⟨(kS S, v), List.mem_filter.mpr ⟨dget_mem' hv, by rw [key]; simpa using s2⟩, rfl⟩
    have hvm : v = m := by
      have := hall v hmem
      omega
    obtain ⟨z, hz⟩ : ∃ z, minL ((t.filter fun i8 => decide (goal ≤ i8.1.1 * 1000 - i8.1.2)).map fun i8 => i8.2) = some z := by
      cases hq : (t.filter fun i8 => decide (goal ≤ i8.1.1 * 1000 - i8.1.2)).map fun i8 => i8.2 with
      | nil => rw [hq] at hmem; cases hmem
      | cons a l => exact ⟨_, rfl⟩
    obtain ⟨_, hz1, hz2⟩ := minL_spec hz
    refine post_ofO hz (post_ok ?_)
    have := hall z hz1
    have := hz2 v hmem
    omega
end Ty

namespace Ty
open PySem VS L2
theorem least5_spec {xs : List Of} {g : Nat} (h1 : 1 ≤ g) (h2 : g ≤ 900000) (hc : ∀ x ∈ xs, 0 ≤ x.1) (hg : ∀ x ∈ xs, 1 ≤ x.2) : (t_law_least_2 xs (g : Int)).Post fun p => MinC xs (g : Int) p := by
  unfold t_law_least_2
  refine post_ofO (repT_one none g (by omega)) (post_ofO (catT_ok (by rw [List.length_replicate, List.length_singleton]; omega)) ?_)
  refine post_bind (forM_post (fun pre t => TabL g pre t) ?_ ?_) ?_
  · refine ⟨by rw [List.length_append, List.length_replicate, List.length_singleton]; omega, fun r hr => ?_⟩
    by_cases hr0 : r = 0
    · subst hr0
      exact ⟨some 0, rfl, minC_zero (by simp) (by omega)⟩
    · refine ⟨none, ?_, minC_nil (by omega)⟩
      rw [List.getElem?_append_right (by simp; omega), List.length_singleton, List.getElem?_replicate, if_pos (by omega)]
  · rintro pre q post t ex ⟨t1, t2⟩
    have hq : q ∈ xs := by rw [ex]; simp
    have hqc := hc q hq
    have hqg := hg q hq
    have hpre : ∀ o ∈ pre, 0 ≤ o.1 := fun o ho => hc o (by rw [ex]; exact List.mem_append_left _ ho)
    refine post_gd ⟨inR_s (by omega) (by omega), inR_s (by omega) (by omega)⟩ ?_
    rw [show ((g : Int) + 1 - 1).toNat = g by omega]
    refine post_bind (rev2_post (lo := 1) (n := g) (fun i (t : List (Option Int)) => t.length = g + 1 ∧ (∀ r : Nat, r < i → r ≤ g → ∃ o, t[r]? = some o ∧ MinC pre (r : Int) o) ∧ ∀ r : Nat, i ≤ r → r ≤ g → ∃ o, t[r]? = some o ∧ MinC (pre ++ [q]) (r : Int) o) ⟨t1, fun r _ hr => t2 r hr, fun r hr hr2 => by omega⟩ ?_) ?_
    · rintro i t hi1 hi2 ⟨g1, g2, g3⟩
      obtain ⟨o, ho1, ho2⟩ := g2 i (by omega) (by omega)
      -- what stands before
      obtain ⟨b, hb1, hb2⟩ : ∃ b, atI t (maxT (0 : Int) ((i : Int) - q.2)) = some b ∧ MinC pre ((i : Int) - q.2) b := by
        by_cases hle : (i : Int) - q.2 ≤ 0
        · have e : maxT (0 : Int) ((i : Int) - q.2) = ((0 : Nat) : Int) := by
            unfold maxT
            rw [if_neg (by omega)]
            rfl
          obtain ⟨b, hb1, hb2⟩ := g2 0 (by omega) (by omega)
          have hb : b = some 0 := by
            cases b with
            | none =>
              have := hb2 [] (List.nil_sublist _)
              exact absurd this (by show ¬ (0 : Int) < 0; omega)
            | some m =>
              obtain ⟨⟨S, s1, s2, s3⟩, s4⟩ := hb2
              have k1 := s4 [] (List.nil_sublist _) (by show (0 : Int) ≤ 0; omega)
              have k2 := cS_nonneg (S := S) fun o ho => hpre o (s1.subset ho)
              have k1 : m ≤ 0 := k1
              have : m = 0 := by omega
              rw [this]
          rw [e, atI_n, hb1, hb]
          exact ⟨some 0, rfl, minC_zero hpre hle⟩
        · have e : maxT (0 : Int) ((i : Int) - q.2) = (((i : Int) - q.2).toNat : Int) := by
            unfold maxT
            rw [if_pos (by omega)]
            omega
          obtain ⟨b, hb1, hb2⟩ := g2 ((i : Int) - q.2).toNat (by omega) (by omega)
          rw [e, atI_n, hb1]
          refine ⟨b, rfl, ?_⟩
          rw [show ((((i : Int) - q.2).toNat : Nat) : Int) = (i : Int) - q.2 by omega] at hb2
          exact hb2
      have hstep := minC_step ho2 hb2
      rw [hb1, ofO_some', atI_n, ho1, ofO_some']
      have keep : MinC (pre ++ [q]) (i : Int) o → (T.ok t : T Empty (List (Option Int))).Post fun t => t.length = g + 1 ∧ (∀ r : Nat, r < i → r ≤ g → ∃ o, t[r]? = some o ∧ MinC pre (r : Int) o) ∧ ∀ r : Nat, i ≤ r → r ≤ g → ∃ o, t[r]? = some o ∧ MinC (pre ++ [q]) (r : Int) o := fun hk =>
        post_ok ⟨g1, fun r hr hr2 => g2 r (by omega) hr2, fun r hr hr2 => by
          by_cases e : r = i
          · subst e
            exact ⟨o, ho1, hk⟩
          · exact g3 r (by omega) hr2⟩
      have put : ∀ z : Int, MinC (pre ++ [q]) (i : Int) (some z) → ((T.ofO (setT t (i : Int) (some z))).bind fun table12 => .ok table12 : T Empty (List (Option Int))).Post fun t => t.length = g + 1 ∧ (∀ r : Nat, r < i → r ≤ g → ∃ o, t[r]? = some o ∧ MinC pre (r : Int) o) ∧ ∀ r : Nat, i ≤ r → r ≤ g → ∃ o, t[r]? = some o ∧ MinC (pre ++ [q]) (r : Int) o := fun z hk => by
        rw [setT_nat (by omega), ofO_some']
        refine post_ok ⟨by rw [List.length_set]; exact g1, fun r hr hr2 => ?_, fun r hr hr2 => ?_⟩
        · rw [List.getElem?_set_ne (by omega)]
          exact g2 r (by omega) hr2
        · by_cases e : r = i
          · subst e
            exact ⟨some z, by rw [List.getElem?_set_self (by omega)], hk⟩
          · rw [List.getElem?_set_ne (by omega)]
            exact g3 r (by omega) hr2
      cases b with
      | none =>
        simp only [Option.isSome_none, Bool.false_eq_true, if_false]
        exact keep hstep
      | some x =>
        simp only [Option.isSome_some, if_true, ofO_some']
        cases o with
        | none =>
          simp only [Option.isNone_none, if_true]
          exact put _ hstep
        | some y =>
          simp only [Option.isNone_some, Bool.false_eq_true, if_false, ofO_some']
          by_cases hlt : x + q.1 < y
          · rw [if_pos (by simpa using hlt)]
            simp only [hlt, if_true] at hstep
            exact put _ hstep
          · rw [if_neg (by simpa using hlt)]
            simp only [hlt, if_false] at hstep
            exact keep hstep
    · rintro t ⟨g1, g2, g3⟩
      refine post_ok ⟨g1, fun r hr => ?_⟩
      by_cases hr0 : r = 0
      · subst hr0
        obtain ⟨o, ho1, ho2⟩ := g2 0 (by omega) (by omega)
        refine ⟨o, ho1, ?_⟩
        cases o with
        | none =>
          have := ho2 [] (List.nil_sublist _)
          exact absurd this (by show ¬ (0 : Int) < 0; omega)
        | some m =>
          obtain ⟨⟨S, s1, s2, s3⟩, s4⟩ := ho2
          have k1 := s4 [] (List.nil_sublist _) (by show (0 : Int) ≤ 0; omega)
          have k2 := cS_nonneg (S := S) fun o ho => hpre o (s1.subset ho)
          have k1 : m ≤ 0 := k1
          have : m = 0 := by omega
          rw [this]
          refine minC_zero (fun o ho => ?_) (by omega)
          rcases List.mem_append.mp ho with ho | ho
          · exact hpre o ho
          · rw [List.mem_singleton] at ho
            subst ho
            exact hqc
      · exact g3 r (by omega) hr
  · rintro t ⟨t1, t2⟩
    obtain ⟨o, ho1, ho2⟩ := t2 g (Nat.le_refl _)
    rw [atI_n, ho1, ofO_some']
    exact post_ok ho2
theorem main_k05 (ns : List Int) (hn : ns.length ≤ 63) : t_main_k05 ns = .ok true := by
  suffices h : (t_main_k05 ns).Post fun b => b = true by
    obtain ⟨b, e, rfl⟩ := h
    exact e
  unfold t_main_k05
  obtain ⟨s0, e0⟩ := src_spec hn
  rw [e0, T.ok_bind]
  obtain ⟨r2, s1, e1, r20, r21⟩ := next_spec s0 (n := 3) (by omega)
  rw [e1, T.ok_bind]
  dsimp only
  obtain ⟨x4, hx4, x40⟩ : ∃ w, atI ([(1 : Int), (1 : Int), (60 : Int)] : List Int) r2 = some w ∧ (w = 1 ∨ w = 60) := by
    obtain ⟨k, rfl⟩ := Int.eq_ofNat_of_zero_le r20
    rw [atI_n]
    have hk : k < 3 := by omega
    match k, hk with
    | 0, _ => exact ⟨_, rfl, .inl rfl⟩
    | 1, _ => exact ⟨_, rfl, .inl rfl⟩
    | 2, _ => exact ⟨_, rfl, .inr rfl⟩
  refine post_ofO hx4 ?_
  obtain ⟨r5, s6, e5, a0, a1⟩ := next_spec s1 (n := 4) (by omega)
  rw [e5, T.ok_bind]
  dsimp only
  obtain ⟨r7, s8, e7, b0, b1⟩ := next_spec s6 (n := 12) (by omega)
  rw [e7, T.ok_bind]
  dsimp only
  obtain ⟨r9, s10, e9, c0, c1⟩ := next_spec s8 (n := 17) (by omega)
  rw [e9, T.ok_bind]
  dsimp only
  refine post_gd (inR_s (by omega) (by omega)) ?_
  refine post_bind (forM_post (fun pre (v : SrcT × List Of) => v.2.length = pre.length ∧ ∀ x ∈ v.2, (0 ≤ x.1 ∧ x.1 ≤ 1500) ∧ (1 ≤ x.2 ∧ x.2 ≤ 1000) ∧ (r5 = 1 → 998 ≤ x.2) ∧ (r5 ≠ 1 → x.2 ≤ 12)) ⟨rfl, by simp⟩ ?_) ?_
  · rintro pre x post ⟨src, xs⟩ hx ⟨h1, h2⟩
    dsimp only at h1 h2 ⊢
    have hpl : pre.length < 25 := by
      have := congrArg List.length hx
      rw [List.length_append, List.length_cons, rangeT_len] at this
      omega
    obtain ⟨w, hw, w0⟩ : ∃ w, atI ([(6 : Int), (25 : Int)] : List Int) (x4 / 60) = some w ∧ 0 < w ∧ w ≤ 25 := by
      rcases x40 with rfl | rfl
      · exact ⟨6, rfl, by omega⟩
      · exact ⟨25, rfl, by omega⟩
    refine post_ofO hw ?_
    obtain ⟨r17, s18, e17, d0, d1⟩ := next_spec src (n := w) (by omega)
    rw [e17, T.ok_bind]
    dsimp only
    have hmul : mulT x4 (1 + r17) = some (x4 * (1 + r17)) := by
      unfold mulT
      exact if_pos (show mulOk _ _ = true from decide_eq_true (.inl (by omega)))
    refine post_ofO hmul ?_
    have hc : 0 ≤ x4 * (1 + r17) ∧ x4 * (1 + r17) ≤ 1500 := by
      rcases x40 with h | h <;> rw [h] <;> omega
    generalize x4 * (1 + r17) = x19 at hc
    obtain ⟨r20', s21, e20, f0, f1⟩ := next_spec s18 (n := 12) (by omega)
    rw [e20, T.ok_bind]
    dsimp only
    refine post_bind (P := fun g : Int => 1 ≤ g ∧ g ≤ 12) ?_ ?_
    · split
      · exact post_ok (by omega)
      · exact post_ok (by omega)
    intro g hg
    refine post_bind (P := fun v : SrcT × Int => (1 ≤ v.2 ∧ v.2 ≤ 1000) ∧ (r5 = 1 → 998 ≤ v.2) ∧ (r5 ≠ 1 → v.2 ≤ 12)) ?_ ?_
    · by_cases h5 : r5 = 1
      · rw [if_pos (by simpa using h5)]
        obtain ⟨r25, s26, e25, k0, k1⟩ := next_spec s21 (n := 3) (by omega)
        rw [e25, T.ok_bind]
        exact post_ok ⟨by dsimp only; omega, fun _ => by dsimp only; omega, fun h => absurd h5 h⟩
      · rw [if_neg (by simpa using h5)]
        exact post_ok ⟨by dsimp only; omega, fun h => absurd h h5, fun _ => by dsimp only; omega⟩
    rintro ⟨s23, gain⟩ hgain
    dsimp only at hgain ⊢
    refine post_gd (szl _ (by omega)) (post_ok ⟨by simp [h1], fun y hy => ?_⟩)
    dsimp only at hy
    rcases List.mem_append.mp hy with hy | hy
    · exact h2 y hy
    · rw [List.mem_singleton] at hy
      subst hy
      exact ⟨hc, hgain⟩
  rintro ⟨s14, xs⟩ ⟨h1, h2⟩
  dsimp only at h1 h2 ⊢
  rw [rangeT_len] at h1
  have hxl : xs.length ≤ 24 := by omega
  have hxm : 8 ≤ xs.length := by omega
  have hc := cS_le_n (m := 1500) fun x hx => (h2 x hx).1.2
  have hg := gS_le_n (m := 1000) fun x hx => (h2 x hx).2.1.2
  have hgm := gS_ge_n (m := 1) fun x hx => (h2 x hx).2.1.1
  have hc0 : 0 ≤ cS xs := cS_nonneg fun x hx => (h2 x hx).1.1
  rw [gain_ok, T.ok_bind]
  dsimp only
  obtain ⟨r29, s30, e29, f0, f1⟩ := next_spec s14 (n := gS xs) (by omega)
  rw [e29, T.ok_bind]
  dsimp only
  refine post_bind (P := fun goal : Int => 1 ≤ goal ∧ goal ≤ gS xs) ?_ ?_
  · obtain ⟨r32, s33, e32, _, _⟩ := next_spec s30 (n := 2) (by omega)
    rw [e32, T.ok_bind]
    dsimp only
    split
    · rw [gain2_ok, T.ok_bind]
      obtain ⟨r35, s36, e35, k0, k1⟩ := next_spec s33 (n := 5) (by omega)
      rw [e35, T.ok_bind]
      dsimp only
      refine post_ok ?_
      rw [maxT_eq]
      omega
    · exact post_ok (by omega)
  rintro goal ⟨g1, g2⟩
  have hch : ∀ x ∈ xs, 0 ≤ x.1 := fun x hx => (h2 x hx).1.1
  obtain ⟨o, ho, hok⟩ := cheapest_spec (xs := xs) (goal := goal) (by omega) hch (by rw [cost_all]; omega)
  rw [cheap2_eq, ho, T.ok_bind]
  rw [same2_refl, T.ok_bind]
  simp only [Bool.not_true, Bool.false_eq_true, if_false]
  cases o with
  | none =>
    have := hok (enT 0 xs) (List.Sublist.refl _)
    rw [gain_all] at this
    omega
  | some ps =>
    obtain ⟨S, q1, rfl, q2, q3⟩ := hok
    rw [fit_ok q1 q2, T.ok_bind]
    simp only [Bool.not_true, Bool.false_eq_true, if_false]
    have hmin := cheap_min q1 q2 q3
    by_cases h5 : r5 = 1
    · rw [if_pos (by simpa using h5), paid_ok q1, T.ok_bind, heavy_spec ⟨hxl, fun x hx => ⟨(h2 x hx).1, (h2 x hx).2.2.1 h5, (h2 x hx).2.1.2⟩⟩ hmin, T.ok_bind]
      exact post_ok (by simp)
    · rw [if_neg (by simpa using h5), paid_ok q1, T.ok_bind]
      have hg12 := gS_le_n (m := 12) fun x hx => (h2 x hx).2.2.2 h5
      obtain ⟨k, rfl⟩ := Int.eq_ofNat_of_zero_le (show 0 ≤ goal by omega)
      refine post_bind (least5_spec (xs := xs) (g := k) (by omega) (by omega) hch fun x hx => (h2 x hx).2.1.1) ?_
      intro z hz
      have := minC_some hmin hz
      subst this
      exact post_ok (by simp)
end Ty
namespace Lw
open VS Ty
theorem true_k05 (ns : List Int) (hn : ns.length ≤ 63) : ∃ L, m_main_k05 [some (.scr ns)] = .ok (.d (.bool true)) L := law_end (Ty.r_main_k05 ns) rfl (Ty.main_k05 ns hn)
end Lw

namespace Tx
open PySem PySem.Spec PyProof.Rows L2 VS
def topS (i : Nat) : Stmt := PySem.Challenge.pw_forsworn_k05_cheapest_of_many.main.body.getD i (.Pass ⟨0, 0, 0, 0⟩)
abbrev s_better : Stmt := topS 1
abbrev N_better : List Str := ["table", "cost", "gain"]
theorem sc_better : FnScope N_better ["table", "cost", "gain"] (defScope s_better) := ⟨rfl, rfl, rfl, by decide +kernel, rfl, by decide +kernel, by decide +kernel⟩
abbrev s_cheapest : Stmt := topS 2
abbrev N_cheapest : List Str := ["offers", "goal", "table", "place", "cost", "gain", "grown", "paid", "gained", "places"]
theorem sc_cheapest : FnScope N_cheapest ["offers", "goal"] (defScope s_cheapest) := ⟨rfl, rfl, rfl, by decide +kernel, rfl, by decide +kernel, by decide +kernel⟩
abbrev s_law_src : Stmt := topS 4
abbrev N_law_src : List Str := ["_law_script"]
theorem sc_law_src : FnScope N_law_src ["_law_script"] (defScope s_law_src) := ⟨rfl, rfl, rfl, by decide +kernel, rfl, by decide +kernel, by decide +kernel⟩
abbrev s_law_next : Stmt := topS 5
abbrev N_law_next : List Str := ["_law_src_here", "_law_base", "_law_cell", "_law_digit"]
theorem sc_law_next : FnScope N_law_next ["_law_src_here", "_law_base"] (defScope s_law_next) := ⟨rfl, rfl, rfl, by decide +kernel, rfl, by decide +kernel, by decide +kernel⟩
abbrev s_law_whole : Stmt := topS 6
abbrev N_law_whole : List Str := ["_law_found"]
theorem sc_law_whole : FnScope N_law_whole ["_law_found"] (defScope s_law_whole) := ⟨rfl, rfl, rfl, by decide +kernel, rfl, by decide +kernel, by decide +kernel⟩
abbrev s_law_same : Stmt := topS 7
abbrev N_law_same : List Str := ["_law_found", "_law_due", "_law_one", "_law_other"]
theorem sc_law_same : FnScope N_law_same ["_law_found", "_law_due"] (defScope s_law_same) := ⟨rfl, rfl, rfl, by decide +kernel, rfl, by decide +kernel, by decide +kernel⟩
abbrev s_law_offers_fit : Stmt := topS 8
abbrev N_law_offers_fit : List Str := ["_law_found", "_law_offers", "_law_goal", "_law_last", "_law_gained", "_law_place"]
theorem sc_law_offers_fit : FnScope N_law_offers_fit ["_law_found", "_law_offers", "_law_goal"] (defScope s_law_offers_fit) := ⟨rfl, rfl, rfl, by decide +kernel, rfl, by decide +kernel, by decide +kernel⟩
abbrev s_law_paid : Stmt := topS 9
abbrev N_law_paid : List Str := ["_law_found", "_law_offers", "_law_paid_here", "_law_place"]
theorem sc_law_paid : FnScope N_law_paid ["_law_found", "_law_offers"] (defScope s_law_paid) := ⟨rfl, rfl, rfl, by decide +kernel, rfl, by decide +kernel, by decide +kernel⟩
abbrev s_law_all_gain : Stmt := topS 10
abbrev N_law_all_gain : List Str := ["_law_offers", "_law_gained", "_law_cost", "_law_gain"]
theorem sc_law_all_gain : FnScope N_law_all_gain ["_law_offers"] (defScope s_law_all_gain) := ⟨rfl, rfl, rfl, by decide +kernel, rfl, by decide +kernel, by decide +kernel⟩
abbrev s_law_least : Stmt := topS 11
abbrev N_law_least : List Str := ["_law_offers", "_law_goal", "_law_table", "_law_cost", "_law_gain", "_law_reached", "_law_before"]
theorem sc_law_least : FnScope N_law_least ["_law_offers", "_law_goal"] (defScope s_law_least) := ⟨rfl, rfl, rfl, by decide +kernel, rfl, by decide +kernel, by decide +kernel⟩
abbrev s_law_heavy_least : Stmt := topS 12
abbrev N_law_heavy_least : List Str := ["_law_offers", "_law_goal", "_law_table", "_law_cost", "_law_gain", "_law_grown", "_law_count", "_law_short", "_law_paid_here", "_law_key"]
theorem sc_law_heavy_least : FnScope N_law_heavy_least ["_law_offers", "_law_goal"] (defScope s_law_heavy_least) := ⟨rfl, rfl, rfl, by decide +kernel, rfl, by decide +kernel, by decide +kernel⟩
abbrev s_law : Stmt := topS 13
abbrev N_law : List Str := ["_law_script", "_law_src_here", "_law_scale", "_law_kind", "_law_alike", "_law_offers", "_law_k", "_law_cost", "_law_gain", "_law_kept", "_law_goal", "_law_found"]
theorem sc_law : FnScope N_law ["_law_script"] (defScope s_law) := ⟨rfl, rfl, rfl, by decide +kernel, rfl, by decide +kernel, by decide +kernel⟩
end Tx
namespace Tx
open PySem PySem.Spec PyProof.Rows L2 VS
section
variable {P : Program} {w : World} {K : PySem.W.Frag} {mg : Str → Option Value} {base : Heap} {ca : Nat → Addr}
theorem ok_better {f : Addr} {fd : FuncData} (F : Fun K "better" "better" s_better f fd)  : FnOk P w K mg base (L2.CX P w) 1 f fd ["table", "cost", "gain"] (VSp K ca [true, false, false] Lw.m_better) := by
  refine vf_of (k := 0) F sc_better rfl (by decide) fun cdv A outer s H E vs hr B => ?_
  have tk : Takes (ctOf P w K mg base ca N_better "better" (defScope s_better) f cdv A outer s H E [true, false, false] vs B).X _ := takes_of rfl rfl rfl rfl
  exact (jb_cons (js_if (jt_dnin 0 hr (pv 0) (jd_var 1 (pv 1))) (jb_one (js_ret (je_d jd_bl))) jb_nil)
    (jb_one (js_ret (je_d (jd_cmpN cv_lt (jv_d (jd_ix (jd_dget 0 hr (pv 0) (jd_var 1 (pv 1))) jd_int)) (jv_var 2 (pv 2)) (nomark _))))))
theorem ok_cheapest {f : Addr} {fd : FuncData} (F : Fun K "cheapest" "cheapest" s_cheapest f fd) (D_better : Dx P w K mg base ca "better" 1 ["table", "cost", "gain"] [true, false, false] Lw.m_better) (z_enumerate : mg "enumerate" = none) (z_dict : mg "dict" = none) (z_sorted : mg "sorted" = none) : FnOk P w K mg base (L2.CX P w) 2 f fd ["offers", "goal"] (VSp K ca [false, false] Lw.m_cheapest_v2) := by
  refine vf_of (k := 1) F sc_cheapest rfl (by decide) fun cdv A outer s H E vs hr B => ?_
  have tk : Takes (ctOf P w K mg base ca N_cheapest "cheapest" (defScope s_cheapest) f cdv A outer s H E [false, false] vs B).X _ := takes_of rfl rfl rfl rfl
  exact (jb_cons (js_if (jt_cmpN cv_lt (jv_var 1 (pv 1)) (jv_d jd_int) (nomark _)) (jb_one (js_ret (je_d (jd_fz (je_lst ja_nil))))) jb_nil)
    (jb_cons (js_set 2 sc_cheapest.nd rfl (by first | exact Or.inl rfl | exact Or.inr rfl) (by intro h; cases h) (je_dlit jd_int (jd_tup (ja_cons jd_int (ja_cons (jd_fz (je_lst ja_nil)) ja_nil)))))
    (jb_cons (js_for PassesOwn.leaving rfl (ji_lentE (by rfl) z_enumerate (psl_var (pv 0))) (jg_tup rfl (jgs_cons (jg_name 3 (by intro h; cases h) (pg_name (i := 3) sc_cheapest.nd rfl (by first | exact Or.inl rfl | exact Or.inr rfl))) (jgs_cons (jg_tup rfl (jgs_cons (jg_name 4 (by intro h; cases h) (pg_name (i := 4) sc_cheapest.nd rfl (by first | exact Or.inl rfl | exact Or.inr rfl))) (jgs_cons (jg_name 5 (by intro h; cases h) (pg_name (i := 5) sc_cheapest.nd rfl (by first | exact Or.inl rfl | exact Or.inr rfl))) jgs_nil))) jgs_nil))) (jb_cons (js_set 6 sc_cheapest.nd rfl (by first | exact Or.inl rfl | exact Or.inr rfl) (by intro h; cases h) (je_dcopy (by rfl) z_dict (jx_var 2 (pv 2))))
    (jb_cons (js_for PassesOwn.leaving rfl (ji_items (je_move 2 (pv 2))) (jg_tup rfl (jgs_cons (jg_name 7 (by intro h; cases h) (pg_name (i := 7) sc_cheapest.nd rfl (by first | exact Or.inl rfl | exact Or.inr rfl))) (jgs_cons (jg_tup rfl (jgs_cons (jg_name 8 (by intro h; cases h) (pg_name (i := 8) sc_cheapest.nd rfl (by first | exact Or.inl rfl | exact Or.inr rfl))) (jgs_cons (jg_name 9 (by intro h; cases h) (pg_name (i := 9) sc_cheapest.nd rfl (by first | exact Or.inl rfl | exact Or.inr rfl))) jgs_nil))) jgs_nil))) (jb_cons (js_if (jt_cmpN cv_ge (jv_var 8 (pv 8)) (jv_var 1 (pv 1)) (nomark _)) (jb_one js_continue) jb_nil)
    (jb_one (js_if (jt_val (jd_fz (je_dx D_better hr (by decide) tk (by rfl) (jar_r 6 (pv 6) (jar_d (jd_fz (je_add (jd_var 7 (pv 7)) (jd_var 4 (pv 4)))) (jar_d (jd_fz (je_add (jd_var 8 (pv 8)) (jd_var 5 (pv 5)))) jar_nil)))))) (jb_one (js_dput 6 hr (pv 6) (jd_fz (je_add (jd_var 7 (pv 7)) (jd_var 4 (pv 4)))) (jd_tup (ja_cons (jd_fz (je_add (jd_var 8 (pv 8)) (jd_var 5 (pv 5)))) (ja_cons (jd_fz (je_add (jd_var 9 (pv 9)) (jd_fz (je_lst (ja_cons (jd_var 3 (pv 3)) ja_nil))))) ja_nil))))) jb_nil))))
    (jb_one (js_set 2 sc_cheapest.nd rfl (by first | exact Or.inl rfl | exact Or.inr rfl) (by intro h; cases h) (je_move 6 (pv 6)))))))
    (jb_cons (js_for PassesOwn.leaving rfl (ji_any (jd_fz (je_sortedX rfl hr (by rfl) z_sorted (jx_var 2 (pv 2))))) (jg_name 7 (by intro h; cases h) (pg_name (i := 7) sc_cheapest.nd rfl (by first | exact Or.inl rfl | exact Or.inr rfl))) (jb_one (js_if (jt_cmpN cv_ge (jv_d (jd_ix (jd_dget 2 hr (pv 2) (jd_var 7 (pv 7))) jd_int)) (jv_var 1 (pv 1)) (nomark _)) (jb_one (js_ret (je_d (jd_ix (jd_dget 2 hr (pv 2) (jd_var 7 (pv 7))) jd_int)))) jb_nil)))
    (jb_one (js_ret (je_d jd_non)))))))
theorem ok_law_src {f : Addr} {fd : FuncData} (F : Fun K "_law_src" "_law_src" s_law_src f fd) (z_list : mg "list" = none) : FnOk P w K mg base (L2.CX P w) 1 f fd ["_law_script"] (VSp K ca [true] Lw.m_law_src) := by
  refine vf_of (k := 0) F sc_law_src rfl (by decide) fun cdv A outer s H E vs hr B => ?_
  have tk : Takes (ctOf P w K mg base ca N_law_src "_law_src" (defScope s_law_src) f cdv A outer s H E [true] vs B).X _ := takes_of rfl rfl rfl rfl
  exact (jb_one (js_ret (je_lst (ja_cons (jd_fz (je_list (by rfl) z_list (jv_d (jd_fz (je_slV (jv_var 0 (pv 0)) jo_no (jo_so jd_int)))))) (ja_cons jd_int (ja_cons jd_int (ja_cons jd_int (ja_cons jd_int ja_nil))))))))
theorem ok_law_next {f : Addr} {fd : FuncData} (F : Fun K "_law_next" "_law_next" s_law_next f fd) (z_len : mg "len" = none) : FnOk P w K mg base (L2.CX P w) 1 f fd ["_law_src_here", "_law_base"] (VSp K ca [true, false] Lw.m_law_next) := by
  refine vf_of (k := 0) F sc_law_next rfl (by decide) fun cdv A outer s H E vs hr B => ?_
  have tk : Takes (ctOf P w K mg base ca N_law_next "_law_next" (defScope s_law_next) f cdv A outer s H E [true, false] vs B).X _ := takes_of rfl rfl rfl rfl
  exact (jb_cons (js_setIx 0 (pv 0) jd_int (jd_fz (je_add (jd_ixP 0 (pv 0) jd_int) jd_int)))
    (jb_cons (js_if (jt_cmpN cv_le (jv_d (jd_ixP 0 (pv 0) jd_int)) (jv_d jd_int) (nomark _)) (jb_cons (js_set 2 sc_law_next.nd rfl (by first | exact Or.inl rfl | exact Or.inr rfl) (by intro h; cases h) (je_d jd_int))
    (jb_cons (js_if (jt_cmpN cv_lt (jv_d (jd_ixP 0 (pv 0) jd_int)) (jv_d (jd_len (by rfl) z_len (jv_d (jd_ixP 0 (pv 0) jd_int)))) (nomark _)) (jb_cons (js_set 2 sc_law_next.nd rfl (by first | exact Or.inl rfl | exact Or.inr rfl) (by intro h; cases h) (je_d (jd_ix (jd_ixP 0 (pv 0) jd_int) (jd_ixP 0 (pv 0) jd_int))))
    (jb_one (js_setIx 0 (pv 0) jd_int (jd_fz (je_add (jd_ixP 0 (pv 0) jd_int) jd_int))))) jb_nil)
    (jb_cons (js_setIx 0 (pv 0) jd_int (jd_mod (jd_fz (je_add (jd_fz (je_add (jd_fz (je_mul (jd_ixP 0 (pv 0) jd_int) jd_int)) (jd_mod (jd_var 2 (pv 2)) jd_int))) (jd_ixP 0 (pv 0) jd_int))) jd_int))
    (jb_one (js_if (jt_cmpN cv_ge (jv_var 2 (pv 2)) (jv_d (jd_pow jd_int jd_int)) (nomark _)) (jb_one (js_setIx 0 (pv 0) jd_int (jd_var 2 (pv 2)))) jb_nil))))) jb_nil)
    (jb_cons (js_if (jt_cmpN cv_gt (jv_d (jd_ixP 0 (pv 0) jd_int)) (jv_d jd_int) (nomark _)) (jb_cons (js_set 3 sc_law_next.nd rfl (by first | exact Or.inl rfl | exact Or.inr rfl) (by intro h; cases h) (je_d (jd_mod (jd_ixP 0 (pv 0) jd_int) (jd_var 1 (pv 1)))))
    (jb_cons (js_setIx 0 (pv 0) jd_int (jd_div (jd_ixP 0 (pv 0) jd_int) (jd_var 1 (pv 1))))
    (jb_one (js_ret (je_move 3 (pv 3)))))) jb_nil)
    (jb_one (js_ret (je_d (jd_mod (jd_div (jd_mod (jd_fz (je_mul (jd_ixP 0 (pv 0) jd_int) jd_int)) jd_int) jd_int) (jd_var 1 (pv 1)))))))))
theorem ok_law_whole {f : Addr} {fd : FuncData} (F : Fun K "_law_whole" "_law_whole" s_law_whole f fd) (z_isinstance : mg "isinstance" = none) (z_int : mg "int" = none) (z_bool : mg "bool" = none) : FnOk P w K mg base (L2.CX P w) 1 f fd ["_law_found"] (VSp K ca [false] Lw.m_law_whole) := by
  refine vf_of (k := 0) F sc_law_whole rfl (by decide) fun cdv A outer s H E vs hr B => ?_
  have tk : Takes (ctOf P w K mg base ca N_law_whole "_law_whole" (defScope s_law_whole) f cdv A outer s H E [false] vs B).X _ := takes_of rfl rfl rfl rfl
  exact (jb_one (js_ret (je_d (jd_and (jd_isi (T := "int") (by rfl) z_isinstance (by rfl) z_int (by decide +kernel) (jv_var 0 (pv 0))) (jd_one (jd_not (jd_isi (T := "bool") (by rfl) z_isinstance (by rfl) z_bool (by decide +kernel) (jv_var 0 (pv 0)))))))))
theorem ok_law_same {f : Addr} {fd : FuncData} (F : Fun K "_law_same" "_law_same" s_law_same f fd) (D_law_whole : Dx P w K mg base ca "_law_whole" 1 ["_law_found"] [false] Lw.m_law_whole) (z_isinstance : mg "isinstance" = none) (z_bool : mg "bool" = none) (z_int : mg "int" = none) (z_str : mg "str" = none) (z_list : mg "list" = none) (z_tuple : mg "tuple" = none) (z_len : mg "len" = none) (z_zip : mg "zip" = none) (hg : mg "_law_same" = some (.ref f)) (hk : PySem.W.keepIn K (.ref f) = true) (hb : Binds K fd ["_law_found", "_law_due"] []) : ∀ k_ : Nat, Dx P w K mg base ca "_law_same" (2 + k_) ["_law_found", "_law_due"] [false, false] (Lw.m_law_same k_)
  | 0 => dx_stuck hg hk hb
  | k_ + 1 => by
    have D_law_same := ok_law_same F D_law_whole z_isinstance z_bool z_int z_str z_list z_tuple z_len z_zip hg hk hb k_
    refine dx_of (vf_of (k := 2 + k_) F sc_law_same rfl (by decide) fun cdv A outer s H E vs hr B => ?_) hg hk hb
    have tk : Takes (ctOf P w K mg base ca N_law_same "_law_same" (defScope s_law_same) f cdv A outer s H E [false, false] vs B).X _ := takes_of rfl rfl rfl rfl
    exact (jb_cons (js_if (jt_cmpN cv_is (jv_var 1 (pv 1)) (jv_d jd_non) (nomark _)) (jb_one (js_ret (je_d (jd_cmpN cv_is (jv_var 0 (pv 0)) (jv_d jd_non) (nomark _))))) jb_nil)
    (jb_cons (js_if (jt_val (jd_isi (T := "bool") (by rfl) z_isinstance (by rfl) z_bool (by decide +kernel) (jv_var 1 (pv 1)))) (jb_one (js_ret (je_d (jd_and (jd_isi (T := "bool") (by rfl) z_isinstance (by rfl) z_bool (by decide +kernel) (jv_var 0 (pv 0))) (jd_one (jd_cmpN (cv_eq hr) (jv_var 0 (pv 0)) (jv_var 1 (pv 1)) (nomark _))))))) jb_nil)
    (jb_cons (js_if (jt_val (jd_isi (T := "int") (by rfl) z_isinstance (by rfl) z_int (by decide +kernel) (jv_var 1 (pv 1)))) (jb_one (js_ret (je_d (jd_and (jd_fz (je_dx D_law_whole hr (by omega) tk (by rfl) (jar_d (jd_var 0 (pv 0)) jar_nil))) (jd_one (jd_cmpN (cv_eq hr) (jv_var 0 (pv 0)) (jv_var 1 (pv 1)) (nomark _))))))) jb_nil)
    (jb_cons (js_if (jt_val (jd_isi (T := "str") (by rfl) z_isinstance (by rfl) z_str (by decide +kernel) (jv_var 1 (pv 1)))) (jb_one (js_ret (je_d (jd_and (jd_isi (T := "str") (by rfl) z_isinstance (by rfl) z_str (by decide +kernel) (jv_var 0 (pv 0))) (jd_one (jd_cmpN (cv_eq hr) (jv_var 0 (pv 0)) (jv_var 1 (pv 1)) (nomark _))))))) jb_nil)
    (jb_cons (js_if (jt_w (jw_or (jt_cmpN (cv_ne hr) (jv_d (jd_isi (T := "list") (by rfl) z_isinstance (by rfl) z_list (by decide +kernel) (jv_var 1 (pv 1)))) (jv_d (jd_isi (T := "list") (by rfl) z_isinstance (by rfl) z_list (by decide +kernel) (jv_var 0 (pv 0)))) (nomark _)) (jw_or1 (jt_cmpN (cv_ne hr) (jv_d (jd_isi (T := "tuple") (by rfl) z_isinstance (by rfl) z_tuple (by decide +kernel) (jv_var 1 (pv 1)))) (jv_d (jd_isi (T := "tuple") (by rfl) z_isinstance (by rfl) z_tuple (by decide +kernel) (jv_var 0 (pv 0)))) (nomark _))))) (jb_one (js_ret (je_d jd_bl))) jb_nil)
    (jb_cons (js_if (jt_cmpN (cv_ne hr) (jv_d (jd_len (by rfl) z_len (jv_var 0 (pv 0)))) (jv_d (jd_len (by rfl) z_len (jv_var 1 (pv 1)))) (nomark _)) (jb_one (js_ret (je_d jd_bl))) jb_nil)
    (jb_cons (js_for PassesOwn.leaving rfl (ji_zip (by rfl) z_zip (ja_cons (jd_var 0 (pv 0)) (ja_cons (jd_var 1 (pv 1)) ja_nil))) (jg_tup rfl (jgs_cons (jg_name 2 (by intro h; cases h) (pg_name (i := 2) sc_law_same.nd rfl (by first | exact Or.inl rfl | exact Or.inr rfl))) (jgs_cons (jg_name 3 (by intro h; cases h) (pg_name (i := 3) sc_law_same.nd rfl (by first | exact Or.inl rfl | exact Or.inr rfl))) jgs_nil))) (jb_one (js_if (jt_not (jt_val (jd_fz (je_dx D_law_same hr (by omega) tk (by rfl) (jar_d (jd_var 2 (pv 2)) (jar_d (jd_var 3 (pv 3)) jar_nil)))))) (jb_one (js_ret (je_d jd_bl))) jb_nil)))
    (jb_one (js_ret (je_d jd_bl))))))))))
theorem ok_law_offers_fit {f : Addr} {fd : FuncData} (F : Fun K "_law_offers_fit" "_law_offers_fit" s_law_offers_fit f fd) (D_law_whole : Dx P w K mg base ca "_law_whole" 1 ["_law_found"] [false] Lw.m_law_whole) (z_isinstance : mg "isinstance" = none) (z_list : mg "list" = none) (z_len : mg "len" = none) : FnOk P w K mg base (L2.CX P w) 2 f fd ["_law_found", "_law_offers", "_law_goal"] (VSp K ca [false, true, false] Lw.m_law_offers_fit) := by
  refine vf_of (k := 1) F sc_law_offers_fit rfl (by decide) fun cdv A outer s H E vs hr B => ?_
  have tk : Takes (ctOf P w K mg base ca N_law_offers_fit "_law_offers_fit" (defScope s_law_offers_fit) f cdv A outer s H E [false, true, false] vs B).X _ := takes_of rfl rfl rfl rfl
  exact (jb_cons (js_if (jt_not (jt_val (jd_isi (T := "list") (by rfl) z_isinstance (by rfl) z_list (by decide +kernel) (jv_var 0 (pv 0))))) (jb_one (js_ret (je_d jd_bl))) jb_nil)
    (jb_cons (js_set 3 sc_law_offers_fit.nd rfl (by first | exact Or.inl rfl | exact Or.inr rfl) (by intro h; cases h) (je_d (jd_neg jd_int)))
    (jb_cons (js_set 4 sc_law_offers_fit.nd rfl (by first | exact Or.inl rfl | exact Or.inr rfl) (by intro h; cases h) (je_d jd_int))
    (jb_cons (js_for PassesOwn.leaving rfl (ji_any (jd_var 0 (pv 0))) (jg_name 5 (by intro h; cases h) (pg_name (i := 5) sc_law_offers_fit.nd rfl (by first | exact Or.inl rfl | exact Or.inr rfl))) (jb_cons (js_if (jt_w (jw_or (jt_not (jt_val (jd_fz (je_dx D_law_whole hr (by decide) tk (by rfl) (jar_d (jd_var 5 (pv 5)) jar_nil))))) (jw_or (jt_cmpN cv_le (jv_var 5 (pv 5)) (jv_var 3 (pv 3)) (nomark _)) (jw_or1 (jt_cmpN cv_ge (jv_var 5 (pv 5)) (jv_d (jd_len (by rfl) z_len (jv_var 1 (pv 1)))) (nomark _)))))) (jb_one (js_ret (je_d jd_bl))) jb_nil)
    (jb_cons (js_set 3 sc_law_offers_fit.nd rfl (by first | exact Or.inl rfl | exact Or.inr rfl) (by intro h; cases h) (je_d (jd_var 5 (pv 5))))
    (jb_one (js_set 4 sc_law_offers_fit.nd rfl (by first | exact Or.inl rfl | exact Or.inr rfl) (by intro h; cases h) (je_add (jd_var 4 (pv 4)) (jd_ix (jd_ixP 1 (pv 1) (jd_var 5 (pv 5))) jd_int)))))))
    (jb_one (js_ret (je_d (jd_cmpN cv_ge (jv_var 4 (pv 4)) (jv_var 2 (pv 2)) (nomark _)))))))))
theorem ok_law_paid {f : Addr} {fd : FuncData} (F : Fun K "_law_paid" "_law_paid" s_law_paid f fd)  : FnOk P w K mg base (L2.CX P w) 1 f fd ["_law_found", "_law_offers"] (VSp K ca [false, true] Lw.m_law_paid) := by
  refine vf_of (k := 0) F sc_law_paid rfl (by decide) fun cdv A outer s H E vs hr B => ?_
  have tk : Takes (ctOf P w K mg base ca N_law_paid "_law_paid" (defScope s_law_paid) f cdv A outer s H E [false, true] vs B).X _ := takes_of rfl rfl rfl rfl
  exact (jb_cons (js_set 2 sc_law_paid.nd rfl (by first | exact Or.inl rfl | exact Or.inr rfl) (by intro h; cases h) (je_d jd_int))
    (jb_cons (js_for PassesOwn.leaving rfl (ji_any (jd_var 0 (pv 0))) (jg_name 3 (by intro h; cases h) (pg_name (i := 3) sc_law_paid.nd rfl (by first | exact Or.inl rfl | exact Or.inr rfl))) (jb_one (js_set 2 sc_law_paid.nd rfl (by first | exact Or.inl rfl | exact Or.inr rfl) (by intro h; cases h) (je_add (jd_var 2 (pv 2)) (jd_ix (jd_ixP 1 (pv 1) (jd_var 3 (pv 3))) jd_int)))))
    (jb_one (js_ret (je_move 2 (pv 2))))))
theorem ok_law_all_gain {f : Addr} {fd : FuncData} (F : Fun K "_law_all_gain" "_law_all_gain" s_law_all_gain f fd)  : FnOk P w K mg base (L2.CX P w) 1 f fd ["_law_offers"] (VSp K ca [true] Lw.m_law_all_gain) := by
  refine vf_of (k := 0) F sc_law_all_gain rfl (by decide) fun cdv A outer s H E vs hr B => ?_
  have tk : Takes (ctOf P w K mg base ca N_law_all_gain "_law_all_gain" (defScope s_law_all_gain) f cdv A outer s H E [true] vs B).X _ := takes_of rfl rfl rfl rfl
  exact (jb_cons (js_set 1 sc_law_all_gain.nd rfl (by first | exact Or.inl rfl | exact Or.inr rfl) (by intro h; cases h) (je_d jd_int))
    (jb_cons (js_for PassesOwn.leaving rfl (ji_any (jd_var 0 (pv 0))) (jg_tup rfl (jgs_cons (jg_name 2 (by intro h; cases h) (pg_name (i := 2) sc_law_all_gain.nd rfl (by first | exact Or.inl rfl | exact Or.inr rfl))) (jgs_cons (jg_name 3 (by intro h; cases h) (pg_name (i := 3) sc_law_all_gain.nd rfl (by first | exact Or.inl rfl | exact Or.inr rfl))) jgs_nil))) (jb_one (js_set 1 sc_law_all_gain.nd rfl (by first | exact Or.inl rfl | exact Or.inr rfl) (by intro h; cases h) (je_add (jd_var 1 (pv 1)) (jd_var 3 (pv 3))))))
    (jb_one (js_ret (je_move 1 (pv 1))))))
theorem ok_law_least {f : Addr} {fd : FuncData} (F : Fun K "_law_least" "_law_least" s_law_least f fd) (z_reversed : mg "reversed" = none) (z_range : mg "range" = none) (z_max : mg "max" = none) : FnOk P w K mg base (L2.CX P w) 1 f fd ["_law_offers", "_law_goal"] (VSp K ca [true, false] Lw.m_law_least) := by
  refine vf_of (k := 0) F sc_law_least rfl (by decide) fun cdv A outer s H E vs hr B => ?_
  have tk : Takes (ctOf P w K mg base ca N_law_least "_law_least" (defScope s_law_least) f cdv A outer s H E [true, false] vs B).X _ := takes_of rfl rfl rfl rfl
  exact (jb_cons (js_set 2 sc_law_least.nd rfl (by first | exact Or.inl rfl | exact Or.inr rfl) (by intro h; cases h) (je_add (jd_fz (je_lst (ja_cons jd_int ja_nil))) (jd_fz (je_mul (jd_fz (je_lst (ja_cons jd_non ja_nil))) (jd_var 1 (pv 1))))))
    (jb_cons (js_for PassesOwn.leaving rfl (ji_any (jd_var 0 (pv 0))) (jg_tup rfl (jgs_cons (jg_name 3 (by intro h; cases h) (pg_name (i := 3) sc_law_least.nd rfl (by first | exact Or.inl rfl | exact Or.inr rfl))) (jgs_cons (jg_name 4 (by intro h; cases h) (pg_name (i := 4) sc_law_least.nd rfl (by first | exact Or.inl rfl | exact Or.inr rfl))) jgs_nil))) (jb_one (js_for PassesOwn.leaving rfl (ji_revrange2 (by rfl) z_reversed (by rfl) z_range jd_int (jd_fz (je_add (jd_var 1 (pv 1)) jd_int))) (jg_name 5 (by intro h; cases h) (pg_name (i := 5) sc_law_least.nd rfl (by first | exact Or.inl rfl | exact Or.inr rfl))) (jb_cons (js_set 6 sc_law_least.nd rfl (by first | exact Or.inl rfl | exact Or.inr rfl) (by intro h; cases h) (je_d (jd_ixP 2 (pv 2) (jd_max rfl (by rfl) z_max (ja_cons jd_int (ja_cons (jd_sub (jd_var 5 (pv 5)) (jd_var 4 (pv 4))) ja_nil))))))
    (jb_one (js_if (jt_w (jw_and (jt_cmpN cv_isN (jv_var 6 (pv 6)) (jv_d jd_non) (nomark _)) (jw_and1 (jt_w (jw_or (jt_cmpN cv_is (jv_d (jd_ixP 2 (pv 2) (jd_var 5 (pv 5)))) (jv_d jd_non) (nomark _)) (jw_or1 (jt_cmpN cv_lt (jv_d (jd_fz (je_add (jd_var 6 (pv 6)) (jd_var 3 (pv 3))))) (jv_d (jd_ixP 2 (pv 2) (jd_var 5 (pv 5)))) (nomark _)))))))) (jb_one (js_setIx 2 (pv 2) (jd_var 5 (pv 5)) (jd_fz (je_add (jd_var 6 (pv 6)) (jd_var 3 (pv 3)))))) jb_nil))))))
    (jb_one (js_ret (je_d (jd_ixP 2 (pv 2) (jd_var 1 (pv 1))))))))
theorem ok_law_heavy_least {f : Addr} {fd : FuncData} (F : Fun K "_law_heavy_least" "_law_heavy_least" s_law_heavy_least f fd) (z_dict : mg "dict" = none) (z_min : mg "min" = none) : FnOk P w K mg base (L2.CX P w) 1 f fd ["_law_offers", "_law_goal"] (VSp K ca [true, false] Lw.m_law_heavy_least) := by
  refine vf_of (k := 0) F sc_law_heavy_least rfl (by decide) fun cdv A outer s H E vs hr B => ?_
  have tk : Takes (ctOf P w K mg base ca N_law_heavy_least "_law_heavy_least" (defScope s_law_heavy_least) f cdv A outer s H E [true, false] vs B).X _ := takes_of rfl rfl rfl rfl
  exact (jb_cons (js_set 2 sc_law_heavy_least.nd rfl (by first | exact Or.inl rfl | exact Or.inr rfl) (by intro h; cases h) (je_dlitT hr (jd_tup (ja_cons jd_int (ja_cons jd_int ja_nil))) jd_int))
    (jb_cons (js_for PassesOwn.leaving rfl (ji_any (jd_var 0 (pv 0))) (jg_tup rfl (jgs_cons (jg_name 3 (by intro h; cases h) (pg_name (i := 3) sc_law_heavy_least.nd rfl (by first | exact Or.inl rfl | exact Or.inr rfl))) (jgs_cons (jg_name 4 (by intro h; cases h) (pg_name (i := 4) sc_law_heavy_least.nd rfl (by first | exact Or.inl rfl | exact Or.inr rfl))) jgs_nil))) (jb_cons (js_set 5 sc_law_heavy_least.nd rfl (by first | exact Or.inl rfl | exact Or.inr rfl) (by intro h; cases h) (je_dcopyT hr (by rfl) z_dict (jx_var 2 (pv 2))))
    (jb_cons (js_for PassesOwn.leaving rfl (ji_itemsT (je_move 2 (pv 2))) (jg_tup rfl (jgs_cons (jg_tup rfl (jgs_cons (jg_name 6 (by intro h; cases h) (pg_name (i := 6) sc_law_heavy_least.nd rfl (by first | exact Or.inl rfl | exact Or.inr rfl))) (jgs_cons (jg_name 7 (by intro h; cases h) (pg_name (i := 7) sc_law_heavy_least.nd rfl (by first | exact Or.inl rfl | exact Or.inr rfl))) jgs_nil))) (jgs_cons (jg_name 8 (by intro h; cases h) (pg_name (i := 8) sc_law_heavy_least.nd rfl (by first | exact Or.inl rfl | exact Or.inr rfl))) jgs_nil))) (jb_cons (js_set 9 sc_law_heavy_least.nd rfl (by first | exact Or.inl rfl | exact Or.inr rfl) (by intro h; cases h) (je_d (jd_tup (ja_cons (jd_fz (je_add (jd_var 6 (pv 6)) jd_int)) (ja_cons (jd_sub (jd_fz (je_add (jd_var 7 (pv 7)) jd_int)) (jd_var 4 (pv 4))) ja_nil)))))
    (jb_one (js_if (jt_w (jw_or (jt_dnin 5 hr (pv 5) (jd_var 9 (pv 9))) (jw_or1 (jt_cmpN cv_lt (jv_d (jd_fz (je_add (jd_var 8 (pv 8)) (jd_var 3 (pv 3))))) (jv_d (jd_dget 5 hr (pv 5) (jd_var 9 (pv 9)))) (nomark _))))) (jb_one (js_dput 5 hr (pv 5) (jd_var 9 (pv 9)) (jd_fz (je_add (jd_var 8 (pv 8)) (jd_var 3 (pv 3)))))) jb_nil))))
    (jb_one (js_set 2 sc_law_heavy_least.nd rfl (by first | exact Or.inl rfl | exact Or.inr rfl) (by intro h; cases h) (je_move 5 (pv 5)))))))
    (jb_one (js_ret (je_d (jd_minL rfl (by rfl) z_min (jv_d (jd_fz (je_lc (own := [("_law_count", 6), ("_law_short", 7), ("_law_paid_here", 8)]) rfl sc_law_heavy_least.nd (ji_itemsT (je_move 2 (pv 2))) (blkOk_by (own := [("_law_count", 6), ("_law_short", 7), ("_law_paid_here", 8)]) (N := N_law_heavy_least) (sc := defScope s_law_heavy_least) (by decide +kernel)) (fun _ => (jg_tup rfl (jgs_cons (jg_tup rfl (jgs_cons (jg_name 6 (by intro h; cases h) (pg_name (i := 6) sc_law_heavy_least.nd rfl (by first | exact Or.inl rfl | exact Or.inr rfl))) (jgs_cons (jg_name 7 (by intro h; cases h) (pg_name (i := 7) sc_law_heavy_least.nd rfl (by first | exact Or.inl rfl | exact Or.inr rfl))) jgs_nil))) (jgs_cons (jg_name 8 (by intro h; cases h) (pg_name (i := 8) sc_law_heavy_least.nd rfl (by first | exact Or.inl rfl | exact Or.inr rfl))) jgs_nil)))) (by decide) (by intro k hk; simp only [List.map_cons, List.map_nil, List.mem_cons, List.not_mem_nil, or_false] at hk; rcases hk with rfl | rfl | rfl <;> (intro h; cases h)) (fun _ => (jts_one (jt_cmpN cv_ge (jv_d (jd_sub (jd_fz (je_mul (jd_var 6 (pv 6)) jd_int)) (jd_var 7 (pv 7)))) (jv_var 1 (pv 1)) (nomark _)))) (fun _ => (jd_var 8 (pv 8))))))))))))
theorem ok_law {f : Addr} {fd : FuncData} (F : Fun K "law" "law" s_law f fd) (D_law_src : Dx P w K mg base ca "_law_src" 1 ["_law_script"] [true] Lw.m_law_src) (D_law_next : Dx P w K mg base ca "_law_next" 1 ["_law_src_here", "_law_base"] [true, false] Lw.m_law_next) (D_law_all_gain : Dx P w K mg base ca "_law_all_gain" 1 ["_law_offers"] [true] Lw.m_law_all_gain) (D_cheapest : Dx P w K mg base ca "cheapest" 2 ["offers", "goal"] [false, false] Lw.m_cheapest_v2) (D_law_same : Dx P w K mg base ca "_law_same" 14 ["_law_found", "_law_due"] [false, false] (Lw.m_law_same 12)) (D_law_offers_fit : Dx P w K mg base ca "_law_offers_fit" 2 ["_law_found", "_law_offers", "_law_goal"] [false, true, false] Lw.m_law_offers_fit) (D_law_heavy_least : Dx P w K mg base ca "_law_heavy_least" 1 ["_law_offers", "_law_goal"] [true, false] Lw.m_law_heavy_least) (D_law_paid : Dx P w K mg base ca "_law_paid" 1 ["_law_found", "_law_offers"] [false, true] Lw.m_law_paid) (D_law_least : Dx P w K mg base ca "_law_least" 1 ["_law_offers", "_law_goal"] [true, false] Lw.m_law_least) (z_range : mg "range" = none) (z_list : mg "list" = none) (z_max : mg "max" = none) : FnOk P w K mg base (L2.CX P w) 15 f fd ["_law_script"] (VSp K ca [true] Lw.m_main_k05) := by
  refine vf_of (k := 14) F sc_law rfl (by decide) fun cdv A outer s H E vs hr B => ?_
  have tk : Takes (ctOf P w K mg base ca N_law "law" (defScope s_law) f cdv A outer s H E [true] vs B).X _ := takes_of rfl rfl rfl rfl
  exact (jb_cons (js_set 1 sc_law.nd rfl (by first | exact Or.inl rfl | exact Or.inr rfl) (by intro h; cases h) (je_dx D_law_src hr (by decide) tk (by rfl) (jar_r 0 (pv 0) jar_nil)))
    (jb_cons (js_set 2 sc_law.nd rfl (by first | exact Or.inl rfl | exact Or.inr rfl) (by intro h; cases h) (je_d (jd_ix (jd_fz (je_lst (ja_cons jd_int (ja_cons jd_int (ja_cons jd_int ja_nil))))) (jd_fz (je_dx D_law_next hr (by decide) tk (by rfl) (jar_r 1 (pv 1) (jar_d jd_int jar_nil)))))))
    (jb_cons (js_set 3 sc_law.nd rfl (by first | exact Or.inl rfl | exact Or.inr rfl) (by intro h; cases h) (je_dx D_law_next hr (by decide) tk (by rfl) (jar_r 1 (pv 1) (jar_d jd_int jar_nil))))
    (jb_cons (js_set 4 sc_law.nd rfl (by first | exact Or.inl rfl | exact Or.inr rfl) (by intro h; cases h) (je_add jd_int (jd_fz (je_dx D_law_next hr (by decide) tk (by rfl) (jar_r 1 (pv 1) (jar_d jd_int jar_nil))))))
    (jb_cons (js_set 5 sc_law.nd rfl (by first | exact Or.inl rfl | exact Or.inr rfl) (by intro h; cases h) (je_lst ja_nil))
    (jb_cons (js_for PassesOwn.leaving rfl (ji_range1 (by rfl) z_range (ja_cons (jd_fz (je_add jd_int (jd_fz (je_dx D_law_next hr (by decide) tk (by rfl) (jar_r 1 (pv 1) (jar_d jd_int jar_nil)))))) ja_nil)) (jg_name 6 (by intro h; cases h) (pg_name (i := 6) sc_law.nd rfl (by first | exact Or.inl rfl | exact Or.inr rfl))) (jb_cons (js_set 7 sc_law.nd rfl (by first | exact Or.inl rfl | exact Or.inr rfl) (by intro h; cases h) (je_mul (jd_var 2 (pv 2)) (jd_fz (je_add jd_int (jd_fz (je_dx D_law_next hr (by decide) tk (by rfl) (jar_r 1 (pv 1) (jar_d (jd_ix (jd_fz (je_lst (ja_cons jd_int (ja_cons jd_int ja_nil)))) (jd_div (jd_var 2 (pv 2)) jd_int)) jar_nil))))))))
    (jb_cons (js_set 8 sc_law.nd rfl (by first | exact Or.inl rfl | exact Or.inr rfl) (by intro h; cases h) (je_add jd_int (jd_fz (je_dx D_law_next hr (by decide) tk (by rfl) (jar_r 1 (pv 1) (jar_d jd_int jar_nil))))))
    (jb_cons (js_if (jt_cmpN (cv_eq hr) (jv_var 3 (pv 3)) (jv_d jd_int) (nomark _)) (jb_one (js_set 8 sc_law.nd rfl (by first | exact Or.inl rfl | exact Or.inr rfl) (by intro h; cases h) (je_d (jd_var 4 (pv 4))))) jb_nil)
    (jb_cons (js_if (jt_cmpN (cv_eq hr) (jv_var 3 (pv 3)) (jv_d jd_int) (nomark _)) (jb_one (js_set 8 sc_law.nd rfl (by first | exact Or.inl rfl | exact Or.inr rfl) (by intro h; cases h) (je_d (jd_sub jd_int (jd_fz (je_dx D_law_next hr (by decide) tk (by rfl) (jar_r 1 (pv 1) (jar_d jd_int jar_nil)))))))) jb_nil)
    (jb_one (js_expr (je_append 5 (pv 5) (jd_tup (ja_cons (jd_var 7 (pv 7)) (ja_cons (jd_var 8 (pv 8)) ja_nil)))))))))))
    (jb_cons (js_set 9 sc_law.nd rfl (by first | exact Or.inl rfl | exact Or.inr rfl) (by intro h; cases h) (je_list (by rfl) z_list (jv_var 5 (pv 5))))
    (jb_cons (js_set 10 sc_law.nd rfl (by first | exact Or.inl rfl | exact Or.inr rfl) (by intro h; cases h) (je_add jd_int (jd_fz (je_dx D_law_next hr (by decide) tk (by rfl) (jar_r 1 (pv 1) (jar_d (jd_fz (je_dx D_law_all_gain hr (by decide) tk (by rfl) (jar_r 9 (pv 9) jar_nil))) jar_nil))))))
    (jb_cons (js_if (jt_cmpN (cv_eq hr) (jv_d (jd_fz (je_dx D_law_next hr (by decide) tk (by rfl) (jar_r 1 (pv 1) (jar_d jd_int jar_nil))))) (jv_d jd_int) (nomark _)) (jb_one (js_set 10 sc_law.nd rfl (by first | exact Or.inl rfl | exact Or.inr rfl) (by intro h; cases h) (je_d (jd_max rfl (by rfl) z_max (ja_cons jd_int (ja_cons (jd_sub (jd_div (jd_fz (je_dx D_law_all_gain hr (by decide) tk (by rfl) (jar_r 9 (pv 9) jar_nil))) jd_int) (jd_fz (je_dx D_law_next hr (by decide) tk (by rfl) (jar_r 1 (pv 1) (jar_d jd_int jar_nil))))) ja_nil)))))) jb_nil)
    (jb_cons (js_set 11 sc_law.nd rfl (by first | exact Or.inl rfl | exact Or.inr rfl) (by intro h; cases h) (je_fresh D_cheapest hr (by decide) tk (by rfl) (jps_cons (jp_var 5 (pv 5)) (jps_cons (jp_var 10 (pv 10)) jps_nil))))
    (jb_cons (js_if (jt_w (jw_or (jt_not (jt_val (jd_fz (je_look D_law_same hr (by decide) tk (by rfl) (jps_cons (jp_var 5 (pv 5)) (jps_cons (jp_var 9 (pv 9)) jps_nil)))))) (jw_or1 (jt_not (jt_val (jd_fz (je_dx D_law_offers_fit hr (by decide) tk (by rfl) (jar_d (jd_var 11 (pv 11)) (jar_r 9 (pv 9) (jar_d (jd_var 10 (pv 10)) jar_nil)))))))))) (jb_one (js_ret (je_d jd_bl))) jb_nil)
    (jb_cons (js_if (jt_cmpN (cv_eq hr) (jv_var 3 (pv 3)) (jv_d jd_int) (nomark _)) (jb_one (js_ret (je_d (jd_cmpD (cv_eq hr) (jd_fz (je_dx D_law_paid hr (by decide) tk (by rfl) (jar_d (jd_var 11 (pv 11)) (jar_r 9 (pv 9) jar_nil)))) (jv_d (jd_fz (je_dx D_law_heavy_least hr (by decide) tk (by rfl) (jar_r 9 (pv 9) (jar_d (jd_var 10 (pv 10)) jar_nil))))) (nomark _))))) jb_nil)
    (jb_one (js_ret (je_d (jd_cmpD (cv_eq hr) (jd_fz (je_dx D_law_paid hr (by decide) tk (by rfl) (jar_d (jd_var 11 (pv 11)) (jar_r 9 (pv 9) jar_nil)))) (jv_d (jd_fz (je_dx D_law_least hr (by decide) tk (by rfl) (jar_r 9 (pv 9) (jar_d (jd_var 10 (pv 10)) jar_nil))))) (nomark _)))))))))))))))))
end
end Tx

namespace Tx
open PySem PySem.Spec PyProof.Rows L2 VS
theorem all_mk {l : PySem.W.OpenLaw} {w : World} {K : PySem.W.Frag} {h : Heap} {mg : Str → Option Value} {fa : Addr} (X : K.In h) (G : h.Ns mainGlobals mg) (hfa : mg "law" = some (.ref fa))
    {f0 : Addr} {od0 an0 : Option Addr} {sl0 : Array (Option Value)} {oc0 kV0 dc0 pm0 cd0 ct0 : Value}
    {f1 : Addr} {od1 an1 : Option Addr} {sl1 : Array (Option Value)} {oc1 kV1 dc1 pm1 cd1 ct1 : Value}
    {f2 : Addr} {od2 an2 : Option Addr} {sl2 : Array (Option Value)} {oc2 kV2 dc2 pm2 cd2 ct2 : Value}
    {f3 : Addr} {od3 an3 : Option Addr} {sl3 : Array (Option Value)} {oc3 kV3 dc3 pm3 cd3 ct3 : Value}
    {f4 : Addr} {od4 an4 : Option Addr} {sl4 : Array (Option Value)} {oc4 kV4 dc4 pm4 cd4 ct4 : Value}
    {f5 : Addr} {od5 an5 : Option Addr} {sl5 : Array (Option Value)} {oc5 kV5 dc5 pm5 cd5 ct5 : Value}
    {f6 : Addr} {od6 an6 : Option Addr} {sl6 : Array (Option Value)} {oc6 kV6 dc6 pm6 cd6 ct6 : Value}
    {f7 : Addr} {od7 an7 : Option Addr} {sl7 : Array (Option Value)} {oc7 kV7 dc7 pm7 cd7 ct7 : Value}
    {f8 : Addr} {od8 an8 : Option Addr} {sl8 : Array (Option Value)} {oc8 kV8 dc8 pm8 cd8 ct8 : Value}
    {f9 : Addr} {od9 an9 : Option Addr} {sl9 : Array (Option Value)} {oc9 kV9 dc9 pm9 cd9 ct9 : Value}
    {f10 : Addr} {od10 an10 : Option Addr} {sl10 : Array (Option Value)} {oc10 kV10 dc10 pm10 cd10 ct10 : Value}
    {f11 : Addr} {od11 an11 : Option Addr} {sl11 : Array (Option Value)} {oc11 kV11 dc11 pm11 cd11 ct11 : Value}
    (a0 : PySem.W.nsIn K mainGlobals "better" = some (some (.ref f0))) (l0 : K.lookup f0 = some ⟨oc0, od0, .func (PySem.W.fnOf "better" "better" (defArgs s_better) (defBody s_better) (defScope s_better) .none kV0 dc0 pm0 an0 cd0 ct0), sl0⟩) (c0 : PySem.W.codeIn K cd0 "better" = true) (k0 : PySem.W.keepIn K (.ref f0) = true)
    (a1 : PySem.W.nsIn K mainGlobals "cheapest" = some (some (.ref f1))) (l1 : K.lookup f1 = some ⟨oc1, od1, .func (PySem.W.fnOf "cheapest" "cheapest" (defArgs s_cheapest) (defBody s_cheapest) (defScope s_cheapest) .none kV1 dc1 pm1 an1 cd1 ct1), sl1⟩) (c1 : PySem.W.codeIn K cd1 "cheapest" = true) (k1 : PySem.W.keepIn K (.ref f1) = true)
    (a2 : PySem.W.nsIn K mainGlobals "_law_src" = some (some (.ref f2))) (l2 : K.lookup f2 = some ⟨oc2, od2, .func (PySem.W.fnOf "_law_src" "_law_src" (defArgs s_law_src) (defBody s_law_src) (defScope s_law_src) .none kV2 dc2 pm2 an2 cd2 ct2), sl2⟩) (c2 : PySem.W.codeIn K cd2 "_law_src" = true) (k2 : PySem.W.keepIn K (.ref f2) = true)
    (a3 : PySem.W.nsIn K mainGlobals "_law_next" = some (some (.ref f3))) (l3 : K.lookup f3 = some ⟨oc3, od3, .func (PySem.W.fnOf "_law_next" "_law_next" (defArgs s_law_next) (defBody s_law_next) (defScope s_law_next) .none kV3 dc3 pm3 an3 cd3 ct3), sl3⟩) (c3 : PySem.W.codeIn K cd3 "_law_next" = true) (k3 : PySem.W.keepIn K (.ref f3) = true)
    (a4 : PySem.W.nsIn K mainGlobals "_law_whole" = some (some (.ref f4))) (l4 : K.lookup f4 = some ⟨oc4, od4, .func (PySem.W.fnOf "_law_whole" "_law_whole" (defArgs s_law_whole) (defBody s_law_whole) (defScope s_law_whole) .none kV4 dc4 pm4 an4 cd4 ct4), sl4⟩) (c4 : PySem.W.codeIn K cd4 "_law_whole" = true) (k4 : PySem.W.keepIn K (.ref f4) = true)
    (a5 : PySem.W.nsIn K mainGlobals "_law_same" = some (some (.ref f5))) (l5 : K.lookup f5 = some ⟨oc5, od5, .func (PySem.W.fnOf "_law_same" "_law_same" (defArgs s_law_same) (defBody s_law_same) (defScope s_law_same) .none kV5 dc5 pm5 an5 cd5 ct5), sl5⟩) (c5 : PySem.W.codeIn K cd5 "_law_same" = true) (k5 : PySem.W.keepIn K (.ref f5) = true)
    (a6 : PySem.W.nsIn K mainGlobals "_law_offers_fit" = some (some (.ref f6))) (l6 : K.lookup f6 = some ⟨oc6, od6, .func (PySem.W.fnOf "_law_offers_fit" "_law_offers_fit" (defArgs s_law_offers_fit) (defBody s_law_offers_fit) (defScope s_law_offers_fit) .none kV6 dc6 pm6 an6 cd6 ct6), sl6⟩) (c6 : PySem.W.codeIn K cd6 "_law_offers_fit" = true) (k6 : PySem.W.keepIn K (.ref f6) = true)
    (a7 : PySem.W.nsIn K mainGlobals "_law_paid" = some (some (.ref f7))) (l7 : K.lookup f7 = some ⟨oc7, od7, .func (PySem.W.fnOf "_law_paid" "_law_paid" (defArgs s_law_paid) (defBody s_law_paid) (defScope s_law_paid) .none kV7 dc7 pm7 an7 cd7 ct7), sl7⟩) (c7 : PySem.W.codeIn K cd7 "_law_paid" = true) (k7 : PySem.W.keepIn K (.ref f7) = true)
    (a8 : PySem.W.nsIn K mainGlobals "_law_all_gain" = some (some (.ref f8))) (l8 : K.lookup f8 = some ⟨oc8, od8, .func (PySem.W.fnOf "_law_all_gain" "_law_all_gain" (defArgs s_law_all_gain) (defBody s_law_all_gain) (defScope s_law_all_gain) .none kV8 dc8 pm8 an8 cd8 ct8), sl8⟩) (c8 : PySem.W.codeIn K cd8 "_law_all_gain" = true) (k8 : PySem.W.keepIn K (.ref f8) = true)
    (a9 : PySem.W.nsIn K mainGlobals "_law_least" = some (some (.ref f9))) (l9 : K.lookup f9 = some ⟨oc9, od9, .func (PySem.W.fnOf "_law_least" "_law_least" (defArgs s_law_least) (defBody s_law_least) (defScope s_law_least) .none kV9 dc9 pm9 an9 cd9 ct9), sl9⟩) (c9 : PySem.W.codeIn K cd9 "_law_least" = true) (k9 : PySem.W.keepIn K (.ref f9) = true)
    (a10 : PySem.W.nsIn K mainGlobals "_law_heavy_least" = some (some (.ref f10))) (l10 : K.lookup f10 = some ⟨oc10, od10, .func (PySem.W.fnOf "_law_heavy_least" "_law_heavy_least" (defArgs s_law_heavy_least) (defBody s_law_heavy_least) (defScope s_law_heavy_least) .none kV10 dc10 pm10 an10 cd10 ct10), sl10⟩) (c10 : PySem.W.codeIn K cd10 "_law_heavy_least" = true) (k10 : PySem.W.keepIn K (.ref f10) = true)
    (a11 : PySem.W.nsIn K mainGlobals "law" = some (some (.ref f11))) (l11 : K.lookup f11 = some ⟨oc11, od11, .func (PySem.W.fnOf "law" "law" (defArgs s_law) (defBody s_law) (defScope s_law) .none kV11 dc11 pm11 an11 cd11 ct11), sl11⟩) (c11 : PySem.W.codeIn K cd11 "law" = true) (k11 : PySem.W.keepIn K (.ref f11) = true)
    (y_enumerate : PySem.W.nsIn K mainGlobals "enumerate" = some none)
    (y_dict : PySem.W.nsIn K mainGlobals "dict" = some none)
    (y_sorted : PySem.W.nsIn K mainGlobals "sorted" = some none)
    (y_list : PySem.W.nsIn K mainGlobals "list" = some none)
    (y_len : PySem.W.nsIn K mainGlobals "len" = some none)
    (y_isinstance : PySem.W.nsIn K mainGlobals "isinstance" = some none)
    (y_int : PySem.W.nsIn K mainGlobals "int" = some none)
    (y_bool : PySem.W.nsIn K mainGlobals "bool" = some none)
    (y_str : PySem.W.nsIn K mainGlobals "str" = some none)
    (y_tuple : PySem.W.nsIn K mainGlobals "tuple" = some none)
    (y_zip : PySem.W.nsIn K mainGlobals "zip" = some none)
    (y_reversed : PySem.W.nsIn K mainGlobals "reversed" = some none)
    (y_range : PySem.W.nsIn K mainGlobals "range" = some none)
    (y_max : PySem.W.nsIn K mainGlobals "max" = some none)
    (y_min : PySem.W.nsIn K mainGlobals "min" = some none)
    : ∃ fd : FuncData, (∀ (s : Shared) (v : Value), BindsTo s fd ⟨[v], []⟩ [("_law_script", v)]) ∧ ∀ base : Heap, K.In base → base.Ns mainGlobals mg → FnOk l.prog w K mg base (L2.CX l.prog w) 15 fa fd ["_law_script"] (VSp K (fun _ => 0) [true] Lw.m_main_k05) := by
  have e := hfa.symm.trans (PySem.W.mg_of X G a11)
  cases e
  have z_enumerate := PySem.W.mg_none_of X G y_enumerate
  have z_dict := PySem.W.mg_none_of X G y_dict
  have z_sorted := PySem.W.mg_none_of X G y_sorted
  have z_list := PySem.W.mg_none_of X G y_list
  have z_len := PySem.W.mg_none_of X G y_len
  have z_isinstance := PySem.W.mg_none_of X G y_isinstance
  have z_int := PySem.W.mg_none_of X G y_int
  have z_bool := PySem.W.mg_none_of X G y_bool
  have z_str := PySem.W.mg_none_of X G y_str
  have z_tuple := PySem.W.mg_none_of X G y_tuple
  have z_zip := PySem.W.mg_none_of X G y_zip
  have z_reversed := PySem.W.mg_none_of X G y_reversed
  have z_range := PySem.W.mg_none_of X G y_range
  have z_max := PySem.W.mg_none_of X G y_max
  have z_min := PySem.W.mg_none_of X G y_min
  have F0 := fun_mk (st := s_better) l0 c0 k0
  have b0 := F0.binds (ps := ["table", "cost", "gain"]) fun _ _ _ _ _ _ us hl => match us, hl with | [_, _, _], _ => rfl
  have F1 := fun_mk (st := s_cheapest) l1 c1 k1
  have b1 := F1.binds (ps := ["offers", "goal"]) fun _ _ _ _ _ _ us hl => match us, hl with | [_, _], _ => rfl
  have F2 := fun_mk (st := s_law_src) l2 c2 k2
  have b2 := F2.binds (ps := ["_law_script"]) fun _ _ _ _ _ _ us hl => match us, hl with | [_], _ => rfl
  have F3 := fun_mk (st := s_law_next) l3 c3 k3
  have b3 := F3.binds (ps := ["_law_src_here", "_law_base"]) fun _ _ _ _ _ _ us hl => match us, hl with | [_, _], _ => rfl
  have F4 := fun_mk (st := s_law_whole) l4 c4 k4
  have b4 := F4.binds (ps := ["_law_found"]) fun _ _ _ _ _ _ us hl => match us, hl with | [_], _ => rfl
  have F5 := fun_mk (st := s_law_same) l5 c5 k5
  have b5 := F5.binds (ps := ["_law_found", "_law_due"]) fun _ _ _ _ _ _ us hl => match us, hl with | [_, _], _ => rfl
  have F6 := fun_mk (st := s_law_offers_fit) l6 c6 k6
  have b6 := F6.binds (ps := ["_law_found", "_law_offers", "_law_goal"]) fun _ _ _ _ _ _ us hl => match us, hl with | [_, _, _], _ => rfl
  have F7 := fun_mk (st := s_law_paid) l7 c7 k7
  have b7 := F7.binds (ps := ["_law_found", "_law_offers"]) fun _ _ _ _ _ _ us hl => match us, hl with | [_, _], _ => rfl
  have F8 := fun_mk (st := s_law_all_gain) l8 c8 k8
  have b8 := F8.binds (ps := ["_law_offers"]) fun _ _ _ _ _ _ us hl => match us, hl with | [_], _ => rfl
  have F9 := fun_mk (st := s_law_least) l9 c9 k9
  have b9 := F9.binds (ps := ["_law_offers", "_law_goal"]) fun _ _ _ _ _ _ us hl => match us, hl with | [_, _], _ => rfl
  have F10 := fun_mk (st := s_law_heavy_least) l10 c10 k10
  have b10 := F10.binds (ps := ["_law_offers", "_law_goal"]) fun _ _ _ _ _ _ us hl => match us, hl with | [_, _], _ => rfl
  have F11 := fun_mk (st := s_law) l11 c11 k11
  refine ⟨PySem.W.fnOf "law" "law" (defArgs s_law) (defBody s_law) (defScope s_law) .none kV11 dc11 pm11 an11 cd11 ct11, fun s v => .of_eq rfl, fun base _ _ => ?_⟩
  have D_better := dx_of (ok_better (P := l.prog) (w := w) (base := base) (ca := fun _ => 0) F0 ) (PySem.W.mg_of X G a0) k0 b0
  have D_cheapest := dx_of (ok_cheapest (P := l.prog) (w := w) (base := base) (ca := fun _ => 0) F1 D_better z_enumerate z_dict z_sorted) (PySem.W.mg_of X G a1) k1 b1
  have D_law_src := dx_of (ok_law_src (P := l.prog) (w := w) (base := base) (ca := fun _ => 0) F2 z_list) (PySem.W.mg_of X G a2) k2 b2
  have D_law_next := dx_of (ok_law_next (P := l.prog) (w := w) (base := base) (ca := fun _ => 0) F3 z_len) (PySem.W.mg_of X G a3) k3 b3
  have D_law_whole := dx_of (ok_law_whole (P := l.prog) (w := w) (base := base) (ca := fun _ => 0) F4 z_isinstance z_int z_bool) (PySem.W.mg_of X G a4) k4 b4
  have D_law_same := ok_law_same (P := l.prog) (w := w) (base := base) (ca := fun _ => 0) F5 D_law_whole z_isinstance z_bool z_int z_str z_list z_tuple z_len z_zip (PySem.W.mg_of X G a5) k5 b5 12
  have D_law_offers_fit := dx_of (ok_law_offers_fit (P := l.prog) (w := w) (base := base) (ca := fun _ => 0) F6 D_law_whole z_isinstance z_list z_len) (PySem.W.mg_of X G a6) k6 b6
  have D_law_paid := dx_of (ok_law_paid (P := l.prog) (w := w) (base := base) (ca := fun _ => 0) F7 ) (PySem.W.mg_of X G a7) k7 b7
  have D_law_all_gain := dx_of (ok_law_all_gain (P := l.prog) (w := w) (base := base) (ca := fun _ => 0) F8 ) (PySem.W.mg_of X G a8) k8 b8
  have D_law_least := dx_of (ok_law_least (P := l.prog) (w := w) (base := base) (ca := fun _ => 0) F9 z_reversed z_range z_max) (PySem.W.mg_of X G a9) k9 b9
  have D_law_heavy_least := dx_of (ok_law_heavy_least (P := l.prog) (w := w) (base := base) (ca := fun _ => 0) F10 z_dict z_min) (PySem.W.mg_of X G a10) k10 b10
  exact ok_law F11 D_law_src D_law_next D_law_all_gain D_cheapest D_law_same D_law_offers_fit D_law_heavy_least D_law_paid D_law_least z_range z_list z_max
end Tx
open PySem PySem.W PyProof.Rows
set_option maxHeartbeats 0 in
theorem PySem.Challenge.cw_forsworn_k05_cheapest_of_many_holds : PySem.Challenge.rw_forsworn_k05_cheapest_of_many.Holds := by
  w_on; o_law; k_head; (case hw => w_witness2)
  k_fill
  refine L2.walk_of (l := PySem.Challenge.rw_forsworn_k05_cheapest_of_many) (n := 63) (k := 15) (x := "_law_script") (CX := fun w => L2.CX PySem.Challenge.rw_forsworn_k05_cheapest_of_many.prog w) (sp := fun w => VS.VSp _ (fun _ => 0) [true] Lw.m_main_k05) rfl (by decide) rfl ⟨rfl, by decide, by decide⟩ (fun w h Y => PySem.W.kIn_of Y) ?F (fun _ _ a ns hl _ hS => (Lw.true_k05 ns hl).elim fun L h => VS.law_sp hS h) (fun _ H s e s' h => VS.cx_false H s e s' h)
  case F =>
    intro w mg fa h KX G hmg
    refine' Tx.all_mk KX G hmg ?a0 ?l0 ?c0 ?k0 ?a1 ?l1 ?c1 ?k1 ?a2 ?l2 ?c2 ?k2 ?a3 ?l3 ?c3 ?k3 ?a4 ?l4 ?c4 ?k4 ?a5 ?l5 ?c5 ?k5 ?a6 ?l6 ?c6 ?k6 ?a7 ?l7 ?c7 ?k7 ?a8 ?l8 ?c8 ?k8 ?a9 ?l9 ?c9 ?k9 ?a10 ?l10 ?c10 ?k10 ?a11 ?l11 ?c11 ?k11 ?y_enumerate ?y_dict ?y_sorted ?y_list ?y_len ?y_isinstance ?y_int ?y_bool ?y_str ?y_tuple ?y_zip ?y_reversed ?y_range ?y_max ?y_min
    (case a0 => k_is); (case l0 => k_is); (case c0 => k_is); (case k0 => k_is); (case a1 => k_is); (case l1 => k_is)
    (case c1 => k_is); (case k1 => k_is); (case a2 => k_is); (case l2 => k_is); (case c2 => k_is); (case k2 => k_is)
    (case a3 => k_is); (case l3 => k_is); (case c3 => k_is); (case k3 => k_is); (case a4 => k_is); (case l4 => k_is)
    (case c4 => k_is); (case k4 => k_is); (case a5 => k_is); (case l5 => k_is); (case c5 => k_is); (case k5 => k_is)
    (case a6 => k_is); (case l6 => k_is); (case c6 => k_is); (case k6 => k_is); (case a7 => k_is); (case l7 => k_is)
    (case c7 => k_is); (case k7 => k_is); (case a8 => k_is); (case l8 => k_is); (case c8 => k_is); (case k8 => k_is)
    (case a9 => k_is); (case l9 => k_is); (case c9 => k_is); (case k9 => k_is); (case a10 => k_is); (case l10 => k_is)
    (case c10 => k_is); (case k10 => k_is); (case a11 => k_is); (case l11 => k_is); (case c11 => k_is); (case k11 => k_is)
    (case y_enumerate => k_is); (case y_dict => k_is); (case y_sorted => k_is); (case y_list => k_is); (case y_len => k_is); (case y_isinstance => k_is)
    (case y_int => k_is); (case y_bool => k_is); (case y_str => k_is); (case y_tuple => k_is); (case y_zip => k_is); (case y_reversed => k_is)
    (case y_range => k_is); (case y_max => k_is); (case y_min => k_is)


